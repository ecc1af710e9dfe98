import PyProof.Rows.All
import Wide.All
import OpenK.AllK
import Wide.FinOn
import HandS.ForMost
import HandS.ForExc
import HandS.Lambda
import HandS.EndTab
import HandS.Wide
import HandS.IsInst
import HandS.TupAny
import HandS.TupMul
import HandS.Style
import HandS.SortKw
import HandS.SortRule
import KE.KMinKey
import KE.KTupSum
import HandS.Zip
import KE.GoesEnum
import HandS.Nested
import HandS.HeadHook4
import HandS.HeadWalk
import HandS.HeadEnd
import HandS.SortInts
import KE.KStateDown
import HandS.Head0
import HandS.Head1
import HandS.Head2
import PySem.Challenge.RW_layerwebs_k56_whole_most_brought_of_sixt
set_option Elab.async false
set_option linter.all false
set_option maxRecDepth 100000
set_option maxHeartbeats 4000000
/-! DL1: values as plain data, and what a def promises of plain data. -/
namespace DL
open PySem PySem.Spec PyProof.Rows L2

/-- plain data; `bowl` is the one mutable thing of three ints that the drawing functions share -/
inductive D where
  | non | bl (b : Bool) | int (i : Int) | str (x : Str) | tup (ds : List D) | lst (ds : List D) | ref (a : Addr) | ty (n : String) | bowl | scr (ns : List Int)

/-- frozen lists, bowls, tables of code objects -/
structure Om where
  F : Addr → Prop
  Bo : Addr → Prop
  T : List (Addr × Str)

def BowlAt (H : Hp) (b : Addr) : Prop := ∃ i j k : Int, H b = some (.lst [.int i, .int j, .int k])
def NT (o : Option HO) : Prop := o = none ∨ ∃ ps, o = some (.tbl ps)

structure Ok (Om : Om) (H : Hp) : Prop where
  tabs : LamX.Tabs Om.T H
  bow : ∀ b, Om.Bo b → BowlAt H b
  fb : ∀ a, Om.F a → ¬ Om.Bo a
  ft : ∀ a, Om.F a → ¬ NT (H a)

/-- a frozen list -/
def ListAt (O : Om) (H : Hp) (a : Addr) (vs : List V) : Prop := O.F a ∧ H a = some (.lst vs)
/-- the script: a list of ints that nobody writes -/
def ScrAt (K : PySem.W.Frag) (O : Om) (H : Hp) (a : Addr) (vs : List V) : Prop :=
  ListAt O H a vs ∨ (∃ o, H a = some (.frz o (.lst vs))) ∨
    ∃ (o : Obj) (its : Array Value) (n : Nat), K.lookup a = some o ∧ o.cls = .type "list" ∧ o.dict = none ∧ o.data = .seq its n ∧ its.size ≤ sizeLine ∧ Vals vs its.toList
theorem ScrAt.sq {K : PySem.W.Frag} {O : Om} {H : Hp} {a : Addr} {vs : List V} (h : ScrAt K O H a vs) : SqL K H a vs := by
  rcases h with h | ⟨o, h⟩ | h
  · exact SqL.of h.2
  · exact .inl (.inr ⟨o, h⟩)
  · exact .inr h

mutual
/-- the value v stands for the data d -/
inductive Rep (K : PySem.W.Frag) (O : Om) (H : Hp) : V → D → Prop
  | non : Rep K O H .non .non
  | bl (b : Bool) : Rep K O H (.bl b) (.bl b)
  | int (i : Int) : Rep K O H (.int i) (.int i)
  | str (x : Str) : Rep K O H (.str x) (.str x)
  | ty (n : String) : Rep K O H (.ty n) (.ty n)
  | ref (a : Addr) : Rep K O H (.ref a) (.ref a)
  | bowl {a : Addr} : O.Bo a → Rep K O H (.ref a) .bowl
  | tup {a : Addr} {vs : List V} {ds : List D} : SqT K H a vs → RepA K O H vs ds → Rep K O H (.ref a) (.tup ds)
  | scr {a : Addr} {ns : List Int} : ScrAt K O H a (ns.map V.int) → Rep K O H (.ref a) (.scr ns)
  | lst {a : Addr} {vs : List V} {ds : List D} : ListAt O H a vs → RepA K O H vs ds → Rep K O H (.ref a) (.lst ds)
inductive RepA (K : PySem.W.Frag) (O : Om) (H : Hp) : List V → List D → Prop
  | nil : RepA K O H [] []
  | cons {v : V} {vs : List V} {d : D} {ds : List D} : Rep K O H v d → RepA K O H vs ds → RepA K O H (v :: vs) (d :: ds)
end

/-- what a step of the code may do, seen from ahead of it -/
structure Ext (O O' : Om) (H H' : Hp) : Prop where
  bo : O'.Bo = O.Bo
  tt : O'.T = O.T
  same : ∀ a o, ¬ O.Bo a → (∀ ps, o ≠ .tbl ps) → H a = some o → H' a = some o
  up : ∀ a, O.F a → O'.F a
  new : ∀ a, O'.F a → O.F a ∨ NT (H a)
  ok : Ok O' H'
/-- what stays readable -/
structure Keep (O O' : Om) (H H' : Hp) : Prop where
  bo : ∀ a, O.Bo a → O'.Bo a
  up : ∀ a, O.F a → O'.F a
  lst : ∀ a vs, O.F a → H a = some (.lst vs) → H' a = some (.lst vs)
  tup : ∀ a vs, H a = some (.tup vs) → H' a = some (.tup vs)
  frz : ∀ a o u, H a = some (.frz o u) → H' a = some (.frz o u)
  ext : ∀ a f, H a = some (.ext f) → H' a = some (.ext f)

section
variable {K : PySem.W.Frag} {O O1 O2 O' : Om} {H H1 H2 H' : Hp}

theorem Keep.refl : Keep O O H H := ⟨fun _ h => h, fun _ h => h, fun _ _ _ h => h, fun _ _ h => h, fun _ _ _ h => h, fun _ _ h => h⟩
theorem Keep.trans (a : Keep O O1 H H1) (b : Keep O1 O2 H1 H2) : Keep O O2 H H2 :=
  ⟨fun x h => b.bo x (a.bo x h), fun x h => b.up x (a.up x h), fun x vs f h => b.lst x vs (a.up x f) (a.lst x vs f h), fun x vs h => b.tup x vs (a.tup x vs h), fun x o u h => b.frz x o u (a.frz x o u h), fun x f h => b.ext x f (a.ext x f h)⟩

theorem Keep.listAt (k : Keep O O' H H') {a : Addr} {vs : List V} (h : ListAt O H a vs) : ListAt O' H' a vs := ⟨k.up a h.1, k.lst a vs h.1 h.2⟩
theorem Keep.scrAt (k : Keep O O' H H') {a : Addr} {vs : List V} (h : ScrAt K O H a vs) : ScrAt K O' H' a vs := by
  rcases h with h | ⟨o, h⟩ | h
  · exact .inl (k.listAt h)
  · exact .inr (.inl ⟨o, k.frz a o _ h⟩)
  · exact .inr (.inr h)
theorem Keep.sqT (k : Keep O O' H H') {a : Addr} {vs : List V} (h : SqT K H a vs) : SqT K H' a vs := by
  rcases h with (h | ⟨o, h⟩) | h
  · exact .inl (.inl (k.tup a vs h))
  · exact .inl (.inr ⟨o, k.frz a o _ h⟩)
  · exact .inr h
mutual
theorem Keep.rep (k : Keep O O' H H') : ∀ (d : D) (v : V), Rep K O H v d → Rep K O' H' v d
  | .non, _, h => by cases h; exact .non
  | .bl b, _, h => by cases h; exact .bl b
  | .int i, _, h => by cases h; exact .int i
  | .str x, _, h => by cases h; exact .str x
  | .ty n, _, h => by cases h; exact .ty n
  | .ref a, _, h => by cases h; exact .ref a
  | .bowl, _, h => by cases h with | bowl hb => exact .bowl (k.bo _ hb)
  | .scr ns, _, h => by cases h with | scr hs => exact .scr (k.scrAt hs)
  | .tup ds, _, h => by cases h with | tup hs ha => exact .tup (k.sqT hs) (Keep.repA k ds _ ha)
  | .lst ds, _, h => by cases h with | lst hs ha => exact .lst (k.listAt hs) (Keep.repA k ds _ ha)
theorem Keep.repA (k : Keep O O' H H') : ∀ (ds : List D) (vs : List V), RepA K O H vs ds → RepA K O' H' vs ds
  | [], _, h => by cases h; exact .nil
  | d :: ds, _, h => by cases h with | cons h1 h2 => exact .cons (Keep.rep k d _ h1) (Keep.repA k ds _ h2)
end

theorem nt_not {o : HO} (h : ∀ ps, o ≠ .tbl ps) : ¬ NT (some o) := fun z => by
  rcases z with z | ⟨ps, z⟩
  · cases z
  · exact h ps (Option.some.inj z)
theorem BowlAt.nnt {b : Addr} (h : BowlAt H b) : ¬ NT (H b) := by
  obtain ⟨i, j, k, e⟩ := h
  rw [e]
  exact nt_not fun ps z => by cases z
theorem nnt_some {o : Option HO} (h : ¬ NT o) : ∃ u, o = some u ∧ ∀ ps, u ≠ .tbl ps := by
  cases o with
  | none => exact absurd (.inl rfl) h
  | some u => exact ⟨u, rfl, fun ps e => h (.inr ⟨ps, by rw [e]⟩)⟩

theorem Ext.nt (x : Ext O O' H H') (okH : Ok O H) {a : Addr} (h : NT (H' a)) : NT (H a) := by
  cases e : H a with
  | none => exact .inl rfl
  | some u =>
    by_cases ht : ∃ ps, u = .tbl ps
    · obtain ⟨ps, rfl⟩ := ht
      exact .inr ⟨ps, rfl⟩
    · exfalso
      have ht' : ∀ ps, u ≠ .tbl ps := fun ps z => ht ⟨ps, z⟩
      by_cases hb : O.Bo a
      · exact (x.ok.bow a (by rw [x.bo]; exact hb)).nnt h
      · rw [x.same a u hb ht' e] at h
        exact nt_not ht' h
theorem Ext.refl (h : Ok O H) : Ext O O H H := ⟨rfl, rfl, fun _ _ _ _ e => e, fun _ e => e, fun _ e => .inl e, h⟩
theorem Ext.trans (okH : Ok O H) (a : Ext O O1 H H1) (b : Ext O1 O2 H1 H2) : Ext O O2 H H2 where
  bo := by rw [b.bo, a.bo]
  tt := by rw [b.tt, a.tt]
  same := fun x o hb ht e => b.same x o (by rw [a.bo]; exact hb) ht (a.same x o hb ht e)
  up := fun x f => b.up x (a.up x f)
  new := fun x f => by
    rcases b.new x f with h | h
    · exact a.new x h
    · exact .inr (a.nt okH h)
  ok := b.ok
theorem Ext.keep (okH : Ok O H) (x : Ext O O' H H') : Keep O O' H H' where
  bo := fun a h => by rw [x.bo]; exact h
  up := x.up
  lst := fun a vs f e => x.same a _ (okH.fb a f) (fun ps z => by cases z) e
  tup := fun a vs e => x.same a _ (fun z => by obtain ⟨i, j, k, q⟩ := okH.bow a z; rw [q] at e; cases e) (fun ps z => by cases z) e
  frz := fun a o u e => x.same a _ (fun z => by obtain ⟨i, j, k, q⟩ := okH.bow a z; rw [q] at e; cases e) (fun ps z => by cases z) e
  ext := fun a f e => x.same a _ (fun z => by obtain ⟨i, j, k, q⟩ := okH.bow a z; rw [q] at e; cases e) (fun ps z => by cases z) e
end

/-! ### the slots -/
inductive Slot where
  | val (d : D)
  | own (ds : List D)
  | own2 (dss : List (List D))
abbrev Env := List (Option Slot)

/-- an exception: its class, its attributes -/
structure Ex where
  C : Addr
  fs : List (Str × D)
inductive RepF (K : PySem.W.Frag) (O : Om) (H : Hp) : List (Str × V) → List (Str × D) → Prop
  | nil : RepF K O H [] []
  | cons {f : Str} {v : V} {d : D} {vs : List (Str × V)} {ds : List (Str × D)} : Rep K O H v d → RepF K O H vs ds → RepF K O H ((f, v) :: vs) ((f, d) :: ds)
def RepX (K : PySem.W.Frag) (O : Om) (H : Hp) (cls : Value) (dx : Option Addr) (x : Ex) : Prop :=
  cls = .ref x.C ∧ ((dx = none ∧ x.fs = []) ∨ ∃ a vs, dx = some a ∧ H a = some (.xd vs) ∧ RepF K O H vs x.fs)

/-- a def's run: its entry -/
structure Fx where
  K : PySem.W.Frag
  H0 : Hp
  O0 : Om
  ep : Ex → Prop
/-- what is wanted of an exception that leaves -/
def Fx.ex (G : Fx) : XK := fun cls dx H => ∃ O x, Ext G.O0 O G.H0 H ∧ RepX G.K O H cls dx x ∧ G.ep x
abbrev Fx.nox (G : Fx) : Fx := { G with ep := fun _ => False }

/-- the inner lists of a list of lists of the def's own -/
inductive Inn (K : PySem.W.Frag) (O : Om) (H : Hp) : List Addr → List (List D) → Prop
  | nil : Inn K O H [] []
  | cons {b : Addr} {vs : List V} {ds : List D} {as : List Addr} {dss : List (List D)} : H b = some (.lst vs) → RepA K O H vs ds → Inn K O H as dss → Inn K O H (b :: as) (ds :: dss)
structure EnvR (G : Fx) (O : Om) (H : Hp) (σ : L2.St) (ρ : Env) : Prop where
  ok0 : Ok G.O0 G.H0
  ext : Ext G.O0 O G.H0 H
  len : ρ.length = σ.length
  val : ∀ (i : Nat) (d : D), ρ[i]? = some (some (.val d)) → ∃ v, σ[i]? = some (some v) ∧ Rep G.K O H v d
  own : ∀ (i : Nat) (ds : List D), ρ[i]? = some (some (.own ds)) → ∃ a vs, σ[i]? = some (some (.ref a)) ∧ H a = some (.lst vs) ∧ RepA G.K O H vs ds ∧ ¬ O.F a ∧ ¬ O.Bo a ∧ NT (G.H0 a)
  apart : ∀ (i j : Nat) (di dj : List D) (a : Addr), ρ[i]? = some (some (.own di)) → ρ[j]? = some (some (.own dj)) → σ[i]? = some (some (.ref a)) → σ[j]? = some (some (.ref a)) → i = j
  own2 : ∀ (i : Nat) (dss : List (List D)), ρ[i]? = some (some (.own2 dss)) → ∃ a as, σ[i]? = some (some (.ref a)) ∧ H a = some (.lst (as.map V.ref)) ∧ (a :: as).Nodup ∧ (∀ b ∈ a :: as, ¬ O.F b ∧ ¬ O.Bo b ∧ NT (G.H0 b)) ∧ Inn G.K O H as dss
  apart2 : ∀ (i j : Nat) (dss : List (List D)) (dj : List D) (a b : Addr) (as : List Addr), ρ[i]? = some (some (.own2 dss)) → ρ[j]? = some (some (.own dj)) → σ[i]? = some (some (.ref a)) → H a = some (.lst (as.map V.ref)) → σ[j]? = some (some (.ref b)) → b ∉ a :: as
  uniq2 : ∀ (i j : Nat) (di dj : List (List D)), ρ[i]? = some (some (.own2 di)) → ρ[j]? = some (some (.own2 dj)) → i = j

theorem refs_inj : ∀ {as bs : List Addr}, as.map V.ref = bs.map V.ref → as = bs
  | [], [], _ => rfl
  | [], _ :: _, h => by cases h
  | _ :: _, [], h => by cases h
  | a :: as, b :: bs, h => by
    rw [List.map_cons, List.map_cons, List.cons.injEq] at h
    rw [V.ref.inj h.1, refs_inj h.2]
theorem lst_inj {H : Hp} {a : Addr} {as bs : List Addr} (h1 : H a = some (.lst (as.map V.ref))) (h2 : H a = some (.lst (bs.map V.ref))) : as = bs := by
  rw [h1] at h2
  injection h2 with h2
  injection h2 with h2
  exact refs_inj h2
section
variable {K : PySem.W.Frag} {O O' : Om} {H H' : Hp}
theorem Inn.lists : ∀ {as : List Addr} {dss : List (List D)}, Inn K O H as dss → ∀ b ∈ as, ∃ vs, H b = some (.lst vs)
  | _, _, .nil, b, h => nomatch h
  | _, _, .cons h1 h2 h3, b, h => by
    rcases List.mem_cons.mp h with rfl | h
    · exact ⟨_, h1⟩
    · exact h3.lists b h
/-- the inner lists stand, what they hold stays readable -/
theorem Inn.same (k : Keep O O' H H') : ∀ {as : List Addr} {dss : List (List D)}, Inn K O H as dss → (∀ b ∈ as, ∀ vs, H b = some (.lst vs) → H' b = some (.lst vs)) → Inn K O' H' as dss
  | _, _, .nil, _ => .nil
  | _, _, .cons h1 h2 h3, h => .cons (h _ List.mem_cons_self _ h1) (k.repA _ _ h2) (h3.same k fun b hb => h b (List.mem_cons_of_mem _ hb))
end
section
variable {G : Fx} {O O1 O2 O' : Om} {H H1 H2 H' : Hp} {σ : L2.St} {ρ : Env}
theorem EnvR.ok (R : EnvR G O H σ ρ) : Ok O H := R.ext.ok
theorem EnvR.step (R : EnvR G O H σ ρ) (x : Ext O O' H H') : EnvR G O' H' σ ρ where
  ok0 := R.ok0
  ext := R.ext.trans R.ok0 x
  len := R.len
  val := fun i d e => by
    obtain ⟨v, h1, h2⟩ := R.val i d e
    exact ⟨v, h1, (x.keep R.ok).rep _ _ h2⟩
  own := fun i ds e => by
    obtain ⟨a, vs, h1, h2, h3, h4, h5, h6⟩ := R.own i ds e
    refine ⟨a, vs, h1, x.same a _ h5 (fun ps z => by cases z) h2, (x.keep R.ok).repA _ _ h3, fun f => ?_, by rw [x.bo]; exact h5, h6⟩
    rcases x.new a f with q | q
    · exact h4 q
    · rw [h2] at q
      exact nt_not (fun ps z => by cases z) q
  apart := R.apart
  own2 := fun i dss e => by
    obtain ⟨a, as, h1, h2, h3, h4, h5⟩ := R.own2 i dss e
    refine ⟨a, as, h1, x.same a _ (h4 a List.mem_cons_self).2.1 (fun ps z => by cases z) h2, h3, fun b hb => ?_, h5.same (x.keep R.ok) fun b hb vs e => x.same b _ (h4 b (List.mem_cons_of_mem _ hb)).2.1 (fun ps z => by cases z) e⟩
    obtain ⟨g1, g2, g3⟩ := h4 b hb
    refine ⟨fun f => ?_, by rw [x.bo]; exact g2, g3⟩
    rcases x.new b f with q | q
    · exact g1 q
    · obtain ⟨vs, e⟩ : ∃ vs, H b = some (.lst vs) := by
        rcases List.mem_cons.mp hb with rfl | hb
        · exact ⟨_, h2⟩
        · exact h5.lists b hb
      rw [e] at q
      exact nt_not (fun ps z => by cases z) q
  apart2 := fun i j dss dj a b as e1 e2 s1 hh s2 => by
    obtain ⟨a0, as0, h1, h2, h3, h4, h5⟩ := R.own2 i dss e1
    rw [h1] at s1
    cases s1
    have := x.same _ _ (h4 _ List.mem_cons_self).2.1 (fun ps z => by cases z) h2
    rw [lst_inj hh this]
    exact R.apart2 i j dss dj _ b as0 e1 e2 h1 h2 s2
  uniq2 := R.uniq2
end

/-! ### transformers -/
abbrev WE := Env → (D → Prop) → Prop
abbrev WT := Env → (Bool → Prop) → Prop
abbrev WA := Env → (List D → Prop) → Prop
structure WEnds where
  nx : Env → Prop
  rt : D → Prop
  bk : Env → Prop := fun _ => False
  ct : Env → Prop := fun _ => False
abbrev WS := WEnds → Env → Prop

def tD (G : Fx) (W : WE) : TE := fun σ H Q => ∃ O ρ q, EnvR G O H σ ρ ∧ W ρ q ∧ ∀ O' H' v d, Ext O O' H H' → Rep G.K O' H' v d → q d → Q v H'
def tDT (G : Fx) (W : WT) : TT := fun σ H Q => ∃ O ρ q, EnvR G O H σ ρ ∧ W ρ q ∧ ∀ O' H' b, Ext O O' H H' → q b → Q b H'
def tDA (G : Fx) (n : Nat) (W : WA) : TA := fun σ H Q => ∃ O ρ q, EnvR G O H σ ρ ∧ W ρ q ∧ ∀ O' H' vs ds, Ext O O' H H' → RepA G.K O' H' vs ds → ds.length = n → q ds → Q vs H'
def tDS (G : Fx) (W : WS) : TS := fun E σ H => ∃ O ρ k, EnvR G O H σ ρ ∧ W k ρ ∧
  (∀ O' σ' ρ' H', EnvR G O' H' σ' ρ' → Keep O O' H H' → k.nx ρ' → E.nx σ' H') ∧
  (∀ O' H' v d, Ext G.O0 O' G.H0 H' → Rep G.K O' H' v d → k.rt d → E.rt v H') ∧
  (∀ O' σ' ρ' H', EnvR G O' H' σ' ρ' → Keep O O' H H' → k.bk ρ' → E.bk σ' H') ∧
  (∀ O' σ' ρ' H', EnvR G O' H' σ' ρ' → Keep O O' H H' → k.ct ρ' → E.ct σ' H')

abbrev DE (G : Fx) (X : Cx) (e : Expr) (W : WE) : Prop := PE X e (tD G W)
abbrev DT (G : Fx) (X : Cx) (e : Expr) (W : WT) : Prop := PT X e (tDT G W)
abbrev DW (G : Fx) (X : Cx) (e : Expr) (W : WT) : Prop := PW X e (tDT G W)
abbrev DA (G : Fx) (X : Cx) (es : List Expr) (W : WA) : Prop := PA X es (tDA G es.length W)
abbrev DS (G : Fx) (X : Cx) (st : Stmt) (W : WS) : Prop := PS X st (tDS G W)
abbrev DSs (G : Fx) (X : Cx) (sts : List Stmt) (W : WS) : Prop := PSs X sts (tDS G W)

theorem PE_mono {X : Cx} {e : Expr} {t t' : TE} (h : PE X e t) (k : ∀ σ H Q, t' σ H Q → t σ H Q) : PE X e t' := ⟨fun pins s σ H Q I w => h.run pins s σ H Q I (k σ H Q w)⟩
theorem PT_mono {X : Cx} {e : Expr} {t t' : TT} (h : PT X e t) (k : ∀ σ H Q, t' σ H Q → t σ H Q) : PT X e t' := ⟨fun pins s σ H Q I w => h.run pins s σ H Q I (k σ H Q w)⟩
theorem PW_mono {X : Cx} {e : Expr} {t t' : TT} (h : PW X e t) (k : ∀ σ H Q, t' σ H Q → t σ H Q) : PW X e t' := ⟨fun wh pins s σ H Q I w => h.run wh pins s σ H Q I (k σ H Q w)⟩
theorem PA_mono {X : Cx} {es : List Expr} {t t' : TA} (h : PA X es t) (k : ∀ σ H Q, t' σ H Q → t σ H Q) : PA X es t' := ⟨fun pos pins s σ H Q I w => h.run pos pins s σ H Q I (k σ H Q w)⟩
theorem PS_mono {X : Cx} {st : Stmt} {t t' : TS} (h : PS X st t) (k : ∀ D σ H, t' D σ H → t D σ H) : PS X st t' := ⟨fun pins s σ H D I w => h.run pins s σ H D I (k D σ H w)⟩
theorem PSs_mono {X : Cx} {st : List Stmt} {t t' : TS} (h : PSs X st t) (k : ∀ D σ H, t' D σ H → t D σ H) : PSs X st t' := ⟨fun pins s σ H D I w => h.run pins s σ H D I (k D σ H w)⟩

section
variable {G : Fx} {X : Cx} {O : Om} {H : Hp} {σ : L2.St} {ρ : Env}
/-- one expression, its end -/
theorem tD1 {W : WE} {q : D → Prop} {Q : VK} (R : EnvR G O H σ ρ) (w : W ρ q) (k : ∀ O' H' v d, EnvR G O' H' σ ρ → Ext O O' H H' → Rep G.K O' H' v d → q d → Q v H') : tD G W σ H Q :=
  ⟨O, ρ, q, R, w, fun O' H' v d x r h => k O' H' v d (R.step x) x r h⟩
theorem tDT1 {W : WT} {q : Bool → Prop} {Q : Bool → Hp → Prop} (R : EnvR G O H σ ρ) (w : W ρ q) (k : ∀ O' H' b, EnvR G O' H' σ ρ → Ext O O' H H' → q b → Q b H') : tDT G W σ H Q :=
  ⟨O, ρ, q, R, w, fun O' H' b x h => k O' H' b (R.step x) x h⟩
theorem tDA1 {W : WA} {q : List D → Prop} {Q : List V → Hp → Prop} (R : EnvR G O H σ ρ) (w : W ρ q) (k : ∀ O' H' vs ds, EnvR G O' H' σ ρ → Ext O O' H H' → RepA G.K O' H' vs ds → q ds → Q vs H') {n : Nat} : tDA G n W σ H Q :=
  ⟨O, ρ, q, R, w, fun O' H' vs ds x r _ h => k O' H' vs ds (R.step x) x r h⟩
theorem tDA2 {n : Nat} {W : WA} {q : List D → Prop} {Q : List V → Hp → Prop} (R : EnvR G O H σ ρ) (w : W ρ q) (k : ∀ O' H' vs ds, EnvR G O' H' σ ρ → Ext O O' H H' → RepA G.K O' H' vs ds → ds.length = n → q ds → Q vs H') : tDA G n W σ H Q :=
  ⟨O, ρ, q, R, w, fun O' H' vs ds x r hl h => k O' H' vs ds (R.step x) x r hl h⟩
/-- two in a row -/
theorem tD2 {Wa Wb : WE} {q : D → D → Prop} {Q : V → V → Hp → Prop} (R : EnvR G O H σ ρ) (w : Wa ρ fun d => Wb ρ fun e => q d e)
    (k : ∀ O' H' v u d e, EnvR G O' H' σ ρ → Ext O O' H H' → Rep G.K O' H' v d → Rep G.K O' H' u e → q d e → Q v u H') : tD G Wa σ H fun x H1 => tD G Wb σ H1 fun y H2 => Q x y H2 :=
  tD1 R w fun O1 H1 v d R1 x1 r1 w1 => tD1 R1 w1 fun O2 H2 u e R2 x2 r2 w2 => k O2 H2 v u d e R2 (x1.trans R.ok x2) ((x2.keep R1.ok).rep _ _ r1) r2 w2
theorem Ext.here (R : EnvR G O H σ ρ) : Ext O O H H := Ext.refl R.ok
/-- laying a new object that is no list to be written -/
theorem EnvR.lay (R : EnvR G O H σ ρ) {p : Addr} {o : HO} (hp : H p = none) : Ext O O H (upd H p o) where
  bo := rfl
  tt := rfl
  same := fun a u _ _ e => by rw [upd_ne (ne_of_none e hp)]; exact e
  up := fun _ f => f
  new := fun _ f => .inl f
  ok := {
    tabs := R.ok.tabs.ext fun b u e => by rw [upd_ne (ne_of_none e hp)]; exact e
    bow := fun b hb => by
      obtain ⟨i, j, k, e⟩ := R.ok.bow b hb
      exact ⟨i, j, k, by rw [upd_ne (ne_of_none e hp)]; exact e⟩
    fb := R.ok.fb
    ft := fun a f => by
      obtain ⟨u, e, h⟩ := nnt_some (R.ok.ft a f)
      rw [upd_ne (ne_of_none e hp), e]
      exact nt_not h }
/-- .. a list, frozen at once -/
def Om.add (O : Om) (p : Addr) : Om := { O with F := fun a => O.F a ∨ a = p }
theorem EnvR.layF (R : EnvR G O H σ ρ) {p : Addr} {vs : List V} (hp : H p = none) : Ext O (O.add p) H (upd H p (.lst vs)) where
  bo := rfl
  tt := rfl
  same := fun a u _ _ e => by rw [upd_ne (ne_of_none e hp)]; exact e
  up := fun _ f => .inl f
  new := fun a f => by
    rcases f with f | rfl
    · exact .inl f
    · exact .inr (.inl hp)
  ok := {
    tabs := R.ok.tabs.ext fun b u e => by rw [upd_ne (ne_of_none e hp)]; exact e
    bow := fun b hb => by
      obtain ⟨i, j, k, e⟩ := R.ok.bow b hb
      exact ⟨i, j, k, by rw [upd_ne (ne_of_none e hp)]; exact e⟩
    fb := fun a f z => by
      rcases f with f | rfl
      · exact R.ok.fb a f z
      · obtain ⟨i, j, k, e⟩ := R.ok.bow a z
        rw [hp] at e
        cases e
    ft := fun a f => by
      rcases f with f | rfl
      · obtain ⟨u, e, h⟩ := nnt_some (R.ok.ft a f)
        rw [upd_ne (ne_of_none e hp), e]
        exact nt_not h
      · rw [upd_same]
        exact nt_not fun ps z => by cases z }
end
end DL
set_option Elab.async false
set_option linter.all false
set_option maxRecDepth 100000
set_option maxHeartbeats 4000000
/-! DL2: expressions. -/
namespace DL
open PySem PySem.Spec PyProof.Rows L2

/-- read for the moment: frozen data, or a list of this def's own -/
def Rep1 (K : PySem.W.Frag) (O : Om) (H : Hp) (v : V) (d : D) : Prop :=
  Rep K O H v d ∨ ∃ a vs ds, v = .ref a ∧ d = .lst ds ∧ H a = some (.lst vs) ∧ ¬ O.Bo a ∧ RepA K O H vs ds
inductive Rep1A (K : PySem.W.Frag) (O : Om) (H : Hp) : List V → List D → Prop
  | nil : Rep1A K O H [] []
  | cons {v : V} {vs : List V} {d : D} {ds : List D} : Rep1 K O H v d → Rep1A K O H vs ds → Rep1A K O H (v :: vs) (d :: ds)

section
variable {K : PySem.W.Frag} {O O' : Om} {H H' : Hp}
theorem Rep1.step {v : V} {d : D} (okH : Ok O H) (x : Ext O O' H H') (h : Rep1 K O H v d) : Rep1 K O' H' v d := by
  rcases h with h | ⟨a, vs, ds, e1, e2, h, hb, ha⟩
  · exact .inl ((x.keep okH).rep _ _ h)
  · exact .inr ⟨a, vs, ds, e1, e2, x.same a _ hb (fun ps z => by cases z) h, by rw [x.bo]; exact hb, (x.keep okH).repA _ _ ha⟩
theorem Rep1A.step {vs : List V} {ds : List D} (okH : Ok O H) (x : Ext O O' H H') (h : Rep1A K O H vs ds) : Rep1A K O' H' vs ds := by
  induction h with
  | nil => exact .nil
  | cons h _ ih => exact .cons (h.step okH x) ih
theorem RepA.one {vs : List V} {ds : List D} (h : RepA K O H vs ds) : Rep1A K O H vs ds := by
  induction ds generalizing vs with
  | nil => cases h; exact .nil
  | cons d ds ih => cases h with | cons h1 h2 => exact .cons (.inl h1) (ih h2)
theorem RepA.length : ∀ {ds : List D} {vs : List V}, RepA K O H vs ds → vs.length = ds.length
  | [], _, h => by cases h; rfl
  | _ :: _, _, h => by cases h with | cons _ h2 => rw [List.length_cons, List.length_cons, RepA.length h2]
theorem RepA.get : ∀ {ds : List D} {vs : List V} {i : Nat} {d : D}, RepA K O H vs ds → ds[i]? = some d → ∃ v, vs[i]? = some v ∧ Rep K O H v d
  | [], _, _, _, _, e => by simp at e
  | _ :: _, _, 0, _, h, e => by
    cases h with
    | cons h1 _ => simp at e; subst e; exact ⟨_, rfl, h1⟩
  | _ :: _, _, i + 1, _, h, e => by
    cases h with
    | cons _ h2 =>
      obtain ⟨v, e1, e2⟩ := RepA.get (i := i) h2 (by simpa using e)
      exact ⟨v, by simpa using e1, e2⟩
theorem RepA.append : ∀ {ds es : List D} {vs us : List V}, RepA K O H vs ds → RepA K O H us es → RepA K O H (vs ++ us) (ds ++ es)
  | [], _, _, _, h, k => by cases h; exact k
  | _ :: _, _, _, _, h, k => by cases h with | cons h1 h2 => exact .cons h1 (RepA.append h2 k)
theorem RepA.take : ∀ {ds : List D} {vs : List V} (n : Nat), RepA K O H vs ds → RepA K O H (vs.take n) (ds.take n)
  | _, _, 0, _ => by rw [List.take_zero, List.take_zero]; exact .nil
  | [], _, _ + 1, h => by cases h; exact .nil
  | _ :: _, _, n + 1, h => by cases h with | cons h1 h2 => exact .cons h1 (RepA.take n h2)
theorem RepA.drop : ∀ {ds : List D} {vs : List V} (n : Nat), RepA K O H vs ds → RepA K O H (vs.drop n) (ds.drop n)
  | _, _, 0, h => h
  | [], _, _ + 1, h => by cases h; exact .nil
  | _ :: _, _, n + 1, h => by cases h with | cons h1 h2 => exact RepA.drop n h2
theorem RepA.set : ∀ {ds : List D} {vs : List V} {v : V} {d : D} (i : Nat), RepA K O H vs ds → Rep K O H v d → RepA K O H (vs.set i v) (ds.set i d)
  | [], _, _, _, _, h, _ => by cases h; exact .nil
  | _ :: _, _, _, _, 0, h, k => by cases h with | cons h1 h2 => exact .cons k h2
  | _ :: _, _, _, _, i + 1, h, k => by cases h with | cons h1 h2 => exact .cons h1 (RepA.set i h2 k)
theorem RepA.rep : ∀ {ds : List D} {vs : List V} (n : Nat), RepA K O H vs ds → RepA K O H (List.replicate n vs).flatten (List.replicate n ds).flatten
  | _, _, 0, _ => .nil
  | _, _, n + 1, h => by
    rw [List.replicate_succ, List.replicate_succ, List.flatten_cons, List.flatten_cons]
    exact RepA.append h (RepA.rep n h)
theorem RepA.ints : ∀ {ns : List Int} {vs : List V}, RepA K O H vs (ns.map D.int) → vs = ns.map V.int
  | [], _, h => by cases h; rfl
  | _ :: _, _, h => by
    cases h with
    | cons h1 h2 =>
      cases h1
      rw [List.map_cons, RepA.ints h2]
theorem RepA.bls : ∀ {ns : List Bool} {vs : List V}, RepA K O H vs (ns.map D.bl) → vs = ns.map V.bl
  | [], _, h => by cases h; rfl
  | _ :: _, _, h => by
    cases h with
    | cons h1 h2 =>
      cases h1
      rw [List.map_cons, RepA.bls h2]
def seqD : D → Option (List D)
  | .tup ds => some ds
  | .lst ds => some ds
  | _ => none
theorem Rep1.list {v : V} {ds : List D} (h : Rep1 K O H v (.lst ds)) : ∃ a vs, v = .ref a ∧ H a = some (.lst vs) ∧ RepA K O H vs ds := by
  rcases h with h | ⟨a, vs, ds', e1, e2, h, _, ha⟩
  · cases h with | lst hs ha => exact ⟨_, _, rfl, hs.2, ha⟩
  · cases e2
    exact ⟨a, vs, e1, h, ha⟩
theorem Rep1.tuple {v : V} {ds : List D} (h : Rep1 K O H v (.tup ds)) : ∃ a vs, v = .ref a ∧ SqT K H a vs ∧ RepA K O H vs ds := by
  rcases h with h | ⟨a, vs, ds', e1, e2, h, _, ha⟩
  · cases h with | tup hs ha => exact ⟨_, _, rfl, hs, ha⟩
  · cases e2
theorem Rep1.seq {v : V} {d : D} {ds : List D} (h : Rep1 K O H v d) (e : seqD d = some ds) : ∃ a vs, v = .ref a ∧ (SqL K H a vs ∨ SqT K H a vs) ∧ RepA K O H vs ds := by
  cases d with
  | tup es =>
    cases e
    obtain ⟨a, vs, e1, h1, h2⟩ := h.tuple
    exact ⟨a, vs, e1, .inr h1, h2⟩
  | lst es =>
    cases e
    obtain ⟨a, vs, e1, h1, h2⟩ := h.list
    exact ⟨a, vs, e1, .inl (SqL.of h1), h2⟩
  | _ => cases e
theorem Rep1.int {v : V} {i : Int} (h : Rep1 K O H v (.int i)) : v = .int i := by
  rcases h with h | ⟨a, vs, ds', e1, e2, h, _, ha⟩
  · cases h; rfl
  · cases e2
theorem Rep1.bl {v : V} {b : Bool} (h : Rep1 K O H v (.bl b)) : v = .bl b := by
  rcases h with h | ⟨a, vs, ds', e1, e2, h, _, ha⟩
  · cases h; rfl
  · cases e2
theorem Rep1.str {v : V} {x : Str} (h : Rep1 K O H v (.str x)) : v = .str x := by
  rcases h with h | ⟨a, vs, ds', e1, e2, h, _, ha⟩
  · cases h; rfl
  · cases e2
theorem Rep1.non {v : V} (h : Rep1 K O H v .non) : v = .non := by
  rcases h with h | ⟨a, vs, ds', e1, e2, h, _, ha⟩
  · cases h; rfl
  · cases e2
def D.isNon : D → Bool
  | .non => true
  | _ => false
theorem Rep1.isNon {v : V} {d : D} (h : Rep1 K O H v d) : decide (v = .non) = d.isNon := by
  rcases h with h | ⟨a, vs, ds', e1, e2, h, _, ha⟩
  · cases h <;> first | rfl | exact decide_eq_false fun z => by cases z
  · subst e1
    subst e2
    exact decide_eq_false fun z => by cases z
end

/-! ### judgements for the moment -/
def tDB (G : Fx) (W : WE) : TE := fun σ H Q => ∃ O ρ q, EnvR G O H σ ρ ∧ W ρ q ∧ ∀ O' H' v d, Ext O O' H H' → Rep1 G.K O' H' v d → q d → Q v H'
def tDAB (G : Fx) (W : WA) : TA := fun σ H Q => ∃ O ρ q, EnvR G O H σ ρ ∧ W ρ q ∧ ∀ O' H' vs ds, Ext O O' H H' → Rep1A G.K O' H' vs ds → q ds → Q vs H'
abbrev DB (G : Fx) (X : Cx) (e : Expr) (W : WE) : Prop := PE X e (tDB G W)
abbrev DAB (G : Fx) (X : Cx) (es : List Expr) (W : WA) : Prop := PA X es (tDAB G W)

section
variable {G : Fx} {X : Cx} {O : Om} {H : Hp} {σ : L2.St} {ρ : Env} {e a b : Expr} {es : List Expr} {W Wa Wb : WE} {WL : WA} {pos : Pos}
theorem db_of (h : DE G X e W) : DB G X e W := PE_mono h fun σ H Q ⟨O, ρ, q, R, w, k⟩ => ⟨O, ρ, q, R, w, fun O' H' v d x r h => k O' H' v d x (.inl r) h⟩
theorem tDB1 {q : D → Prop} {Q : VK} (R : EnvR G O H σ ρ) (w : W ρ q) (k : ∀ O' H' v d, EnvR G O' H' σ ρ → Ext O O' H H' → Rep1 G.K O' H' v d → q d → Q v H') : tDB G W σ H Q :=
  ⟨O, ρ, q, R, w, fun O' H' v d x r h => k O' H' v d (R.step x) x r h⟩
theorem tDAB1 {q : List D → Prop} {Q : List V → Hp → Prop} (R : EnvR G O H σ ρ) (w : WL ρ q) (k : ∀ O' H' vs ds, EnvR G O' H' σ ρ → Ext O O' H H' → Rep1A G.K O' H' vs ds → q ds → Q vs H') : tDAB G WL σ H Q :=
  ⟨O, ρ, q, R, w, fun O' H' vs ds x r h => k O' H' vs ds (R.step x) x r h⟩
theorem tDB2 {q : D → D → Prop} {Q : V → V → Hp → Prop} (R : EnvR G O H σ ρ) (w : Wa ρ fun d => Wb ρ fun e => q d e)
    (k : ∀ O' H' v u d e, EnvR G O' H' σ ρ → Ext O O' H H' → Rep1 G.K O' H' v d → Rep1 G.K O' H' u e → q d e → Q v u H') : tDB G Wa σ H fun x H1 => tDB G Wb σ H1 fun y H2 => Q x y H2 :=
  tDB1 R w fun O1 H1 v d R1 x1 r1 w1 => tDB1 R1 w1 fun O2 H2 u e R2 x2 r2 w2 => k O2 H2 v u d e R2 (x1.trans R.ok x2) (r1.step R1.ok x2) r2 w2

/-! ### names, constants -/
def wVar (i : Nat) : WE := fun ρ q => match ρ[i]? with
  | some (some (.val d)) => q d
  | _ => False
def wVarB (i : Nat) : WE := fun ρ q => match ρ[i]? with
  | some (some (.val d)) => q d
  | some (some (.own ds)) => q (.lst ds)
  | _ => False
def wC (d : D) : WE := fun _ q => q d
theorem wVar_of {i : Nat} {q : D → Prop} (w : wVar i ρ q) : ∃ d, ρ[i]? = some (some (.val d)) ∧ q d := by
  unfold wVar at w
  split at w
  · rename_i d e; exact ⟨d, e, w⟩
  · exact w.elim
theorem de_var (i : Nat) (h : PE X e (tVar i)) : DE G X e (wVar i) := PE_mono h fun σ H Q ⟨O, ρ, q, R, w, k⟩ => by
  obtain ⟨d, e, w⟩ := wVar_of w
  obtain ⟨v, e1, r⟩ := R.val i d e
  exact ⟨v, e1, k O H v d (Ext.refl R.ok) r w⟩
theorem db_var (i : Nat) (h : PE X e (tVar i)) : DB G X e (wVarB i) := PE_mono h fun σ H Q ⟨O, ρ, q, R, w, k⟩ => by
  unfold wVarB at w
  split at w
  · rename_i d e
    obtain ⟨v, e1, r⟩ := R.val i d e
    exact ⟨v, e1, k O H v d (Ext.refl R.ok) (.inl r) w⟩
  · rename_i ds e
    obtain ⟨a, vs, e1, e2, r, _, hb, _⟩ := R.own i ds e
    exact ⟨_, e1, k O H _ _ (Ext.refl R.ok) (.inr ⟨a, vs, ds, rfl, rfl, e2, hb, r⟩) w⟩
  · exact w.elim
theorem de_con {v : V} {d : D} (h : PE X e (tC v)) (r : ∀ O H, Rep G.K O H v d) : DE G X e (wC d) := PE_mono h fun σ H Q ⟨O, ρ, q, R, w, k⟩ => k O H v d (Ext.refl R.ok) (r O H) w
theorem de_int {i : Int} {j pos} : DE G X (.Constant (.int i) j pos) (wC (.int i)) := de_con pe_int fun _ _ => .int i
theorem de_bl {b : Bool} {j pos} : DE G X (.Constant (.bool b) j pos) (wC (.bl b)) := de_con pe_bl fun _ _ => .bl b
theorem de_non {j pos} : DE G X (.Constant .none j pos) (wC .non) := de_con pe_non fun _ _ => .non
theorem de_str {x : Str} {j pos} : DE G X (.Constant (.str x) j pos) (wC (.str x)) := de_con pe_str fun _ _ => .str x
/-- a module's constant -/
theorem de_glob {x : Str} {u : Value} {v : V} {d : D} (hg : Gl X x) (hm : X.mg x = some u) (hr : RelV v u) (r : ∀ O H, Rep G.K O H v d) (hd : (x == ("__debug__" : Str)) = false := by decide) : DE G X (.Name x pos) (wC d) := de_con (pe_glob hg hm hr hd) r
/-- a built-in class by its name -/
theorem de_blt {x : Str} {n : String} (hg : Gl X x) (hm : X.mg x = none) (hv : bootBuiltins x = some (.type n)) (hn : x ≠ "__name__" := by decide) (hd : (x == ("__debug__" : Str)) = false := by decide) : DE G X (.Name x pos) (wC (.ty n)) :=
  de_con (pe_bltn (v := .ty n) hg hm hv rfl hn hd) fun _ _ => .ty n

/-! ### argument lists -/
def waNil : WA := fun _ q => q []
def waCons (W : WE) (WL : WA) : WA := fun ρ q => W ρ fun d => WL ρ fun ds => q (d :: ds)
theorem da_nil : DA G X [] waNil := PA_mono pa_nil fun σ H Q ⟨O, ρ, q, R, w, k⟩ => k O H [] [] (Ext.refl R.ok) .nil rfl w
theorem da_cons (ha : DE G X e W) (hr : DA G X es WL) (hs : starEach (e :: es) X.env = (false, eval e X.env) :: starEach es X.env := by rfl) : DA G X (e :: es) (waCons W WL) :=
  PA_mono (pa_cons ha hr hs) fun σ H Q ⟨O, ρ, q, R, w, k⟩ => tD1 R w fun O1 H1 v d R1 x1 r1 w1 => tDA2 R1 w1 fun O2 H2 vs ds R2 x2 r2 hl w2 => k O2 H2 _ _ (x1.trans R.ok x2) (.cons ((x2.keep R1.ok).rep _ _ r1) r2) (by rw [List.length_cons, List.length_cons, hl]) w2
theorem dab_nil : DAB G X [] waNil := PA_mono pa_nil fun σ H Q ⟨O, ρ, q, R, w, k⟩ => k O H [] [] (Ext.refl R.ok) .nil w
theorem dab_cons (ha : DB G X e W) (hr : DAB G X es WL) (hs : starEach (e :: es) X.env = (false, eval e X.env) :: starEach es X.env := by rfl) : DAB G X (e :: es) (waCons W WL) :=
  PA_mono (pa_cons ha hr hs) fun σ H Q ⟨O, ρ, q, R, w, k⟩ => tDB1 R w fun O1 H1 v d R1 x1 r1 w1 => tDAB1 R1 w1 fun O2 H2 vs ds R2 x2 r2 w2 => k O2 H2 _ _ (x1.trans R.ok x2) (.cons (r1.step R1.ok x2) r2) w2

/-! ### operators -/
abbrev F2 := D → D → (D → Prop) → Prop
abbrev FL := List D → (D → Prop) → Prop
def wOp (f : F2) (Wa Wb : WE) : WE := fun ρ q => Wa ρ fun x => Wb ρ fun y => f x y q
/-- the operator's rule, over plain data -/
def OpD (G : Fx) (r : R2) (f : F2) : Prop := ∀ (O : Om) (H : Hp) (σ : L2.St) (ρ : Env) (v u : V) (d e : D) (q : D → Prop) (Q : VK), EnvR G O H σ ρ → Rep1 G.K O H v d → Rep1 G.K O H u e → f d e q →
  (∀ O' H' w c, Ext O O' H H' → Rep G.K O' H' w c → q c → Q w H') → r v u H Q
theorem tOpD {r : R2} {f : F2} (hf : OpD G r f) : ∀ σ H Q, tD G (wOp f Wa Wb) σ H Q → tOp r (tDB G Wa) (tDB G Wb) σ H Q := fun σ H Q ⟨O, ρ, q, R, w, k⟩ =>
  tDB2 R w fun O' H' v u d e R' x rv ru w' => hf O' H' σ ρ v u d e q Q R' rv ru w' fun O2 H2 w2 c x2 r2 q2 => k O2 H2 w2 c (x.trans R.ok x2) r2 q2
theorem de_op {op : Operator} {r : R2} {f : F2} (ho : OpR X (binaryOp op) r) (hf : OpD G r f) (ha : DB G X a Wa) (hb : DB G X b Wb) : DE G X (.BinOp a op b pos) (wOp f Wa Wb) := PE_mono (pe_op ho ha hb) (tOpD hf)
theorem de_cmp {op : CmpOp} {r : R2} {f : F2} (ho : OpR X (compareOp op) r) (hf : OpD G r f) (ha : DB G X a Wa) (hb : DB G X b Wb) (hm : behindInMarks op b = false) : DE G X (.Compare a [op] [b] pos) (wOp f Wa Wb) := PE_mono (pe_cmpR ho ha hb hm) (tOpD hf)
def wTest (W : WE) : WT := fun ρ q => W ρ fun d => match d with
  | .bl b => q b
  | _ => False
theorem tTestD : ∀ σ H Q, tDT G (wTest W) σ H Q → tTest (tD G W) σ H Q := fun σ H Q ⟨O, ρ, q, R, w, k⟩ =>
  tD1 R w fun O1 H1 v d R1 x1 r1 w1 => by
    cases r1 with
    | bl c => exact ⟨c, rfl, k O1 H1 c x1 w1⟩
    | _ => exact w1.elim
theorem dt_cmp {op : CmpOp} {r : R2} {f : F2} (ho : OpR X (compareOp op) r) (hf : OpD G r f) (ha : DB G X a Wa) (hb : DB G X b Wb) (hm : behindInMarks op b = false) : DT G X (.Compare a [op] [b] pos) (wTest (wOp f Wa Wb)) :=
  PT_mono (pt_cmpR ho ha hb hm) fun σ H Q h => by
    obtain ⟨O, ρ, q, R, w, k⟩ := h
    refine tDB2 R w fun O' H' v u d e R' x rv ru w' => ?_
    refine hf O' H' σ ρ v u d e _ _ R' rv ru w' fun O2 H2 w2 c x2 r2 q2 => ?_
    cases r2 with
    | bl c => exact ⟨c, rfl, k O2 H2 c (x.trans R.ok x2) q2⟩
    | _ => exact q2.elim
/-- a call, a name, an item as a test -/
theorem dt_val (h : DE G X e W) (he : ∀ whole, isTrue e X.env whole = (do let v ← whole; standAt e.pos; holding [v] (truthy v)) := by intro _; rfl) : DT G X e (wTest W) :=
  PT_mono (pt_val h he) fun σ H Q h => tTestD σ H Q h
def wChain (f g : F2) (Wa Wb Wc : WE) : WE := fun ρ q => Wa ρ fun x => Wb ρ fun y => f x y fun z => match z with
  | .bl true => Wc ρ fun w => g y w q
  | .bl false => q (.bl false)
  | _ => False
theorem tChainD {r r' : R2} {f g : F2} (hf : OpD G r f) (hg : OpD G r' g) {c : Expr} {Wc : WE} : ∀ σ H Q, tD G (wChain f g Wa Wb Wc) σ H Q → tChain r r' (tDB G Wa) (tDB G Wb) (tDB G Wc) σ H Q := fun σ H Q ⟨O, ρ, q, R, w, k⟩ => by
  refine tDB2 R w fun O1 H1 v u d e R1 x1 rv ru w1 => ?_
  refine hf O1 H1 σ ρ v u d e _ _ R1 rv ru w1 fun O2 H2 z c x2 r2 q2 => ?_
  have R2 := R1.step x2
  have x12 := x1.trans R.ok x2
  cases r2 with
  | bl c =>
    cases c with
    | true =>
      refine ⟨true, rfl, ?_⟩
      rw [if_pos rfl]
      refine tDB1 R2 q2 fun O3 H3 y3 e3 R3 x3 r3 q3 => ?_
      exact hg O3 H3 σ ρ u y3 e e3 q Q R3 ((ru.step R1.ok x2).step R2.ok x3) r3 q3 fun O4 H4 w4 c4 x4 r4 q4 => k O4 H4 w4 c4 ((x12.trans R.ok x3).trans R.ok x4) r4 q4
    | false =>
      refine ⟨false, rfl, ?_⟩
      rw [if_neg Bool.false_ne_true]
      exact k O2 H2 _ _ x12 (.bl false) q2
  | _ => exact q2.elim
theorem de_chain {c : Expr} {Wc : WE} {op op' : CmpOp} {r r' : R2} {f g : F2} (ho : OpR X (compareOp op) r) (hf : OpD G r f) (ho' : OpR X (compareOp op') r') (hg : OpD G r' g) (ha : DB G X a Wa) (hb : DB G X b Wb) (hc : DB G X c Wc)
    (hm : lastMarks [op, op'] [b, c] = false := by with_unfolding_all rfl) : DE G X (.Compare a [op, op'] [b, c] pos) (wChain f g Wa Wb Wc) := PE_mono (pe_chain ho ho' ha hb hc hm) (tChainD (c := c) hf hg)
theorem dt_chain {c : Expr} {Wc : WE} {op op' : CmpOp} {r r' : R2} {f g : F2} (ho : OpR X (compareOp op) r) (hf : OpD G r f) (ho' : OpR X (compareOp op') r') (hg : OpD G r' g) (ha : DB G X a Wa) (hb : DB G X b Wb) (hc : DB G X c Wc)
    (hm : lastMarks [op, op'] [b, c] = false := by with_unfolding_all rfl) : DT G X (.Compare a [op, op'] [b, c] pos) (wTest (wChain f g Wa Wb Wc)) :=
  PT_mono (pt_chain ho ho' ha hb hc hm) fun σ H Q h => by
    obtain ⟨O, ρ, q, R, w, k⟩ := h
    refine tChainD (c := c) hf hg σ H _ ⟨O, ρ, _, R, w, fun O1 H1 v d x1 r1 q1 => ?_⟩
    cases r1 with
    | bl c => exact ⟨c, rfl, k O1 H1 c x1 q1⟩
    | _ => exact q1.elim

/-! ### and, or, not, if -/
variable {T U : WT} {rest : List Expr}
def wAnd (T U : WT) : WT := fun ρ q => T ρ fun b => if b = true then U ρ q else q false
def wOr (T U : WT) : WT := fun ρ q => T ρ fun b => if b = true then q true else U ρ q
def wNot (T : WT) : WT := fun ρ q => T ρ fun b => q (!b)
theorem dw_and1 (h : DT G X a T) : DW G X (.BoolOp .And [a] pos) T := PW_mono (pw_and1 h) fun _ _ _ h => h
theorem dw_or1 (h : DT G X a T) : DW G X (.BoolOp .Or [a] pos) T := PW_mono (pw_or1 h) fun _ _ _ h => h
theorem dw_and (h : DT G X a T) (hb : DW G X (.BoolOp .And (b :: rest) pos) U) : DW G X (.BoolOp .And (a :: b :: rest) pos) (wAnd T U) :=
  PW_mono (pw_and h hb) fun σ H Q ⟨O, ρ, q, R, w, k⟩ => tDT1 R w fun O1 H1 c R1 x1 w1 => by
    cases c with
    | true => rw [if_pos rfl] at w1; rw [if_pos rfl]; exact tDT1 R1 w1 fun O2 H2 c2 _ x2 q2 => k O2 H2 c2 (x1.trans R.ok x2) q2
    | false => rw [if_neg Bool.false_ne_true] at w1; rw [if_neg Bool.false_ne_true]; exact k O1 H1 false x1 w1
theorem dw_or (h : DT G X a T) (hb : DW G X (.BoolOp .Or (b :: rest) pos) U) : DW G X (.BoolOp .Or (a :: b :: rest) pos) (wOr T U) :=
  PW_mono (pw_or h hb) fun σ H Q ⟨O, ρ, q, R, w, k⟩ => tDT1 R w fun O1 H1 c R1 x1 w1 => by
    cases c with
    | false => rw [if_neg Bool.false_ne_true] at w1; rw [if_neg Bool.false_ne_true]; exact tDT1 R1 w1 fun O2 H2 c2 _ x2 q2 => k O2 H2 c2 (x1.trans R.ok x2) q2
    | true => rw [if_pos rfl] at w1; rw [if_pos rfl]; exact k O1 H1 true x1 w1
theorem dt_w (h : DW G X e T) : DT G X e T := h.pt
theorem dt_not (h : DT G X a T) : DT G X (.UnaryOp .Not a pos) (wNot T) := PT_mono (pt_not h) fun σ H Q ⟨O, ρ, q, R, w, k⟩ => tDT1 R w fun O1 H1 c _ x1 w1 => k O1 H1 _ x1 w1
/-- as values: all but the last True or False -/
def wAndV (Wa Wb : WE) : WE := fun ρ q => Wa ρ fun d => match d with
  | .bl true => Wb ρ q
  | .bl false => q (.bl false)
  | _ => False
def wOrV (Wa Wb : WE) : WE := fun ρ q => Wa ρ fun d => match d with
  | .bl false => Wb ρ q
  | .bl true => q (.bl true)
  | _ => False
def wNotV (W : WE) : WE := fun ρ q => W ρ fun d => match d with
  | .bl b => q (.bl (!b))
  | _ => False
theorem de_one {op} (h : DE G X a W) : DE G X (.BoolOp op [a] pos) W := PE_mono (pe_one h) fun _ _ _ h => h
theorem de_and (h : DE G X a Wa) (hb : DE G X (.BoolOp .And (b :: rest) pos) Wb) : DE G X (.BoolOp .And (a :: b :: rest) pos) (wAndV Wa Wb) :=
  PE_mono (pe_and h hb) fun σ H Q ⟨O, ρ, q, R, w, k⟩ => tD1 R w fun O1 H1 v d R1 x1 r1 w1 => by
    cases r1 with
    | bl c =>
      refine ⟨c, rfl, ?_⟩
      cases c with
      | true => rw [if_pos rfl]; exact tD1 R1 w1 fun O2 H2 v2 d2 _ x2 r2 q2 => k O2 H2 v2 d2 (x1.trans R.ok x2) r2 q2
      | false => rw [if_neg Bool.false_ne_true]; exact k O1 H1 _ _ x1 (.bl false) w1
    | _ => exact w1.elim
theorem de_or (h : DE G X a Wa) (hb : DE G X (.BoolOp .Or (b :: rest) pos) Wb) : DE G X (.BoolOp .Or (a :: b :: rest) pos) (wOrV Wa Wb) :=
  PE_mono (pe_or h hb) fun σ H Q ⟨O, ρ, q, R, w, k⟩ => tD1 R w fun O1 H1 v d R1 x1 r1 w1 => by
    cases r1 with
    | bl c =>
      refine ⟨c, rfl, ?_⟩
      cases c with
      | false => rw [if_neg Bool.false_ne_true]; exact tD1 R1 w1 fun O2 H2 v2 d2 _ x2 r2 q2 => k O2 H2 v2 d2 (x1.trans R.ok x2) r2 q2
      | true => rw [if_pos rfl]; exact k O1 H1 _ _ x1 (.bl true) w1
    | _ => exact w1.elim
theorem de_not (h : DE G X a W) : DE G X (.UnaryOp .Not a pos) (wNotV W) :=
  PE_mono (pe_not h) fun σ H Q ⟨O, ρ, q, R, w, k⟩ => tD1 R w fun O1 H1 v d R1 x1 r1 w1 => by
    cases r1 with
    | bl c => exact ⟨c, rfl, k O1 H1 _ _ x1 (.bl _) w1⟩
    | _ => exact w1.elim
def wIf (T : WT) (Wa Wb : WE) : WE := fun ρ q => T ρ fun b => if b = true then Wa ρ q else Wb ρ q
theorem de_if {c : Expr} (hc : DT G X c T) (ha : DE G X a Wa) (hb : DE G X b Wb) : DE G X (.IfExp c a b pos) (wIf T Wa Wb) :=
  PE_mono (pe_ifExp hc ha hb) fun σ H Q ⟨O, ρ, q, R, w, k⟩ => tDT1 R w fun O1 H1 c R1 x1 w1 => by
    cases c with
    | true => rw [if_pos rfl] at w1; rw [if_pos rfl]; exact tD1 R1 w1 fun O2 H2 v2 d2 _ x2 r2 q2 => k O2 H2 v2 d2 (x1.trans R.ok x2) r2 q2
    | false => rw [if_neg Bool.false_ne_true] at w1; rw [if_neg Bool.false_ne_true]; exact tD1 R1 w1 fun O2 H2 v2 d2 _ x2 r2 q2 => k O2 H2 v2 d2 (x1.trans R.ok x2) r2 q2

/-! ### displays -/
def wTup (WL : WA) : WE := fun ρ q => WL ρ fun ds => ds.length ≤ sizeLine ∧ q (.tup ds)
def wLst (WL : WA) : WE := fun ρ q => WL ρ fun ds => ds.length ≤ sizeLine ∧ q (.lst ds)
theorem de_tup {x1} (h : DA G X es WL) : DE G X (.Tuple es x1 pos) (wTup WL) := PE_mono (pe_tup h) fun σ H Q ⟨O, ρ, q, R, w, k⟩ => tDA1 R w fun O1 H1 vs ds R1 x1 r1 ⟨z, w1⟩ => by
  refine ⟨by rw [r1.length]; exact z, fun p hp => ?_⟩
  have x2 : Ext O1 O1 H1 (upd H1 p (.tup vs)) := R1.lay hp
  exact k O1 _ _ _ (x1.trans R.ok x2) (.tup (SqT.of upd_same) ((x2.keep R1.ok).repA _ _ r1)) w1
theorem de_lst (h : DA G X es WL) : DE G X (.List es pos) (wLst WL) := PE_mono (pe_lst h) fun σ H Q ⟨O, ρ, q, R, w, k⟩ => tDA1 R w fun O1 H1 vs ds R1 x1 r1 ⟨z, w1⟩ => by
  refine ⟨by rw [r1.length]; exact z, fun p hp => ?_⟩
  have x2 : Ext O1 (O1.add p) H1 (upd H1 p (.lst vs)) := R1.layF hp
  exact k _ _ _ _ (x1.trans R.ok x2) (.lst ⟨.inr rfl, upd_same⟩ ((x2.keep R1.ok).repA _ _ r1)) w1

/-! ### a list that is new: to be kept as this def's own -/
def tDF (G : Fx) (W : WE) : TE := fun σ H Q => ∃ O ρ q, EnvR G O H σ ρ ∧ W ρ q ∧ ∀ O' H' a vs ds, Ext O O' H H' → H' a = some (.lst vs) → RepA G.K O' H' vs ds → ¬ O'.F a → ¬ O'.Bo a → NT (H a) → q (.lst ds) → Q (.ref a) H'
abbrev DF (G : Fx) (X : Cx) (e : Expr) (W : WE) : Prop := PE X e (tDF G W)
theorem EnvR.newF (R : EnvR G O H σ ρ) {p : Addr} (hp : H p = none) : ¬ O.F p := fun f => R.ok.ft p f (.inl hp)
theorem EnvR.newB (R : EnvR G O H σ ρ) {p : Addr} (hp : H p = none) : ¬ O.Bo p := fun z => by
  obtain ⟨i, j, k, e⟩ := R.ok.bow p z
  rw [hp] at e
  cases e
theorem df_lst (h : DA G X es WL) : DF G X (.List es pos) (wLst WL) := PE_mono (pe_lst h) fun σ H Q ⟨O, ρ, q, R, w, k⟩ => tDA1 R w fun O1 H1 vs ds R1 x1 r1 ⟨z, w1⟩ => by
  refine ⟨by rw [r1.length]; exact z, fun p hp => ?_⟩
  have x2 : Ext O1 O1 H1 (upd H1 p (.lst vs)) := R1.lay hp
  exact k O1 _ p vs ds (x1.trans R.ok x2) upd_same ((x2.keep R1.ok).repA _ _ r1) (R1.newF hp) (R1.newB hp) (x1.nt R.ok (.inl hp)) w1
end
end DL
set_option Elab.async false
set_option linter.all false
set_option maxRecDepth 100000
set_option maxHeartbeats 4000000
/-! DL3: operators and built-in functions. -/
namespace DL
open PySem PySem.Spec PyProof.Rows L2

theorem op_or2 {X : Cx} {f : Value → Value → Sem Value} {r r' : R2} (h : OpR X f r) (h' : OpR X f r') : OpR X f (fun x y H Q => r x y H Q ∨ r' x y H Q) := by
  intro pins s σ H x y v u Q I rx ry q
  rcases q with q | q
  · exact h pins s σ H x y v u Q I rx ry q
  · exact h' pins s σ H x y v u Q I rx ry q
theorem cr_or2 {X : Cx} {f : Value} {r r' : List V → Hp → VK → Prop} (h : CallR X f r) (h' : CallR X f r') : CallR X f (fun x H Q => r x H Q ∨ r' x H Q) := by
  intro pins s σ H x u Q I rx q
  rcases q with q | q
  · exact h pins s σ H x u Q I rx q
  · exact h' pins s σ H x u Q I rx q
theorem ix_or2 {X : Cx} {r r' : R2} (h : IxR X r) (h' : IxR X r') : IxR X (fun x y H Q => r x y H Q ∨ r' x y H Q) := h.or h'

section
variable {G : Fx} {X : Cx}
def fI (C : Int → Int → Prop) (g : Int → Int → D) : F2 := fun x y q => match x, y with
  | .int i, .int j => C i j ∧ q (g i j)
  | _, _ => False
theorem fI_of {C : Int → Int → Prop} {g : Int → Int → D} {x y : D} {q : D → Prop} (h : fI C g x y q) : ∃ i j, x = .int i ∧ y = .int j ∧ C i j ∧ q (g i j) := by
  unfold fI at h
  split at h
  · exact ⟨_, _, rfl, rfl, h⟩
  · exact h.elim
theorem od_I {C : Int → Int → Prop} {gV : Int → Int → V} {g : Int → Int → D} (hg : ∀ O H i j, Rep G.K O H (gV i j) (g i j)) : OpD G (rI C gV) (fI C g) := fun O H σ ρ v u d e q Q R r1 r2 w k => by
  obtain ⟨i, j, rfl, rfl, hc, w⟩ := fI_of w
  exact ⟨i, j, r1.int, r2.int, hc, k O H _ _ (Ext.refl R.ok) (hg O H i j) w⟩
theorem od_I0 {gV : Int → Int → V} {g : Int → Int → D} (hg : ∀ O H i j, Rep G.K O H (gV i j) (g i j)) : OpD G (rI0 gV) (fI (fun _ _ => True) g) := fun O H σ ρ v u d e q Q R r1 r2 w k => by
  obtain ⟨i, j, rfl, rfl, _, w⟩ := fI_of w
  exact ⟨i, j, r1.int, r2.int, k O H _ _ (Ext.refl R.ok) (hg O H i j) w⟩
def TT2 (_ _ : Int) : Prop := True

/-! + -/
def rAdd (K : PySem.W.Frag) : R2 := fun x y H Q => rI0 (fun i j => .int (i + j)) x y H Q ∨ (rCat x y H Q ∨ (rCatA K x y H Q ∨ ∃ i j, x = .str i ∧ y = .str j ∧ i.length + j.length ≤ sizeLine ∧ Q (.str (i ++ j)) H))
theorem op_Add : OpR X (binaryOp .Add) (rAdd X.K) := op_or2 op_add (op_or2 op_cat (op_or2 op_catA op_add_str))
def fAdd : F2 := fun x y q => match x, y with
  | .int i, .int j => q (.int (i + j))
  | .lst a, .lst b => a.length + b.length ≤ sizeLine ∧ q (.lst (a ++ b))
  | .tup a, .tup b => a.length + b.length ≤ sizeLine ∧ q (.tup (a ++ b))
  | .str a, .str b => a.length + b.length ≤ sizeLine ∧ q (.str (a ++ b))
  | _, _ => False
theorem lay_lst {O : Om} {H : Hp} {σ : L2.St} {ρ : Env} {vs : List V} {ds : List D} {p : Addr} (R : EnvR G O H σ ρ) (h : RepA G.K O H vs ds) (hp : H p = none) :
    Ext O (O.add p) H (upd H p (.lst vs)) ∧ Rep G.K (O.add p) (upd H p (.lst vs)) (.ref p) (.lst ds) :=
  ⟨R.layF hp, .lst ⟨.inr rfl, upd_same⟩ (((R.layF hp).keep R.ok).repA _ _ h)⟩
theorem lay_tup {O : Om} {H : Hp} {σ : L2.St} {ρ : Env} {vs : List V} {ds : List D} {p : Addr} (R : EnvR G O H σ ρ) (h : RepA G.K O H vs ds) (hp : H p = none) :
    Ext O O H (upd H p (.tup vs)) ∧ Rep G.K O (upd H p (.tup vs)) (.ref p) (.tup ds) :=
  ⟨R.lay hp, .tup (SqT.of upd_same) (((R.lay hp).keep R.ok).repA _ _ h)⟩
theorem od_Add : OpD G (rAdd G.K) fAdd := fun O H σ ρ v u d e q Q R r1 r2 w k => by
  unfold fAdd at w
  split at w
  · exact .inl ⟨_, _, r1.int, r2.int, k O H _ _ (Ext.refl R.ok) (.int _) w⟩
  · rename_i a b
    obtain ⟨p, vs, e1, h1, a1⟩ := r1.list
    obtain ⟨p2, us, e2, h2, a2⟩ := r2.list
    refine .inr (.inl ⟨p, p2, vs, us, e1, e2, h1, h2, by rw [a1.length, a2.length]; exact w.1, fun l hl => ?_⟩)
    obtain ⟨x, r⟩ := lay_lst R (a1.append a2) hl
    exact k _ _ _ _ x r w.2
  · rename_i a b
    obtain ⟨p, vs, e1, h1, a1⟩ := r1.tuple
    obtain ⟨p2, us, e2, h2, a2⟩ := r2.tuple
    refine .inr (.inr (.inl ⟨p, p2, vs, us, e1, e2, h1, h2, by rw [a1.length, a2.length]; exact w.1, fun z => ?_, fun _ z => ?_, fun _ _ l hl => ?_⟩))
    · have za : a = [] := List.length_eq_zero_iff.mp (by rw [← a1.length, z]; rfl)
      subst za
      exact k O H _ _ (Ext.refl R.ok) (.tup h2 a2) w.2
    · have zb : b = [] := List.length_eq_zero_iff.mp (by rw [← a2.length, z]; rfl)
      subst zb
      rw [List.append_nil] at w
      exact k O H _ _ (Ext.refl R.ok) (.tup h1 a1) w.2
    · obtain ⟨x, r⟩ := lay_tup R (a1.append a2) hl
      exact k _ _ _ _ x r w.2
  · exact .inr (.inr (.inr ⟨_, _, r1.str, r2.str, w.1, k O H _ _ (Ext.refl R.ok) (.str _) w.2⟩))
  · exact w.elim

/-! - * // % -/
def fSub : F2 := fI TT2 fun i j => .int (i - j)
theorem od_Sub : OpD G (rI0 fun i j => .int (i - j)) fSub := fun O H σ ρ v u d e q Q R r1 r2 w k => od_I0 (g := fun i j => .int (i - j)) (fun _ _ _ _ => .int _) O H σ ρ v u d e q Q R r1 r2 w k
def fFdiv : F2 := fI CDiv fun i j => .int (i / j)
theorem od_Fdiv : OpD G (rI CDiv fun i j => .int (i / j)) fFdiv := od_I fun _ _ _ _ => .int _
def fMod : F2 := fI (fun _ j => 0 < j) fun i j => .int (i % j)
theorem od_Mod : OpD G (rI (fun _ j => 0 < j) fun i j => .int (i % j)) fMod := od_I fun _ _ _ _ => .int _
def rMul (K : PySem.W.Frag) : R2 := fun x y H Q => rI CMul (fun i j => .int (i * j)) x y H Q ∨ (rRep x y H Q ∨ rRepT K x y H Q)
theorem op_Mul : OpR X (binaryOp .Mult) (rMul X.K) := op_or2 op_mul (op_or2 op_rep op_repT)
def fMul : F2 := fun x y q => match x, y with
  | .int i, .int j => CMul i j ∧ q (.int (i * j))
  | .lst a, .int k => (-(2 ^ 63) ≤ k ∧ k < 2 ^ 63 ∧ a.length * k.toNat ≤ sizeLine) ∧ q (.lst (List.replicate k.toNat a).flatten)
  | .tup a, .int k => (a ≠ [] ∧ 2 ≤ k ∧ k ≤ 1000 ∧ a.length ≤ 1000) ∧ q (.tup (List.replicate k.toNat a).flatten)
  | _, _ => False
theorem od_Mul : OpD G (rMul G.K) fMul := fun O H σ ρ v u d e q Q R r1 r2 w k => by
  unfold fMul at w
  split at w
  · exact .inl ⟨_, _, r1.int, r2.int, w.1, k O H _ _ (Ext.refl R.ok) (.int _) w.2⟩
  · rename_i a j
    obtain ⟨p, vs, e1, h1, a1⟩ := r1.list
    refine .inr (.inl ⟨p, j, vs, e1, r2.int, h1, w.1.1, w.1.2.1, by rw [a1.length]; exact w.1.2.2, fun l hl => ?_⟩)
    obtain ⟨x, r⟩ := lay_lst R (a1.rep _) hl
    exact k _ _ _ _ x r w.2
  · rename_i a j
    obtain ⟨p, vs, e1, h1, a1⟩ := r1.tuple
    refine .inr (.inr ⟨p, j, vs, e1, r2.int, h1, fun z => w.1.1 (List.length_eq_zero_iff.mp (by rw [← a1.length, z]; rfl)), w.1.2.1, w.1.2.2.1, by rw [a1.length]; exact w.1.2.2.2, fun l hl => ?_⟩)
    obtain ⟨x, r⟩ := lay_tup R (a1.rep _) hl
    exact k _ _ _ _ x r w.2
  · exact w.elim

/-! comparisons of ints -/
def fLt : F2 := fI TT2 fun i j => .bl (decide (i < j))
def fLe : F2 := fI TT2 fun i j => .bl (decide (i ≤ j))
def fGt : F2 := fI TT2 fun i j => .bl (decide (j < i))
def fGe : F2 := fI TT2 fun i j => .bl (decide (j ≤ i))
theorem od_Lt : OpD G (rI0 fun i j => .bl (decide (i < j))) fLt := fun O H σ ρ v u d e q Q R r1 r2 w k => od_I0 (g := fun i j => .bl (decide (i < j))) (fun _ _ _ _ => .bl _) O H σ ρ v u d e q Q R r1 r2 w k
theorem od_Le : OpD G (rI0 fun i j => .bl (decide (i ≤ j))) fLe := fun O H σ ρ v u d e q Q R r1 r2 w k => od_I0 (g := fun i j => .bl (decide (i ≤ j))) (fun _ _ _ _ => .bl _) O H σ ρ v u d e q Q R r1 r2 w k
theorem od_Gt : OpD G (rI0 fun i j => .bl (decide (i > j))) fGt := fun O H σ ρ v u d e q Q R r1 r2 w k => od_I0 (g := fun i j => .bl (decide (j < i))) (fun _ _ _ _ => .bl _) O H σ ρ v u d e q Q R r1 r2 w k
theorem od_Ge : OpD G (rI0 fun i j => .bl (decide (i ≥ j))) fGe := fun O H σ ρ v u d e q Q R r1 r2 w k => od_I0 (g := fun i j => .bl (decide (j ≤ i))) (fun _ _ _ _ => .bl _) O H σ ρ v u d e q Q R r1 r2 w k
/-! is None -/
def fIsN : F2 := fun x y q => match y with
  | .non => q (.bl x.isNon)
  | _ => False
def fNotN : F2 := fun x y q => match y with
  | .non => q (.bl (!x.isNon))
  | _ => False
theorem od_IsN : OpD G (fun x y H Q => y = .non ∧ Q (.bl (decide (x = .non))) H) fIsN := fun O H σ ρ v u d e q Q R r1 r2 w k => by
  unfold fIsN at w
  split at w
  · exact ⟨r2.non, by rw [r1.isNon]; exact k O H _ _ (Ext.refl R.ok) (.bl _) w⟩
  · exact w.elim
theorem od_NotN : OpD G (fun x y H Q => y = .non ∧ Q (.bl (!decide (x = .non))) H) fNotN := fun O H σ ρ v u d e q Q R r1 r2 w k => by
  unfold fNotN at w
  split at w
  · exact ⟨r2.non, by rw [r1.isNon]; exact k O H _ _ (Ext.refl R.ok) (.bl _) w⟩
  · exact w.elim

/-! == of data -/
mutual
def D.pd : D → PyData
  | .non => .none
  | .bl b => .bool b
  | .int i => .int i
  | .str x => .str x
  | .tup ds => .tuple (D.pds ds)
  | .lst ds => .list (D.pds ds)
  | _ => .none
def D.pds : List D → List PyData
  | [] => []
  | d :: ds => d.pd :: D.pds ds
end
mutual
def D.pure : D → Bool
  | .non => true
  | .bl _ => true
  | .int _ => true
  | .str _ => true
  | .tup ds => D.pures ds
  | .lst ds => D.pures ds
  | _ => false
def D.pures : List D → Bool
  | [] => true
  | d :: ds => d.pure && D.pures ds
end
mutual
theorem rep_dp {K : PySem.W.Frag} {O : Om} {H : Hp} : ∀ (d : D) (v : V), Rep K O H v d → d.pure = true → Dp K H v d.pd
  | .non, _, h, _ => by cases h; exact .non
  | .bl b, _, h, _ => by cases h; exact .bl b
  | .int i, _, h, _ => by cases h; exact .int i
  | .str x, _, h, _ => by cases h; exact .str x
  | .tup ds, _, h, p => by cases h with | tup hs ha => exact .tup hs (rep_dps ds _ ha p)
  | .lst ds, _, h, p => by cases h with | lst hs ha => exact .lst (SqL.of hs.2) (rep_dps ds _ ha p)
  | .ty _, _, _, p => by cases p
  | .ref _, _, _, p => by cases p
  | .bowl, _, _, p => by cases p
  | .scr _, _, _, p => by cases p
theorem rep_dps {K : PySem.W.Frag} {O : Om} {H : Hp} : ∀ (ds : List D) (vs : List V), RepA K O H vs ds → D.pures ds = true → DpAll K H vs (D.pds ds)
  | [], _, h, _ => by cases h; exact .nil
  | d :: ds, _, h, p => by
    cases h with
    | cons h1 h2 =>
      have p' : (d.pure && D.pures ds) = true := p
      rw [Bool.and_eq_true] at p'
      exact .cons (rep_dp d _ h1 p'.1) (rep_dps ds _ h2 p'.2)
end
theorem rep1_dp {K : PySem.W.Frag} {O : Om} {H : Hp} {d : D} {v : V} (h : Rep1 K O H v d) (p : d.pure = true) : Dp K H v d.pd := by
  rcases h with h | ⟨a, vs, ds, e1, e2, h, _, ha⟩
  · exact rep_dp d v h p
  · subst e1
    subst e2
    exact .lst (SqL.of h) (rep_dps ds _ ha p)
def D.eqOk (d : D) : Bool := d.pure && SeqAt.shaped d.pd
def D.eqv (d e : D) : Bool := PyData.eqv d.pd e.pd
def fEq : F2 := fun x y q => (x.eqOk = true ∧ y.eqOk = true) ∧ q (.bl (x.eqv y))
def fNe : F2 := fun x y q => (x.eqOk = true ∧ y.eqOk = true) ∧ q (.bl (!x.eqv y))
theorem eqOk_of {d : D} (h : d.eqOk = true) : d.pure = true ∧ SeqAt.shaped d.pd = true := by
  unfold D.eqOk at h
  rw [Bool.and_eq_true] at h
  exact h
theorem od_Eq : OpD G (rEqD G.K) fEq := fun O H σ ρ v u d e q Q R r1 r2 w k => by
  obtain ⟨⟨h1, h2⟩, w⟩ := w
  obtain ⟨p1, s1⟩ := eqOk_of h1
  obtain ⟨p2, s2⟩ := eqOk_of h2
  exact ⟨d.pd, e.pd, rep1_dp r1 p1, rep1_dp r2 p2, s1, s2, k O H _ _ (Ext.refl R.ok) (.bl _) w⟩
theorem od_Ne : OpD G (rNeD G.K) fNe := fun O H σ ρ v u d e q Q R r1 r2 w k => by
  obtain ⟨⟨h1, h2⟩, w⟩ := w
  obtain ⟨p1, s1⟩ := eqOk_of h1
  obtain ⟨p2, s2⟩ := eqOk_of h2
  exact ⟨d.pd, e.pd, rep1_dp r1 p1, rep1_dp r2 p2, s1, s2, k O H _ _ (Ext.refl R.ok) (.bl _) w⟩

/-! ### items -/
theorem atI_repA {K : PySem.W.Frag} {O : Om} {H : Hp} {vs : List V} {ds : List D} {i : Int} {d : D} (h : RepA K O H vs ds) (e : atI ds i = some d) : ∃ v, atI vs i = some v ∧ Rep K O H v d := by
  unfold atI at e ⊢
  rw [h.length]
  cases q : ixN ds.length i with
  | none => rw [q] at e; cases e
  | some j =>
    rw [q] at e
    obtain ⟨v, e1, r⟩ := RepA.get h e
    exact ⟨v, e1, r⟩
theorem atI_map {α β : Type} {f : α → β} {xs : List α} {i : Int} {x : α} (e : atI xs i = some x) : atI (xs.map f) i = some (f x) := by
  unfold atI at e ⊢
  rw [List.length_map]
  cases q : ixN xs.length i with
  | none => rw [q] at e; cases e
  | some j =>
    rw [q] at e
    show (xs.map f)[j]? = some (f x)
    rw [List.getElem?_map, show xs[j]? = some x from e]
    rfl
def fIx : F2 := fun x y q => match x, y with
  | .tup ds, .int i => ∃ d, atI ds i = some d ∧ q d
  | .lst ds, .int i => ∃ d, atI ds i = some d ∧ q d
  | .scr ns, .int i => ∃ n, atI ns i = some n ∧ q (.int n)
  | .str z, .int i => z.length ≤ sizeLine ∧ ∃ c, atI z.cps.toList i = some c ∧ q (.str ⟨#[c]⟩)
  | .bowl, .int i => 0 ≤ i ∧ i < 3 ∧ ∀ n : Int, q (.int n)
  | _, _ => False
theorem od_Ix : OpD G (rIx G.K) fIx := fun O H σ ρ v u d e q Q R r1 r2 w k => by
  unfold fIx at w
  split at w
  · obtain ⟨d, e, w⟩ := w
    obtain ⟨p, vs, e1, h1, a1⟩ := r1.tuple
    obtain ⟨v', e2, r'⟩ := atI_repA a1 e
    exact .inr (.inl ⟨p, vs, _, v', e1, r2.int, h1, e2, k O H _ _ (Ext.refl R.ok) r' w⟩)
  · obtain ⟨d, e, w⟩ := w
    obtain ⟨p, vs, e1, h1, a1⟩ := r1.list
    obtain ⟨v', e2, r'⟩ := atI_repA a1 e
    exact .inl ⟨p, vs, _, v', e1, r2.int, SqL.of h1, e2, k O H _ _ (Ext.refl R.ok) r' w⟩
  · obtain ⟨n, e, w⟩ := w
    rcases r1 with r1 | ⟨_, _, _, _, e2, _⟩
    · cases r1 with
      | scr hs => exact .inl ⟨_, _, _, _, rfl, r2.int, hs.sq, atI_map e, k O H _ _ (Ext.refl R.ok) (.int _) w⟩
    · cases e2
  · obtain ⟨hz, c, e, w⟩ := w
    exact .inr (.inr ⟨_, _, c, r1.str, r2.int, hz, e, k O H _ _ (Ext.refl R.ok) (.str _) w⟩)
  · rename_i i0
    obtain ⟨h0, h3, w⟩ := w
    rcases r1 with r1 | ⟨_, _, _, _, e2, _⟩
    · cases r1 with
      | bowl hb =>
        obtain ⟨i, j, l, e⟩ := R.ok.bow _ hb
        obtain ⟨n, hn⟩ : ∃ n, atI [V.int i, V.int j, V.int l] i0 = some (V.int n) := by
          obtain rfl | rfl | rfl : i0 = 0 ∨ i0 = 1 ∨ i0 = 2 := by omega
          · exact ⟨i, rfl⟩
          · exact ⟨j, rfl⟩
          · exact ⟨l, rfl⟩
        exact .inl ⟨_, _, _, _, rfl, r2.int, SqL.of e, hn, k O H _ _ (Ext.refl R.ok) (.int _) (w n)⟩
    · cases e2
  · exact w.elim
theorem de_ix {a b : Expr} {Wa Wb : WE} {pos : Pos} (hK : X.K = G.K) (ha : DB G X a Wa) (hb : DB G X b Wb) (hs : PlainIx b) : DE G X (.Subscript a b pos) (wOp fIx Wa Wb) :=
  PE_mono (pe_ix ix_seq ha hb hs) (by rw [hK]; exact tOpD od_Ix)

/-! ### slices -/
def cut {α : Type} (xs : List α) (lo hi : Option Int) : List α := (xs.drop (HT.sIx xs.length 0 lo)).take (HT.sIx xs.length xs.length hi - HT.sIx xs.length 0 lo)
theorem cut_repA {K : PySem.W.Frag} {O : Om} {H : Hp} {vs : List V} {ds : List D} {lo hi : Option Int} (h : RepA K O H vs ds) : RepA K O H (cutV vs lo hi) (cut ds lo hi) := by
  unfold cutV cut
  rw [h.length]
  exact (h.drop _).take _
theorem cut_map {α : Type} (f : α → V) (xs : List α) (lo hi : Option Int) : cutV (xs.map f) lo hi = (cut xs lo hi).map f := by
  unfold cutV cut
  rw [List.length_map, List.map_take, List.map_drop]
theorem cut_whole {α : Type} {xs : List α} {lo hi : Option Int} (h : HT.sIx xs.length 0 lo = 0 ∧ HT.sIx xs.length xs.length hi = xs.length) : cut xs lo hi = xs := by
  unfold cut
  rw [h.1, h.2]
  simp
abbrev FS := D → Option Int → Option Int → (D → Prop) → Prop
def fSl : FS := fun x lo hi q => match x with
  | .tup ds => q (.tup (cut ds lo hi))
  | .lst ds => q (.lst (cut ds lo hi))
  | .scr ns => q (.lst ((cut ns lo hi).map .int))
  | _ => False
abbrev WO := Env → (Option Int → Prop) → Prop
def tDO (G : Fx) (W : WO) : TO := fun σ H Q => ∃ O ρ q, EnvR G O H σ ρ ∧ W ρ q ∧ ∀ O' H' o, Ext O O' H H' → q o → Q o H'
abbrev DO (G : Fx) (X : Cx) (e : Option Expr) (W : WO) : Prop := PO X e (tDO G W)
def woNone : WO := fun _ q => q none
def woSome (W : WE) : WO := fun ρ q => W ρ fun d => match d with
  | .int i => q (some i)
  | _ => False
theorem PO_mono {e : Option Expr} {t t' : TO} (h : PO X e t) (k : ∀ σ H Q, t' σ H Q → t σ H Q) : PO X e t' := ⟨fun pins s σ H Q I w => h.run pins s σ H Q I (k σ H Q w)⟩
theorem do_none : DO G X none woNone := PO_mono po_none fun σ H Q ⟨O, ρ, q, R, w, k⟩ => k O H none (Ext.refl R.ok) w
theorem do_some {e : Expr} {W : WE} (h : DE G X e W) : DO G X (some e) (woSome W) := PO_mono (po_some h) fun σ H Q ⟨O, ρ, q, R, w, k⟩ => tD1 R w fun O1 H1 v d R1 x1 r1 w1 => by
  cases r1 with
  | int i => exact ⟨i, rfl, k O1 H1 _ x1 w1⟩
  | _ => exact w1.elim
def wSl (W : WE) (Wl Wh : WO) : WE := fun ρ q => W ρ fun d => Wl ρ fun l => Wh ρ fun h => fSl d l h q
theorem tDO1 {O : Om} {H : Hp} {σ : L2.St} {ρ : Env} {W : WO} {q : Option Int → Prop} {Q : Option Int → Hp → Prop} (R : EnvR G O H σ ρ) (w : W ρ q) (k : ∀ O' H' o, EnvR G O' H' σ ρ → Ext O O' H H' → q o → Q o H') : tDO G W σ H Q :=
  ⟨O, ρ, q, R, w, fun O' H' o x h => k O' H' o (R.step x) x h⟩
theorem de_slice {e : Expr} {lo hi : Option Expr} {W : WE} {Wl Wh : WO} {p2 pos : Pos} (hK : X.K = G.K) (he : DB G X e W) (hl : DO G X lo Wl) (hh : DO G X hi Wh) : DE G X (.Subscript e (.Slice lo hi none p2) pos) (wSl W Wl Wh) :=
  PE_mono (pe_slice (sl_list.or sl_tupA) he hl hh) fun σ H Q ⟨O, ρ, q, R, w, k⟩ => tDB1 R w fun O1 H1 v d R1 x1 r1 w1 => tDO1 R1 w1 fun O2 H2 l R2 x2 w2 => tDO1 R2 w2 fun O3 H3 h R3 x3 w3 => by
    have x := (x1.trans R.ok x2).trans R.ok x3
    have r3 := (r1.step R1.ok x2).step R2.ok x3
    rw [hK]
    unfold fSl at w3
    split at w3
    · rename_i ds
      obtain ⟨p, vs, e1, h1, a1⟩ := r3.tuple
      refine .inr ⟨p, vs, e1, h1, fun z => ?_, fun _ l' hl' => ?_⟩
      · rw [a1.length] at z
        rw [cut_whole z] at w3
        exact k O3 H3 _ _ x (.tup h1 a1) w3
      · obtain ⟨y, r⟩ := lay_tup R3 (cut_repA (lo := l) (hi := h) a1) hl'
        exact k _ _ _ _ (x.trans R.ok y) r w3
    · rename_i ds
      obtain ⟨p, vs, e1, h1, a1⟩ := r3.list
      refine .inl ⟨p, vs, e1, SqL.of h1, fun l' hl' => ?_⟩
      obtain ⟨y, r⟩ := lay_lst R3 (cut_repA (lo := l) (hi := h) a1) hl'
      exact k _ _ _ _ (x.trans R.ok y) r w3
    · rename_i ns
      rcases r3 with r3 | ⟨_, _, _, _, e2, _⟩
      · cases r3 with
        | scr hs =>
          refine .inl ⟨_, _, rfl, hs.sq, fun l' hl' => ?_⟩
          rw [cut_map]
          have ra : ∀ zs : List Int, RepA G.K O3 H3 (zs.map V.int) (zs.map D.int) := fun zs => by
            induction zs with
            | nil => exact .nil
            | cons z zs ih => exact .cons (.int z) ih
          obtain ⟨y, r⟩ := lay_lst R3 (ra (cut ns l h)) hl'
          exact k _ _ _ _ (x.trans R.ok y) r w3
      · cases e2
    · exact w3.elim

/-! ### built-in functions -/
def CallD (G : Fx) (r : List V → Hp → VK → Prop) (f : FL) : Prop := ∀ (O : Om) (H : Hp) (σ : L2.St) (ρ : Env) (vs : List V) (ds : List D) (q : D → Prop) (Q : VK), EnvR G O H σ ρ → Rep1A G.K O H vs ds → f ds q →
  (∀ O' H' w c, Ext O O' H H' → Rep G.K O' H' w c → q c → Q w H') → r vs H Q
def wCB (f : FL) (WL : WA) : WE := fun ρ q => WL ρ fun ds => f ds q
theorem tCBD {r : List V → Hp → VK → Prop} {f : FL} {WL : WA} (hf : CallD G r f) : ∀ σ H Q, tD G (wCB f WL) σ H Q → tCB r (tDAB G WL) σ H Q := fun σ H Q ⟨O, ρ, q, R, w, k⟩ =>
  tDAB1 R w fun O1 H1 vs ds R1 x1 r1 w1 => hf O1 H1 σ ρ vs ds q Q R1 r1 w1 fun O2 H2 w2 c x2 r2 q2 => k O2 H2 w2 c (x1.trans R.ok x2) r2 q2
theorem de_callB {x : Str} {id : String} {r : List V → Hp → VK → Prop} {f : FL} {e : Expr} {es : List Expr} {WL : WA} {p pos : Pos} (hc : CallR X (.builtin id) r) (hf : CallD G r f) (hg : Gl X x) (hm : X.mg x = none) (hv : bootBuiltins x = some (.builtin id)) (ha : DAB G X (e :: es) WL)
    (hn : x ≠ "__name__" := by decide) (hdb : (x == ("__debug__" : Str)) = false := by decide) (he : starEach (e :: es) X.env = (false, eval e X.env) :: starEach es X.env := by rfl) (hpl : (backTo pos (starEach es X.env)).any (·.1) = false := by rfl) :
    DE G X (.Call (.Name x p) (e :: es) [] pos) (wCB f WL) := PE_mono (pe_callB hc hg hm hv ha hn hdb he hpl) (tCBD hf)
theorem de_callTy {x : Str} {id : String} {r : List V → Hp → VK → Prop} {f : FL} {e : Expr} {es : List Expr} {WL : WA} {p pos : Pos} (hc : CallR X (.type id) r) (hf : CallD G r f) (hg : Gl X x) (hm : X.mg x = none) (hv : bootBuiltins x = some (.type id)) (ha : DAB G X (e :: es) WL)
    (hn : x ≠ "__name__" := by decide) (hdb : (x == ("__debug__" : Str)) = false := by decide) (he : starEach (e :: es) X.env = (false, eval e X.env) :: starEach es X.env := by rfl) (hpl : (backTo pos (starEach es X.env)).any (·.1) = false := by rfl) :
    DE G X (.Call (.Name x p) (e :: es) [] pos) (wCB f WL) := PE_mono (pe_callTy hc hg hm hv ha hn hdb he hpl) (tCBD hf)

def fLen : FL := fun ds q => match ds with
  | [.tup a] => q (.int a.length)
  | [.lst a] => q (.int a.length)
  | [.scr a] => q (.int a.length)
  | [.str a] => a.length ≤ sizeLine ∧ q (.int a.length)
  | _ => False
theorem rep1A_1 {K : PySem.W.Frag} {O : Om} {H : Hp} {vs : List V} {d : D} (h : Rep1A K O H vs [d]) : ∃ v, vs = [v] ∧ Rep1 K O H v d := by
  cases h with
  | cons h t => cases t; exact ⟨_, rfl, h⟩
theorem rep1A_2 {K : PySem.W.Frag} {O : Om} {H : Hp} {vs : List V} {d e : D} (h : Rep1A K O H vs [d, e]) : ∃ v u, vs = [v, u] ∧ Rep1 K O H v d ∧ Rep1 K O H u e := by
  cases h with
  | cons h t =>
    obtain ⟨u, rfl, h2⟩ := rep1A_1 t
    exact ⟨_, _, rfl, h, h2⟩
theorem cd_len (hK : X.K = G.K) : CallD G (fun xs H Q => ∃ x n, xs = [x] ∧ LenV X.K x H n ∧ Q (.int n) H) fLen := fun O H σ ρ vs ds q Q R ra w k => by
  rw [hK]
  unfold fLen at w
  split at w
  · obtain ⟨v, rfl, r⟩ := rep1A_1 ra
    obtain ⟨p, us, e1, h1, a1⟩ := r.tuple
    subst e1
    exact ⟨_, us.length, rfl, .inr ⟨us, h1, rfl⟩, by rw [a1.length]; exact k O H _ _ (Ext.refl R.ok) (.int _) w⟩
  · obtain ⟨v, rfl, r⟩ := rep1A_1 ra
    obtain ⟨p, us, e1, h1, a1⟩ := r.list
    subst e1
    exact ⟨_, us.length, rfl, .inl ⟨us, SqL.of h1, rfl⟩, by rw [a1.length]; exact k O H _ _ (Ext.refl R.ok) (.int _) w⟩
  · rename_i a
    obtain ⟨v, rfl, r⟩ := rep1A_1 ra
    rcases r with r | ⟨_, _, _, _, e2, _⟩
    · cases r with
      | scr hs => exact ⟨_, a.length, rfl, .inl ⟨_, hs.sq, by rw [List.length_map]⟩, k O H _ _ (Ext.refl R.ok) (.int _) w⟩
    · cases e2
  · rename_i a
    obtain ⟨v, rfl, r⟩ := rep1A_1 ra
    exact ⟨_, a.length, rfl, by rw [r.str]; exact ⟨w.1, rfl⟩, k O H _ _ (Ext.refl R.ok) (.int _) w.2⟩
  · exact w.elim
def fAbs : FL := fun ds q => match ds with
  | [.int i] => q (.int (if i < 0 then -i else i))
  | _ => False
theorem cd_abs : CallD G (fun xs H Q => ∃ i, xs = [.int i] ∧ Q (.int (if i < 0 then -i else i)) H) fAbs := fun O H σ ρ vs ds q Q R ra w k => by
  unfold fAbs at w
  split at w
  · obtain ⟨v, rfl, r⟩ := rep1A_1 ra
    exact ⟨_, by rw [r.int], k O H _ _ (Ext.refl R.ok) (.int _) w⟩
  · exact w.elim
def fInt : FL := fun ds q => match ds with
  | [.int i] => q (.int i)
  | [.bl b] => q (.int (if b then 1 else 0))
  | _ => False
theorem cd_int : CallD G (fun xs H Q => (∃ i, xs = [.int i] ∧ Q (.int i) H) ∨ ∃ k, xs = [.bl k] ∧ Q (.int (if k then 1 else 0)) H) fInt := fun O H σ ρ vs ds q Q R ra w k => by
  unfold fInt at w
  split at w
  · obtain ⟨v, rfl, r⟩ := rep1A_1 ra
    exact .inl ⟨_, by rw [r.int], k O H _ _ (Ext.refl R.ok) (.int _) w⟩
  · obtain ⟨v, rfl, r⟩ := rep1A_1 ra
    exact .inr ⟨_, by rw [r.bl], k O H _ _ (Ext.refl R.ok) (.int _) w⟩
  · exact w.elim
def maxI (i j : Int) : Int := if j > i then j else i
def minI (i j : Int) : Int := if j < i then j else i
/-- of a list of ints; of two -/
def fMax : FL := fun ds q => match ds with
  | [.int i, .int j] => q (.int (maxI i j))
  | [.lst a] => ∃ ns : List Int, a = ns.map .int ∧ 0 < ns.length ∧ ∀ m, m ∈ ns → (∀ y, y ∈ ns → y ≤ m) → q (.int m)
  | _ => False
def fMin : FL := fun ds q => match ds with
  | [.int i, .int j] => q (.int (minI i j))
  | [.lst a] => ∃ ns : List Int, a = ns.map .int ∧ 0 < ns.length ∧ ∀ m, m ∈ ns → (∀ y, y ∈ ns → m ≤ y) → q (.int m)
  | _ => False
theorem cr_Max (hc : X.calm = true) : CallR X (.builtin "max") (fun xs H Q => (∃ i j, xs = [.int i, .int j] ∧ Q (.int (if j > i then j else i)) H) ∨ rMax X.K xs H Q) := cr_or2 (call_max2 hc) (cr_max hc)
theorem cr_Min (hc : X.calm = true) : CallR X (.builtin "min") (fun xs H Q => (∃ i j, xs = [.int i, .int j] ∧ Q (.int (if j < i then j else i)) H) ∨ rMin X.K xs H Q) := cr_or2 (call_min2 hc) (cr_min hc)
theorem cd_max (hK : X.K = G.K) : CallD G (fun xs H Q => (∃ i j, xs = [.int i, .int j] ∧ Q (.int (if j > i then j else i)) H) ∨ rMax X.K xs H Q) fMax := fun O H σ ρ vs ds q Q R ra w k => by
  rw [hK]
  unfold fMax at w
  split at w
  · obtain ⟨v, u, rfl, r1, r2⟩ := rep1A_2 ra
    exact .inl ⟨_, _, by rw [r1.int, r2.int], k O H _ _ (Ext.refl R.ok) (.int _) w⟩
  · obtain ⟨v, rfl, r⟩ := rep1A_1 ra
    obtain ⟨ns, e, hl, w⟩ := w
    subst e
    obtain ⟨p, us, e1, h1, a1⟩ := r.list
    subst e1
    rw [a1.ints] at h1
    exact .inr ⟨p, ns, rfl, SqL.of h1, hl, fun m m1 m2 => k O H _ _ (Ext.refl R.ok) (.int _) (w m m1 m2)⟩
  · exact w.elim
theorem cd_min (hK : X.K = G.K) : CallD G (fun xs H Q => (∃ i j, xs = [.int i, .int j] ∧ Q (.int (if j < i then j else i)) H) ∨ rMin X.K xs H Q) fMin := fun O H σ ρ vs ds q Q R ra w k => by
  rw [hK]
  unfold fMin at w
  split at w
  · obtain ⟨v, u, rfl, r1, r2⟩ := rep1A_2 ra
    exact .inl ⟨_, _, by rw [r1.int, r2.int], k O H _ _ (Ext.refl R.ok) (.int _) w⟩
  · obtain ⟨v, rfl, r⟩ := rep1A_1 ra
    obtain ⟨ns, e, hl, w⟩ := w
    subst e
    obtain ⟨p, us, e1, h1, a1⟩ := r.list
    subst e1
    rw [a1.ints] at h1
    exact .inr ⟨p, ns, rfl, SqL.of h1, hl, fun m m1 m2 => k O H _ _ (Ext.refl R.ok) (.int _) (w m m1 m2)⟩
  · exact w.elim
/-- sum of a list, of a tuple of ints -/
theorem cr_sumT (hc : X.calm = true) : CallR X (.builtin "sum") (fun vs H Q => ∃ (a : Addr) (ns : List Int), vs = [V.ref a] ∧ SqT X.K H a (ns.map V.int) ∧ Q (.int ns.sum) H) := by
  intro pins s σ H vs us Q I r h
  obtain ⟨a, ns, rfl, hs, q⟩ := h
  obtain ⟨its, rv, ht, _⟩ := I.tuple hs
  rw [Vals.ref1 r]
  have hi : IntsAre its ns := rv.ints
  obtain ⟨xs, e⟩ := hi.allInts.items
  have hn : numsOf (intItems xs).toList = ns := by rw [← e]; exact hi.numsOf
  rw [nums_intItems] at hn
  have ht' : s.heap.IsTuple a its.toArray := ht
  rw [e] at ht'
  refine PySem.W.ktm_sumG (I.ok.hd hc) ht' fun h' tk t' hk => ?_
  have e2 : preSum (numAt xs) xs.size = ns.sum := by
    rw [preSum_eq, List.take_of_length_le (by simp)]
    exact congrArg List.sum hn
  rw [e2]
  exact ⟨.int _, H, I.kept hk, ⟨_, rfl⟩, q⟩
theorem cr_Sum (hc : X.calm = true) : CallR X (.builtin "sum") (fun vs H Q => rSum X.K vs H Q ∨ ∃ (a : Addr) (ns : List Int), vs = [V.ref a] ∧ SqT X.K H a (ns.map V.int) ∧ Q (.int ns.sum) H) := cr_or2 (cr_sum hc) (cr_sumT hc)
def fSum : FL := fun ds q => match ds with
  | [.lst a] => ∃ ns : List Int, a = ns.map .int ∧ q (.int ns.sum)
  | [.tup a] => ∃ ns : List Int, a = ns.map .int ∧ q (.int ns.sum)
  | _ => False
theorem cd_sum (hK : X.K = G.K) : CallD G (fun vs H Q => rSum X.K vs H Q ∨ ∃ (a : Addr) (ns : List Int), vs = [V.ref a] ∧ SqT X.K H a (ns.map V.int) ∧ Q (.int ns.sum) H) fSum := fun O H σ ρ vs ds q Q R ra w k => by
  rw [hK]
  unfold fSum at w
  split at w
  · obtain ⟨v, rfl, r⟩ := rep1A_1 ra
    obtain ⟨ns, e, w⟩ := w
    subst e
    obtain ⟨p, us, e1, h1, a1⟩ := r.list
    subst e1
    rw [a1.ints] at h1
    exact .inl ⟨p, ns, rfl, SqL.of h1, k O H _ _ (Ext.refl R.ok) (.int _) w⟩
  · obtain ⟨v, rfl, r⟩ := rep1A_1 ra
    obtain ⟨ns, e, w⟩ := w
    subst e
    obtain ⟨p, us, e1, h1, a1⟩ := r.tuple
    subst e1
    rw [a1.ints] at h1
    exact .inr ⟨p, ns, rfl, h1, k O H _ _ (Ext.refl R.ok) (.int _) w⟩
  · exact w.elim
def fAll : FL := fun ds q => match ds with
  | [.lst a] => ∃ bs : List Bool, a = bs.map .bl ∧ q (.bl (bs.all id))
  | _ => False
def fAny : FL := fun ds q => match ds with
  | [.lst a] => ∃ bs : List Bool, a = bs.map .bl ∧ q (.bl (bs.any id))
  | _ => False
theorem cd_all (hK : X.K = G.K) : CallD G (rAll X.K) fAll := fun O H σ ρ vs ds q Q R ra w k => by
  rw [hK]
  unfold fAll at w
  split at w
  · obtain ⟨v, rfl, r⟩ := rep1A_1 ra
    obtain ⟨ns, e, w⟩ := w
    subst e
    obtain ⟨p, us, e1, h1, a1⟩ := r.list
    subst e1
    rw [a1.bls] at h1
    exact ⟨p, ns, rfl, SqL.of h1, k O H _ _ (Ext.refl R.ok) (.bl _) w⟩
  · exact w.elim
theorem cd_any (hK : X.K = G.K) : CallD G (rAny X.K) fAny := fun O H σ ρ vs ds q Q R ra w k => by
  rw [hK]
  unfold fAny at w
  split at w
  · obtain ⟨v, rfl, r⟩ := rep1A_1 ra
    obtain ⟨ns, e, w⟩ := w
    subst e
    obtain ⟨p, us, e1, h1, a1⟩ := r.list
    subst e1
    rw [a1.bls] at h1
    exact ⟨p, ns, rfl, SqL.of h1, k O H _ _ (Ext.refl R.ok) (.bl _) w⟩
  · exact w.elim
/-- tuple(xs), list(xs) -/
def fTuple : FL := fun ds q => match ds with
  | [.lst a] => q (.tup a)
  | [.tup a] => q (.tup a)
  | _ => False
def fList : FL := fun ds q => match ds with
  | [.lst a] => q (.lst a)
  | [.tup a] => q (.lst a)
  | _ => False
theorem cd_tuple (hK : X.K = G.K) : CallD G (fun xs H Q => ∃ p ys, xs = [.ref p] ∧ ((SqL X.K H p ys ∧ ∀ l, H l = none → Q (.ref l) (upd H l (.tup ys))) ∨ (SqT X.K H p ys ∧ Q (.ref p) H))) fTuple := fun O H σ ρ vs ds q Q R ra w k => by
  rw [hK]
  unfold fTuple at w
  split at w
  · obtain ⟨v, rfl, r⟩ := rep1A_1 ra
    obtain ⟨p, us, e1, h1, a1⟩ := r.list
    subst e1
    refine ⟨p, us, rfl, .inl ⟨SqL.of h1, fun l hl => ?_⟩⟩
    obtain ⟨x, r'⟩ := lay_tup R a1 hl
    exact k _ _ _ _ x r' w
  · obtain ⟨v, rfl, r⟩ := rep1A_1 ra
    obtain ⟨p, us, e1, h1, a1⟩ := r.tuple
    subst e1
    exact ⟨p, us, rfl, .inr ⟨h1, k O H _ _ (Ext.refl R.ok) (.tup h1 a1) w⟩⟩
  · exact w.elim
theorem cd_list (hK : X.K = G.K) : CallD G (fun xs H Q => ∃ p ys, xs = [.ref p] ∧ (SqL X.K H p ys ∨ SqT X.K H p ys) ∧ ∀ l, H l = none → Q (.ref l) (upd H l (.lst ys))) fList := fun O H σ ρ vs ds q Q R ra w k => by
  rw [hK]
  unfold fList at w
  split at w
  · obtain ⟨v, rfl, r⟩ := rep1A_1 ra
    obtain ⟨p, us, e1, h1, a1⟩ := r.list
    subst e1
    refine ⟨p, us, rfl, .inl (SqL.of h1), fun l hl => ?_⟩
    obtain ⟨x, r'⟩ := lay_lst R a1 hl
    exact k _ _ _ _ x r' w
  · obtain ⟨v, rfl, r⟩ := rep1A_1 ra
    obtain ⟨p, us, e1, h1, a1⟩ := r.tuple
    subst e1
    refine ⟨p, us, rfl, .inr h1, fun l hl => ?_⟩
    obtain ⟨x, r'⟩ := lay_lst R a1 hl
    exact k _ _ _ _ x r' w
  · exact w.elim

/-! ### isinstance -/
/-- the name of the built-in class of a value -/
def D.tyName : D → Option String
  | .non => some "NoneType"
  | .bl _ => some "bool"
  | .int _ => some "int"
  | .str _ => some "str"
  | .tup _ => some "tuple"
  | .lst _ => some "list"
  | _ => none
def fIsi : FL := fun ds q => match ds with
  | [x, .ty n] => ∃ t b, x.tyName = some t ∧ kitB t n = some b ∧ q (.bl b)
  | _ => False
theorem cd_isi (hK : X.K = G.K) : CallD G (rIsi X.K) fIsi := fun O H σ ρ vs ds q Q R ra w k => by
  rw [hK]
  unfold fIsi at w
  split at w
  · rename_i x n
    obtain ⟨v, u, rfl, r1, r2⟩ := rep1A_2 ra
    obtain ⟨t, b, et, hk, w⟩ := w
    have eu : u = .ty n := by
      rcases r2 with r2 | ⟨_, _, _, _, e2, _⟩
      · cases r2; rfl
      · cases e2
    subst eu
    have ty : TyX G.K H v (.type t) := by
      cases x with
      | non => cases et; rw [r1.non]; exact .base .non
      | bl b => cases et; rw [r1.bl]; exact .base (.bl _)
      | int i => cases et; rw [r1.int]; exact .base (.int _)
      | str z => cases et; rw [r1.str]; exact .base (.str _)
      | tup a =>
        cases et
        obtain ⟨p, us, e1, h1, a1⟩ := r1.tuple
        subst e1
        rcases h1 with (h1 | ⟨o, h1⟩) | ⟨o, its, n', h1, h2, _⟩
        · exact .base (.tup h1)
        · exact .fTuple h1
        · exact .kTuple h1 h2
      | lst a =>
        cases et
        obtain ⟨p, us, e1, h1, a1⟩ := r1.list
        subst e1
        exact .base (.lst h1)
      | _ => cases et
    exact ⟨v, .ty n, .type t, .type n, b, rfl, .ty n, ty, kit_ty hk, k O H _ _ (Ext.refl R.ok) (.bl _) w⟩
  · exact w.elim
end
end DL
set_option Elab.async false
set_option linter.all false
set_option maxRecDepth 100000
set_option maxHeartbeats 4000000
/-! DL4: statements, loops, comprehensions. -/
namespace DL
open PySem PySem.Spec PyProof.Rows L2

section
variable {G : Fx} {X : Cx} {O O1 O2 O' : Om} {H H1 H2 H' : Hp} {σ σ' : L2.St} {ρ ρ' : Env}

/-! ### the slots change -/
theorem getset {α : Type} {l : List α} {i j : Nat} {x y : α} (h : (l.set i x)[j]? = some y) : (j = i ∧ y = x) ∨ (j ≠ i ∧ l[j]? = some y) := by
  by_cases e : j = i
  · subst e
    rw [List.getElem?_set_self' ] at h
    cases q : l[j]? with
    | none => rw [q] at h; cases h
    | some z => rw [q] at h; cases h; exact .inl ⟨rfl, rfl⟩
  · rw [List.getElem?_set_ne (Ne.symm e)] at h
    exact .inr ⟨e, h⟩
theorem setget {α : Type} {l : List α} {i : Nat} {x y : α} (h : (l.set i x)[i]? = some y) : y = x := (getset h).elim (fun z => z.2) fun z => absurd rfl z.1
theorem EnvR.lt (R : EnvR G O H σ ρ) {i : Nat} {x : Option Slot} (h : ρ[i]? = some x) : i < σ.length := by
  rw [← R.len]
  exact (List.getElem?_eq_some_iff.mp h).1
theorem EnvR.set (R : EnvR G O H σ ρ) {v : V} {d : D} (i : Nat) (r : Rep G.K O H v d) : EnvR G O H (σ.set i (some v)) (ρ.set i (some (.val d))) where
  ok0 := R.ok0
  ext := R.ext
  len := by rw [List.length_set, List.length_set]; exact R.len
  val := fun j e h => by
    rcases getset h with ⟨rfl, z⟩ | ⟨ne, h⟩
    · cases z
      have hl : j < σ.length := by
        have := (List.getElem?_eq_some_iff.mp h).1
        rw [List.length_set, R.len] at this
        exact this
      exact ⟨v, List.getElem?_set_self hl, r⟩
    · obtain ⟨w, h1, h2⟩ := R.val j e h
      exact ⟨w, by rw [List.getElem?_set_ne (Ne.symm ne)]; exact h1, h2⟩
  own := fun j ds h => by
    rcases getset h with ⟨rfl, z⟩ | ⟨ne, h⟩
    · cases z
    · obtain ⟨a, vs, h1, h2⟩ := R.own j ds h
      exact ⟨a, vs, by rw [List.getElem?_set_ne (Ne.symm ne)]; exact h1, h2⟩
  apart := fun j j' di dj a h h' s s' => by
    rcases getset h with ⟨rfl, z⟩ | ⟨ne, h⟩
    · cases z
    rcases getset h' with ⟨rfl, z⟩ | ⟨ne', h'⟩
    · cases z
    rw [List.getElem?_set_ne (Ne.symm ne)] at s
    rw [List.getElem?_set_ne (Ne.symm ne')] at s'
    exact R.apart j j' di dj a h h' s s'
  own2 := fun j dss h => by
    rcases getset h with ⟨rfl, z⟩ | ⟨ne, h⟩
    · cases z
    · obtain ⟨a, as, h1, h2⟩ := R.own2 j dss h
      exact ⟨a, as, by rw [List.getElem?_set_ne (Ne.symm ne)]; exact h1, h2⟩
  apart2 := fun j j' dss dj a b as h h' s hh s' => by
    rcases getset h with ⟨rfl, z⟩ | ⟨ne, h⟩
    · cases z
    rcases getset h' with ⟨rfl, z⟩ | ⟨ne', h'⟩
    · cases z
    rw [List.getElem?_set_ne (Ne.symm ne)] at s
    rw [List.getElem?_set_ne (Ne.symm ne')] at s'
    exact R.apart2 j j' dss dj a b as h h' s hh s'
  uniq2 := fun j j' di dj h h' => by
    rcases getset h with ⟨rfl, z⟩ | ⟨ne, h⟩
    · cases z
    rcases getset h' with ⟨rfl, z⟩ | ⟨ne', h'⟩
    · cases z
    exact R.uniq2 j j' di dj h h'
theorem EnvR.unset (R : EnvR G O H σ ρ) (i : Nat) (x : Option V) : EnvR G O H (σ.set i x) (ρ.set i none) where
  ok0 := R.ok0
  ext := R.ext
  len := by rw [List.length_set, List.length_set]; exact R.len
  val := fun j e h => by
    rcases getset h with ⟨rfl, z⟩ | ⟨ne, h⟩
    · cases z
    · obtain ⟨w, h1, h2⟩ := R.val j e h
      exact ⟨w, by rw [List.getElem?_set_ne (Ne.symm ne)]; exact h1, h2⟩
  own := fun j ds h => by
    rcases getset h with ⟨rfl, z⟩ | ⟨ne, h⟩
    · cases z
    · obtain ⟨a, vs, h1, h2⟩ := R.own j ds h
      exact ⟨a, vs, by rw [List.getElem?_set_ne (Ne.symm ne)]; exact h1, h2⟩
  apart := fun j j' di dj a h h' s s' => by
    rcases getset h with ⟨rfl, z⟩ | ⟨ne, h⟩
    · cases z
    rcases getset h' with ⟨rfl, z⟩ | ⟨ne', h'⟩
    · cases z
    rw [List.getElem?_set_ne (Ne.symm ne)] at s
    rw [List.getElem?_set_ne (Ne.symm ne')] at s'
    exact R.apart j j' di dj a h h' s s'
  own2 := fun j dss h => by
    rcases getset h with ⟨rfl, z⟩ | ⟨ne, h⟩
    · cases z
    · obtain ⟨a, as, h1, h2⟩ := R.own2 j dss h
      exact ⟨a, as, by rw [List.getElem?_set_ne (Ne.symm ne)]; exact h1, h2⟩
  apart2 := fun j j' dss dj a b as h h' s hh s' => by
    rcases getset h with ⟨rfl, z⟩ | ⟨ne, h⟩
    · cases z
    rcases getset h' with ⟨rfl, z⟩ | ⟨ne', h'⟩
    · cases z
    rw [List.getElem?_set_ne (Ne.symm ne)] at s
    rw [List.getElem?_set_ne (Ne.symm ne')] at s'
    exact R.apart2 j j' dss dj a b as h h' s hh s'
  uniq2 := fun j j' di dj h h' => by
    rcases getset h with ⟨rfl, z⟩ | ⟨ne, h⟩
    · cases z
    rcases getset h' with ⟨rfl, z⟩ | ⟨ne', h'⟩
    · cases z
    exact R.uniq2 j j' di dj h h'
/-- a list of this def's own at slot i -/
theorem EnvR.setOwn (R : EnvR G O H σ ρ) {a : Addr} {vs : List V} {ds : List D} (i : Nat) (h1 : H a = some (.lst vs)) (h2 : RepA G.K O H vs ds) (h3 : ¬ O.F a) (h4 : ¬ O.Bo a) (h5 : NT (G.H0 a))
    (ne : ∀ (j : Nat) (dj : List D), j ≠ i → ρ[j]? = some (some (.own dj)) → σ[j]? ≠ some (some (.ref a)))
    (ne2 : ∀ (j : Nat) (dss : List (List D)) (b : Addr) (as : List Addr), j ≠ i → ρ[j]? = some (some (.own2 dss)) → σ[j]? = some (some (.ref b)) → H b = some (.lst (as.map V.ref)) → a ∉ b :: as) : EnvR G O H (σ.set i (some (.ref a))) (ρ.set i (some (.own ds))) where
  ok0 := R.ok0
  ext := R.ext
  len := by rw [List.length_set, List.length_set]; exact R.len
  val := fun j e h => by
    rcases getset h with ⟨rfl, z⟩ | ⟨ne, h⟩
    · cases z
    · obtain ⟨w, h1, h2⟩ := R.val j e h
      exact ⟨w, by rw [List.getElem?_set_ne (Ne.symm ne)]; exact h1, h2⟩
  own := fun j es h => by
    rcases getset h with ⟨rfl, z⟩ | ⟨ne, h⟩
    · cases z
      have hl : j < σ.length := by
        have := (List.getElem?_eq_some_iff.mp h).1
        rw [List.length_set, R.len] at this
        exact this
      exact ⟨a, vs, List.getElem?_set_self hl, h1, h2, h3, h4, h5⟩
    · obtain ⟨b, us, k1, k2⟩ := R.own j es h
      exact ⟨b, us, by rw [List.getElem?_set_ne (Ne.symm ne)]; exact k1, k2⟩
  apart := fun j j' di dj b h h' s s' => by
    rcases getset h with ⟨z1, z⟩ | ⟨ne1, g⟩
    · rcases getset h' with ⟨z2, z'⟩ | ⟨ne2, g'⟩
      · rw [z1, z2]
      · rw [z1] at s
        have eb := setget s
        cases eb
        rw [List.getElem?_set_ne (Ne.symm ne2)] at s'
        exact absurd s' (ne j' dj ne2 g')
    · rcases getset h' with ⟨z2, z'⟩ | ⟨ne2, g'⟩
      · rw [z2] at s'
        have eb := setget s'
        cases eb
        rw [List.getElem?_set_ne (Ne.symm ne1)] at s
        exact absurd s (ne j di ne1 g)
      · rw [List.getElem?_set_ne (Ne.symm ne1)] at s
        rw [List.getElem?_set_ne (Ne.symm ne2)] at s'
        exact R.apart j j' di dj b g g' s s'
  own2 := fun j dss h => by
    rcases getset h with ⟨rfl, z⟩ | ⟨ne, h⟩
    · cases z
    · obtain ⟨b, as, h1, h2⟩ := R.own2 j dss h
      exact ⟨b, as, by rw [List.getElem?_set_ne (Ne.symm ne)]; exact h1, h2⟩
  apart2 := fun j j' dss dj b b' as h h' s hh s' => by
    rcases getset h with ⟨rfl, z⟩ | ⟨ne1, h⟩
    · cases z
    rw [List.getElem?_set_ne (Ne.symm ne1)] at s
    rcases getset h' with ⟨z1, z⟩ | ⟨ne', h'⟩
    · rw [z1] at s'
      have eb := setget s'
      cases eb
      exact ne2 j dss b as ne1 h s hh
    · rw [List.getElem?_set_ne (Ne.symm ne')] at s'
      exact R.apart2 j j' dss dj b b' as h h' s hh s'
  uniq2 := fun j j' di dj h h' => by
    rcases getset h with ⟨rfl, z⟩ | ⟨ne, h⟩
    · cases z
    rcases getset h' with ⟨rfl, z⟩ | ⟨ne', h'⟩
    · cases z
    exact R.uniq2 j j' di dj h h'
/-- what was no list before is none of the lists of lists -/
theorem EnvR.off2 (R : EnvR G O H σ ρ) (x : Ext O O' H H') {a : Addr} (hn : NT (H a)) {j : Nat} {dss : List (List D)} {b : Addr} {as : List Addr} (h : ρ[j]? = some (some (.own2 dss))) (s : σ[j]? = some (some (.ref b))) (hh : H' b = some (.lst (as.map V.ref))) : a ∉ b :: as := fun hm => by
  obtain ⟨b0, as0, h1, h2, h3, h4, h5⟩ := R.own2 j dss h
  rw [h1] at s
  cases s
  rw [lst_inj hh (x.same _ _ (h4 _ List.mem_cons_self).2.1 (fun ps z => by cases z) h2)] at hm
  obtain ⟨vs, e⟩ : ∃ vs, H a = some (.lst vs) := by
    rcases List.mem_cons.mp hm with rfl | hb
    · exact ⟨_, h2⟩
    · exact h5.lists a hb
  rw [e] at hn
  exact nt_not (fun ps z => by cases z) hn
/-- an own list is written -/
theorem EnvR.write (R : EnvR G O H σ ρ) {i : Nat} {a : Addr} {ds es : List D} {us : List V} (hi : ρ[i]? = some (some (.own ds))) (ha : σ[i]? = some (some (.ref a))) (h2 : RepA G.K O H us es) :
    EnvR G O (upd H a (.lst us)) σ (ρ.set i (some (.own es))) ∧ Keep O O H (upd H a (.lst us)) := by
  obtain ⟨a', vs, k1, k2, k3, k4, k5, k6⟩ := R.own i ds hi
  rw [ha] at k1
  cases k1
  have kp : Keep O O H (upd H a (.lst us)) := {
    bo := fun _ h => h
    up := fun _ h => h
    lst := fun b vs f e => by rw [upd_ne (fun z => k4 (by rw [← z]; exact f))]; exact e
    tup := fun b vs e => by rw [upd_ne (fun z => by rw [z, k2] at e; cases e)]; exact e
    frz := fun b o u e => by rw [upd_ne (fun z => by rw [z, k2] at e; cases e)]; exact e
    ext := fun b f e => by rw [upd_ne (fun z => by rw [z, k2] at e; cases e)]; exact e }
  have okn : Ok O (upd H a (.lst us)) := {
    tabs := fun p hp => by
      obtain ⟨ps, t1, t2, t3⟩ := R.ok.tabs p hp
      refine ⟨ps, by rw [upd_ne (fun z => by rw [z, k2] at t1; cases t1)]; exact t1, t2, fun pos cv hc => ?_⟩
      obtain ⟨c, c1, c2⟩ := t3 pos cv hc
      exact ⟨c, c1, by rw [upd_ne (fun z => by rw [z, k2] at c2; exact absurd (Option.some.inj c2).symm (fun q => by unfold LamX.CodeO at q; cases q))]; exact c2⟩
    bow := fun b hb => by
      obtain ⟨x, y, z, e⟩ := R.ok.bow b hb
      exact ⟨x, y, z, by rw [upd_ne (fun q => k5 (by rw [← q]; exact hb))]; exact e⟩
    fb := R.ok.fb
    ft := fun b f => by rw [upd_ne (fun z => k4 (by rw [← z]; exact f))]; exact R.ok.ft b f }
  have ex : Ext G.O0 O G.H0 (upd H a (.lst us)) := {
    bo := R.ext.bo
    tt := R.ext.tt
    same := fun b o hb ht e => by
      have q := R.ext.same b o hb ht e
      rw [upd_ne (fun z => by subst z; rw [e] at k6; exact nt_not ht k6)]
      exact q
    up := R.ext.up
    new := R.ext.new
    ok := okn }
  refine ⟨?_, kp⟩
  have R1 : EnvR G O (upd H a (.lst us)) σ (ρ.set i none) := {
    ok0 := R.ok0
    ext := ex
    len := by rw [List.length_set]; exact R.len
    val := fun j e h => by
      rcases getset h with ⟨rfl, z⟩ | ⟨ne, h⟩
      · cases z
      · obtain ⟨w, h1, h2⟩ := R.val j e h
        exact ⟨w, h1, kp.rep _ _ h2⟩
    own := fun j fs h => by
      rcases getset h with ⟨rfl, z⟩ | ⟨ne, h⟩
      · cases z
      · obtain ⟨b, ws, m1, m2, m3, m4, m5, m6⟩ := R.own j fs h
        have nb : b ≠ a := fun z => by subst z; exact ne (R.apart j i fs ds b h hi m1 ha)
        exact ⟨b, ws, m1, by rw [upd_ne nb]; exact m2, kp.repA _ _ m3, m4, m5, m6⟩
    apart := fun j j' di dj b h h' s s' => by
      rcases getset h with ⟨rfl, z⟩ | ⟨ne1, h⟩
      · cases z
      rcases getset h' with ⟨rfl, z⟩ | ⟨ne2, h'⟩
      · cases z
      exact R.apart j j' di dj b h h' s s'
    own2 := fun j dss h => by
      rcases getset h with ⟨rfl, z⟩ | ⟨ne, h⟩
      · cases z
      · obtain ⟨b, as, h1, h2, h3, h4, h5⟩ := R.own2 j dss h
        have off := R.apart2 j i dss ds b a as h hi h1 h2 ha
        exact ⟨b, as, h1, by rw [upd_ne (fun z => off (by rw [← z]; exact List.mem_cons_self))]; exact h2, h3, h4, h5.same kp fun c hc vs e => by rw [upd_ne (fun z => off (by rw [← z]; exact List.mem_cons_of_mem _ hc))]; exact e⟩
    apart2 := fun j j' dss dj b b' as h h' s hh s' => by
      rcases getset h with ⟨rfl, z⟩ | ⟨ne, h⟩
      · cases z
      rcases getset h' with ⟨rfl, z⟩ | ⟨ne', h'⟩
      · cases z
      obtain ⟨b0, as0, h1, h2, h3, h4, h5⟩ := R.own2 j dss h
      have off := R.apart2 j i dss ds b0 a as0 h hi h1 h2 ha
      rw [h1] at s
      cases s
      rw [upd_ne (fun z => off (by rw [← z]; exact List.mem_cons_self))] at hh
      exact R.apart2 j j' dss dj _ b' as h h' h1 hh s'
    uniq2 := fun j j' di dj h h' => by
      rcases getset h with ⟨rfl, z⟩ | ⟨ne, h⟩
      · cases z
      rcases getset h' with ⟨rfl, z⟩ | ⟨ne', h'⟩
      · cases z
      exact R.uniq2 j j' di dj h h' }
  have R2 := R1.setOwn (i := i) (a := a) (vs := us) (ds := es) upd_same (kp.repA _ _ h2) k4 k5 k6 (fun j dj ne h s => by
    rcases getset h with ⟨rfl, z⟩ | ⟨_, h⟩
    · cases z
    · exact ne (R.apart j i dj ds a h hi s ha)) (fun j dss b as ne h s hh => by
    rcases getset h with ⟨rfl, z⟩ | ⟨_, h⟩
    · cases z
    · obtain ⟨b0, as0, h1, h2, h3, h4, h5⟩ := R.own2 j dss h
      have off := R.apart2 j i dss ds b0 a as0 h hi h1 h2 ha
      rw [h1] at s
      cases s
      rw [upd_ne (fun z => off (by rw [← z]; exact List.mem_cons_self))] at hh
      rw [lst_inj hh h2]
      exact off)
  rw [List.set_set] at R2
  have es : σ.set i (some (V.ref a)) = σ := by
    apply List.ext_getElem?
    intro j
    by_cases e : i = j
    · subst e
      rw [List.getElem?_set_self (R.lt hi), ha]
    · rw [List.getElem?_set_ne e]
  rw [es] at R2
  exact R2
/-- an own list is frozen -/
theorem EnvR.freeze (R : EnvR G O H σ ρ) {i : Nat} {a : Addr} {ds : List D} (hi : ρ[i]? = some (some (.own ds))) (ha : σ[i]? = some (some (.ref a))) :
    EnvR G (O.add a) H σ (ρ.set i (some (.val (.lst ds)))) ∧ Keep O (O.add a) H H ∧ Rep G.K (O.add a) H (.ref a) (.lst ds) ∧ Ext G.O0 (O.add a) G.H0 H := by
  obtain ⟨a', vs, k1, k2, k3, k4, k5, k6⟩ := R.own i ds hi
  rw [ha] at k1
  cases k1
  have kp : Keep O (O.add a) H H := ⟨fun _ h => h, fun _ h => .inl h, fun _ _ _ e => e, fun _ _ e => e, fun _ _ _ e => e, fun _ _ e => e⟩
  have rp : Rep G.K (O.add a) H (.ref a) (.lst ds) := .lst ⟨.inr rfl, k2⟩ (kp.repA _ _ k3)
  have ex : Ext G.O0 (O.add a) G.H0 H := {
    bo := R.ext.bo
    tt := R.ext.tt
    same := R.ext.same
    up := fun b f => .inl (R.ext.up b f)
    new := fun b f => by
      rcases f with f | rfl
      · exact R.ext.new b f
      · exact .inr k6
    ok := {
      tabs := R.ok.tabs
      bow := R.ok.bow
      fb := fun b f z => by
        rcases f with f | rfl
        · exact R.ok.fb b f z
        · exact k5 z
      ft := fun b f => by
        rcases f with f | rfl
        · exact R.ok.ft b f
        · rw [k2]; exact nt_not fun ps z => by cases z } }
  refine ⟨?_, kp, rp, ex⟩
  have R1 : EnvR G (O.add a) H σ (ρ.set i none) := {
    ok0 := R.ok0
    ext := ex
    len := by rw [List.length_set]; exact R.len
    val := fun j e h => by
      rcases getset h with ⟨rfl, z⟩ | ⟨ne, h⟩
      · cases z
      · obtain ⟨w, h1, h2⟩ := R.val j e h
        exact ⟨w, h1, kp.rep _ _ h2⟩
    own := fun j fs h => by
      rcases getset h with ⟨rfl, z⟩ | ⟨ne, h⟩
      · cases z
      · obtain ⟨b, ws, m1, m2, m3, m4, m5, m6⟩ := R.own j fs h
        refine ⟨b, ws, m1, m2, kp.repA _ _ m3, fun f => ?_, m5, m6⟩
        rcases f with f | rfl
        · exact m4 f
        · exact ne (R.apart j i fs ds b h hi m1 ha)
    apart := fun j j' di dj b h h' s s' => by
      rcases getset h with ⟨rfl, z⟩ | ⟨ne1, h⟩
      · cases z
      rcases getset h' with ⟨rfl, z⟩ | ⟨ne2, h'⟩
      · cases z
      exact R.apart j j' di dj b h h' s s'
    own2 := fun j dss h => by
      rcases getset h with ⟨rfl, z⟩ | ⟨ne, h⟩
      · cases z
      · obtain ⟨b, as, h1, h2, h3, h4, h5⟩ := R.own2 j dss h
        have off := R.apart2 j i dss ds b a as h hi h1 h2 ha
        refine ⟨b, as, h1, h2, h3, fun c hc => ⟨fun f => ?_, (h4 c hc).2⟩, h5.same kp fun c hc vs e => e⟩
        rcases f with f | rfl
        · exact (h4 c hc).1 f
        · exact off hc
    apart2 := fun j j' dss dj b b' as h h' s hh s' => by
      rcases getset h with ⟨rfl, z⟩ | ⟨ne, h⟩
      · cases z
      rcases getset h' with ⟨rfl, z⟩ | ⟨ne', h'⟩
      · cases z
      exact R.apart2 j j' dss dj b b' as h h' s hh s'
    uniq2 := fun j j' di dj h h' => by
      rcases getset h with ⟨rfl, z⟩ | ⟨ne, h⟩
      · cases z
      rcases getset h' with ⟨rfl, z⟩ | ⟨ne', h'⟩
      · cases z
      exact R.uniq2 j j' di dj h h' }
  have R2 := R1.set i rp
  rw [List.set_set] at R2
  have es : σ.set i (some (V.ref a)) = σ := by
    apply List.ext_getElem?
    intro j
    by_cases e : i = j
    · subst e
      rw [List.getElem?_set_self (R.lt hi), ha]
    · rw [List.getElem?_set_ne e]
  rw [es] at R2
  exact R2

/-! ### targets -/
abbrev WG := D → Env → (Env → Prop) → Prop
def tDG (G : Fx) (vs : List Nat) (W : WG) : TG := fun v σ H Q => ∃ O ρ d q, EnvR G O H σ ρ ∧ Rep G.K O H v d ∧ W d ρ q ∧ ∀ σ' ρ', EnvR G O H σ' ρ' → wipe σ' vs = wipe σ vs → q ρ' → Q σ' H
abbrev DG (G : Fx) (X : Cx) (vs : List Nat) (tg : Expr) (W : WG) : Prop := PG X tg (tDG G vs W)
theorem PG_mono {tg : Expr} {t t' : TG} (h : PG X tg t) (k : ∀ v σ H Q, t' v σ H Q → t v σ H Q) : PG X tg t' := ⟨fun pins s σ H v u Q I r w => h.run pins s σ H v u Q I r (k v σ H Q w)⟩
theorem wipe_set {σ : L2.St} {i : Nat} {x : Option V} : ∀ {vs : List Nat}, i ∈ vs → wipe (σ.set i x) vs = wipe σ vs
  | [], h => by cases h
  | v :: vs, h => by
    show (wipe (σ.set i x) vs).set v none = (wipe σ vs).set v none
    by_cases e : i ∈ vs
    · rw [wipe_set e]
    · have ev : i = v := by
        rcases List.mem_cons.mp h with z | z
        · exact z
        · exact absurd z e
      subst ev
      have aux : ∀ vs : List Nat, i ∉ vs → wipe (σ.set i x) vs = (wipe σ vs).set i x := by
        intro vs
        induction vs with
        | nil => intro _; rfl
        | cons u us ih =>
          intro h
          have h1 : i ≠ u := fun z => h (by rw [z]; exact List.mem_cons_self)
          have h2 : i ∉ us := fun z => h (List.mem_cons_of_mem _ z)
          show (wipe (σ.set i x) us).set u none = ((wipe σ us).set u none).set i x
          rw [ih h2, List.set_comm _ _ h1]
      rw [aux vs e, List.set_set]
def wgName (i : Nat) : WG := fun d ρ q => q (ρ.set i (some (.val d)))
theorem dg_name {tg : Expr} {vs : List Nat} (i : Nat) (hi : i ∈ vs) (h : PG X tg (gName i)) : DG G X vs tg (wgName i) := PG_mono h fun v σ H Q ⟨O, ρ, d, q, R, r, w, k⟩ => k _ _ (R.set i r) (wipe_set hi) w
/-- several names, a tuple of that length -/
abbrev WGs := List D → Env → (Env → Prop) → Prop
def tDGs (G : Fx) (vs : List Nat) (W : WGs) : TGs := fun xs σ H Q => ∃ O ρ ds q, EnvR G O H σ ρ ∧ RepA G.K O H xs ds ∧ W ds ρ q ∧ ∀ σ' ρ', EnvR G O H σ' ρ' → wipe σ' vs = wipe σ vs → q ρ' → Q σ' H
abbrev DGs (G : Fx) (X : Cx) (vs : List Nat) (ts : List Expr) (W : WGs) : Prop := PGs X ts (tDGs G vs W)
theorem PGs_mono {ts : List Expr} {t t' : TGs} (h : PGs X ts t) (k : ∀ v σ H Q, t' v σ H Q → t v σ H Q) : PGs X ts t' := ⟨fun pins s σ H v u Q I r w => h.run pins s σ H v u Q I r (k v σ H Q w)⟩
def wgsNil : WGs := fun ds ρ q => match ds with
  | [] => q ρ
  | _ => False
def wgsCons (g : WG) (gs : WGs) : WGs := fun ds ρ q => match ds with
  | d :: ds => g d ρ fun ρ' => gs ds ρ' q
  | [] => False
theorem dgs_nil {vs : List Nat} : DGs G X vs [] wgsNil := PGs_mono pgs_nil fun xs σ H Q ⟨O, ρ, ds, q, R, r, w, k⟩ => by
  cases ds with
  | nil => cases r; exact ⟨rfl, k σ ρ R rfl w⟩
  | cons _ _ => exact w.elim
theorem dgs_cons {vs : List Nat} {e : Expr} {es : List Expr} {g : WG} {gs : WGs} (h1 : DG G X vs e g) (h2 : DGs G X vs es gs) (hs : (assignEach (e :: es) X.env).map (·.2) = assign e X.env :: (assignEach es X.env).map (·.2) := by rfl) : DGs G X vs (e :: es) (wgsCons g gs) :=
  PGs_mono (pgs_cons h1 h2 hs) fun xs σ H Q ⟨O, ρ, ds, q, R, r, w, k⟩ => by
    cases ds with
    | nil => exact w.elim
    | cons d ds =>
      cases r with
      | cons r1 r2 => exact ⟨_, _, rfl, O, ρ, d, _, R, r1, w, fun σ' ρ' R' e' w' => ⟨O, ρ', ds, q, R', r2, w', fun σ2 ρ2 R2 e2 w2 => k σ2 ρ2 R2 (e2.trans e') w2⟩⟩
def wgTup (gs : WGs) : WG := fun d ρ q => match d with
  | .tup ds => gs ds ρ q
  | _ => False
theorem dg_tup {vs : List Nat} {es : List Expr} {k : Nat} {gs : WGs} {n : Nat} {pos : Pos} (hK : X.K = G.K) (hc : X.calm = true) (h : DGs G X vs es gs) (hlen : ∀ ds ρ q, gs ds ρ q → ds.length = n)
    (hn : (assignEach es X.env).length = n := by rfl) (hst : (assignEach es X.env).findIdx? (·.1) = none := by rfl) : DG G X vs (.Tuple es k pos) (wgTup gs) :=
  PG_mono (pg_tup hc h hn hst) fun v σ H Q ⟨O, ρ, d, q, R, r, w, k⟩ => by
    rw [hK]
    cases r with
    | tup hs ha => exact ⟨_, _, rfl, hs, by rw [ha.length]; exact hlen _ _ _ w, O, ρ, _, q, R, ha, w, k⟩
    | _ => exact w.elim

/-! ### what is walked -/
structure WalkD (K : PySem.W.Frag) (J : It) (ds : List D) (S : Om → Hp → Prop) : Prop where
  go : ∀ O H i d, S O H → ds[i]? = some d → J.go i H
  yld : ∀ O H i d x H', S O H → ds[i]? = some d → J.yld i H x H' → ∃ O', Ext O O' H H' ∧ Rep K O' H' x d
  stop : ∀ O H, S O H → J.stop ds.length H
abbrev WI := Env → (List D → Prop) → Prop
def SKeep (O' : Om) (H' : Hp) : Om → Hp → Prop := fun O2 H2 => Ok O2 H2 ∧ Keep O' O2 H' H2
def tDI (G : Fx) (W : WI) : TI := fun σ H R => ∃ O ρ q, EnvR G O H σ ρ ∧ W ρ q ∧ ∀ O' H' J ds, Ext O O' H H' → WalkD G.K J ds (SKeep O' H') → q ds → R J H'
abbrev DI (G : Fx) (X : Cx) (tg e : Expr) (W : WI) : Prop := PI X tg e (tDI G W)
def tDIB (G : Fx) (W : WI) : TI := fun σ H R => ∃ O ρ q, EnvR G O H σ ρ ∧ W ρ q ∧ ∀ O' H' J ds, Ext O O' H H' → WalkD G.K J ds (fun O2 H2 => Ext O' O2 H' H2) → q ds → R J H'
/-- .. in a comprehension: a list of the def's own may be walked too -/
abbrev DIB (G : Fx) (X : Cx) (tg e : Expr) (W : WI) : Prop := PI X tg e (tDIB G W)
theorem PI_mono {tg e : Expr} {t t' : TI} (h : PI X tg e t) (k : ∀ σ H R, t' σ H R → t σ H R) : PI X tg e t' := ⟨fun pins s σ H R I w => h.run pins s σ H R I (k σ H R w)⟩
theorem dib_of {tg e : Expr} {W : WI} (h : DI G X tg e W) : DIB G X tg e W := PI_mono h fun σ H Q ⟨O, ρ, q, R, w, k⟩ => ⟨O, ρ, q, R, w, fun O' H' J ds x wd qd =>
  k O' H' J ds x ⟨fun O2 H2 i d s => wd.go O2 H2 i d ⟨s.ok, s.keep x.ok⟩, fun O2 H2 i d y H3 s => wd.yld O2 H2 i d y H3 ⟨s.ok, s.keep x.ok⟩, fun O2 H2 s => wd.stop O2 H2 ⟨s.ok, s.keep x.ok⟩⟩ qd⟩

/-! ### for -/
def wForL (g : WG) (body : WS) (k : WEnds) : List D → Env → Prop
  | [] => k.nx
  | d :: ds => fun ρ => g d ρ fun ρ2 => body { nx := wForL g body k ds, rt := k.rt, bk := k.nx, ct := wForL g body k ds } ρ2
def wFor (Wi : WI) (g : WG) (body : WS) : WS := fun k ρ => Wi ρ fun ds => wForL g body k ds ρ
theorem ds_for {tg iter : Expr} {body : List Stmt} {Wi : WI} {g : WG} {vs : List Nat} {Wb : WS} {pos : Pos} (hp : PassesOwn (model X.prog X.w) X.A X.env X.xe) (hc : X.calm = true) (hi : DI G X tg iter Wi) (hg : DG G X vs tg g) (hb : DSs G X body Wb)
    (hs : ∀ x, foldedSetIterable iter X.env x = pure x := by intro _; rfl) : DS G X (.For tg iter body [] pos) (wFor Wi g Wb) :=
  PS_mono (ps_for hp hc hi hg hb hs) fun D σ H ⟨O, ρ, k, R, w, knx, krt, kbk, kct⟩ => by
    refine ⟨O, ρ, _, R, w, fun O1 H1 J ds x1 wd w1 => ?_⟩
    have R1 := R.step x1
    refine ⟨fun i m σ2 H2 => m = ds.length - i ∧ i ≤ ds.length ∧ ∃ O2 ρ2, EnvR G O2 H2 σ2 ρ2 ∧ Keep O1 O2 H1 H2 ∧ wForL g Wb k (ds.drop i) ρ2, ⟨ds.length, by simp, Nat.zero_le _, O1, ρ, R1, Keep.refl, w1⟩, ?_⟩
    rintro i m σ2 H2 ⟨rfl, hi, O2, ρ2, R2, k2, w2⟩
    have s2 : SKeep O1 H1 O2 H2 := ⟨R2.ok, k2⟩
    have x0 := x1.keep R.ok
    by_cases hlt : i < ds.length
    · have hd : ds[i]? = some ds[i] := List.getElem?_eq_getElem hlt
      rw [List.drop_eq_getElem_cons hlt] at w2
      refine .inr ⟨wd.go O2 H2 i _ s2 hd, fun σ' H' => ∃ O3 ρ3, EnvR G O3 H' σ' ρ3 ∧ Keep O1 O3 H1 H' ∧ wForL g Wb k (ds.drop (i + 1)) ρ3, fun σ' H' ⟨O3, ρ3, h1, h2, h3⟩ => ⟨ds.length - (i + 1), by omega, rfl, hlt, O3, ρ3, h1, h2, h3⟩, fun x H' y => ?_⟩
      obtain ⟨O3, x3, r3⟩ := wd.yld O2 H2 i _ x H' s2 hd y
      have R3 := R2.step x3
      have k3 := k2.trans (x3.keep R2.ok)
      refine ⟨O3, ρ2, _, _, R3, r3, w2, fun σ4 ρ4 R4 _ w4 => ?_⟩
      refine ⟨O3, ρ4, _, R4, w4, fun O5 σ5 ρ5 H5 R5 k5 w5 => ⟨O5, ρ5, R5, k3.trans k5, w5⟩, fun O5 H5 v d x5 r5 w5 => krt O5 H5 v d x5 r5 w5, fun O5 σ5 ρ5 H5 R5 k5 w5 => knx O5 σ5 ρ5 H5 R5 (x0.trans (k3.trans k5)) w5, fun O5 σ5 ρ5 H5 R5 k5 w5 => ⟨O5, ρ5, R5, k3.trans k5, w5⟩⟩
    · have e : i = ds.length := by omega
      subst e
      rw [List.drop_length] at w2
      exact .inl ⟨wd.stop O2 H2 s2, knx O2 σ2 ρ2 H2 R2 (x0.trans k2) w2⟩

/-! ### statements -/
variable {st : Stmt} {rest : List Stmt} {e : Expr} {We : WE} {Ws Wr : WS} {pos : Pos}
def wSeq (Ws Wr : WS) : WS := fun k ρ => Ws { k with nx := Wr k } ρ
def wNext : WS := fun k ρ => k.nx ρ
def wIfS (T : WT) (Ws Wr : WS) : WS := fun k ρ => T ρ fun b => if b = true then Ws k ρ else Wr k ρ
def wRet (W : WE) : WS := fun k ρ => W ρ k.rt
def wDrop (W : WE) : WS := fun k ρ => W ρ fun _ => k.nx ρ
def wAsg (W : WE) (g : WG) : WS := fun k ρ => W ρ fun d => g d ρ k.nx
theorem dss_nil : DSs G X [] wNext := PSs_mono pss_nil fun D σ H ⟨O, ρ, k, R, w, knx, _⟩ => knx O σ ρ H R Keep.refl w
theorem dss_cons (h1 : DS G X st Ws) (h2 : DSs G X rest Wr) : DSs G X (st :: rest) (wSeq Ws Wr) := PSs_mono (pss_cons h1 h2) fun D σ H ⟨O, ρ, k, R, w, knx, krt, kbk, kct⟩ =>
  ⟨O, ρ, _, R, w, fun O1 σ1 ρ1 H1 R1 k1 w1 => ⟨O1, ρ1, k, R1, w1, fun O2 σ2 ρ2 H2 R2 k2 w2 => knx O2 σ2 ρ2 H2 R2 (k1.trans k2) w2, krt, fun O2 σ2 ρ2 H2 R2 k2 w2 => kbk O2 σ2 ρ2 H2 R2 (k1.trans k2) w2, fun O2 σ2 ρ2 H2 R2 k2 w2 => kct O2 σ2 ρ2 H2 R2 (k1.trans k2) w2⟩, krt, kbk, kct⟩
theorem dss_one (h1 : DS G X st Ws) : DSs G X [st] Ws := PSs_mono (pss_one h1) fun _ _ _ h => h
theorem ds_pass : DS G X (.Pass pos) wNext := PS_mono ps_pass fun D σ H ⟨O, ρ, k, R, w, knx, _⟩ => knx O σ ρ H R Keep.refl w
theorem ds_if {c : Expr} {a b : List Stmt} {T : WT} (hc : DT G X c T) (ha : DSs G X a Ws) (hb : DSs G X b Wr) : DS G X (.If c a b pos) (wIfS T Ws Wr) := PS_mono (ps_if hc ha hb) fun D σ H ⟨O, ρ, k, R, w, knx, krt, kbk, kct⟩ =>
  tDT1 R w fun O1 H1 c R1 x1 w1 => by
    have x0 := x1.keep R.ok
    have nx' := fun O2 σ2 ρ2 H2 R2 k2 w2 => knx O2 σ2 ρ2 H2 R2 (x0.trans k2) w2
    have bk' := fun O2 σ2 ρ2 H2 R2 k2 w2 => kbk O2 σ2 ρ2 H2 R2 (x0.trans k2) w2
    have ct' := fun O2 σ2 ρ2 H2 R2 k2 w2 => kct O2 σ2 ρ2 H2 R2 (x0.trans k2) w2
    cases c with
    | true => rw [if_pos rfl] at w1; rw [if_pos rfl]; exact ⟨O1, ρ, k, R1, w1, nx', krt, bk', ct'⟩
    | false => rw [if_neg Bool.false_ne_true] at w1; rw [if_neg Bool.false_ne_true]; exact ⟨O1, ρ, k, R1, w1, nx', krt, bk', ct'⟩
theorem ds_ret (h : DE G X e We) : DS G X (.Return (some e) pos) (wRet We) := PS_mono (ps_ret h) fun D σ H ⟨O, ρ, k, R, w, knx, krt, _⟩ => tD1 R w fun O1 H1 v d R1 x1 r1 w1 => krt O1 H1 v d R1.ext r1 w1
theorem ds_expr (h : DE G X e We) (hs : swapsWith e none pos.line X.env = pure false := by rfl) : DS G X (.Expr e pos) (wDrop We) := PS_mono (ps_expr h hs) fun D σ H ⟨O, ρ, k, R, w, knx, _⟩ => tD1 R w fun O1 H1 v d R1 x1 r1 w1 => knx O1 σ ρ H1 R1 (x1.keep R.ok) w1
theorem ds_asg {tg : Expr} {g : WG} {vs : List Nat} (he : DE G X e We) (hg : DG G X vs tg g) (hs : swapsWithSole [tg] e pos.line X.env = pure false := by rfl) (hw : swappedStores [tg] e X.env = pure none := by rfl)
    (h1 : (assignEach [tg] X.env).map (·.2) = [assign tg X.env] := by rfl) : DS G X (.Assign [tg] e pos) (wAsg We g) := PS_mono (ps_asg he hg hs hw h1) fun D σ H ⟨O, ρ, k, R, w, knx, _⟩ => tD1 R w fun O1 H1 v d R1 x1 r1 w1 =>
  ⟨O1, ρ, d, _, R1, r1, w1, fun σ2 ρ2 R2 _ w2 => knx O1 σ2 ρ2 H1 R2 (x1.keep R.ok) w2⟩
theorem ds_set {i : Nat} {x : Str} {pos' : Pos} (hN : X.N.Nodup) (hi : X.N[i]? = some x) (hx : Loc X.env.scope x) (he : DE G X e We) (hs : swapsWith e (some (.Name x pos')) pos.line X.env = pure false := by rfl)
    (hf : X.fn x = true ∨ X.env.scope.names.lookup x = some .local := by first | exact .inl rfl | exact .inr rfl | assumption) : DS G X (.Assign [.Name x pos'] e pos) (wAsg We (wgName i)) :=
  PS_mono (ps_set hN hi hx he hs hf) fun D σ H ⟨O, ρ, k, R, w, knx, _⟩ => tD1 R w fun O1 H1 v d R1 x1 r1 w1 => knx O1 _ _ H1 (R1.set i r1) (x1.keep R.ok) w1
/-- a name gets a new list -/
def wgOwn (i : Nat) : WG := fun d ρ q => match d with
  | .lst ds => q (ρ.set i (some (.own ds)))
  | _ => False
theorem ds_own {i : Nat} {x : Str} {pos' : Pos} (hN : X.N.Nodup) (hi : X.N[i]? = some x) (hx : Loc X.env.scope x) (he : DF G X e We) (hs : swapsWith e (some (.Name x pos')) pos.line X.env = pure false := by rfl)
    (hf : X.fn x = true ∨ X.env.scope.names.lookup x = some .local := by first | exact .inl rfl | exact .inr rfl | assumption) : DS G X (.Assign [.Name x pos'] e pos) (wAsg We (wgOwn i)) :=
  PS_mono (ps_set hN hi hx he hs hf) fun D σ H ⟨O, ρ, k, R, w, knx, _⟩ => ⟨O, ρ, _, R, w, fun O1 H1 a vs ds x1 h1 h2 h3 h4 h5 w1 => by
    have R1 := R.step x1
    refine knx O1 _ _ H1 (R1.setOwn i h1 h2 h3 h4 (R.ext.nt R.ok0 h5) (fun j dj _ hj hs => ?_) fun j dss b as _ h s hh => R.off2 x1 h5 h s hh) (x1.keep R.ok) w1
    obtain ⟨b, us, k1, k2, _⟩ := R.own j dj hj
    rw [hs] at k1
    cases k1
    rw [k2] at h5
    exact nt_not (fun ps z => by cases z) h5⟩
/-- from here on the list at slot i is only read -/
def wFreeze (i : Nat) (W : WS) : WS := fun k ρ => match ρ[i]? with
  | some (some (.own ds)) => W k (ρ.set i (some (.val (.lst ds))))
  | _ => W k ρ
theorem dss_freeze {sts : List Stmt} (i : Nat) (h : DSs G X sts Ws) : DSs G X sts (wFreeze i Ws) := PSs_mono h fun D σ H ⟨O, ρ, k, R, w, knx, krt, kbk, kct⟩ => by
  unfold wFreeze at w
  split at w
  · rename_i ds hi
    obtain ⟨a, vs, k1, _⟩ := R.own i ds hi
    obtain ⟨R1, kp, _, _⟩ := R.freeze hi k1
    exact ⟨_, _, k, R1, w, fun O2 σ2 ρ2 H2 R2 k2 w2 => knx O2 σ2 ρ2 H2 R2 (kp.trans k2) w2, krt, fun O2 σ2 ρ2 H2 R2 k2 w2 => kbk O2 σ2 ρ2 H2 R2 (kp.trans k2) w2, fun O2 σ2 ρ2 H2 R2 k2 w2 => kct O2 σ2 ρ2 H2 R2 (kp.trans k2) w2⟩
  · exact ⟨O, ρ, k, R, w, knx, krt, kbk, kct⟩
/-- x.append(e) -/
def wApp (i : Nat) (We : WE) : WS := fun k ρ => match ρ[i]? with
  | some (some (.own ds)) => We ρ fun d => ds.length < sizeLine ∧ k.nx (ρ.set i (some (.own (ds ++ [d]))))
  | _ => False
theorem ds_app {i : Nat} {x : Str} {px pm pc : Pos} (hv : PE X (.Name x px) (tVar i)) (he : DE G X e We)
    (h : ∀ {ta : TA}, PA X [e] ta → PE X (.Call (.Attribute (.Name x px) "append" pm) [e] [] pc) (tBM X.K "list" rAppend (tVar i) ta))
    (hstar : starEach [e] X.env = (false, eval e X.env) :: starEach [] X.env := by rfl)
    (hs : swapsWith (.Call (.Attribute (.Name x px) "append" pm) [e] [] pc) none pos.line X.env = pure false := by rfl) :
    DS G X (.Expr (.Call (.Attribute (.Name x px) "append" pm) [e] [] pc) pos) (wApp i We) :=
  PS_mono (ps_expr (h (pa_cons he pa_nil hstar)) hs) fun D σ H ⟨O, ρ, k, R, w, knx, _⟩ => by
    unfold wApp at w
    split at w
    · rename_i ds hi
      obtain ⟨a, vs, k1, k2, k3, k4, k5, k6⟩ := R.own i ds hi
      refine ⟨_, k1, .inl ⟨rfl, vs, SqL.of k2⟩, tD1 R w fun O1 H1 v d R1 x1 r1 w1 => ?_⟩
      have e2 : H1 a = some (.lst vs) := x1.same a _ k5 (fun ps z => by cases z) k2
      have r2 := (x1.keep R.ok).repA _ _ k3
      obtain ⟨R2, kp⟩ := R1.write (es := ds ++ [d]) (us := vs ++ [v]) hi k1 (r2.append (.cons r1 .nil))
      exact ⟨a, vs, v, rfl, rfl, e2, by rw [r2.length]; exact w1.1, knx O1 σ _ _ R2 ((x1.keep R.ok).trans kp) w1.2⟩
    · exact w.elim
/-- x[i] = e, x a list of the def's own -/
def wPut (i : Nat) (Wi We : WE) : WS := fun k ρ => We ρ fun d => match ρ[i]? with
  | some (some (.own ds)) => Wi ρ fun z => match z with
    | .int j => ∃ n, ixN ds.length j = some n ∧ k.nx (ρ.set i (some (.own (ds.set n d))))
    | _ => False
  | _ => False
theorem ds_put {i : Nat} {x : Str} {ix : Expr} {Wi : WE} {px ps : Pos} (hv : PE X (.Name x px) (tVar i)) (hi : DE G X ix Wi) (he : DE G X e We)
    (h : ∀ {te ti : TE}, PE X e te → PE X ix ti → PS X (.Assign [.Subscript (.Name x px) ix ps] e pos) (tAsg te (gSub (tVar i) ti rSetL))) :
    DS G X (.Assign [.Subscript (.Name x px) ix ps] e pos) (wPut i Wi We) :=
  PS_mono (h he hi) fun D σ H ⟨O, ρ, k, R, w, knx, _⟩ => tD1 R w fun O1 H1 v d R1 x1 r1 w1 => by
    split at w1
    · rename_i ds hd
      obtain ⟨a, vs, k1, k2, k3, k4, k5, k6⟩ := R1.own i ds hd
      refine ⟨_, k1, tD1 R1 w1 fun O2 H2 v2 d2 R2 x2 r2 w2 => ?_⟩
      split at w2
      · rename_i j
        cases r2
        obtain ⟨n, hn, w2⟩ := w2
        have e2 : H2 a = some (.lst vs) := x2.same a _ k5 (fun ps z => by cases z) k2
        have ra := (x2.keep R1.ok).repA _ _ k3
        have rd := (x2.keep R1.ok).rep _ _ r1
        obtain ⟨R3, kp⟩ := R2.write (es := ds.set n d) (us := vs.set n v) hd k1 (ra.set n rd)
        exact ⟨a, vs, j, n, rfl, rfl, e2, by rw [ra.length]; exact hn, knx O2 σ _ _ R3 (((x1.keep R.ok).trans (x2.keep R1.ok)).trans kp) w2⟩
      · exact w2.elim
    · exact w1.elim
end
end DL
set_option Elab.async false
set_option linter.all false
set_option maxRecDepth 100000
set_option maxHeartbeats 4000000
/-! DL5: what is walked; comprehensions; calls of defs. -/
namespace DL
open PySem PySem.Spec PyProof.Rows L2

/-! ### enumerate(a tuple) -/
section
open PySem.AutoSeq1 (wpAny_loadPart')
theorem enum_new1 {v : Value} {o : Obj} {P : Heap → Prop} (B : Begins v o P) : Meets (Builtin.«enumerate.__new__» ⟨[.type "enumerate", v], []⟩) (fun _ R s => P s.heap ∧ R (.ok (.ret (.ref (s.heap.push o).objs.size)))
    { s with heap := (s.heap.push o).push { cls := .type "enumerate", data := .fields #[.none, .bool false, .ref s.heap.objs.size, rawInt 0, .none, .none] } }) :=
  .of_wp fun prog w A R s ⟨hP, hR⟩ => by
    obtain ⟨hp, g, dr, tk, ost⟩ := s
    have hsb := sub_enumerate
    have it1 : ∀ {A' : Around} {E Q : Value → Shared → Prop}, Q (.ref hp.objs.size) ⟨hp.push o, g, dr, tk, ost⟩ → wpAny (model prog w) A' (pyIter v) Q E ⟨hp, g, dr, tk, ost⟩ := fun q => B.iter prog w _ _ ⟨hp, g, dr, tk, ost⟩ _ hP q
    wp_walk using it1
    refine wpAny_stack_any fun stk => (wpAny_pure ?_)
    split
    · rename_i c _ _ _ _ _
      cases (c == Value.type "enumerate") <;> (wp_walk using it1) <;> exact ⟨_, rfl, hR⟩
    · wp_walk using it1
      exact ⟨_, rfl, hR⟩
theorem call_enum1 {prog : Program} {w : World} {A : Around} {E : Value → Shared → Prop} {s : Shared} {v : Value} {o : Obj} {P : Heap → Prop} {Q : Value → Shared → Prop} (B : Begins v o P) (hP : P s.heap)
    (h : ∀ h', IsEnum h' (s.heap.objs.size + 1) s.heap.objs.size 0 .none → h'.get? s.heap.objs.size = some o → (∀ b u, s.heap.get? b = some u → h'.get? b = some u) → Q (.ref (s.heap.objs.size + 1)) { s with heap := h' }) :
    wpAny (model prog w) A (call (.type "enumerate") [v]) Q E s := by
  have hz : (s.heap.push o).objs.size = s.heap.objs.size + 1 := Heap.size_push ..
  have he : IsEnum ((s.heap.push o).push { cls := .type "enumerate", data := .fields #[.none, .bool false, .ref s.heap.objs.size, rawInt 0, .none, .none] }) (s.heap.objs.size + 1) s.heap.objs.size 0 .none := by
    have q := Heap.get?_push_size (s.heap.push o) (o := { cls := .type "enumerate", data := .fields #[.none, .bool false, .ref s.heap.objs.size, rawInt 0, .none, .none] }) rfl
    rwa [hz] at q
  refine callType_new F.called_enumerate (by decide) (F.typeCall_enumerate_1 _) (F.newCall_enumerate_1 _) (fun obj => F.args_object_init_2 obj _) F.entry_enumerate_new (enum_new1 B) ⟨hP, ?_⟩
  show _ ∧ _
  rw [hz]
  exact ⟨⟨_, he, rfl⟩, h _ he (Heap.get?_push_of_some _ (Heap.get?_push_size _ B.free)) fun b u x => Heap.get?_push_of_some _ (Heap.get?_push_of_some _ x)⟩
end
/-- the tuple at a, each item in a new pair -/
def IteT (K : PySem.W.Frag) (a : Addr) : It :=
  ⟨fun i H => ∃ (xs : List V) (x : V), SqT K H a xs ∧ xs[i]? = some x, fun i H v H' => ∃ T x, v = .ref T ∧ H T = none ∧ H' = upd H T (.tup [.int (i : Nat), x]) ∧ ∀ xs, SqT K H a xs → xs[i]? = some x, fun i H => ∃ xs : List V, SqT K H a xs ∧ xs.length ≤ i⟩
theorem turn_enumT {P : Program} {w : World} {K : PySem.W.Frag} {elts : List Expr} {kk : Nat} {tpos : Pos} (a e it : Addr) :
    Turn P w K (.Tuple elts kk tpos) (IteT K a) [e, it] e (fun i h => (∃ old, IsEnum h e it ((i : Nat) : Int) old) ∧ h.IsTupleIter it a i ∧ e ≠ it) where
  mem := by simp
  obj := fun i h ⟨⟨old, he⟩, ⟨o, ho, hc, hd⟩, _⟩ b hb => by
    rcases (show b = e ∨ b = it by simpa using hb) with rfl | rfl
    · exact ⟨_, he, fun v q => nomatch q⟩
    · exact ⟨o, ho, fun v q => by rw [hd] at q; cases q⟩
  keep := fun i h h' ⟨⟨old, he⟩, hi, hne⟩ k => ⟨⟨old, k e (by simp) _ he⟩, hi.at fun o q => k it (by simp) o q, hne⟩
  item := by
    intro X hP hw hK hc i pins s σ H E I hf ⟨⟨old, he⟩, hit, hne⟩ ⟨xs, x, hq, hx⟩
    subst hP hw hK
    obtain ⟨its, rv, p, hz⟩ := I.tuple hq
    obtain ⟨u, hu, ru⟩ := rv.get hx
    have hel : e < s.heap.objs.size := Heap.lt_size he
    have hil : it < s.heap.objs.size := by obtain ⟨_, q, _⟩ := hit; exact Heap.lt_size q
    obtain ⟨op, hop, _, n, hdp⟩ := id p
    have hal : a ≠ it := fun z => by
      obtain ⟨o2, q2, _, d2⟩ := id hit
      rw [← z, hop] at q2
      cases q2
      rw [hdp] at d2
      cases d2
    have hae : e ≠ a := fun z => by
      have he' := he
      unfold IsEnum at he'
      rw [z, hop] at he'
      cases he'
      cases hdp
    have hlt : i < its.toArray.size := by
      have := (List.getElem?_eq_some_iff.mp hu).1
      simpa using this
    refine wpAny_pyNext_enum_itemD (Draws.tuple (A := X.A.in1) (I.ok.hd hc) it a hal its.toArray) he ⟨hit, p⟩ hlt hne (by simp [hne, hae]) fun y h' tk hy ho hst hT hsz hk => ?_
    have ey : y = u := by
      have hu' : its.toArray[i]? = some u := by simpa using hu
      exact Option.some.inj (hy.symm.trans hu')
    subst ey
    refine ⟨_, rfl, wpAny_letOwnedTupleGo_enum (s := { s with heap := h', toks := tk + 1 }) ho fun h'' he' sb => ?_⟩
    have hT2 : h''.get? s.heap.objs.size = some { cls := .type "tuple", data := .seq #[.int i tk, y] } := (sb.2 _ (Nat.ne_of_gt hel)).trans hT
    have new : ObjOk X.prog X.w (upd H s.heap.objs.size (.tup [.int (i : Nat), x])) h'' s.heap.objs.size (.tup [.int (i : Nat), x]) := ⟨by show 2 ≤ sizeLine; decide, [.int i tk, y], .cons ⟨_, rfl⟩ (.cons ru .nil), _, hT2, rfl, _, rfl⟩
    have I1 : Inv X pins σ (upd H s.heap.objs.size (.tup [.int (i : Nat), x])) { s with heap := h'', toks := tk + 1 } :=
      I.turnedNew (ch := [e, it]) (fun b ob hb q => (sb.2 b (fun z => hb (by simp [z]))).trans (hk b ob (fun z => hb (by simp [z])) (fun z => hb (by simp [z])) q)) hf (Nat.le_refl _) new
    refine ⟨.ref s.heap.objs.size, _, I1, rfl, ⟨_, x, rfl, I.hok.fresh (Nat.le_refl _), rfl, fun ys hy => by rw [I.tuple_inj hy hq]; exact hx⟩, ⟨⟨y, ?_⟩, hst.1.at fun o q => (sb.2 it (Ne.symm hne)).trans q, hne⟩, fun b hb => ?_⟩
    · rw [show ((i + 1 : Nat) : Int) = (i : Int) + 1 by omega]
      exact he'
    · have hb' : b < s.heap.objs.size := by
        rcases (show b = e ∨ b = it by simpa using hb) with rfl | rfl
        · exact hel
        · exact hil
      rw [upd_ne (Nat.ne_of_lt hb')]
      exact (hf b hb).1
  done := by
    intro X hP hw hK hc i pins s σ H E I hf ⟨⟨old, he⟩, hit, hne⟩ ⟨xs, hq, hx⟩
    subst hP hw hK
    obtain ⟨its, rv, p, hz⟩ := I.tuple hq
    obtain ⟨op, hop, _, n, hdp⟩ := id p
    have hal : a ≠ it := fun z => by
      obtain ⟨o2, q2, _, d2⟩ := id hit
      rw [← z, hop] at q2
      cases q2
      rw [hdp] at d2
      cases d2
    obtain ⟨f0, f1, f2, f3, f4, f5⟩ := hf it (by simp)
    have hl := rv.length
    have hit2 : s.heap.IsTupleIter it a i := hit
    unfold pyNext
    have hT : s.TypeIs (.ref e) "enumerate" := ⟨_, he, rfl⟩
    refine wpAny_bind (wpAny_attempt (wpAny_callSpecial?_slot (name := Str.ofString "__next__") hT F.slot_enumerate_next (wpAny_call_entry F.slot_enumerate_next hT F.entry_enumerate_next ?_ (F.args_enumerate_next_1 _))))
    show wpAny _ _ (field (.ref e) 2 >>= _) _ _ _
    refine wpAny_bind (wpAny_field he rfl (x := .ref it) rfl (wpAny_bind (wpAny_nextOf_tuple_end (I.ok.hd hc) hit2 p (by simp; omega) fun h' x he' ⟨o, ho, hc'⟩ => ?_)))
    refine wpAny_bind (wpAny_isInstance (T := "StopIteration") (b := true) ⟨o, ho, hc'⟩ isSubtype_stop (wpAny_pure ⟨rfl, I.turned (t' := s.toks) (fun b o hb q => he' b o hb q) f0 f1 f3 f4 f5⟩))
  self := fun A i s Q E ⟨⟨_, he⟩, _⟩ h => wpAny_pyIter_enum he h

section
variable {G : Fx} {X : Cx} {O O1 O2 O' : Om} {H H1 H2 H' : Hp} {σ σ' : L2.St} {ρ ρ' : Env} {tg e : Expr} {W Wa : WE} {pos p : Pos}

/-! ### a list or a tuple -/
def iSeq (K : PySem.W.Frag) (tl : TE) : TI := fun σ H R => tl σ H fun x H1 => ∃ a, x = .ref a ∧ (((∃ xs, SqL K H1 a xs) ∧ R (Itl K a) H1) ∨ ((∃ xs, SqT K H1 a xs) ∧ R (Itt K a) H1))
theorem pi_seq {tl : TE} (hl : PE X e tl) : PI X tg e (iSeq X.K tl) := ⟨fun pins s σ H R I h => thn (hl.run pins s σ H _ I h) fun v s1 ⟨x, H1, I1, r1, a, ex, q⟩ => by
  subst ex
  obtain rfl : v = Value.ref a := r1
  have fresh : ∀ b ∈ [s1.heap.objs.size], FpOk X pins H1 b := fun b hb => by
    rw [show b = s1.heap.objs.size by simpa using hb]
    exact I1.fpOk (Nat.le_refl _) (I1.hok.fresh (Nat.le_refl _))
  rcases q with ⟨⟨xs, hq⟩, q⟩ | ⟨⟨xs, hq⟩, q⟩
  · obtain ⟨its, rv, pl, _⟩ := I1.list hq
    exact wpAny_pyIter_list pl.isList ⟨_, _, _, _, H1, rfl, I1.kept (t' := s1.toks) fun b o e => Heap.get?_push_of_some _ e, turn_list a _, ⟨_, Heap.get?_push_size _ rfl, rfl, rfl⟩, fresh, q⟩
  · obtain ⟨its, rv, pl, _⟩ := I1.tuple hq
    exact wpAny_pyIter_tuple (show s1.heap.IsTuple a its.toArray from pl) ⟨_, _, _, _, H1, rfl, I1.kept (t' := s1.toks) fun b o e => Heap.get?_push_of_some _ e, turn_tuple a _, ⟨_, Heap.get?_push_size _ rfl, rfl, rfl⟩, fresh, q⟩⟩
/-- the walk over a list that stands as long as S -/
theorem walk_list {a : Addr} {vs : List V} {ds : List D} {S : Om → Hp → Prop} (hs : ∀ O H, S O H → SqL G.K H a vs ∧ RepA G.K O H vs ds ∧ Ok O H) : WalkD G.K (Itl G.K a) ds S where
  go := fun O H i d s hd => by
    obtain ⟨h1, h2, _⟩ := hs O H s
    obtain ⟨v, e1, _⟩ := h2.get hd
    exact ⟨vs, v, h1, e1⟩
  yld := fun O H i d x H' s hd ⟨eH, y⟩ => by
    obtain ⟨h1, h2, h3⟩ := hs O H s
    obtain ⟨v, e1, r⟩ := h2.get hd
    have e2 := y vs h1
    rw [e1] at e2
    cases e2
    subst eH
    exact ⟨O, Ext.refl h3, r⟩
  stop := fun O H s => ⟨vs, (hs O H s).1, by rw [(hs O H s).2.1.length]; exact Nat.le_refl _⟩
theorem walk_tup {a : Addr} {vs : List V} {ds : List D} {S : Om → Hp → Prop} (hs : ∀ O H, S O H → SqT G.K H a vs ∧ RepA G.K O H vs ds ∧ Ok O H) : WalkD G.K (Itt G.K a) ds S where
  go := fun O H i d s hd => by
    obtain ⟨h1, h2, _⟩ := hs O H s
    obtain ⟨v, e1, _⟩ := h2.get hd
    exact ⟨vs, v, h1, e1⟩
  yld := fun O H i d x H' s hd ⟨eH, y⟩ => by
    obtain ⟨h1, h2, h3⟩ := hs O H s
    obtain ⟨v, e1, r⟩ := h2.get hd
    have e2 := y vs h1
    rw [e1] at e2
    cases e2
    subst eH
    exact ⟨O, Ext.refl h3, r⟩
  stop := fun O H s => ⟨vs, (hs O H s).1, by rw [(hs O H s).2.1.length]; exact Nat.le_refl _⟩
def wiSeq (W : WE) : WI := fun ρ q => W ρ fun d => match d with
  | .tup ds => q ds
  | .lst ds => q ds
  | .scr ns => q (ns.map .int)
  | _ => False
theorem repA_ints {K : PySem.W.Frag} : ∀ ns : List Int, RepA K O H (ns.map V.int) (ns.map D.int)
  | [] => .nil
  | n :: ns => .cons (.int n) (repA_ints ns)
theorem di_seq (hK : X.K = G.K) (he : DE G X e W) : DI G X tg e (wiSeq W) := PI_mono (pi_seq he) fun σ H R ⟨O, ρ, q, RE, w, k⟩ => tD1 RE w fun O1 H1 v d R1 x1 r1 w1 => by
  rw [hK]
  cases r1 with
  | tup hs ha => exact ⟨_, rfl, .inr ⟨⟨_, hs⟩, k O1 H1 _ _ x1 (walk_tup fun O2 H2 s => ⟨s.2.sqT hs, s.2.repA _ _ ha, s.1⟩) w1⟩⟩
  | lst hs ha => exact ⟨_, rfl, .inl ⟨⟨_, SqL.of hs.2⟩, k O1 H1 _ _ x1 (walk_list fun O2 H2 s => ⟨SqL.of (s.2.listAt hs).2, s.2.repA _ _ ha, s.1⟩) w1⟩⟩
  | scr hs => exact ⟨_, rfl, .inl ⟨⟨_, hs.sq⟩, k O1 H1 _ _ x1 (walk_list fun O2 H2 s => ⟨(s.2.scrAt hs).sq, repA_ints _, s.1⟩) w1⟩⟩
  | _ => exact w1.elim
theorem dib_seq (hK : X.K = G.K) (he : DB G X e W) : DIB G X tg e (wiSeq W) := PI_mono (pi_seq he) fun σ H R ⟨O, ρ, q, RE, w, k⟩ => tDB1 RE w fun O1 H1 v d R1 x1 r1 w1 => by
  rw [hK]
  rcases r1 with r1 | ⟨a, vs, ds, e1, e2, h, hb, ha⟩
  · cases r1 with
    | tup hs ha => exact ⟨_, rfl, .inr ⟨⟨_, hs⟩, k O1 H1 _ _ x1 (walk_tup fun O2 H2 s => ⟨(s.keep R1.ok).sqT hs, (s.keep R1.ok).repA _ _ ha, s.ok⟩) w1⟩⟩
    | lst hs ha => exact ⟨_, rfl, .inl ⟨⟨_, SqL.of hs.2⟩, k O1 H1 _ _ x1 (walk_list fun O2 H2 s => ⟨SqL.of ((s.keep R1.ok).listAt hs).2, (s.keep R1.ok).repA _ _ ha, s.ok⟩) w1⟩⟩
    | scr hs => exact ⟨_, rfl, .inl ⟨⟨_, hs.sq⟩, k O1 H1 _ _ x1 (walk_list fun O2 H2 s => ⟨((s.keep R1.ok).scrAt hs).sq, repA_ints _, s.ok⟩) w1⟩⟩
    | _ => exact w1.elim
  · subst e1
    subst e2
    exact ⟨_, rfl, .inl ⟨⟨_, SqL.of h⟩, k O1 H1 _ _ x1 (walk_list fun O2 H2 s => ⟨SqL.of (s.same a _ hb (fun ps z => by cases z) h), (s.keep R1.ok).repA _ _ ha, s.ok⟩) w1⟩⟩

/-! ### range -/
def rangeD (lo hi : Int) : List D := (List.range (hi - lo).toNat).map fun (i : Nat) => D.int (lo + (i : Int))
theorem rangeD_get {lo hi : Int} {i : Nat} {d : D} (h : (rangeD lo hi)[i]? = some d) : i < (hi - lo).toNat ∧ d = .int (lo + i) := by
  unfold rangeD at h
  rw [List.getElem?_map] at h
  by_cases hi' : i < (hi - lo).toNat
  · rw [List.getElem?_range hi'] at h
    cases h
    exact ⟨hi', rfl⟩
  · rw [List.getElem?_eq_none (by simpa using hi')] at h
    cases h
theorem walk_range {lo hi : Int} {S : Om → Hp → Prop} (hs : ∀ O H, S O H → Ok O H) : WalkD G.K (Itr lo (hi - lo).toNat) (rangeD lo hi) S where
  go := fun O H i d s hd => (rangeD_get hd).1
  yld := fun O H i d x H' s hd ⟨eH, ex⟩ => by
    obtain ⟨_, rfl⟩ := rangeD_get hd
    subst eH
    subst ex
    exact ⟨O, Ext.refl (hs O _ s), .int _⟩
  stop := fun O H s => by
    show (hi - lo).toNat ≤ (rangeD lo hi).length
    unfold rangeD
    rw [List.length_map, List.length_range]
    exact Nat.le_refl _
def wiRng1 (WL : WA) : WI := fun ρ q => WL ρ fun ds => match ds with
  | [.int j] => (-(2 ^ 62) ≤ j ∧ j < 2 ^ 62) ∧ q (rangeD 0 j)
  | _ => False
def wiRng2 (WL : WA) : WI := fun ρ q => WL ρ fun ds => match ds with
  | [.int i, .int j] => (-(2 ^ 62) ≤ i ∧ i < 2 ^ 62 ∧ -(2 ^ 62) ≤ j ∧ j < 2 ^ 62) ∧ q (rangeD i j)
  | _ => False
theorem di_range1 {a : Expr} {WL : WA} (hg : Gl X "range") (hm : X.mg "range" = none) (ha : DA G X [a] WL) (hs : starEach [a] X.env = [(false, eval a X.env)] := by rfl) : DI G X tg (.Call (.Name "range" p) [a] [] pos) (wiRng1 WL) :=
  PI_mono (pi_range1 hg hm ha hs) fun σ H R ⟨O, ρ, q, RE, w, k⟩ => tDA1 (W := WL) RE w fun O1 H1 vs ds R1 x1 r1 w1 => by
    split at w1
    · rename_i j
      cases r1 with
      | cons r1 r2 =>
        cases r1
        cases r2
        have wd : WalkD G.K (Itr 0 j.toNat) (rangeD 0 j) (SKeep O1 H1) := by
          have := walk_range (G := G) (lo := 0) (hi := j) (S := SKeep O1 H1) fun O2 H2 s => s.1
          rwa [show (j - 0).toNat = j.toNat by simp] at this
        exact ⟨j, rfl, w1.1.1, w1.1.2, k O1 H1 _ _ x1 wd w1.2⟩
    · exact w1.elim
theorem di_range2 {a b : Expr} {WL : WA} (hg : Gl X "range") (hm : X.mg "range" = none) (ha : DA G X [a, b] WL) (hs : starEach [a, b] X.env = [(false, eval a X.env), (false, eval b X.env)] := by rfl) (hs2 : starEach [b] X.env = [(false, eval b X.env)] := by rfl) : DI G X tg (.Call (.Name "range" p) [a, b] [] pos) (wiRng2 WL) :=
  PI_mono (pi_range2 hg hm ha hs hs2) fun σ H R ⟨O, ρ, q, RE, w, k⟩ => tDA1 (W := WL) RE w fun O1 H1 vs ds R1 x1 r1 w1 => by
    split at w1
    · rename_i i j
      cases r1 with
      | cons r1 r2 =>
        cases r1
        cases r2 with
        | cons r2 r3 =>
          cases r2
          cases r3
          exact ⟨i, j, rfl, w1.1, k O1 H1 _ _ x1 (walk_range fun O2 H2 s => s.1) w1.2⟩
    · exact w1.elim

/-! ### enumerate -/
def enumD : Nat → List D → List D
  | _, [] => []
  | i, d :: ds => .tup [.int (i : Int), d] :: enumD (i + 1) ds
theorem enumD_get : ∀ {ds : List D} {n i : Nat} {d : D}, (enumD n ds)[i]? = some d → ∃ c, ds[i]? = some c ∧ d = .tup [.int ((n + i : Nat) : Int), c]
  | [], _, _, _, h => by simp [enumD] at h
  | c :: _, n, 0, d, h => by
    simp [enumD] at h
    exact ⟨c, rfl, h.symm⟩
  | _ :: ds, n, i + 1, d, h => by
    obtain ⟨c, h1, h2⟩ := enumD_get (ds := ds) (n := n + 1) (i := i) (by simpa [enumD] using h)
    exact ⟨c, by simpa using h1, by rw [h2]; congr 3; omega⟩
theorem enumD_length : ∀ (ds : List D) (n : Nat), (enumD n ds).length = ds.length
  | [], _ => rfl
  | _ :: ds, n => by
    show (enumD (n + 1) ds).length + 1 = ds.length + 1
    rw [enumD_length ds]
theorem enum_yld {S : Om → Hp → Prop} {a T : Addr} {vs : List V} {ds : List D} {i : Nat} {d : D} {x : V} (okH : Ok O H) (h2 : RepA G.K O H vs ds) (hd : (enumD 0 ds)[i]? = some d) (hT : H T = none) (hx : vs[i]? = some x) :
    Ext O O H (upd H T (.tup [.int (i : Nat), x])) ∧ Rep G.K O (upd H T (.tup [.int (i : Nat), x])) (.ref T) d := by
  obtain ⟨c, e1, e2⟩ := enumD_get hd
  obtain ⟨v, e3, r⟩ := h2.get e1
  rw [hx] at e3
  cases e3
  have R0 : EnvR { G with H0 := H, O0 := O } O H [] [] := ⟨okH, Ext.refl okH, rfl, fun i d e => by simp at e, fun i d e => by simp at e, fun i j di dj a e => by simp at e, fun i d e => by simp at e, fun i j d dj a b as e => by simp at e, fun i j d dj e => by simp at e⟩
  subst e2
  rw [Nat.zero_add]
  exact lay_tup (G := { G with H0 := H, O0 := O }) R0 (.cons (.int _) (.cons r .nil)) hT
theorem walk_enumT {a : Addr} {vs : List V} {ds : List D} {S : Om → Hp → Prop} (hs : ∀ O H, S O H → SqT G.K H a vs ∧ RepA G.K O H vs ds ∧ Ok O H) : WalkD G.K (IteT G.K a) (enumD 0 ds) S where
  go := fun O H i d s hd => by
    obtain ⟨h1, h2, _⟩ := hs O H s
    obtain ⟨c, e, _⟩ := enumD_get hd
    obtain ⟨v, e1, _⟩ := h2.get e
    exact ⟨vs, v, h1, e1⟩
  yld := fun O H i d x H' s hd ⟨T, y, ex, hT, eH, hy⟩ => by
    obtain ⟨h1, h2, h3⟩ := hs O H s
    subst ex
    subst eH
    obtain ⟨x1, r1⟩ := enum_yld (G := G) (S := S) (a := a) h3 h2 hd hT (hy vs h1)
    exact ⟨O, x1, r1⟩
  stop := fun O H s => ⟨vs, (hs O H s).1, by rw [enumD_length, (hs O H s).2.1.length]; exact Nat.le_refl _⟩
theorem walk_enumL {a : Addr} {vs : List V} {ds : List D} {S : Om → Hp → Prop} (hs : ∀ O H, S O H → SqL G.K H a vs ∧ RepA G.K O H vs ds ∧ Ok O H) : WalkD G.K (Ite G.K a) (enumD 0 ds) S where
  go := fun O H i d s hd => by
    obtain ⟨h1, h2, _⟩ := hs O H s
    obtain ⟨c, e, _⟩ := enumD_get hd
    obtain ⟨v, e1, _⟩ := h2.get e
    exact ⟨vs, v, h1, e1⟩
  yld := fun O H i d x H' s hd ⟨T, y, ex, hT, eH, hy⟩ => by
    obtain ⟨h1, h2, h3⟩ := hs O H s
    subst ex
    subst eH
    obtain ⟨x1, r1⟩ := enum_yld (G := G) (S := S) (a := a) h3 h2 hd hT (hy vs h1)
    exact ⟨O, x1, r1⟩
  stop := fun O H s => ⟨vs, (hs O H s).1, by rw [enumD_length, (hs O H s).2.1.length]; exact Nat.le_refl _⟩
/-- enumerate of a list or a tuple -/
def iEnumA (K : PySem.W.Frag) (ta : TA) : TI := fun σ H R => ta σ H fun vs H1 => ∃ a xs, vs = [.ref a] ∧ ((SqL K H1 a xs ∧ R (Ite K a) H1) ∨ (SqT K H1 a xs ∧ R (IteT K a) H1))
theorem pi_enumA {ta : TA} {tpos : Pos} {elts : List Expr} {kk : Nat} (hg : Gl X "enumerate") (hm : X.mg "enumerate" = none) (ha : PA X [e] ta) (hs : starEach [e] X.env = [(false, eval e X.env)] := by rfl) :
    PI X (.Tuple elts kk tpos) (.Call (.Name "enumerate" p) [e] [] pos) (iEnumA X.K ta) :=
  ⟨fun pins s σ H R I h => Call_ (ld_blt I hg hm boot_enumerate (PyProof.Rows.callWith_type1 (thn (ha.run pos pins s σ H _ I h) fun us s1 ⟨vs, H1, I1, r1, a, xs, ex, q⟩ => by
    subst ex
    rw [Vals.ref1 r1]
    have hb2 : ∀ b ∈ [s1.heap.objs.size + 1, s1.heap.objs.size], FpOk X pins H1 b := fun b hb => by
      have hle : s1.heap.objs.size ≤ b := by
        rcases (show b = s1.heap.objs.size + 1 ∨ b = s1.heap.objs.size by simpa using hb) with z | z <;> omega
      exact I1.fpOk hle (I1.hok.fresh hle)
    rcases q with ⟨hq, q⟩ | ⟨hq, q⟩
    · obtain ⟨its, rv, p', hz⟩ := I1.list hq
      refine call_enumerate_list p'.isList fun h' he hit hsz hk => wpAny_pyIter_enum he ?_
      exact ⟨_, _, _, _, H1, rfl, I1.kept (t' := s1.toks) hk, turn_enum a _ s1.heap.objs.size, ⟨⟨.none, he⟩, hit, Nat.succ_ne_self _⟩, hb2, q⟩
    · obtain ⟨its, rv, p', hz⟩ := I1.tuple hq
      refine call_enum1 (begins_tuple a its.toArray) (show s1.heap.IsTuple a its.toArray from p') fun h' he hit hk => wpAny_pyIter_enum he ?_
      exact ⟨_, _, _, _, H1, rfl, I1.kept (t' := s1.toks) hk, turn_enumT a _ s1.heap.objs.size, ⟨⟨.none, he⟩, ⟨_, hit, rfl, rfl⟩, Nat.succ_ne_self _⟩, hb2, q⟩) hs rfl))⟩
def wiEnum (WL : WA) : WI := fun ρ q => WL ρ fun ds => match ds with
  | [.tup a] => q (enumD 0 a)
  | [.lst a] => q (enumD 0 a)
  | _ => False
theorem di_enum {WL : WA} {tpos : Pos} {elts : List Expr} {kk : Nat} (hK : X.K = G.K) (hg : Gl X "enumerate") (hm : X.mg "enumerate" = none) (ha : DA G X [e] WL) (hs : starEach [e] X.env = [(false, eval e X.env)] := by rfl) :
    DI G X (.Tuple elts kk tpos) (.Call (.Name "enumerate" p) [e] [] pos) (wiEnum WL) := PI_mono (pi_enumA hg hm ha hs) fun σ H R ⟨O, ρ, q, RE, w, k⟩ => tDA1 (W := WL) RE w fun O1 H1 vs ds R1 x1 r1 w1 => by
  rw [hK]
  split at w1
  · cases r1 with
    | cons r1 r2 =>
      cases r2
      cases r1 with
      | tup hs ha => exact ⟨_, _, rfl, .inr ⟨hs, k O1 H1 _ _ x1 (walk_enumT fun O2 H2 s => ⟨s.2.sqT hs, s.2.repA _ _ ha, s.1⟩) w1⟩⟩
  · cases r1 with
    | cons r1 r2 =>
      cases r2
      cases r1 with
      | lst hs ha => exact ⟨_, _, rfl, .inl ⟨SqL.of hs.2, k O1 H1 _ _ x1 (walk_enumL fun O2 H2 s => ⟨SqL.of (s.2.listAt hs).2, s.2.repA _ _ ha, s.1⟩) w1⟩⟩
  · exact w1.elim

/-! ### zip of two of a kind -/
def zipD : List D → List D → List D
  | a :: as, b :: bs => .tup [a, b] :: zipD as bs
  | _, _ => []
theorem zipD_get : ∀ {as bs : List D} {i : Nat} {d : D}, (zipD as bs)[i]? = some d → ∃ a b, as[i]? = some a ∧ bs[i]? = some b ∧ d = .tup [a, b]
  | [], _, _, _, h => by simp [zipD] at h
  | _ :: _, [], _, _, h => by simp [zipD] at h
  | a :: _, b :: _, 0, d, h => by
    simp [zipD] at h
    exact ⟨a, b, rfl, rfl, h.symm⟩
  | _ :: as, _ :: bs, i + 1, d, h => by
    obtain ⟨a, b, h1, h2, h3⟩ := zipD_get (as := as) (bs := bs) (i := i) (by simpa [zipD] using h)
    exact ⟨a, b, by simpa using h1, by simpa using h2, h3⟩
theorem zipD_length : ∀ (as bs : List D), (zipD as bs).length = min as.length bs.length
  | [], bs => by simp [zipD]
  | _ :: _, [] => by simp [zipD]
  | _ :: as, _ :: bs => by
    show (zipD as bs).length + 1 = min (as.length + 1) (bs.length + 1)
    rw [zipD_length as bs]
    omega
theorem zip_yld {T : Addr} {vs us : List V} {as bs : List D} {i : Nat} {d : D} {x y : V} (okH : Ok O H) (h1 : RepA G.K O H vs as) (h2 : RepA G.K O H us bs) (hd : (zipD as bs)[i]? = some d) (hT : H T = none) (hx : vs[i]? = some x) (hy : us[i]? = some y) :
    Ext O O H (upd H T (.tup [x, y])) ∧ Rep G.K O (upd H T (.tup [x, y])) (.ref T) d := by
  obtain ⟨a, b, e1, e2, e3⟩ := zipD_get hd
  obtain ⟨v, f1, r1⟩ := h1.get e1
  obtain ⟨u, f2, r2⟩ := h2.get e2
  rw [hx] at f1
  cases f1
  rw [hy] at f2
  cases f2
  have R0 : EnvR { G with H0 := H, O0 := O } O H [] [] := ⟨okH, Ext.refl okH, rfl, fun i d e => by simp at e, fun i d e => by simp at e, fun i j di dj a e => by simp at e, fun i d e => by simp at e, fun i j d dj a b as e => by simp at e, fun i j d dj e => by simp at e⟩
  subst e3
  exact lay_tup (G := { G with H0 := H, O0 := O }) R0 (.cons r1 (.cons r2 .nil)) hT
theorem walk_zipL {a b : Addr} {vs us : List V} {as bs : List D} {S : Om → Hp → Prop} (hs : ∀ O H, S O H → (SqL G.K H a vs ∧ RepA G.K O H vs as) ∧ (SqL G.K H b us ∧ RepA G.K O H us bs) ∧ Ok O H) : WalkD G.K (Itz G.K a b) (zipD as bs) S where
  go := fun O H i d s hd => by
    obtain ⟨⟨h1, h2⟩, ⟨h3, h4⟩, _⟩ := hs O H s
    obtain ⟨c, c', e1, e2, _⟩ := zipD_get hd
    obtain ⟨v, e3, _⟩ := h2.get e1
    obtain ⟨u, e4, _⟩ := h4.get e2
    exact ⟨vs, us, v, u, h1, h3, e3, e4⟩
  yld := fun O H i d x H' s hd ⟨T, y, z, ex, hT, eH, hy, hz⟩ => by
    obtain ⟨⟨h1, h2⟩, ⟨h3, h4⟩, h5⟩ := hs O H s
    subst ex
    subst eH
    obtain ⟨x1, r1⟩ := zip_yld (G := G) h5 h2 h4 hd hT (hy vs h1) (hz us h3)
    exact ⟨O, x1, r1⟩
  stop := fun O H s => by
    obtain ⟨⟨h1, h2⟩, ⟨h3, h4⟩, _⟩ := hs O H s
    refine ⟨vs, us, h1, h3, ?_⟩
    rw [zipD_length, h2.length, h4.length]
    omega
theorem walk_zipT {a b : Addr} {vs us : List V} {as bs : List D} {S : Om → Hp → Prop} (hs : ∀ O H, S O H → (SqT G.K H a vs ∧ RepA G.K O H vs as) ∧ (SqT G.K H b us ∧ RepA G.K O H us bs) ∧ Ok O H) : WalkD G.K (RZ.ItzT G.K a b) (zipD as bs) S where
  go := fun O H i d s hd => by
    obtain ⟨⟨h1, h2⟩, ⟨h3, h4⟩, _⟩ := hs O H s
    obtain ⟨c, c', e1, e2, _⟩ := zipD_get hd
    obtain ⟨v, e3, _⟩ := h2.get e1
    obtain ⟨u, e4, _⟩ := h4.get e2
    exact ⟨vs, us, v, u, h1, h3, e3, e4⟩
  yld := fun O H i d x H' s hd ⟨T, y, z, ex, hT, eH, hy, hz⟩ => by
    obtain ⟨⟨h1, h2⟩, ⟨h3, h4⟩, h5⟩ := hs O H s
    subst ex
    subst eH
    obtain ⟨x1, r1⟩ := zip_yld (G := G) h5 h2 h4 hd hT (hy vs h1) (hz us h3)
    exact ⟨O, x1, r1⟩
  stop := fun O H s => by
    obtain ⟨⟨h1, h2⟩, ⟨h3, h4⟩, _⟩ := hs O H s
    refine ⟨vs, us, h1, h3, ?_⟩
    rw [zipD_length, h2.length, h4.length]
    omega
def wiZip (WL : WA) : WI := fun ρ q => WL ρ fun ds => match ds with
  | [.tup a, .tup b] => q (zipD a b)
  | [.lst a, .lst b] => q (zipD a b)
  | _ => False
theorem di_zip {e2 : Expr} {WL : WA} {tpos : Pos} {elts : List Expr} {kk : Nat} (hK : X.K = G.K) (h : ∀ {ta : TA}, PA X [e, e2] ta → PI X (.Tuple elts kk tpos) (.Call (.Name "zip" p) [e, e2] [] pos) (RZ.iZipA X.K ta)) (ha : DA G X [e, e2] WL) :
    DI G X (.Tuple elts kk tpos) (.Call (.Name "zip" p) [e, e2] [] pos) (wiZip WL) := PI_mono (h ha) fun σ H R ⟨O, ρ, q, RE, w, k⟩ => tDA1 (W := WL) RE w fun O1 H1 vs ds R1 x1 r1 w1 => by
  rw [hK]
  split at w1
  · cases r1 with
    | cons r1 r2 =>
      cases r2 with
      | cons r2 r3 =>
        cases r3
        cases r1 with
        | tup hs ha =>
          cases r2 with
          | tup hs2 ha2 => exact ⟨_, _, _, _, rfl, .inr ⟨hs, hs2, k O1 H1 _ _ x1 (walk_zipT fun O2 H2 s => ⟨⟨s.2.sqT hs, s.2.repA _ _ ha⟩, ⟨s.2.sqT hs2, s.2.repA _ _ ha2⟩, s.1⟩) w1⟩⟩
  · cases r1 with
    | cons r1 r2 =>
      cases r2 with
      | cons r2 r3 =>
        cases r3
        cases r1 with
        | lst hs ha =>
          cases r2 with
          | lst hs2 ha2 => exact ⟨_, _, _, _, rfl, .inl ⟨SqL.of hs.2, SqL.of hs2.2, k O1 H1 _ _ x1 (walk_zipL fun O2 H2 s => ⟨⟨SqL.of (s.2.listAt hs).2, s.2.repA _ _ ha⟩, ⟨SqL.of (s.2.listAt hs2).2, s.2.repA _ _ ha2⟩, s.1⟩) w1⟩⟩
  · exact w1.elim
end
end DL
set_option Elab.async false
set_option linter.all false
set_option maxRecDepth 100000
set_option maxHeartbeats 4000000
/-! DL6: comprehensions, calls of defs, a def's promise. -/
namespace DL
open PySem PySem.Spec PyProof.Rows L2

section
variable {G : Fx} {X : Cx} {O O1 O2 O' : Om} {H H1 H2 H' : Hp} {σ σ' : L2.St} {ρ ρ' : Env} {tg e : Expr} {es : List Expr} {W We : WE} {WL : WA} {T : WT} {g : WG} {pos p : Pos}

theorem EnvR.nox (R : EnvR G O H σ ρ) : EnvR G.nox O H σ ρ := ⟨R.ok0, R.ext, R.len, R.val, R.own, R.apart, R.own2, R.apart2, R.uniq2⟩
theorem EnvR.unnox (R : EnvR G.nox O H σ ρ) : EnvR G O H σ ρ := ⟨R.ok0, R.ext, R.len, R.val, R.own, R.apart, R.own2, R.apart2, R.uniq2⟩
def wipeE (ρ : Env) : List Nat → Env
  | [] => ρ
  | v :: vs => (wipeE ρ vs).set v none
theorem EnvR.wipe (R : EnvR G O H σ ρ) : ∀ vs : List Nat, EnvR G O H (wipe σ vs) (wipeE ρ vs)
  | [] => R
  | v :: vs => (R.wipe vs).unset v none
theorem wipe_get {σ : L2.St} {i : Nat} : ∀ {vs : List Nat}, i ∉ vs → (L2.wipe σ vs)[i]? = σ[i]?
  | [], _ => rfl
  | v :: vs, h => by
    have h1 : v ≠ i := fun z => h (by rw [z]; exact List.mem_cons_self)
    have h2 : i ∉ vs := fun z => h (List.mem_cons_of_mem _ z)
    show ((L2.wipe σ vs).set v none)[i]? = _
    rw [List.getElem?_set_ne h1, wipe_get h2]
theorem wipe_in {σ : L2.St} {i : Nat} : ∀ {vs : List Nat}, i ∈ vs → i < σ.length → (L2.wipe σ vs)[i]? = some none
  | [], h, _ => by cases h
  | v :: vs, h, hl => by
    show ((L2.wipe σ vs).set v none)[i]? = _
    by_cases e : v = i
    · subst e
      exact List.getElem?_set_self (by rw [wipe_length]; exact hl)
    · rw [List.getElem?_set_ne e]
      rcases List.mem_cons.mp h with z | z
      · exact absurd z.symm e
      · exact wipe_in z hl
theorem wipe_twice (σ : L2.St) (vs : List Nat) : L2.wipe (L2.wipe σ vs) vs = L2.wipe σ vs := by
  apply List.ext_getElem?
  intro i
  by_cases h : i ∈ vs
  · by_cases hl : i < σ.length
    · rw [wipe_in h (by rw [wipe_length]; exact hl), wipe_in h hl]
    · rw [List.getElem?_eq_none (by rw [wipe_length, wipe_length]; omega), List.getElem?_eq_none (by rw [wipe_length]; omega)]
  · rw [wipe_get h]

/-! ### comprehensions -/
abbrev DTs (G : Fx) (X : Cx) (ifs : List Expr) (T : WT) : Prop := PTs X ifs (tDT G T)
theorem PTs_mono {ifs : List Expr} {t t' : TT} (h : PTs X ifs t) (k : ∀ σ H Q, t' σ H Q → t σ H Q) : PTs X ifs t' := ⟨fun pins s σ H Q I w => h.run pins s σ H Q I (k σ H Q w)⟩
def wYes : WT := fun _ q => q true
theorem dts_nil : DTs G X [] wYes := PTs_mono pts_nil fun σ H Q ⟨O, ρ, q, R, w, k⟩ => k O H true (Ext.refl R.ok) w
theorem dts_one {c : Expr} (h : DT G X c T) : DTs G X [c] T := PTs_mono (pts_one h) fun _ _ _ h => h
def wLcL (g : WG) (T : WT) (We : WE) (ρw : Env) : List D → List D → (List D → Prop) → Prop
  | [], acc, q => q acc
  | d :: ds, acc, q => g d ρw fun ρ2 => T ρ2 fun b => if b = true then We ρ2 fun y => acc.length < sizeLine ∧ wLcL g T We ρw ds (acc ++ [y]) q else wLcL g T We ρw ds acc q
def wLc (Wi : WI) (g : WG) (T : WT) (We : WE) (vs : List Nat) : WE := fun ρ q => Wi ρ fun ds => wLcL g T We (wipeE ρ vs) ds [] fun acc => q (.lst acc)
/-- a list that is nobody's is written -/
theorem put_ok (okH : Ok O H) {a : Addr} {vs us : List V} (e : H a = some (.lst vs)) (hf : ¬ O.F a) (hb : ¬ O.Bo a) : Ok O (upd H a (.lst us)) ∧ Keep O O H (upd H a (.lst us)) := by
  have off : ∀ {b : Addr} {o : HO}, H b = some o → (∀ ws, o ≠ .lst ws) → b ≠ a := fun {b o} q h z => by
    rw [z, e] at q
    exact h vs (Option.some.inj q).symm
  refine ⟨{ tabs := fun p hp => ?_, bow := fun b hb' => ?_, fb := okH.fb, ft := fun b f => ?_ }, { bo := fun _ h => h, up := fun _ h => h, lst := fun b ws f q => ?_, tup := fun b ws q => ?_, frz := fun b o u q => ?_, ext := fun b f q => ?_ }⟩
  · obtain ⟨ps, t1, t2, t3⟩ := okH.tabs p hp
    refine ⟨ps, by rw [upd_ne (off t1 fun ws z => by cases z)]; exact t1, t2, fun pos cv hc => ?_⟩
    obtain ⟨c, c1, c2⟩ := t3 pos cv hc
    exact ⟨c, c1, by rw [upd_ne (off c2 fun ws z => by unfold LamX.CodeO at z; cases z)]; exact c2⟩
  · obtain ⟨i, j, k, q⟩ := okH.bow b hb'
    exact ⟨i, j, k, by rw [upd_ne (fun z => hb (by rw [← z]; exact hb'))]; exact q⟩
  · rw [upd_ne (fun z => hf (by rw [← z]; exact f))]
    exact okH.ft b f
  · rw [upd_ne (fun z => hf (by rw [← z]; exact f))]
    exact q
  · rw [upd_ne (off q fun ws z => by cases z)]
    exact q
  · rw [upd_ne (off q fun ws z => by cases z)]
    exact q
  · rw [upd_ne (off q fun ws z => by cases z)]
    exact q
theorem Ext.put (x : Ext O O1 H H1) {a : Addr} {vs us : List V} (n : NT (H a)) (e : H1 a = some (.lst vs)) (hf : ¬ O1.F a) (hb : ¬ O1.Bo a) : Ext O O1 H (upd H1 a (.lst us)) where
  bo := x.bo
  tt := x.tt
  same := fun b o hb' ht q => by
    rw [upd_ne (fun z => by rw [z] at q; rw [q] at n; exact nt_not ht n)]
    exact x.same b o hb' ht q
  up := x.up
  new := x.new
  ok := (put_ok x.ok e hf hb).1
theorem tLc_of {Wi : WI} {g : WG} {T : WT} {We : WE} {vs : List Nat} : ∀ σ H Q, tDF G (wLc Wi g T We vs) σ H Q → tLc (tDIB G Wi) (tDG G.nox vs g) (tDT G.nox T) (tD G.nox We) vs σ H Q := fun σ H Q ⟨O, ρ, q, R, w, k⟩ => by
    refine ⟨O, ρ, _, R, w, fun O1 H1 J ds x1 wd w1 Dd hD => ?_⟩
    have R1 := R.step x1
    have nD : NT (H Dd) := x1.nt R.ok (.inl hD)
    have xl : Ext O1 O1 H1 (upd H1 Dd (.lst [])) := R1.lay hD
    refine ⟨fun i m Hi => m = ds.length - i ∧ i ≤ ds.length ∧ ∃ O2 acc vacc, Ext O1 O2 H1 Hi ∧ Hi Dd = some (.lst vacc) ∧ RepA G.K O2 Hi vacc acc ∧ ¬ O2.F Dd ∧ ¬ O2.Bo Dd ∧ wLcL g T We (wipeE ρ vs) (ds.drop i) acc fun acc => q (.lst acc),
      ⟨ds.length, by simp, Nat.zero_le _, O1, [], [], xl, upd_same, .nil, R1.newF hD, R1.newB hD, w1⟩, ?_⟩
    rintro i m Hi ⟨rfl, hi, O2, acc, vacc, x2, eD, ra, nf, nb, w2⟩
    by_cases hlt : i < ds.length
    · have hd : ds[i]? = some ds[i] := List.getElem?_eq_getElem hlt
      rw [List.drop_eq_getElem_cons hlt] at w2
      refine .inr ⟨wd.go O2 Hi i _ x2 hd, fun Hn => ∃ O2 acc vacc, Ext O1 O2 H1 Hn ∧ Hn Dd = some (.lst vacc) ∧ RepA G.K O2 Hn vacc acc ∧ ¬ O2.F Dd ∧ ¬ O2.Bo Dd ∧ wLcL g T We (wipeE ρ vs) (ds.drop (i + 1)) acc fun acc => q (.lst acc),
        fun Hn hn => ⟨ds.length - (i + 1), by omega, rfl, hlt, hn⟩, fun x H3 y => ?_⟩
      obtain ⟨O3, x3, r3⟩ := wd.yld O2 Hi i _ x H3 x2 hd y
      have x13 := x2.trans R1.ok x3
      have R3 := R1.step x13
      have notl : ∀ ps : Array Value, HO.lst vacc ≠ .tbl ps := fun ps z => by cases z
      have eD3 := x3.same Dd _ nb notl eD
      have nb3 : ¬ O3.Bo Dd := by rw [x3.bo]; exact nb
      have nf3 : ¬ O3.F Dd := fun f => by
        rcases x3.new Dd f with z | z
        · exact nf z
        · rw [eD] at z; exact nt_not notl z
      have ra3 := (x3.keep x2.ok).repA _ _ ra
      refine ⟨O3, wipeE ρ vs, _, _, (R3.wipe vs).nox, r3, w2, fun σ4 ρ4 R4 e4 w4 => ⟨e4.trans (wipe_twice σ vs), ?_⟩⟩
      refine ⟨O3, ρ4, _, R4, w4, fun O5 H5 b x5 w5 => ?_⟩
      have x15 := x13.trans R1.ok x5
      have eD5 := x5.same Dd _ nb3 notl eD3
      have nb5 : ¬ O5.Bo Dd := by rw [x5.bo]; exact nb3
      have nf5 : ¬ O5.F Dd := fun f => by
        rcases x5.new Dd f with z | z
        · exact nf3 z
        · rw [eD3] at z; exact nt_not notl z
      have ra5 := (x5.keep R4.ok).repA _ _ ra3
      cases b with
      | true =>
        rw [if_pos rfl] at w5
        refine L2.iteT ?_
        refine ⟨O5, ρ4, _, R4.step x5, w5, fun O6 H6 yv yd x6 r6 ⟨hl, w6⟩ => ?_⟩
        have x16 := x15.trans R1.ok x6
        have eD6 := x6.same Dd _ nb5 notl eD5
        have nb6 : ¬ O6.Bo Dd := by rw [x6.bo]; exact nb5
        have nf6 : ¬ O6.F Dd := fun f => by
          rcases x6.new Dd f with z | z
          · exact nf5 z
          · rw [eD5] at z; exact nt_not notl z
        have ra6 := (x6.keep x15.ok).repA _ _ ra5
        refine ⟨vacc, eD6, by rw [ra6.length]; exact hl, O6, acc ++ [yd], vacc ++ [yv], x16.put (.inl hD) eD6 nf6 nb6, upd_same, ?_, nf6, nb6, w6⟩
        exact (put_ok x16.ok eD6 nf6 nb6).2.repA _ _ (ra6.append (.cons r6 .nil))
      | false =>
        rw [if_neg Bool.false_ne_true] at w5
        refine L2.iteF ?_
        exact ⟨O5, acc, vacc, x15, eD5, ra5, nf5, nb5, w5⟩
    · have ei : i = ds.length := by omega
      subst ei
      rw [List.drop_length] at w2
      exact .inl ⟨wd.stop O2 Hi x2, k O2 Hi Dd vacc acc (x1.trans R.ok x2) eD ra nf nb nD w2⟩
theorem df_lc {elt iter : Expr} {ifs : List Expr} {scope : Scope} {own : List (Str × Nat)} {Wi : WI} (h : ∀ {wi : TI} {g : TG} {tt : TT} {te : TE}, PI X tg iter wi →
      (∀ (s : Shared) (H : Hp) (C : Addr) (cl : List (Str × Addr)) (fp : List Addr), PG (X.blk s H scope (compEnvC scope cl C X.env) fp) tg g) →
      (∀ (s : Shared) (H : Hp) (C : Addr) (cl : List (Str × Addr)) (fp : List Addr), PTs (X.blk s H scope (compEnvC scope cl C X.env) fp) ifs tt) →
      (∀ (s : Shared) (H : Hp) (C : Addr) (cl : List (Str × Addr)) (fp : List Addr), PE (X.blk s H scope (compEnvC scope cl C X.env) fp) elt te) → PE X e (tLc wi g tt te (own.map (·.2))))
    (hi : DIB G X tg iter Wi) (hg : ∀ (s : Shared) (H : Hp) (C : Addr) (cl : List (Str × Addr)) (fp : List Addr), DG G.nox (X.blk s H scope (compEnvC scope cl C X.env) fp) (own.map (·.2)) tg g)
    (ht : ∀ (s : Shared) (H : Hp) (C : Addr) (cl : List (Str × Addr)) (fp : List Addr), DTs G.nox (X.blk s H scope (compEnvC scope cl C X.env) fp) ifs T)
    (he : ∀ (s : Shared) (H : Hp) (C : Addr) (cl : List (Str × Addr)) (fp : List Addr), DE G.nox (X.blk s H scope (compEnvC scope cl C X.env) fp) elt We) : DF G X e (wLc Wi g T We (own.map (·.2))) :=
  PE_mono (h hi hg ht he) tLc_of
/-- a new list as plain data -/
theorem de_of_df (h : DF G X e W) : DE G X e W := PE_mono h fun σ H Q ⟨O, ρ, q, R, w, k⟩ => ⟨O, ρ, q, R, w, fun O' H' a vs ds x h1 h2 h3 h4 h5 hq => by
  have kp : Keep O' (O'.add a) H' H' := ⟨fun _ h => h, fun _ h => .inl h, fun _ _ _ e => e, fun _ _ e => e, fun _ _ _ e => e, fun _ _ e => e⟩
  refine k (O'.add a) H' (.ref a) (.lst ds) ?_ (.lst ⟨.inr rfl, h1⟩ (kp.repA _ _ h2)) hq
  exact {
    bo := x.bo
    tt := x.tt
    same := x.same
    up := fun b f => .inl (x.up b f)
    new := fun b f => by
      rcases f with f | rfl
      · exact x.new b f
      · exact .inr h5
    ok := {
      tabs := x.ok.tabs
      bow := x.ok.bow
      fb := fun b f z => by
        rcases f with f | rfl
        · exact x.ok.fb b f z
        · exact h4 z
      ft := fun b f => by
        rcases f with f | rfl
        · exact x.ok.ft b f
        · rw [h1]; exact nt_not fun ps z => by cases z } }⟩
theorem db_of_df (h : DF G X e W) : DB G X e W := db_of (de_of_df h)
theorem de_lc {elt iter : Expr} {ifs : List Expr} {scope : Scope} {own : List (Str × Nat)} {Wi : WI} (hc : X.calm = true) (hN : X.N.Nodup) (ok : BlkOk X.N X.env.scope scope own)
    (hi : DIB G X tg iter Wi) (hg : ∀ (s : Shared) (H : Hp) (C : Addr) (cl : List (Str × Addr)) (fp : List Addr), DG G.nox (X.blk s H scope (compEnvC scope cl C X.env) fp) (own.map (·.2)) tg g)
    (ht : ∀ (s : Shared) (H : Hp) (C : Addr) (cl : List (Str × Addr)) (fp : List Addr), DTs G.nox (X.blk s H scope (compEnvC scope cl C X.env) fp) ifs T)
    (he : ∀ (s : Shared) (H : Hp) (C : Addr) (cl : List (Str × Addr)) (fp : List Addr), DE G.nox (X.blk s H scope (compEnvC scope cl C X.env) fp) elt We) (hs : ∀ x, foldedSetIterable iter X.env x = pure x := by intro _; rfl) :
    DF G X (.ListComp elt [⟨tg, iter, ifs, 0⟩] scope pos) (wLc Wi g T We (own.map (·.2))) := df_lc (fun a b c d => pe_lc hc hN a ok b c d hs) hi hg ht he
/-- name = [..] on one line: the name's list is the def's own, or plain data -/
theorem df_set {i : Nat} {x : Str} {px : Pos} {rhs : Expr} {vs : List Nat} {te : TE} (h : PS X (.Assign [.Name x px] rhs pos) (tAsg te (gName i))) (ht : ∀ σ H Q, tDF G W σ H Q → te σ H Q) : DS G X (.Assign [.Name x px] rhs pos) (wAsg W (wgOwn i)) :=
  PS_mono h fun D σ H ⟨O, ρ, k, R, w, knx, _⟩ => ht σ H _ ⟨O, ρ, _, R, w, fun O1 H1 a vs ds x1 h1 h2 h3 h4 h5 w1 => by
    have R1 := R.step x1
    refine knx O1 _ _ H1 (R1.setOwn i h1 h2 h3 h4 (R.ext.nt R.ok0 h5) (fun j dj _ hj hs => ?_) fun j dss b as _ h s hh => R.off2 x1 h5 h s hh) (x1.keep R.ok) w1
    obtain ⟨b, us, k1, k2, _⟩ := R.own j dj hj
    rw [hs] at k1
    cases k1
    rw [k2] at h5
    exact nt_not (fun ps z => by cases z) h5⟩

/-! ### a def's promise over plain data -/
abbrev WF := List D → (D → Prop) → (Ex → Prop) → Prop
def spD (K : PySem.W.Frag) (T : List (Addr × Str)) (n : Nat) (wf : WF) : Sp := fun vs H Q E => ∃ O ds q ep, vs.length = n ∧ (Ok O H ∧ O.T = T) ∧ RepA K O H vs ds ∧ wf ds q ep ∧
  (∀ O' H' v d, Ext O O' H H' → Rep K O' H' v d → q d → Q v H') ∧ (∀ O' H' cls dx x, Ext O O' H H' → RepX K O' H' cls dx x → ep x → E cls dx H')
abbrev FnD (P : Program) (w : World) (K : PySem.W.Frag) (mg : Str → Option Value) (base : Heap) (T : List (Addr × Str)) (k : Nat) (f : Addr) (fd : FuncData) (ps : List Str) (wf : WF) : Prop := FnOk P w K mg base (L2.CX P w) k f fd ps (spD K T ps.length wf)
def wCall (wf : WF) (ep : Ex → Prop) (WL : WA) : WE := fun ρ q => WL ρ fun ds => wf ds q ep
theorem call_reads {n : Nat} {wf : WF} {O1 : Om} {H1 : Hp} {vs : List V} {ds : List D} {q : D → Prop} {Q : VK} (R1 : EnvR G O1 H1 σ ρ) (hl : vs.length = n) (r : RepA G.K O1 H1 vs ds) (w : wf ds q G.ep) (k : ∀ O' H' v d, Ext O1 O' H1 H' → Rep G.K O' H' v d → q d → Q v H') : spD G.K G.O0.T n wf vs H1 Q G.ex :=
  ⟨O1, ds, q, G.ep, hl, ⟨R1.ok, R1.ext.tt⟩, r, w, k, fun O' H' cls dx x x1 rx h => ⟨O', x, R1.ext.trans R1.ok0 x1, rx, h⟩⟩
theorem de_call {k : Nat} {f : Addr} {fd : FuncData} {ps : List Str} {wf : WF} {x : Str} (hK : X.K = G.K) (F : FnD X.prog X.w X.K X.mg X.base G.O0.T k f fd ps wf) (hr : Room k X.A) (hg : Gl X x) (hm : X.mg x = some (.ref f)) (hk : PySem.W.keepIn X.K (.ref f) = true) (hb : Binds X.K fd ps []) (hx : Passes (L2.CX X.prog X.w) X G.ex)
    (ha : DA G X (e :: es) WL) (hn : (e :: es).length = ps.length) (hdb : (x == ("__debug__" : Str)) = false := by decide) (he : starEach (e :: es) X.env = (false, eval e X.env) :: starEach es X.env := by rfl) (hpl : (backTo pos (starEach es X.env)).any (·.1) = false := by rfl) :
    DE G X (.Call (.Name x p) (e :: es) [] pos) (wCall wf G.ep WL) := PE_mono (pe_call F hr hg hm hk hb .nil hx ha hdb he hpl) fun σ H Q ⟨O, ρ, q, R, w, k⟩ =>
  tDA2 R w fun O1 H1 vs ds R1 x1 r1 hl w1 => by
    rw [hK, List.append_nil]
    exact call_reads R1 (by rw [r1.length, hl]; exact hn) r1 w1 fun O2 H2 v d x2 r2 q2 => k O2 H2 v d (x1.trans R.ok x2) r2 q2
/-! ### a def by its body -/
def startE (n : Nat) (ds : List D) : Env := (ds.map fun d => some (Slot.val d)) ++ List.replicate (n - ds.length) none
theorem start_rep {N : List Str} {vs : List V} {ds : List D} (ok : Ok G.O0 G.H0) (r : RepA G.K G.O0 G.H0 vs ds) : EnvR G G.O0 G.H0 (L2.start N vs) (startE N.length ds) where
  ok0 := ok
  ext := Ext.refl ok
  len := by
    unfold L2.start startE
    rw [List.length_append, List.length_append, List.length_map, List.length_map, List.length_replicate, List.length_replicate, r.length]
  val := fun i d h => by
    unfold startE at h
    by_cases hi : i < ds.length
    · rw [List.getElem?_append_left (by rw [List.length_map]; exact hi), List.getElem?_map] at h
      cases e : ds[i]? with
      | none => rw [e] at h; cases h
      | some c =>
        rw [e] at h
        cases h
        obtain ⟨v, e1, r1⟩ := r.get e
        refine ⟨v, ?_, r1⟩
        unfold L2.start
        have hv : i < vs.length := (List.getElem?_eq_some_iff.mp e1).1
        rw [List.getElem?_append_left (by rw [List.length_map]; exact hv), List.getElem?_map, e1]
        rfl
    · rw [List.getElem?_append_right (by rw [List.length_map]; omega), List.getElem?_replicate] at h
      split at h <;> cases h
  own := fun i d h => by
    unfold startE at h
    by_cases hi : i < ds.length
    · rw [List.getElem?_append_left (by rw [List.length_map]; exact hi), List.getElem?_map] at h
      cases e : ds[i]? with
      | none => rw [e] at h; cases h
      | some c => rw [e] at h; cases h
    · rw [List.getElem?_append_right (by rw [List.length_map]; omega), List.getElem?_replicate] at h
      split at h <;> cases h
  apart := fun i j di dj a h => by
    unfold startE at h
    by_cases hi : i < ds.length
    · rw [List.getElem?_append_left (by rw [List.length_map]; exact hi), List.getElem?_map] at h
      cases e : ds[i]? with
      | none => rw [e] at h; cases h
      | some c => rw [e] at h; cases h
    · rw [List.getElem?_append_right (by rw [List.length_map]; omega), List.getElem?_replicate] at h
      split at h <;> cases h
  own2 := fun i dss h => by
    unfold startE at h
    by_cases hi : i < ds.length
    · rw [List.getElem?_append_left (by rw [List.length_map]; exact hi), List.getElem?_map] at h
      cases e : ds[i]? with
      | none => rw [e] at h; cases h
      | some c => rw [e] at h; cases h
    · rw [List.getElem?_append_right (by rw [List.length_map]; omega), List.getElem?_replicate] at h
      split at h <;> cases h
  apart2 := fun i j dss dj a b as h => by
    unfold startE at h
    by_cases hi : i < ds.length
    · rw [List.getElem?_append_left (by rw [List.length_map]; exact hi), List.getElem?_map] at h
      cases e : ds[i]? with
      | none => rw [e] at h; cases h
      | some c => rw [e] at h; cases h
    · rw [List.getElem?_append_right (by rw [List.length_map]; omega), List.getElem?_replicate] at h
      split at h <;> cases h
  uniq2 := fun i j di dj h => by
    unfold startE at h
    by_cases hi : i < ds.length
    · rw [List.getElem?_append_left (by rw [List.length_map]; exact hi), List.getElem?_map] at h
      cases e : ds[i]? with
      | none => rw [e] at h; cases h
      | some c => rw [e] at h; cases h
    · rw [List.getElem?_append_right (by rw [List.length_map]; omega), List.getElem?_replicate] at h
      split at h <;> cases h
/-- what a body's proof may use of where it stands -/
structure At (X : Cx) (G : Fx) (T : List (Addr × Str)) : Prop where
  K : X.K = G.K
  T : G.O0.T = T
  pass : Passes (L2.CX X.prog X.w) X G.ex
  own : PassesOwn (model X.prog X.w) X.A X.env X.xe
  takes : Takes X (fun cls d _ H => G.ex cls d H)
theorem _root_.L2.Fun.okXC {P : Program} {w : World} {K : PySem.W.Frag} {mg : Str → Option Value} {base : Heap} {x qual : Str} {st : Stmt} {f : Addr} {fd : FuncData} {N ps : List Str} {k : Nat} {sp : Sp} (F : Fun K x qual st f fd) (S : FnScope N ps (defScope st)) (len : ∀ vs H Q E, sp vs H Q E → vs.length = ps.length)
    (hbody : ∀ (cdv : Value), fd.code = cdv → ∀ (A : Around) (outer : List PySem.Env) (s : Shared) (H : Hp) (vs : List V) (Q : VK) (E : XK), Room k (A.deeper (envOfC qual (defScope st) s.heap.objs.size f cdv)) → sp vs H Q E →
      ∃ t, PSs (cxOf (L2.CX P w) P w K mg base N qual (defScope st) f cdv A outer s H E) (defBody st) t ∧ t { nx := fun _ H' => Q .non H', rt := Q } (L2.start N vs) H) : FnOk P w K mg base (L2.CX P w) (k + 1) f fd ps sp := by
  obtain ⟨oc, od, kV, doc, pm, an, cdv, ct, osl, rfl, lk, hcd⟩ := F.ex
  exact fn_of lk hcd S len fun A outer s H vs Q E hr hsp => hbody cdv rfl A outer s H vs Q E hr hsp
theorem fn_ok {P : Program} {w : World} {K : PySem.W.Frag} {mg : Str → Option Value} {base : Heap} {T : List (Addr × Str)} {name qual : Str} {st : Stmt} {f : Addr} {fd : FuncData} {N ps : List Str} {k : Nat} {wf : WF} (F : Fun K name qual st f fd) (S : FnScope N ps (defScope st)) (Wb : (Ex → Prop) → WS)
    (hbody : ∀ (cdv : Value), fd.code = cdv → ∀ (A : Around) (outer : List PySem.Env) (s : Shared) (E : XK) (G : Fx), Room k (A.deeper (envOfC qual (defScope st) s.heap.objs.size f cdv)) → G.K = K →
      At (cxOf (L2.CX P w) P w K mg base N qual (defScope st) f cdv A outer s G.H0 E) G T → DSs G (cxOf (L2.CX P w) P w K mg base N qual (defScope st) f cdv A outer s G.H0 E) (defBody st) (Wb G.ep))
    (hW : ∀ ds q ep, ds.length = ps.length → wf ds q ep → Wb ep { nx := fun _ => q .non, rt := q } (startE N.length ds)) : FnD P w K mg base T (k + 1) f fd ps wf := by
  refine F.okXC S (fun vs H Q E ⟨O, ds, q, ep, hl, _⟩ => hl) fun cdv hcode A outer s H vs Q E hr ⟨O, ds, q, ep, hl, ⟨ok, hT⟩, r, w1, kv, kx⟩ => ?_
  have hG : ∀ cls d (σ : L2.St) H', (Fx.mk K H O ep).ex cls d H' → E cls d H' := fun cls d _ H' ⟨O', x, x1, rx, h⟩ => kx O' H' cls d x x1 rx h
  refine ⟨_, hbody cdv hcode A outer s E ⟨K, H, O, ep⟩ hr rfl ⟨rfl, hT, passes_call (takes_of rfl rfl rfl rfl) hG, passes_of rfl, (takes_of rfl rfl rfl rfl).imp hG⟩, ?_⟩
  refine ⟨O, startE N.length ds, _, start_rep (G := ⟨K, H, O, ep⟩) ok r, hW ds q ep (by rw [← r.length]; exact hl) w1, fun O' σ' ρ' H' R' _ h => ?_, fun O' H' v d x r' h => kv O' H' v d x r' h, fun _ _ _ _ _ _ h => h.elim, fun _ _ _ _ _ _ h => h.elim⟩
  exact kv O' H' .non .non R'.ext .non h
end
end DL
set_option Elab.async false
set_option linter.all false
set_option maxRecDepth 100000
set_option maxHeartbeats 4000000
/-! DL7: lambdas that are handed on. -/
namespace DL
open PySem PySem.Spec PyProof.Rows L2 NdefX LamX

/-- the function object at f may be called wherever the heap has only grown since s -/
structure LamOk (P : Program) (w : World) (K : PySem.W.Frag) (mg : Str → Option Value) (base : Heap) (O : Om) (s : Shared) (H : Hp) (fs : List Addr) (k : Nat) (f : Addr) (n : Nat) (wf : WF) : Prop where
  fn : PySem.W.FnAt f s.heap
  free : H f = none
  nfs : f ∉ fs
  run : ∀ (A : Around) (outer : List PySem.Env) (s1 : Shared) (H1 : Hp) (us : List Value) (vs : List V) (O1 : Om) (ds : List D) (q : D → Prop) (ep : Ex → Prop) (Q : VK) (E : XK) (fs' : List Addr), f ∉ fs' → Room k A → Env0 P w K mg base A outer s1 H1 →
    Un fs' [] H H1 s.heap s1.heap → Keep O O1 H H1 → Ok O1 H1 → O1.T = O.T → Vals vs us → ds.length = n → RepA K O1 H1 vs ds → wf ds q ep →
    (∀ O' H' v d, Ext O1 O' H1 H' → Rep K O' H' v d → q d → Q v H') → (∀ O' H' cls dx x, Ext O1 O' H1 H' → RepX K O' H' cls dx x → ep x → E cls dx H') →
    codeAny (model P w) A (.call (.ref f) ⟨us, []⟩) (CR (L2.CX P w) outer P w H1 s1 Q E) s1
theorem LamOk.mono {P : Program} {w : World} {K : PySem.W.Frag} {mg : Str → Option Value} {base : Heap} {O : Om} {s : Shared} {H : Hp} {fs : List Addr} {j k : Nat} {f : Addr} {n : Nat} {wf : WF} (L : LamOk P w K mg base O s H fs j f n wf) (h : j ≤ k) : LamOk P w K mg base O s H fs k f n wf :=
  ⟨L.fn, L.free, L.nfs, fun A outer s1 H1 us vs O1 ds q ep Q E fs' hf hr => L.run A outer s1 H1 us vs O1 ds q ep Q E fs' hf (hr.mono h)⟩
/-- later on -/
theorem LamOk.later {P : Program} {w : World} {K : PySem.W.Frag} {mg : Str → Option Value} {base : Heap} {O O1 : Om} {s s1 : Shared} {H H1 : Hp} {fs fs1 : List Addr} {k : Nat} {f : Addr} {n : Nat} {wf : WF} (L : LamOk P w K mg base O s H fs k f n wf)
    (u : Un fs [] H H1 s.heap s1.heap) (kp : Keep O O1 H H1) (ht : O1.T = O.T) (hf : f ∉ fs1) : LamOk P w K mg base O1 s1 H1 fs1 k f n wf := by
  obtain ⟨oc, od, fd, sl, e⟩ := L.fn
  refine ⟨⟨oc, od, fd, sl, u.keep f _ e L.free L.nfs (by simp)⟩, u.free f _ e L.free (by simp), hf, fun A outer s2 H2 us vs O2 ds q ep Q E fs' hf' hr e0 u2 k2 ok2 t2 r hl ra hw kv kx => ?_⟩
  have u12 : Un (fs ++ fs') [] H H2 s.heap s2.heap := (u.mono (fun b hb => List.mem_append_left _ hb) fun b hb => hb).trans (u2.mono (fun b hb => List.mem_append_right _ hb) fun b hb => hb)
  exact L.run A outer s2 H2 us vs O2 ds q ep Q E (fs ++ fs') (fun z => (List.mem_append.mp z).elim L.nfs hf') hr e0 u12 (kp.trans k2) ok2 (t2.trans ht) r hl ra hw kv kx

section
variable {G : Fx} {X : Cx} {O O1 O2 O' : Om} {H H1 H2 H' : Hp} {σ σ' : L2.St} {ρ ρ' : Env} {tg e : Expr} {es : List Expr} {W We : WE} {WL : WA} {T : WT} {g : WG} {pos p : Pos} {pins : List (Addr × Obj)} {s : Shared}
/-- what a lambda sees of the slots of its maker -/
def capE (ρ : Env) (js : List Nat) : Env := js.map fun (j : Nat) => match ρ[j]? with
  | some (some (Slot.val d)) => some (Slot.val d)
  | _ => none
def startL (n : Nat) (ds : List D) (cs : Env) : Env := (ds.map fun d => some (Slot.val d)) ++ (cs ++ List.replicate (n - ds.length - cs.length) none)
theorem CellsAt.later {cl : List (Str × Addr)} {fr : List Str} {ws : List (Option V)} {h h1 : Heap} {fs : List Addr} (C : CellsAt cl fr ws h H) (u : Un fs [] H H1 h h1) : CellsAt cl fr ws h1 H1 := by
  have cellK : ∀ {c : Addr} {v : Option Value}, H c = none → h.IsCell c v → h1.IsCell c v := fun {c v} n ⟨o, ho, hd⟩ => by
    obtain ⟨sl, q⟩ := u.any ho n (by simp)
    exact ⟨_, q, hd⟩
  refine ⟨C.len, fun y c e => ?_, C.inj, fun i y e => ?_⟩
  · obtain ⟨n, v, z⟩ := C.all y c e
    obtain ⟨o, ho, _⟩ := id z
    exact ⟨u.free c o ho n (by simp), v, cellK n z⟩
  · obtain ⟨c, hc, hv⟩ := C.has i y e
    refine ⟨c, hc, fun v q => ?_⟩
    obtain ⟨x, r, z⟩ := hv v q
    exact ⟨x, r, cellK (C.all y c hc).1 z⟩
/-- the slots of a lambda's body at its entry -/
theorem startL_rep {G1 : Fx} {n : Nat} {N : List Str} {vs : List V} {ds : List D} {js : List Nat} (ok1 : Ok G1.O0 G1.H0) (R : EnvR G O H σ ρ) (hK : G1.K = G.K) (kp : Keep O G1.O0 H G1.H0) (r : RepA G1.K G1.O0 G1.H0 vs ds) :
    EnvR G1 G1.O0 G1.H0 (startF N vs (js.map (slotAt σ))) (startL N.length ds (capE ρ js)) := by
  have key : ∀ (i : Nat) (x : Slot), (startL N.length ds (capE ρ js))[i]? = some (some x) → (∃ d, ds[i]? = some d ∧ x = .val d) ∨ (ds.length ≤ i ∧ ∃ j d, js[i - ds.length]? = some j ∧ ρ[j]? = some (some (.val d)) ∧ x = .val d) := fun i x h => by
    unfold startL at h
    by_cases hi : i < ds.length
    · rw [List.getElem?_append_left (by rw [List.length_map]; exact hi), List.getElem?_map] at h
      cases e : ds[i]? with
      | none => rw [e] at h; cases h
      | some c => rw [e] at h; cases h; exact .inl ⟨c, rfl, rfl⟩
    · rw [List.getElem?_append_right (by rw [List.length_map]; omega), List.length_map] at h
      by_cases h2 : i - ds.length < (capE ρ js).length
      · rw [List.getElem?_append_left h2] at h
        unfold capE at h
        rw [List.getElem?_map] at h
        cases e : js[i - ds.length]? with
        | none => rw [e] at h; cases h
        | some j =>
          rw [e] at h
          simp only [Option.map_some, Option.some.injEq] at h
          split at h
          · rename_i d e2
            cases h
            exact .inr ⟨by omega, j, d, rfl, e2, rfl⟩
          · cases h
      · rw [List.getElem?_append_right (by omega), List.getElem?_replicate] at h
        split at h <;> cases h
  have hl := r.length
  exact {
    ok0 := ok1
    ext := Ext.refl ok1
    len := by
      unfold startL startF capE
      simp only [List.length_append, List.length_map, List.length_replicate]
      rw [hl]
    val := fun i d h => by
      rcases key i _ h with ⟨c, e1, e2⟩ | ⟨hle, j, c, e1, e2, e3⟩
      · cases e2
        obtain ⟨v, e3, r1⟩ := r.get e1
        refine ⟨v, ?_, r1⟩
        unfold startF
        rw [List.getElem?_append_left (by rw [List.length_map]; exact (List.getElem?_eq_some_iff.mp e3).1), List.getElem?_map, e3]
        rfl
      · cases e3
        obtain ⟨v, e4, r1⟩ := R.val j d e2
        refine ⟨v, ?_, by rw [hK]; exact kp.rep _ _ r1⟩
        unfold startF
        have h3 : i - ds.length < js.length := (List.getElem?_eq_some_iff.mp e1).1
        rw [List.getElem?_append_right (by rw [List.length_map, hl]; exact hle)]
        rw [show (List.map some vs).length = ds.length by rw [List.length_map, hl]]
        rw [List.getElem?_append_left (by rw [List.length_map]; exact h3), List.getElem?_map, e1]
        show some (slotAt σ j) = some (some v)
        rw [slotAt_of e4]
    own := fun i d h => by
      rcases key i _ h with ⟨c, e1, e2⟩ | ⟨hle, j, c, e1, e2, e3⟩
      · cases e2
      · cases e3
    apart := fun i j di dj a h => by
      rcases key i _ h with ⟨c, e1, e2⟩ | ⟨hle, j, c, e1, e2, e3⟩
      · cases e2
      · cases e3
    own2 := fun i dss h => by
      rcases key i _ h with ⟨c, e1, e2⟩ | ⟨hle, j, c, e1, e2, e3⟩
      · cases e2
      · cases e3
    apart2 := fun i j dss dj a b as h => by
      rcases key i _ h with ⟨c, e1, e2⟩ | ⟨hle, j, c, e1, e2, e3⟩
      · cases e2
      · cases e3
    uniq2 := fun i j di dj h => by
      rcases key i _ h with ⟨c, e1, e2⟩ | ⟨hle, j, c, e1, e2, e3⟩
      · cases e2
      · cases e3 }
theorem un_here (I : Inv X pins σ H s) (hex : X.ex = []) : Un X.fs [] X.H_0 H X.s_0.heap s.heap := by
  have q := I.base
  rwa [hex] at q
/-- a name that holds what may be called -/
def wCallV (i : Nat) (fa : Addr) (wl : WF) (ep : Ex → Prop) (WL : WA) : WE := fun ρ q => ρ[i]? = some (some (.val (.ref fa))) ∧ WL ρ fun ds => wl ds q ep
theorem de_callV {x : Str} {i k n : Nat} {fa : Addr} {wl : WF} (hK : X.K = G.K) (hH : X.H_0 = G.H0) (hex : X.ex = []) (L : LamOk X.prog X.w X.K X.mg X.base G.O0 X.s_0 G.H0 X.fs k fa n wl) (hr : Room k X.A) (hx : Passes (L2.CX X.prog X.w) X G.ex)
    (hv : PE X (.Name x p) (tVar i)) (ha : DA G X (e :: es) WL) (hn : (e :: es).length = n) (he : starEach (e :: es) X.env = (false, eval e X.env) :: starEach es X.env := by rfl) (hpl : (backTo pos (starEach es X.env)).any (·.1) = false := by rfl) :
    DE G X (.Call (.Name x p) (e :: es) [] pos) (wCallV i fa wl G.ep WL) := by
  refine ⟨fun pins s σ H Q I ⟨O, ρ, q, R, ⟨hf, w⟩, k⟩ => ?_⟩
  obtain ⟨v0, e0, r0⟩ := R.val i _ hf
  cases r0
  have fnAt : ∀ {H2 : Hp} {s2 : Shared}, Inv X pins σ H2 s2 → PySem.W.FnAt fa s2.heap := fun {H2 s2} I2 => by
    obtain ⟨oc, od, fd, sl, q⟩ := L.fn
    have u2 := un_here I2 hex
    rw [hH] at u2
    exact ⟨oc, od, fd, sl, u2.keep fa _ q L.free L.nfs (by simp)⟩
  refine wpAny_Call_Name_kw (thn (hv.run pins s σ H (fun v H1 => v = .ref fa ∧ H1 = H) I ⟨_, e0, rfl, rfl⟩) fun u s1 ⟨v, H1, I1, r1, ev, eH⟩ => ?_)
  subst ev
  subst eH
  obtain rfl : u = Value.ref fa := r1
  refine PySem.W.callWith_F (fnAt I1) (thn (ha.run pos pins s1 σ H1 (fun vs H2 => ∃ O2 ds, Ext O O2 H1 H2 ∧ RepA G.K O2 H2 vs ds ∧ ds.length = (e :: es).length ∧ wl ds q G.ep) I1 (tDA2 R w fun O2 H2 vs ds R2 x2 r2 hl w2 => ⟨O2, ds, x2, r2, hl, w2⟩)) fun us s2 ⟨vs, H2, I2, rv, O2, ds, x2, r2, hl, w2⟩ => ⟨fnAt I2, ?_⟩) he hpl
  have R2 := R.step x2
  have u2 := un_here I2 hex
  rw [hH] at u2
  refine wpAny_call (codeAny_mono (L.run X.A X.stack s2 H2 us vs O2 ds q G.ep Q G.ex X.fs L.nfs hr I2.env0 u2 (R2.ext.keep R2.ok0) R2.ok R2.ext.tt rv (hl.trans hn) (by rw [hK]; exact r2) w2 (fun O' H' v d x3 r3 q3 => k O' H' v d (x2.trans R.ok x3) (by rw [← hK]; exact r3) q3) fun O' H' cls dx y x3 rx h => ⟨O', y, R2.ext.trans R2.ok0 x3, by rw [← hK]; exact rx, h⟩) fun r s' hq => ?_)
  cases r with
  | error e => exact hx pins σ H2 s2 e s' I2 hq
  | ok fl =>
    cases fl with
    | ret u => exact I2.after hq
    | next => exact False.elim hq
    | brk => exact False.elim hq
    | cont => exact False.elim hq

/-! ### making one -/
theorem lam_ok {N ps fr : List Str} {js : List Nat} {lq : Str} {params : Arguments} {body : Expr} {scope : Scope} {pm ctv : Value} {f c' : Addr} {k : Nat} {Wl : (Ex → Prop) → WE} (I : Inv X pins σ H s) (R : EnvR G O H σ ρ) (hK : X.K = G.K)
    (hobj : s.heap.get? f = some (PySem.W.kla_obj "<lambda>" lq params body scope (cloFrom X.env.cells scope.names []) pm c' ctv)) (hco : H c' = some (CodeO c' lq)) (hfn : H f = none) (hfr : f ∉ frs X.stack) (S : NScope N ps fr scope)
    (hfree : ∀ y ∈ scope.names, y.2 = .free → X.env.scope.names.lookup y.1 = some .cell ∨ X.env.scope.names.lookup y.1 = some .free) (hfm : ∀ y ∈ fr, (y, NameKind.free) ∈ scope.names) (hjs : js.map (fun j => X.N[j]?) = fr.map some)
    (hbind : ∀ (cl : List (Str × Addr)) (pm cv ctv : Value) (us : List Value), us.length = ps.length → bindArgs (PySem.W.kla_fn "<lambda>" lq params body scope cl pm cv ctv) ⟨us, []⟩ = pure (ps.zip us))
    (hbody : ∀ (A : Around) (outer : List PySem.Env) (s1 : Shared) (E : XK) (G1 : Fx), Room k (A.deeper (envF ⟨"<lambda>", lq, params, [], scope, cloFrom X.env.cells scope.names [], c'⟩ f s1.heap.objs.size)) → G1.K = X.K →
      At (ncx (L2.CX X.prog X.w) X.prog X.w X.K X.mg X.base N ⟨"<lambda>", lq, params, [], scope, cloFrom X.env.cells scope.names [], c'⟩ f A outer s1 G1.H0 E) G1 O.T →
      DE G1 (ncx (L2.CX X.prog X.w) X.prog X.w X.K X.mg X.base N ⟨"<lambda>", lq, params, [], scope, cloFrom X.env.cells scope.names [], c'⟩ f A outer s1 G1.H0 E) body (Wl G1.ep)) :
    LamOk X.prog X.w X.K X.mg X.base O s H (frs X.stack) (k + 1) f ps.length (fun ds q ep => Wl ep (startL N.length ds (capE ρ js)) q) := by
  refine ⟨⟨_, _, _, _, hobj⟩, hfn, hfr, fun A outer s1 H1 us vs O1 ds q ep Q E fs' hf' hr e0 un kp ok1 t1 rv hl ra hw kv kx => ?_⟩
  have of1 := un.keep f _ hobj hfn hf' (by simp)
  have C1 : CellsAt (cloFrom X.env.cells scope.names []) fr (js.map (slotAt σ)) s1.heap H1 := CellsAt.later (cells_of I (Caps.made I.ok hfree hfm hjs)) un
  have lim : s1.heap.NoLimit := e0.mod.nolimit.keeps fun b o e => (e0.bs b o e).1
  have hc1 := kp.ext _ _ hco
  obtain ⟨⟨oc, xs, t, hoc, hdc, hvc⟩, _, _⟩ := e0.hok c' _ hc1
  have hus : us.length = ps.length := by rw [← rv.length, ra.length, hl]
  refine PySem.W.kla_callFunE hr.depth of1 rfl S.co S.gen rfl ⟨c', oc, xs, t, rfl, hoc, hdc, hvc⟩ ?_
  rw [hbind _ _ _ _ us hus]
  refine wpAny_pure (wpAny_newFunctionEnv S.nocell (fun ⟨n, _⟩ hy => S.par n (List.of_mem_zip hy).1) (fun h₁ hns hsb => ⟨lim.fresh _ hsb, ?_⟩) S.kind)
  have kp1 : ∀ b o, s1.heap.get? b = some o → h₁.get? b = some o := fun b o e => hsb.extBut b o (Nat.ne_of_lt (Heap.lt_size e)) (Heap.get?_push_of_some _ e)
  have J : Inv (ncx (L2.CX X.prog X.w) X.prog X.w X.K X.mg X.base N ⟨"<lambda>", lq, params, [], scope, cloFrom X.env.cells scope.names [], c'⟩ f A outer s1 H1 E) [] (startF N vs (js.map (slotAt σ))) H1 { s1 with heap := h₁, toks := s1.toks + (ps.zip us).length } :=
    inv_startN S hr.hd e0 (by rw [ra.length, hl]) rv C1 hns kp1
  have hG : ∀ cls d (σ : L2.St) H', (Fx.mk X.K H1 O1 ep).ex cls d H' → E cls d H' := fun cls d _ H' ⟨O', x, x1, rx, h⟩ => kx O' H' cls d x x1 rx h
  have D1 := hbody A outer s1 E ⟨X.K, H1, O1, ep⟩ (hr.deeper _) rfl ⟨rfl, t1, passes_call (takes_of rfl rfl rfl rfl) hG, passes_of rfl, (takes_of rfl rfl rfl rfl).imp hG⟩
  have R1 : EnvR ⟨X.K, H1, O1, ep⟩ O1 H1 (startF N vs (js.map (slotAt σ))) (startL N.length ds (capE ρ js)) := startL_rep (G1 := ⟨X.K, H1, O1, ep⟩) (n := 0) ok1 R hK kp ra
  refine PySem.W.kla_codeExpr (wpAny_mono (D1.run [] _ _ H1 Q J ⟨O1, _, q, R1, hw, fun O' H' v d x r h => kv O' H' v d x r h⟩) (fun u s' ⟨v, H', J', r', q'⟩ => ⟨v, H', J'.os, J'.bare, J'.base, J'.hok, r', q'⟩) fun e s' hq => hq)

/-! ### a def that calls what it got -/
structure FnHO (P : Program) (w : World) (K : PySem.W.Frag) (mg : Str → Option Value) (base : Heap) (T : List (Addr × Str)) (k j : Nat) (f : Addr) (fd : FuncData) (ps : List Str) (n : Nat) (wh : WF → WF) : Prop where
  run : ∀ (A : Around) (outer : List PySem.Env) (s : Shared) (H : Hp) (args : Args) (us : List Value) (vs : List V) (O : Om) (ds : List D) (q : D → Prop) (ep : Ex → Prop) (fa : Addr) (wl : WF) (Q : VK) (E : XK), Room k A → Env0 P w K mg base A outer s H → BindsTo s fd args (ps.zip us) → Vals vs us → (ds ++ [D.ref fa]).length = ps.length →
    Ok O H → O.T = T → RepA K O H vs (ds ++ [.ref fa]) → LamOk P w K mg base O s H (frs outer) j fa n wl → wh wl ds q ep →
    (∀ O' H' v d, Ext O O' H H' → Rep K O' H' v d → q d → Q v H') → (∀ O' H' cls dx x, Ext O O' H H' → RepX K O' H' cls dx x → ep x → E cls dx H') →
    codeAny (model P w) A (.call (.ref f) args) (CR (L2.CX P w) outer P w H s Q E) s
theorem ho_ok {P : Program} {w : World} {K : PySem.W.Frag} {mg : Str → Option Value} {base : Heap} {T : List (Addr × Str)} {name qual : Str} {st : Stmt} {f : Addr} {fd : FuncData} {N ps : List Str} {k j n : Nat} {wh : WF → WF} (F : Fun K name qual st f fd) (S : FnScope N ps (defScope st)) (Wb : Addr → WF → (Ex → Prop) → WS)
    (hbody : ∀ (cdv : Value), fd.code = cdv → ∀ (A : Around) (outer : List PySem.Env) (s : Shared) (E : XK) (G : Fx) (fa : Addr) (wl : WF), Room k (A.deeper (envOfC qual (defScope st) s.heap.objs.size f cdv)) → G.K = K →
      At (cxOf (L2.CX P w) P w K mg base N qual (defScope st) f cdv A outer s G.H0 E) G T → LamOk P w K mg base G.O0 s G.H0 (frs outer) j fa n wl → DSs G (cxOf (L2.CX P w) P w K mg base N qual (defScope st) f cdv A outer s G.H0 E) (defBody st) (Wb fa wl G.ep))
    (hW : ∀ fa wl ds q ep, (ds ++ [D.ref fa]).length = ps.length → wh wl ds q ep → Wb fa wl ep { nx := fun _ => q .non, rt := q } (startE N.length (ds ++ [.ref fa]))) : FnHO P w K mg base T (k + 1) j f fd ps n wh := by
  obtain ⟨oc, od, kV, doc, pm, an, cdv, ct, osl, rfl, lk, hcd⟩ := F.ex
  refine ⟨fun A outer s H args us vs O ds q ep fa wl Q E hr e0 hb rv hl ok hT r L w1 kv kx => ?_⟩
  have hG : ∀ cls d (σ : L2.St) H', (Fx.mk K H O ep).ex cls d H' → E cls d H' := fun cls d _ H' ⟨O', x, x1, rx, h⟩ => kx O' H' cls d x x1 rx h
  refine run_ofS lk hcd S hr e0 hb rv (by rw [r.length]; exact hl) fun hr' => ?_
  refine ⟨_, hbody cdv rfl A outer s E ⟨K, H, O, ep⟩ fa wl hr' rfl ⟨rfl, hT, passes_call (takes_of rfl rfl rfl rfl) hG, passes_of rfl, (takes_of rfl rfl rfl rfl).imp hG⟩ L, ?_⟩
  refine ⟨O, startE N.length (ds ++ [.ref fa]), { nx := fun _ => q .non, rt := q }, start_rep (G := ⟨K, H, O, ep⟩) ok r, hW fa wl ds q ep hl w1, fun O' σ' ρ' H' R' _ h => ?_, fun O' H' v d x r' h => kv O' H' v d x r' h, fun _ _ _ _ _ _ h => h.elim, fun _ _ _ _ _ _ h => h.elim⟩
  exact kv O' H' .non .non R'.ext .non h
/-- what the lambda is, as its maker sees it -/
structure Lam (X : Cx) (G : Fx) (j : Nat) (params : Arguments) (body : Expr) (scope : Scope) (N ps fr : List Str) (js : List Nat) (c P : Addr) (Wl : (Ex → Prop) → WE) : Prop where
  TB : TabB X.base X.mg c P
  code : X.env.code = .ref c
  inT : (P, X.env.qual ++ "<lambda>") ∈ G.O0.T
  uniq : ∀ p ∈ G.O0.T, p.1 = P → p.2 = X.env.qual ++ "<lambda>"
  dflt : defaultsOf params X.env = ([], [])
  S : NScope N ps fr scope
  free : ∀ y ∈ scope.names, y.2 = .free → X.env.scope.names.lookup y.1 = some .cell ∨ X.env.scope.names.lookup y.1 = some .free
  frm : ∀ y ∈ fr, (y, NameKind.free) ∈ scope.names
  js : js.map (fun j => X.N[j]?) = fr.map some
  bind : ∀ (lq : Str) (cl : List (Str × Addr)) (pm cv ctv : Value) (us : List Value), us.length = ps.length → bindArgs (PySem.W.kla_fn "<lambda>" lq params body scope cl pm cv ctv) ⟨us, []⟩ = pure (ps.zip us)
  body : ∀ (f c' : Addr) (A : Around) (outer : List PySem.Env) (s1 : Shared) (E : XK) (G1 : Fx), Room j (A.deeper (envF ⟨"<lambda>", X.env.qual ++ "<lambda>", params, [], scope, cloFrom X.env.cells scope.names [], c'⟩ f s1.heap.objs.size)) → G1.K = X.K →
      At (ncx (L2.CX X.prog X.w) X.prog X.w X.K X.mg X.base N ⟨"<lambda>", X.env.qual ++ "<lambda>", params, [], scope, cloFrom X.env.cells scope.names [], c'⟩ f A outer s1 G1.H0 E) G1 G.O0.T →
      DE G1 (ncx (L2.CX X.prog X.w) X.prog X.w X.K X.mg X.base N ⟨"<lambda>", X.env.qual ++ "<lambda>", params, [], scope, cloFrom X.env.cells scope.names [], c'⟩ f A outer s1 G1.H0 E) body (Wl G1.ep)
/-- the lambda is made, where plain data stand -/
theorem lam_new {N ps fr : List Str} {js : List Nat} {params : Arguments} {body : Expr} {scope : Scope} {c P : Addr} {j : Nat} {Wl : (Ex → Prop) → WE} {lpos : Pos} {Q : Value → Shared → Prop} {E : Value → Shared → Prop} (hK : X.K = G.K) (L : Lam X G j params body scope N ps fr js c P Wl) (I : Inv X pins σ H s) (R : EnvR G O H σ ρ)
    (h : ∀ (f : Addr) (H1 : Hp) (s' : Shared), Inv X pins σ H1 s' → Ext O O H H1 → LamOk X.prog X.w X.K X.mg X.base O s' H1 (frs X.stack) (j + 1) f ps.length (fun ds q ep => Wl ep (startL N.length ds (capE ρ js)) q) → Q (.ref f) s') :
    wpAny (model X.prog X.w) X.A (eval (.Lambda params body scope lpos) X.env) Q E s := by
  have hT : Tabs O.T H := R.ok.tabs
  rw [R.ext.tt] at hT
  refine lam_make2 I L.TB L.code L.inT L.uniq hT L.dflt (fun y hy e => (L.free y hy e).elim (fun z => I.ok.has _ (.inl z)) fun z => I.ok.has _ (.inr z)) fun f c' pm ctv H1 s' I1 eN T1 hobj hfn hfr hco => ?_
  have x1 : Ext O O H H1 := {
    bo := rfl
    tt := rfl
    same := fun a o _ ht e => eN a o e ht
    up := fun _ f => f
    new := fun _ f => .inl f
    ok := {
      tabs := by rw [R.ext.tt]; exact T1
      bow := fun b hb => by
        obtain ⟨i, j, k, e⟩ := R.ok.bow b hb
        exact ⟨i, j, k, eN _ _ e fun ps z => by cases z⟩
      fb := R.ok.fb
      ft := fun a fa => by
        obtain ⟨u, e, hu⟩ := nnt_some (R.ok.ft a fa)
        rw [eN _ _ e hu]
        exact nt_not hu } }
  refine h f H1 s' I1 x1 (lam_ok I1 (R.step x1) hK hobj hco hfn hfr L.S L.free L.frm L.js (L.bind _) fun A outer s1 E G1 hr hk ha => L.body f c' A outer s1 E G1 hr hk ?_)
  rw [← R.ext.tt]
  exact ha
end
end DL
set_option Elab.async false
set_option linter.all false
set_option maxRecDepth 100000
set_option maxHeartbeats 4000000
/-! DL8: max with a key; calls that hand a lambda on. -/
namespace DL
open PySem PySem.Spec PyProof.Rows L2 NdefX LamX

def intQ (q : Int → Prop) : D → Prop
  | .int n => q n
  | _ => False
def wKeyL (wl : WF) (q : D → Prop) : List D → D → Int → Prop
  | [], b, _ => q b
  | d :: ds, b, k => wl [d] (intQ fun n => if k < n then wKeyL wl q ds d n else wKeyL wl q ds b k) fun _ => False
def wKey (wl : WF) (q : D → Prop) : List D → Prop
  | [] => False
  | d :: ds => wl [d] (intQ fun n => wKeyL wl q ds d n) fun _ => False

section
variable {G : Fx} {X : Cx} {O O0 O1 O2 O' : Om} {H H0 H1 H2 H' : Hp} {σ σ' : L2.St} {ρ ρ' : Env} {tg e : Expr} {es : List Expr} {W We : WE} {WL : WA} {T : WT} {g : WG} {pos p : Pos} {pins : List (Addr × Obj)} {s s0 : Shared} {k : Nat} {f I S l : Addr} {wl : WF} {ds : List D}
theorem Un.turnedAt {fs : List Addr} {h0 h h' : Heap} {it : Addr} (U : Un fs [] H0 H h0 h) (hi : h0.objs.size ≤ it) (kp : ∀ b o, b ≠ it → h.get? b = some o → h'.get? b = some o) : Un fs [] H0 H h0 h' where
  keep := fun b o q n hb hx => kp b o (fun z => by subst z; exact absurd (Heap.lt_size q) (Nat.not_lt.mpr hi)) (U.keep b o q n hb hx)
  slot := fun b o q n hb hx => by
    obtain ⟨sl, e⟩ := U.slot b o q n hb hx
    exact ⟨sl, kp b _ (fun z => by subst z; exact absurd (Heap.lt_size q) (Nat.not_lt.mpr hi)) e⟩
  free := U.free
  there := fun b o q hx => by
    obtain ⟨o', e⟩ := U.there b o q hx
    exact ⟨o', kp b _ (fun z => by subst z; exact absurd (Heap.lt_size q) (Nat.not_lt.mpr hi)) e⟩
  tups := U.tups
  frzs := U.frzs
  tbls := U.tbls
/-- what holds between two turns -/
structure KeyAt (X : Cx) (pins : List (Addr × Obj)) (σ : L2.St) (O0 : Om) (s0 : Shared) (H0 : Hp) (I S l : Addr) (ds : List D) (j : Nat) (ob : Obj) (O : Om) (s : Shared) (H : Hp) : Prop where
  inv : Inv X pins σ H s
  un : Un (frs X.stack) [] H0 H s0.heap s.heap
  kp : Keep O0 O H0 H
  ok : Ok O H
  tt : O.T = O0.T
  fI : FpOk X pins H I
  fS : FpOk X pins H S
  it : s.heap.IsListIter I l j
  st : s.heap.get? S = some ob
  rl : Rep X.K O H (.ref l) (.lst ds)
theorem key_turn (L : LamOk X.prog X.w X.K X.mg X.base O0 s0 H0 (frs X.stack) k f 1 wl) (hr : Room (k + 1) X.A) (hSI : S ≠ I) (hI0 : s0.heap.objs.size ≤ I) {j : Nat} {d : D} {q : Int → Prop} {ob : Obj} {Q : Option Value → Shared → Prop} {E : Value → Shared → Prop} (hc : ∀ v, ob.data ≠ .cell v)
    (A : KeyAt X pins σ O0 s0 H0 I S l ds j ob O s H) (hd : ds[j]? = some d) (w : wl [d] (intQ q) fun _ => False)
    (h : ∀ u s1, wpAny (model X.prog X.w) X.A.in1 (call (.ref f) [u]) (fun w s2 => ∃ n t O' H' v, w = .int n t ∧ q n ∧ KeyAt X pins σ O0 s0 H0 I S l ds (j + 1) ob O' s2 H' ∧ Ext O O' H H' ∧ RelV v u ∧ Rep X.K O' H' v d) (fun _ _ => False) s1 → Q (some u) s1) :
    wpAny (model X.prog X.w) X.A.in1 (pyNext (.ref I)) Q E s := by
  obtain ⟨iv, U, kp, ok, tt, fI, fS, it, st, rl⟩ := A
  obtain ⟨vs, hls, ra⟩ : ∃ vs, ListAt O H l vs ∧ RepA X.K O H vs ds := by cases rl with | lst hs ha => exact ⟨_, hs, ha⟩
  obtain ⟨v, ev, rv⟩ := ra.get hd
  obtain ⟨hz, its, n, rvs, hob⟩ := iv.hok l _ hls.2
  obtain ⟨u, eu, ru⟩ := rvs.get ev
  have hlI : l ≠ I := fun z => by
    have := fI.1
    rw [← z, hls.2] at this
    cases this
  have hil : s.heap.IsList l its.toArray := ⟨_, hob, rfl, _, rfl⟩
  have hj : j < its.toArray.size := by rw [List.size_toArray]; exact (List.getElem?_eq_some_iff.mp eu).1
  refine (Walks.list (prog := X.prog) (w := X.w) (A := X.A.in1) hr.hd I l hlI its.toArray).item j s _ _ hj ⟨it, hil⟩ fun u' h' tk' hP hst' hk' => ?_
  have e1 : u' = u := by
    have : its.toArray[j]? = some u := by simpa using eu
    rw [hP] at this
    exact Option.some.inj this
  subst e1
  have hk2 : ∀ b o, b ≠ I → s.heap.get? b = some o → h'.get? b = some o := fun b o hb e => hk' b o (by simpa using hb) e
  have iv1 : Inv X pins σ H { s with heap := h', toks := tk' } := iv.turnedL (ch := [I]) hk' fun b hb => by rw [List.mem_singleton.mp hb]; exact fI
  have U1 : Un (frs X.stack) [] H0 H s0.heap h' := Un.turnedAt U hI0 hk2
  obtain ⟨oI, hoI, hoc, hod⟩ := id hst'.1
  have hS1 : h'.get? S = some ob := hk2 S _ hSI st
  have ivp : Inv X (pins ++ pinsAt [I, S] h') σ H { s with heap := h', toks := tk' } := iv1.pinned (fp := [I, S]) (fun b hb => by
      rcases List.mem_cons.mp hb with rfl | hb
      · exact fI
      · rw [List.mem_singleton.mp hb]; exact fS) fun b hb => by
      rcases List.mem_cons.mp hb with rfl | hb
      · exact ⟨oI, hoI, fun v z => by rw [hod] at z; cases z⟩
      · rw [List.mem_singleton.mp hb]; exact ⟨ob, hS1, hc⟩
  refine h u' _ ?_
  refine wpAny_call (codeAny_mono (L.run X.A.in1 X.stack _ H [u'] [v] O [d] (intQ q) (fun _ => False) (fun x H' => ∃ O' n, Ext O O' H H' ∧ x = .int n ∧ q n) (fun _ _ _ => False) (frs X.stack) L.nfs hr.in1 ivp.env0.in1 U1 kp ok tt (.cons ru .nil) rfl (.cons rv .nil) w (fun O' H' x dx x1 rx qx => ?_) fun O' H' cls dx x x1 rx h => h.elim) fun r s' hq => ?_)
  · cases dx with
    | int n => cases rx; exact ⟨O', n, x1, rfl, qx⟩
    | _ => exact qx.elim
  cases r with
  | error e =>
    obtain ⟨_, _, _, _, _, _, _, _, _, _, _, _, z⟩ := hq
    exact z.elim
  | ok fl =>
    cases fl with
    | next => exact False.elim hq
    | brk => exact False.elim hq
    | cont => exact False.elim hq
    | ret w1 =>
      have hun : ∃ H', Un (frs X.stack) [] H H' h' s'.heap := by
        obtain ⟨v', H', os, bare, un, hok, r, q⟩ := hq
        exact ⟨H', un⟩
      obtain ⟨v', H', os, bare, un, hok, r', q'⟩ := id hq
      obtain ⟨O', n', x1, rfl, qn⟩ := q'
      obtain ⟨t', rfl⟩ := r'
      have hq2 : CE X.stack X.prog X.w H { s with heap := h', toks := tk' } (fun x Hx => x = .int n' ∧ Hx = H') (.int n' t') s' := ⟨.int n', H', os, bare, un, hok, ⟨t', rfl⟩, rfl, rfl⟩
      obtain ⟨_, H3, iv2, _, _, hH3⟩ := ivp.after hq2
      subst hH3
      have pin : ∀ b ∈ [I, S], ∀ o, h'.get? b = some o → s'.heap.get? b = some o ∧ H3 b = none := fun b hb o e => by
        have := iv2.pin (b, o) (List.mem_append_right _ (List.mem_append_right _ (mem_pinsAt hb e)))
        exact ⟨this.1, this.2.1⟩
      have pI := pin I (by simp) oI hoI
      have pS := pin S (by simp) ob hS1
      have kp2 := x1.keep ok
      exact ⟨n', t', O', _, v, rfl, qn, ⟨iv2.unpinned, U1.trans un, kp.trans kp2, x1.ok, x1.tt.trans tt, ⟨pI.2, fI.2⟩, ⟨pS.2, fS.2⟩, ⟨oI, pI.1, hoc, hod⟩, pS.1, kp2.rep _ _ rl⟩, x1, ru, kp2.rep _ _ rv⟩

theorem KeyAt.wrote {j c : Nat} {xs ys : Array Value} {h' : Heap} (A : KeyAt X pins σ O0 s0 H0 I S l ds j (seqObj "list" xs c) O s H) (hSI : S ≠ I) (hS0 : s0.heap.objs.size ≤ S) :
    ∃ c', KeyAt X pins σ O0 s0 H0 I S l ds j (seqObj "list" ys c') O { s with heap := s.heap.update S (Obj.mapSeq fun _ => ys) } H := by
  obtain ⟨iv, U, kp, ok, tt, fI, fS, it, st, rl⟩ := A
  have s1 := Heap.SameBut.update s.heap S (Obj.mapSeq fun _ => ys)
  have hk : ∀ b o, b ≠ S → s.heap.get? b = some o → (s.heap.update S (Obj.mapSeq fun _ => ys)).get? b = some o := fun b o hb e => (s1.2 b hb).trans e
  obtain ⟨oI, hoI, hoc, hod⟩ := it
  exact ⟨_, iv.turnedL (t' := s.toks) (ch := [S]) (fun b o hb e => hk b o (by simpa using hb) e) (fun b hb => by rw [List.mem_singleton.mp hb]; exact fS), Un.turnedAt U hS0 hk, kp, ok, tt, fI, fS, ⟨oI, hk I _ (Ne.symm hSI) hoI, hoc, hod⟩, get?_update_seq st _, rl⟩
theorem max_loop (L : LamOk X.prog X.w X.K X.mg X.base O0 s0 H0 (frs X.stack) k f 1 wl) (hr : Room (k + 1) X.A) (hSI : S ≠ I) (hI0 : s0.heap.objs.size ≤ I) (hS0 : s0.heap.objs.size ≤ S) {q : D → Prop} {Q : VK} {R : Result → Shared → Prop} (hR : ∀ u s', EP X pins σ Q u s' → R (.ok (.ret u)) s') :
    ∀ (rest : List D) (j : Nat) (s : Shared) (H : Hp) (O : Om) (b : D) (kb : Int) (v : V) (u : Value) (t : Tok) (c : Nat), ds.drop j = rest → KeyAt X pins σ O0 s0 H0 I S l ds j (seqObj "list" #[u, .int kb t] c) O s H → RelV v u → Rep X.K O H v b → wKeyL wl q rest b kb →
      (∀ O' H' v d, Ext O O' H H' → Rep X.K O' H' v d → q d → Q v H') → codeAny (model X.prog X.w) X.A (.builtin "max.loop" ⟨[.ref I, .ref f, .ref S], []⟩) R s := by
  have hname : (toString "max" ++ toString ".loop" : String) = "max.loop" := by decide
  intro rest
  induction rest with
  | nil =>
    intro j s H O b kb v u t c hdr A rv rb w k
    refine codeAny_builtin PySem.F.entry_max_loop ?_
    rw [Around.under_plainId PySem.F.plain_max_loop _]
    show wpAny _ X.A.in1 (seqItems? (.ref S) >>= _) _ _ _
    refine wpAny_bind (wpAny_seqItems A.st rfl ?_)
    show wpAny _ X.A.in1 (tryCatch (pyNext (.ref I)) _ >>= _) _ _ _
    obtain ⟨vs, hls, ra⟩ : ∃ vs, ListAt O H l vs ∧ RepA X.K O H vs ds := by cases A.rl with | lst hs ha => exact ⟨_, hs, ha⟩
    obtain ⟨hz, its, n, rvs, hob⟩ := A.inv.hok l _ hls.2
    have hlI : l ≠ I := fun z => by
      have := A.fI.1
      rw [← z, hls.2] at this
      cases this
    have hil : s.heap.IsList l its.toArray := ⟨_, hob, rfl, _, rfl⟩
    have hlen : its.toArray.size ≤ j := by
      rw [List.size_toArray, ← rvs.length, ra.length]
      exact List.drop_eq_nil_iff.mp hdr
    refine wpAny_bind (wpAny_tryCatch (wpAny_pyNext_list_end hr.hd A.it hil (by simpa using hlen) fun h' he' => ?_))
    have hk2 : ∀ b o, b ≠ I → s.heap.get? b = some o → h'.get? b = some o := fun b o hb e => he' b o hb e
    have iv1 : Inv X pins σ H { s with heap := h', toks := s.toks } := A.inv.turnedL (ch := [I]) (fun b o hb e => hk2 b o (by simpa using hb) e) fun b hb => by rw [List.mem_singleton.mp hb]; exact A.fI
    show wpAny _ X.A.in1 (updateSeq S (fun _ => #[]) >>= _) _ _ _
    refine wpAny_bind ?_
    refine wpAny_updateSeq (hk2 S _ hSI A.st) rfl (wpAny_bind (wpAny_letGo (wpAny_pure ?_)))
    have s1 := Heap.SameBut.update h' S (Obj.mapSeq fun _ => (#[] : Array Value))
    exact hR _ _ ⟨v, H, iv1.turnedL (t' := s.toks) (ch := [S]) (fun b o hb e => (s1.2 b (by simpa using hb)).trans e) (fun b hb => by rw [List.mem_singleton.mp hb]; exact A.fS), rv, k O H v b (Ext.refl A.ok) rb w⟩
  | cons d rest ih =>
    intro j s H O b kb v u t c hdr A rv rb w k
    have hd : ds[j]? = some d := by
      have : (ds.drop j)[0]? = some d := by rw [hdr]; rfl
      simpa using this
    have hdr2 : ds.drop (j + 1) = rest := by
      rw [← List.drop_drop, hdr]
      rfl
    refine codeAny_builtin PySem.F.entry_max_loop ?_
    rw [Around.under_plainId PySem.F.plain_max_loop _]
    show wpAny _ X.A.in1 (seqItems? (.ref S) >>= _) _ _ _
    refine wpAny_bind (wpAny_seqItems A.st rfl ?_)
    show wpAny _ X.A.in1 (tryCatch (pyNext (.ref I)) _ >>= _) _ _ _
    refine wpAny_bind (wpAny_tryCatch (key_turn L hr hSI hI0 (fun v z => by cases z) A hd w fun u1 s1 h1 => ?_))
    show wpAny _ X.A.in1 (tryCatch (holding [u1] (call (.ref f) [u1])) _ >>= _) _ _ _
    refine wpAny_bind (wpAny_tryCatch (wpAny_holding (wpAny_mono h1 (fun x s2 he => ?_) fun _ _ hF => hF.elim)))
    obtain ⟨n, t2, O2, H2, v2, rfl, w2, A2, x2, rv2, rd2⟩ := he
    show wpAny _ X.A.in1 (tryCatch (holding [u1, .int n t2] (richCompare .Gt (.int n t2) (.int kb t) >>= _)) _ >>= _) _ _ _
    refine wpAny_bind (wpAny_tryCatch (wpAny_holding (wpAny_bind (CmpOf.ints_gt (prog := X.prog) (w := X.w) (A := X.A.in1) (P := fun i v => ∃ t, v = .int ([kb, n].getD i 0) t) (fun i => [kb, n].getD i 0) (fun i v h => h) 1 0 _ _ _ _ _ ⟨t2, rfl⟩ ⟨t, rfl⟩ ?_))))
    refine wpAny_bind (wpAny_holding (wpAny_truthy_bool ?_))
    refine wpAny_bind (wpAny_letGo (wpAny_pure ?_))
    by_cases hb' : kb < n
    · rw [if_pos hb'] at w2
      rw [if_pos (show decide ([kb, n].getD 1 0 > [kb, n].getD 0 0) = true from decide_eq_true hb')]
      refine wpAny_bind ?_
      refine wpAny_updateSeq A2.st rfl (wpAny_bind (wpAny_letGo ?_))
      rw [hname]
      obtain ⟨c', A3⟩ := A2.wrote (ys := #[u1, .int n t2]) (h' := s2.heap) hSI hS0
      exact wpAny_pure ⟨plainId_quiet PySem.F.plain_max_loop _, ih (j + 1) _ H2 O2 d n v2 u1 t2 c' hdr2 A3 rv2 rd2 w2 fun O' H' x dx x3 => k O' H' x dx (x2.trans A.ok x3)⟩
    · rw [if_neg hb'] at w2
      rw [if_neg (show ¬ decide ([kb, n].getD 1 0 > [kb, n].getD 0 0) = true from fun z => hb' (of_decide_eq_true z))]
      refine wpAny_bind (wpAny_letGo ?_)
      rw [hname]
      exact wpAny_pure ⟨plainId_quiet PySem.F.plain_max_loop _, ih (j + 1) _ H2 O2 b kb v u t c hdr2 A2 rv ((x2.keep A.ok).rep _ _ rb) w2 fun O' H' x dx x3 => k O' H' x dx (x2.trans A.ok x3)⟩

theorem max_key (L : LamOk X.prog X.w X.K X.mg X.base O s H (frs X.stack) k f 1 wl) (hr : Room (k + 1) X.A) (iv : Inv X pins σ H s) (ok : Ok O H) {q : D → Prop} {Q : VK} {E : Value → Shared → Prop} (rl : Rep X.K O H (.ref l) (.lst ds)) (w : wKey wl q ds) (kq : ∀ O' H' v d, Ext O O' H H' → Rep X.K O' H' v d → q d → Q v H') :
    wpAny (model X.prog X.w) X.A (call (.builtin "max") [.ref l] [(Str.ofString "key", .ref f)]) (EP X pins σ Q) E s := by
  have hname : (toString "max" ++ toString ".loop" : String) = "max.loop" := by decide
  obtain ⟨vs, hls, ra⟩ : ∃ vs, ListAt O H l vs ∧ RepA X.K O H vs ds := by cases rl with | lst hs ha => exact ⟨_, hs, ha⟩
  obtain ⟨hz, its, n, rvs, hob⟩ := iv.hok l _ hls.2
  have hil : s.heap.IsList l its.toArray := ⟨_, hob, rfl, _, rfl⟩
  cases ds with
  | nil => exact w.elim
  | cons d rest =>
  refine kmk_tree PySem.F.kind_max PySem.F.plain_max PySem.F.entry_max (kmk_max_key _ _) ?_
  show wpAny _ X.A.in1 (Builtin.Builtins.bindParams "max" ["key", "default"] 0 ⟨[], [(Str.ofString "key", .ref f)]⟩ >>= _) _ _ s
  refine wpAny_bind (wpAny_of_eq (show Builtin.Builtins.bindParams "max" ["key", "default"] 0 ⟨[], [(Str.ofString "key", .ref f)]⟩ = pure [some (.ref f), none] from rfl) ?_)
  refine wpAny_bind (wpAny_pure ?_)
  refine wpAny_bind (wpAny_pyIter_list hil ?_)
  refine wpAny_bind (wpAny_newList ?_ (Nat.zero_le _))
  rw [hname]
  have hS : (s.heap.push { cls := .type "list_iterator", data := .fields #[.ref l, .int 0 0] }).objs.size = s.heap.objs.size + 1 := size_push' ..
  have hSI : (s.heap.push { cls := .type "list_iterator", data := .fields #[.ref l, .int 0 0] }).objs.size ≠ s.heap.objs.size := by rw [hS]; exact Nat.ne_of_gt (Nat.lt_succ_self _)
  refine wpAny_pure ⟨plainId_quiet PySem.F.plain_max_loop _, ?_⟩
  have hk : ∀ b o, s.heap.get? b = some o → ((s.heap.push { cls := .type "list_iterator", data := .fields #[.ref l, .int 0 0] }).push (seqObj "list" #[] 0)).get? b = some o := fun b o e => Heap.get?_push_of_some _ (Heap.get?_push_of_some _ e)
  have gI : ((s.heap.push { cls := .type "list_iterator", data := .fields #[.ref l, .int 0 0] }).push (seqObj "list" #[] 0)).get? s.heap.objs.size = some { cls := .type "list_iterator", data := .fields #[.ref l, .int 0 0] } :=
    Heap.get?_push_of_some _ (Heap.get?_push_size _ rfl)
  have gS : ((s.heap.push { cls := .type "list_iterator", data := .fields #[.ref l, .int 0 0] }).push (seqObj "list" #[] 0)).get? (s.heap.push { cls := .type "list_iterator", data := .fields #[.ref l, .int 0 0] }).objs.size = some (seqObj "list" #[] 0) := Heap.get?_push_size _ rfl
  have hS0 : s.heap.objs.size ≤ (s.heap.push { cls := .type "list_iterator", data := .fields #[.ref l, .int 0 0] }).objs.size := by rw [hS]; exact Nat.le_succ _
  have A0 : KeyAt X pins σ O s H s.heap.objs.size (s.heap.push { cls := .type "list_iterator", data := .fields #[.ref l, .int 0 0] }).objs.size l (d :: rest) 0 (seqObj "list" #[] 0) O { s with heap := (s.heap.push { cls := .type "list_iterator", data := .fields #[.ref l, .int 0 0] }).push (seqObj "list" #[] 0) } H :=
    ⟨iv.kept (t' := s.toks) hk, Un.kept hk, Keep.refl, ok, rfl, iv.fpOk (Nat.le_refl _) (iv.hok.fresh (Nat.le_refl _)), iv.fpOk hS0 (iv.hok.fresh hS0), ⟨_, gI, rfl, rfl⟩, gS, rl⟩
  refine codeAny_builtin PySem.F.entry_max_loop ?_
  rw [Around.under_plainId PySem.F.plain_max_loop _]
  show wpAny _ X.A.in1 (seqItems? (.ref _) >>= _) _ _ _
  refine wpAny_bind (wpAny_seqItems gS rfl ?_)
  show wpAny _ X.A.in1 (tryCatch (pyNext (.ref s.heap.objs.size)) _ >>= _) _ _ _
  refine wpAny_bind (wpAny_tryCatch (key_turn L hr hSI (Nat.le_refl _) (fun v z => by cases z) A0 rfl w fun u1 s1 h1 => ?_))
  show wpAny _ X.A.in1 (tryCatch (holding [u1] (call (.ref f) [u1])) _ >>= _) _ _ _
  refine wpAny_bind (wpAny_tryCatch (wpAny_holding (wpAny_mono h1 (fun x s2 he => ?_) fun _ _ hF => hF.elim)))
  obtain ⟨n, t2, O2, H2, v2, rfl, w2, A2, x2, rv2, rd2⟩ := he
  show wpAny _ X.A.in1 (updateSeq (s.heap.push { cls := .type "list_iterator", data := .fields #[.ref l, .int 0 0] }).objs.size (fun _ => #[u1, .int n t2]) >>= _) _ _ _
  refine wpAny_bind ?_
  refine wpAny_updateSeq A2.st rfl ?_
  rw [hname]
  obtain ⟨c', A3⟩ := A2.wrote (ys := #[u1, .int n t2]) (h' := s2.heap) hSI hS0
  exact wpAny_pure ⟨plainId_quiet PySem.F.plain_max_loop _, max_loop L hr hSI (Nat.le_refl _) hS0 (fun u s' h => h) rest 1 _ H2 O2 d n v2 u1 t2 c' rfl A3 rv2 rd2 w2 fun O' H' x dx x3 => kq O' H' x dx (x2.trans ok x3)⟩

/-! ### argument lists that end with a lambda -/
def AL (X : Cx) (G : Fx) (j m n : Nat) (es : List Expr) (WL : WA) (lf : Env → WF) : Prop :=
  ∀ (pos : Pos) (pins : List (Addr × Obj)) (s : Shared) (σ : L2.St) (H : Hp) (O : Om) (ρ : Env) (q : List D → Prop) (Q : List Value → Shared → Prop), Inv X pins σ H s → EnvR G O H σ ρ → WL ρ q →
    (∀ us vs ds f O' H' s', Inv X pins σ H' s' → Ext O O' H H' → Vals vs us → RepA G.K O' H' vs ds → ds.length = n → q ds → LamOk X.prog X.w X.K X.mg X.base O' s' H' (frs X.stack) (j + 1) f m (lf ρ) → Q (us ++ [.ref f]) s') →
    wpAny (model X.prog X.w) X.A (spliced (backTo pos (starEach es X.env))) Q X.xe s
def lamF (Wl : (Ex → Prop) → WE) (n : Nat) (js : List Nat) : Env → WF := fun ρ ds q ep => Wl ep (startL n ds (capE ρ js)) q
theorem al_lam {N ps fr : List Str} {js : List Nat} {params : Arguments} {body : Expr} {scope : Scope} {c P : Addr} {j : Nat} {Wl : (Ex → Prop) → WE} {lpos : Pos} (hK : X.K = G.K) (L : Lam X G j params body scope N ps fr js c P Wl)
    (hs : starEach [.Lambda params body scope lpos] X.env = (false, eval (.Lambda params body scope lpos) X.env) :: [] := by rfl) : AL X G j ps.length 0 [.Lambda params body scope lpos] waNil (lamF Wl N.length js) := fun pos pins s σ H O ρ q Q I R w k => by
  rw [hs]
  show wpAny _ _ (spliced ((false, eval (.Lambda params body scope lpos) X.env) :: [])) _ _ s
  exact Calls.spliced_cons (lam_new hK L I R fun f H1 s1 I1 x1 L1 => Calls.spliced_nil (k [] [] [] f O H1 s1 I1 x1 .nil .nil rfl w L1))
theorem al_cons {j m n : Nat} {lf : Env → WF} (ha : DE G X e W) (hr : AL X G j m n es WL lf) (hs : starEach (e :: es) X.env = (false, eval e X.env) :: starEach es X.env := by rfl) : AL X G j m (n + 1) (e :: es) (waCons W WL) lf := fun pos pins s σ H O ρ q Q I R w k => by
  rw [hs]
  show wpAny _ _ (spliced ((false, eval e X.env) :: backTo pos (starEach es X.env))) _ _ s
  refine Calls.spliced_cons (thn (ha.run pins s σ H (fun v H1 => ∃ O1 d, Ext O O1 H H1 ∧ Rep G.K O1 H1 v d ∧ WL ρ fun ds => q (d :: ds)) I ⟨O, ρ, _, R, w, fun O1 H1 v d x r h => ⟨O1, d, x, r, h⟩⟩) fun u s1 ⟨x, H1, I1, r1, O1, d, x1, rd, w1⟩ => ?_)
  refine hr pos pins s1 σ H1 O1 ρ _ _ I1 (R.step x1) w1 fun us vs ds f O2 H2 s2 I2 x2 rv ra hl q2 L2 => ?_
  exact k (u :: us) (x :: vs) (d :: ds) f O2 H2 s2 I2 (x1.trans R.ok x2) (.cons r1 rv) (.cons ((x2.keep x1.ok).rep _ _ rd) ra) (by rw [List.length_cons, hl]) q2 L2
def wCallHO (wh : WF → WF) (lf : Env → WF) (ep : Ex → Prop) (WL : WA) : WE := fun ρ q => WL ρ fun ds => wh (lf ρ) ds q ep
theorem de_callHO {k n : Nat} {f : Addr} {fd : FuncData} {ps : List Str} {wh : WF → WF} {x : Str} {j m : Nat} {lf : Env → WF} (hK : X.K = G.K) (F : FnHO X.prog X.w X.K X.mg X.base G.O0.T k (j + 1) f fd ps m wh) (hr : Room k X.A) (hg : Gl X x) (hm : X.mg x = some (.ref f)) (hk : PySem.W.keepIn X.K (.ref f) = true) (hb : Binds X.K fd ps []) (hx : Passes (L2.CX X.prog X.w) X G.ex)
    (ha : AL X G j m n (e :: es) WL lf) (hn : n + 1 = ps.length) (hdb : (x == ("__debug__" : Str)) = false := by decide) (he : starEach (e :: es) X.env = (false, eval e X.env) :: starEach es X.env := by rfl) (hpl : (backTo pos (starEach es X.env)).any (·.1) = false := by rfl) :
    DE G X (.Call (.Name x p) (e :: es) [] pos) (wCallHO wh lf G.ep WL) := by
  refine ⟨fun pins s σ H Q I ⟨O, ρ, q, R, w, kq⟩ => ?_⟩
  refine wpAny_Call_Name_kw (ld_glob I hg hm ?_ hdb)
  refine PySem.W.callWith_K (h₀ := X.base) I.ok.mod.kin hk (ha pos pins s σ H O ρ _ _ I R w fun us vs ds fa O1 H1 s1 I1 x1 rv ra hl w1 L1 => ⟨I1.kIn, ?_⟩) he hpl
  have R1 := R.step x1
  have rv2 : Vals (vs ++ [V.ref fa]) (us ++ [.ref fa]) := rv.append (.cons rfl .nil)
  have hlen : (ds ++ [D.ref fa]).length = ps.length := by rw [List.length_append, hl]; exact hn
  have hl2 : (us ++ [Value.ref fa]).length = ps.length := by rw [← hlen, ← rv2.length, List.length_append, List.length_append, ra.length]; rfl
  have rv3 := hb s1 (us ++ [.ref fa]) I1.kIn (by rw [List.append_nil]; exact hl2)
  rw [List.append_nil] at rv3
  refine wpAny_call (codeAny_mono (F.run X.A X.stack s1 H1 ⟨us ++ [.ref fa], []⟩ (us ++ [.ref fa]) (vs ++ [V.ref fa]) O1 ds q G.ep fa (lf ρ) Q G.ex hr I1.env0 rv3 rv2 hlen R1.ok R1.ext.tt (by rw [hK]; exact ra.append (.cons (.ref fa) .nil)) L1 w1
    (fun O' H' v d x3 r3 q3 => kq O' H' v d (x1.trans R.ok x3) (by rw [← hK]; exact r3) q3) fun O' H' cls dx y x3 rx h => ⟨O', y, R1.ext.trans R1.ok0 x3, by rw [← hK]; exact rx, h⟩) fun r s' hq => ?_)
  cases r with
  | error e => exact hx pins σ H1 s1 e s' I1 hq
  | ok fl =>
    cases fl with
    | ret u => exact I1.after hq
    | next => exact False.elim hq
    | brk => exact False.elim hq
    | cont => exact False.elim hq

/-! ### max(e, key=lambda ..) -/
def wMaxK (W : WE) (lf : Env → WF) : WE := fun ρ q => W ρ fun d => match d with
  | .lst ds => wKey (lf ρ) q ds
  | _ => False
theorem de_maxK {N ps fr : List Str} {js : List Nat} {params : Arguments} {body : Expr} {scope : Scope} {c P : Addr} {j : Nat} {Wl : (Ex → Prop) → WE} {lpos kpos : Pos} (hK : X.K = G.K) (L : Lam X G j params body scope N ps fr js c P Wl) (hps : ps.length = 1) (hr : Room (j + 2) X.A)
    (hg : Gl X "max") (hm : X.mg "max" = none) (ha : DE G X e W)
    (he : backTo pos (starEach (e :: []) X.env) = (false, eval e X.env) :: backTo pos (starEach [] X.env) := by rfl) (hpl : (backTo pos (starEach (e :: []) X.env)).any (·.1) = false := by rfl)
    (hall : (backToKw pos (keywordEach [⟨some "key", .Lambda params body scope lpos, kpos⟩] X.env)).all (·.1.isSome) = true := by rfl) (hnone : (backToKw pos (keywordEach [⟨some "key", .Lambda params body scope lpos, kpos⟩] X.env)).any (·.1.isNone) = false := by rfl) (hks : (backToKw pos (keywordEach [⟨some "key", .Lambda params body scope lpos, kpos⟩] X.env)).filterMap (·.1) = [Str.ofString "key"] := by rfl) (hse : starEach [e] X.env = (false, eval e X.env) :: starEach [] X.env := by rfl) :
    DE G X (.Call (.Name "max" p) [e] [⟨some "key", .Lambda params body scope lpos, kpos⟩] pos) (wMaxK W (lamF Wl N.length js)) := by
  refine ⟨fun pins s σ H Q I ⟨O, ρ, q, R, w, kq⟩ => ?_⟩
  refine wpAny_Call_Name_kw (ld_blt (u := .builtin "max") I hg hm (by rfl) ?_ (by decide) (by decide))
  have ha1 := da_cons ha da_nil hse
  refine PyProof.Rows.callWith_kw (thn (ha1.run pos pins s σ H (fun vs H1 => ∃ O1 d v, vs = [v] ∧ Ext O O1 H H1 ∧ Rep G.K O1 H1 v d ∧ (match d with | .lst ds => wKey (lamF Wl N.length js ρ) q ds | _ => False)) I ?_) fun us s1 ⟨vs, H1, I1, r1, O1, d, v, ev, x1, rd, w1⟩ => ?_) he hpl hall hnone
  · refine ⟨O, ρ, fun ds => match ds with | [d] => (match d with | .lst ds => wKey (lamF Wl N.length js ρ) q ds | _ => False) | _ => False, R, w, fun O' H' vs ds x r hl h => ?_⟩
    cases r with
    | nil => exact h.elim
    | cons r0 rt =>
      cases rt with
      | nil => exact ⟨O', _, _, rfl, x, r0, h⟩
      | cons _ _ => exact h.elim
  · subst ev
    obtain ⟨u, rfl, ru⟩ := vals1 r1
    cases d with
    | lst ds =>
      obtain ⟨l, rfl⟩ : ∃ l, v = .ref l := by cases rd with | lst hs ha => exact ⟨_, rfl⟩
      obtain rfl : u = Value.ref l := ru
      rw [hks]
      show wpAny _ _ (evalAll ((do let v ← eval (.Lambda params body scope lpos) X.env; standAt pos; pure v) :: [])) _ _ s1
      have R1 := R.step x1
      refine wpAny_evalAll_cons (wpAny_bind (lam_new hK L I1 R1 fun f H2 s2 I2 x2 L2 => wpAny_bind (wpAny_standAt (wpAny_pure (wpAny_evalAll_nil ?_)))))
      rw [hps] at L2
      have kp2 := x2.keep R1.ok
      exact max_key L2 hr I2 x2.ok (by rw [hK]; exact kp2.rep _ _ rd) w1 fun O' H' v' d' x3 r3 q3 => kq O' H' v' d' (x1.trans R.ok (x2.trans R1.ok x3)) (by rw [← hK]; exact r3) q3
    | _ => exact w1.elim
end
end DL
set_option Elab.async false
set_option linter.all false
set_option maxRecDepth 100000
set_option maxHeartbeats 4000000
/-! DL9: bowls, divmod, powers, defs that return a new list, several assignments at once, calls by name. -/
namespace DL
open PySem PySem.Spec PyProof.Rows L2 NdefX LamX

section
variable {G : Fx} {X : Cx} {O O0 O1 O2 O' : Om} {H H0 H1 H2 H' : Hp} {σ σ' : L2.St} {ρ ρ' : Env} {tg e a b c : Expr} {es : List Expr} {W We Wa Wb Wc : WE} {WL : WA} {T : WT} {g : WG} {Ws Wr : WS} {st : Stmt} {rest : List Stmt} {pos p : Pos} {pins : List (Addr × Obj)} {s s0 : Shared} {k : Nat} {ds : List D}

def fPow : F2 := fI CPow fun i j => .int (i ^ j.toNat)
theorem od_Pow : OpD G (rI CPow fun i j => .int (i ^ j.toNat)) fPow := od_I fun _ _ _ _ => .int _

/-! ### divmod -/
def fDivmod : FL := fun ds q => match ds with
  | [.int i, .int j] => CDiv i j ∧ q (.tup [.int (i / j), .int (i % j)])
  | _ => False
theorem cd_divmod : CallD G (fun xs H Q => ∃ i j, xs = [.int i, .int j] ∧ CDiv i j ∧ ∀ p, H p = none → Q (.ref p) (upd H p (.tup [.int (i / j), .int (i % j)]))) fDivmod := fun O H σ ρ vs ds q Q R ra w k => by
  unfold fDivmod at w
  split at w
  · obtain ⟨v, u, rfl, r1, r2⟩ := rep1A_2 ra
    refine ⟨_, _, by rw [r1.int, r2.int], w.1, fun p hp => ?_⟩
    obtain ⟨y, r⟩ := lay_tup R (vs := [.int _, .int _]) (.cons (.int _) (.cons (.int _) .nil)) hp
    exact k _ _ _ _ y r w.2
  · exact w.elim

/-! ### nothing comes here -/
def wDead : WS := fun _ _ => False
theorem ds_dead : DS G X st wDead := ⟨fun pins s σ H D I ⟨O, ρ, k, R, w, _⟩ => w.elim⟩
theorem dss_dead : DSs G X rest wDead := ⟨fun pins s σ H D I ⟨O, ρ, k, R, w, _⟩ => w.elim⟩

/-! ### writing a bowl -/
theorem EnvR.bowl (R : EnvR G O H σ ρ) {a : Addr} (hb : O.Bo a) (i j l : Int) : Ext O O H (upd H a (.lst [.int i, .int j, .int l])) where
  bo := rfl
  tt := rfl
  same := fun x o nb _ e => by rw [upd_ne (fun z => nb (by rw [z]; exact hb))]; exact e
  up := fun _ f => f
  new := fun _ f => .inl f
  ok := {
    tabs := by
      obtain ⟨i', j', k', q⟩ := R.ok.bow a hb
      exact (put_ok (O := ⟨O.F, fun _ => False, O.T⟩) ⟨R.ok.tabs, fun _ z => z.elim, fun _ _ z => z, R.ok.ft⟩ q (fun f => R.ok.fb a f hb) (fun z => z)).1.tabs
    bow := fun x hx => by
      by_cases z : x = a
      · exact ⟨i, j, l, by rw [z, upd_same]⟩
      · rw [BowlAt, upd_ne z]
        exact R.ok.bow x hx
    fb := R.ok.fb
    ft := fun x f => by
      rw [upd_ne]
      · exact R.ok.ft x f
      · intro z
        exact R.ok.fb x f (by rw [z]; exact hb) }
def tDG1 (G : Fx) (W : WG) : TG := fun v σ H Q => ∃ O ρ d q, EnvR G O H σ ρ ∧ Rep G.K O H v d ∧ W d ρ q ∧ ∀ σ' ρ' H', EnvR G O H' σ' ρ' → Ext O O H H' → q ρ' → Q σ' H'
abbrev DG1 (G : Fx) (X : Cx) (tg : Expr) (W : WG) : Prop := PG X tg (tDG1 G W)
def tDGs1 (G : Fx) (W : WGs) : TGs := fun xs σ H Q => ∃ O ρ ds q, EnvR G O H σ ρ ∧ RepA G.K O H xs ds ∧ W ds ρ q ∧ ∀ σ' ρ' H', EnvR G O H' σ' ρ' → Ext O O H H' → q ρ' → Q σ' H'
abbrev DGs1 (G : Fx) (X : Cx) (ts : List Expr) (W : WGs) : Prop := PGs X ts (tDGs1 G W)
theorem dg1_of {vs : List Nat} (h : DG G X vs tg g) : DG1 G X tg g := PG_mono h fun v σ H Q ⟨O, ρ, d, q, R, r, w, k⟩ => ⟨O, ρ, d, q, R, r, w, fun σ' ρ' R' _ w' => k σ' ρ' H R' (Ext.refl R.ok) w'⟩
theorem dgs1_nil : DGs1 G X [] wgsNil := PGs_mono pgs_nil fun xs σ H Q ⟨O, ρ, ds, q, R, r, w, k⟩ => by
  cases ds with
  | nil => cases r; exact ⟨rfl, k σ ρ H R (Ext.refl R.ok) w⟩
  | cons _ _ => exact w.elim
theorem dgs1_cons {e : Expr} {es : List Expr} {gs : WGs} (h1 : DG1 G X e g) (h2 : DGs1 G X es gs) (hs : (assignEach (e :: es) X.env).map (·.2) = assign e X.env :: (assignEach es X.env).map (·.2) := by rfl) : DGs1 G X (e :: es) (wgsCons g gs) :=
  PGs_mono (pgs_cons h1 h2 hs) fun xs σ H Q ⟨O, ρ, ds, q, R, r, w, k⟩ => by
    cases ds with
    | nil => exact w.elim
    | cons d ds =>
      cases r with
      | cons r1 r2 => exact ⟨_, _, rfl, O, ρ, d, _, R, r1, w, fun σ' ρ' H' R' x' w' => ⟨O, ρ', ds, q, R', (x'.keep R.ok).repA _ _ r2, w', fun σ2 ρ2 H2 R2 x2 w2 => k σ2 ρ2 H2 R2 (x'.trans R.ok x2) w2⟩⟩
theorem dg1_tup {es : List Expr} {k : Nat} {gs : WGs} {n : Nat} {pos : Pos} (hK : X.K = G.K) (hc : X.calm = true) (h : DGs1 G X es gs) (hlen : ∀ ds ρ q, gs ds ρ q → ds.length = n)
    (hn : (assignEach es X.env).length = n := by rfl) (hst : (assignEach es X.env).findIdx? (·.1) = none := by rfl) : DG1 G X (.Tuple es k pos) (wgTup gs) :=
  PG_mono (pg_tup hc h hn hst) fun v σ H Q ⟨O, ρ, d, q, R, r, w, k⟩ => by
    rw [hK]
    cases r with
    | tup hs ha => exact ⟨_, _, rfl, hs, by rw [ha.length]; exact hlen _ _ _ w, O, ρ, _, q, R, ha, w, k⟩
    | _ => exact w.elim
/-- flask[c] = .. -/
def wgBowl (i : Nat) (c : Int) : WG := fun d ρ q => ρ[i]? = some (some (.val .bowl)) ∧ 0 ≤ c ∧ c < 3 ∧ (∃ n, d = .int n) ∧ q ρ
theorem dg1_bowl {i : Nat} {c : Int} {x : Str} {px ps : Pos} {j : Nat} {pj : Pos} (hv : PE X (.Name x px) (tVar i))
    (h : PG X (.Subscript (.Name x px) (.Constant (.int c) j pj) ps) (gSub (tVar i) (tC (.int c)) rSetL)) : DG1 G X (.Subscript (.Name x px) (.Constant (.int c) j pj) ps) (wgBowl i c) :=
  PG_mono h fun v σ H Q ⟨O, ρ, d, q, R, r, ⟨hb, h0, h3, ⟨n, hd⟩, w⟩, k⟩ => by
    subst hd
    cases r
    obtain ⟨u, hu, ru⟩ := R.val i _ hb
    cases ru with
    | bowl hB =>
      obtain ⟨x, y, z, e⟩ := R.ok.bow _ hB
      obtain ⟨n', x', y', z', hn, hset⟩ : ∃ n' x' y' z', ixN 3 c = some n' ∧ [V.int x, V.int y, V.int z].set n' (.int n) = [.int x', .int y', .int z'] := by
        obtain rfl | rfl | rfl : c = 0 ∨ c = 1 ∨ c = 2 := by omega
        · exact ⟨0, n, y, z, rfl, rfl⟩
        · exact ⟨1, x, n, z, rfl, rfl⟩
        · exact ⟨2, x, y, n, rfl, rfl⟩
      have x1 := R.bowl hB x' y' z'
      refine ⟨_, hu, _, _, _, n', rfl, rfl, e, hn, ?_⟩
      rw [hset]
      exact k σ ρ _ (R.step x1) x1 w
theorem ds_asg1 {tg : Expr} (he : DE G X e We) (hg : DG1 G X tg g) (hs : swapsWithSole [tg] e pos.line X.env = pure false := by rfl) (hw : swappedStores [tg] e X.env = pure none := by rfl)
    (h1 : (assignEach [tg] X.env).map (·.2) = [assign tg X.env] := by rfl) : DS G X (.Assign [tg] e pos) (wAsg We g) :=
  PS_mono (ps_asg he hg hs hw h1) fun D σ H ⟨O, ρ, k, R, w, knx, _⟩ => tD1 R w fun O1 H1 v d R1 x1 r1 w1 => ⟨O1, ρ, d, k.nx, R1, r1, w1, fun σ' ρ' H' R' x' w' => knx O1 σ' ρ' H' R' ((x1.keep R.ok).trans (x'.keep R1.ok)) w'⟩

/-! ### values of both kinds -/
def RepS (K : PySem.W.Frag) (O : Om) (H : Hp) (v : V) : Slot → Prop
  | .val d => Rep K O H v d
  | .own ds => ∃ a us, v = .ref a ∧ H a = some (.lst us) ∧ RepA K O H us ds ∧ ¬ O.F a ∧ ¬ O.Bo a
  | .own2 _ => False
def FrS (H : Hp) (v : V) : Slot → Prop
  | .val _ => True
  | .own _ => ∀ a, v = .ref a → NT (H a)
  | .own2 _ => True
theorem EnvR.setS (R : EnvR G O H σ ρ) (x : Ext O O' H H') {v : V} {sl : Slot} (i : Nat) (r : RepS G.K O' H' v sl) (fr : FrS H v sl) : EnvR G O' H' (σ.set i (some v)) (ρ.set i (some sl)) := by
  have R1 := R.step x
  cases sl with
  | val d => exact R1.set i r
  | own ds =>
    obtain ⟨a, us, rfl, e, ra, nf, nb⟩ := r
    refine R1.setOwn i e ra nf nb (R.ext.nt R.ok0 (fr a rfl)) (fun j dj _ hj hs => ?_) fun j dss b as _ h s hh => R.off2 x (fr a rfl) h s hh
    obtain ⟨b, us', k1, k2, _⟩ := R.own j dj hj
    rw [hs] at k1
    cases k1
    have := fr a rfl
    rw [k2] at this
    exact nt_not (fun ps z => by cases z) this
  | own2 dss => exact r.elim
abbrev WM := Env → (Slot → Prop) → Prop
def tDM (G : Fx) (W : WM) : TE := fun σ H Q => ∃ O ρ q, EnvR G O H σ ρ ∧ W ρ q ∧ ∀ O' H' v sl, Ext O O' H H' → RepS G.K O' H' v sl → FrS H v sl → q sl → Q v H'
abbrev DM (G : Fx) (X : Cx) (e : Expr) (W : WM) : Prop := PE X e (tDM G W)
def wmVal (W : WE) : WM := fun ρ q => W ρ fun d => q (.val d)
def wmOwn (W : WE) : WM := fun ρ q => W ρ fun d => match d with
  | .lst ds => q (.own ds)
  | _ => False
theorem dm_val (h : DE G X e W) : DM G X e (wmVal W) := PE_mono h fun σ H Q ⟨O, ρ, q, R, w, k⟩ => ⟨O, ρ, _, R, w, fun O' H' v d x r h => k O' H' v (.val d) x r trivial h⟩
theorem dm_own (h : DF G X e W) : DM G X e (wmOwn W) := PE_mono h fun σ H Q ⟨O, ρ, q, R, w, k⟩ => ⟨O, ρ, _, R, w, fun O' H' a vs ds x h1 h2 h3 h4 h5 h => k O' H' _ (.own ds) x ⟨a, vs, rfl, h1, h2, h3, h4⟩ (fun b z => by cases z; exact h5) h⟩
theorem tDM1 {Wm : WM} {q : Slot → Prop} {Q : VK} (R : EnvR G O H σ ρ) (w : Wm ρ q) (k : ∀ O' H' v sl, EnvR G O' H' σ ρ → Ext O O' H H' → RepS G.K O' H' v sl → FrS H v sl → q sl → Q v H') : tDM G Wm σ H Q :=
  ⟨O, ρ, q, R, w, fun O' H' v d x r f h => k O' H' v d (R.step x) x r f h⟩
theorem RepS.step {v : V} {sl : Slot} (okH : Ok O H) (x : Ext O O' H H') (h : RepS G.K O H v sl) : RepS G.K O' H' v sl := by
  cases sl with
  | val d => exact (x.keep okH).rep _ _ h
  | own ds =>
    obtain ⟨a, us, e, e1, ra, nf, nb⟩ := h
    refine ⟨a, us, e, x.same a _ nb (fun ps z => by cases z) e1, (x.keep okH).repA _ _ ra, fun f => ?_, by rw [x.bo]; exact nb⟩
    rcases x.new a f with q | q
    · exact nf q
    · rw [e1] at q
      exact nt_not (fun ps z => by cases z) q
  | own2 dss => exact h.elim
/-- a, b = x, y -/
def wPar2 (i j : Nat) (Wa Wb : WM) : WS := fun k ρ => Wa ρ fun x => Wb ρ fun y => k.nx ((ρ.set i (some x)).set j (some y))
theorem ds_par2 {i j : Nat} {x y : Str} {px py pt : Pos} {kt k2 pt2} {Wa Wb : WM} (hc : X.calm = true) (hN : X.N.Nodup) (hi : X.N[i]? = some x) (hj : X.N[j]? = some y) (hij : i ≠ j)
    (hx : X.env.scope.names.lookup x = some .local) (hy : X.env.scope.names.lookup y = some .local) (ha : DM G X a Wa) (hb : DM G X b Wb)
    (hw : swappedStores [.Tuple [.Name x px, .Name y py] kt pt] (.Tuple [a, b] k2 pt2) X.env = pure (some [x, y]) := by rfl)
    (hs : swapsWithSole [.Tuple [.Name x px, .Name y py] kt pt] (.Tuple [a, b] k2 pt2) pos.line X.env = pure false := by rfl)
    (h1 : starEach [a, b] X.env = (false, eval a X.env) :: starEach [b] X.env := by rfl) (h2 : starEach [b] X.env = (false, eval b X.env) :: starEach [] X.env := by rfl) :
    DS G X (.Assign [.Tuple [.Name x px, .Name y py] kt pt] (.Tuple [a, b] k2 pt2) pos) (wPar2 i j Wa Wb) :=
  PS_mono (ps_par hc hN hi hj hij hx hy (pa_cons ha (pa_cons hb pa_nil h2) h1) hw hs) fun D σ H ⟨O, ρ, k, R, w, knx, _⟩ =>
    tDM1 R w fun O1 H1 v sl R1 x1 r1 f1 w1 => tDM1 R1 w1 fun O2 H2 u sl2 R2 x2 r2 f2 w2 =>
      ⟨v, u, rfl, knx O2 _ _ H2 ((R.setS x1 i r1 f1).setS x2 j r2 f2) ((x1.trans R.ok x2).keep R.ok) w2⟩
/-- a, b, c = x, y, z -/
def wPar3 (i j l : Nat) (Wa Wb Wc : WM) : WS := fun k ρ => Wa ρ fun x => Wb ρ fun y => Wc ρ fun z => k.nx (((ρ.set i (some x)).set j (some y)).set l (some z))
theorem ds_par3 {i j l : Nat} {x y z : Str} {px py pz pt : Pos} {kt k2 pt2} {Wa Wb Wc : WM} (hc : X.calm = true) (hN : X.N.Nodup) (hi : X.N[i]? = some x) (hj : X.N[j]? = some y) (hl : X.N[l]? = some z) (hij : i ≠ j) (hil : i ≠ l) (hjl : j ≠ l)
    (hx : X.env.scope.names.lookup x = some .local) (hy : X.env.scope.names.lookup y = some .local) (hz : X.env.scope.names.lookup z = some .local) (ha : DM G X a Wa) (hb : DM G X b Wb) (hcc : DM G X c Wc)
    (hw : swappedStores [.Tuple [.Name x px, .Name y py, .Name z pz] kt pt] (.Tuple [a, b, c] k2 pt2) X.env = pure (some [x, y, z]) := by rfl)
    (hs : swapsWithSole [.Tuple [.Name x px, .Name y py, .Name z pz] kt pt] (.Tuple [a, b, c] k2 pt2) pos.line X.env = pure false := by rfl)
    (h1 : starEach [a, b, c] X.env = (false, eval a X.env) :: starEach [b, c] X.env := by rfl) (h2 : starEach [b, c] X.env = (false, eval b X.env) :: starEach [c] X.env := by rfl) (h3 : starEach [c] X.env = (false, eval c X.env) :: starEach [] X.env := by rfl) :
    DS G X (.Assign [.Tuple [.Name x px, .Name y py, .Name z pz] kt pt] (.Tuple [a, b, c] k2 pt2) pos) (wPar3 i j l Wa Wb Wc) :=
  PS_mono (ps_par3 hc hN hi hj hl hij hil hjl hx hy hz (pa_cons ha (pa_cons hb (pa_cons hcc pa_nil h3) h2) h1) hw hs) fun D σ H ⟨O, ρ, k, R, w, knx, _⟩ =>
    tDM1 R w fun O1 H1 v sl R1 x1 r1 f1 w1 => tDM1 R1 w1 fun O2 H2 u sl2 R2 x2 r2 f2 w2 => tDM1 R2 w2 fun O3 H3 t sl3 R3 x3 r3 f3 w3 =>
      ⟨v, u, t, rfl, knx O3 _ _ H3 (((R.setS x1 i r1 f1).setS x2 j r2 f2).setS x3 l r3 f3) (((x1.trans R.ok x2).trans R.ok x3).keep R.ok) w3⟩

/-! ### calls by name -/
def pick {α : Type} (pm : List Nat) (z : α) (xs : List α) : List α := pm.map fun i => xs.getD i z
structure KwD (K : PySem.W.Frag) (fd : FuncData) (ps ks : List Str) (pm : List Nat) : Prop where
  to : ∀ (us ws : List Value), us.length + ws.length = ps.length → ws.length = ks.length → bindArgs fd ⟨us, ks.zip ws⟩ = pure (ps.zip (pick pm .none (us ++ ws)))
  len : pm.length = ps.length
theorem vals_getD {vs : List V} {us : List Value} (r : Vals vs us) : ∀ i : Nat, RelV (vs.getD i .non) (us.getD i .none) := by
  induction r with
  | nil => intro i; cases i <;> rfl
  | cons h _ ih =>
    intro i
    cases i with
    | zero => exact h
    | succ i => exact ih i
theorem vals_pick {vs : List V} {us : List Value} (r : Vals vs us) : ∀ pm : List Nat, Vals (pick pm .non vs) (pick pm .none us)
  | [] => .nil
  | i :: pm => .cons (vals_getD r i) (vals_pick r pm)
theorem repA_getD {K : PySem.W.Frag} : ∀ {ds : List D} {vs : List V}, RepA K O H vs ds → ∀ i : Nat, Rep K O H (vs.getD i .non) (ds.getD i .non)
  | [], _, h, i => by cases h; cases i <;> exact .non
  | _ :: _, _, h, i => by
    cases h with
    | cons h1 h2 =>
      cases i with
      | zero => exact h1
      | succ i => exact repA_getD h2 i
theorem repA_pick {K : PySem.W.Frag} {vs : List V} {ds : List D} (r : RepA K O H vs ds) : ∀ pm : List Nat, RepA K O H (pick pm .non vs) (pick pm .non ds)
  | [] => .nil
  | i :: pm => .cons (repA_getD r i) (repA_pick r pm)
/-- the values of keywords -/
abbrev DK (G : Fx) (X : Cx) (kws : List Keyword) (W : WA) : Prop := PK X kws (tDA G kws.length W)
theorem PK_mono {kws : List Keyword} {t t' : TA} (h : PK X kws t) (k : ∀ σ H Q, t' σ H Q → t σ H Q) : PK X kws t' := ⟨fun pos pins s σ H Q I w => h.run pos pins s σ H Q I (k σ H Q w)⟩
theorem dk_nil : DK G X [] waNil := PK_mono pk_nil fun σ H Q ⟨O, ρ, q, R, w, k⟩ => k O H [] [] (Ext.refl R.ok) .nil rfl w
theorem dk_cons {kws : List Keyword} {nm : Option Str} {kpos : Pos} (ha : DE G X e W) (hr : DK G X kws WL) : DK G X (⟨nm, e, kpos⟩ :: kws) (waCons W WL) :=
  PK_mono (pk_cons ha hr) fun σ H Q ⟨O, ρ, q, R, w, k⟩ => tD1 R w fun O1 H1 v d R1 x1 r1 w1 => tDA2 R1 w1 fun O2 H2 vs ds R2 x2 r2 hl w2 => k O2 H2 _ _ (x1.trans R.ok x2) (.cons ((x2.keep R1.ok).rep _ _ r1) r2) (by rw [List.length_cons, List.length_cons, hl]) w2
def wCallK (wf : WF) (ep : Ex → Prop) (pm : List Nat) (WL WK : WA) : WE := fun ρ q => WL ρ fun ds => WK ρ fun es => wf (pick pm .non (ds ++ es)) q ep
theorem run_kw {k : Nat} {f : Addr} {fd : FuncData} {ps ks : List Str} {pm : List Nat} {wf : WF} {us ws : List Value} {vs : List V} {ds : List D} {q : D → Prop} {Q : VK} (hK : X.K = G.K) (F : FnD X.prog X.w X.K X.mg X.base G.O0.T k f fd ps wf) (hr : Room k X.A) (hb : KwD X.K fd ps ks pm) (hx : Passes (L2.CX X.prog X.w) X G.ex)
    (I : Inv X pins σ H s) (R : EnvR G O H σ ρ) (rv : Vals vs (us ++ ws)) (ra : RepA G.K O H vs ds) (hl : ds.length = ps.length) (hw : ws.length = ks.length) (w : wf (pick pm .non ds) q G.ep) (kq : ∀ O' H' v d, Ext O O' H H' → Rep G.K O' H' v d → q d → Q v H') :
    wpAny (model X.prog X.w) X.A (call (.ref f) us (ks.zip ws)) (EP X pins σ Q) X.xe s := by
  have h1 : us.length + ws.length = ps.length := by rw [← List.length_append, ← rv.length, ra.length, hl]
  have r2 := vals_pick rv pm
  refine wpAny_call (codeAny_mono (F.run X.A X.stack s H ⟨us, ks.zip ws⟩ (pick pm .none (us ++ ws)) (pick pm .non vs) Q G.ex hr I.env0 (.of_eq (hb.to us ws h1 hw)) r2 (by rw [hK]; exact call_reads R (by unfold pick; rw [List.length_map]; exact hb.len) (repA_pick ra pm) w kq)) fun r s' hq => ?_)
  cases r with
  | error e => exact hx pins σ H s e s' I hq
  | ok fl =>
    cases fl with
    | ret u => exact I.after hq
    | next => exact False.elim hq
    | brk => exact False.elim hq
    | cont => exact False.elim hq
theorem de_callK0 {k : Nat} {f : Addr} {fd : FuncData} {ps ks : List Str} {pm : List Nat} {wf : WF} {x : Str} {kws : List Keyword} {WK : WA} (hK : X.K = G.K) (F : FnD X.prog X.w X.K X.mg X.base G.O0.T k f fd ps wf) (hr : Room k X.A) (hg : Gl X x) (hm : X.mg x = some (.ref f)) (hk : PySem.W.keepIn X.K (.ref f) = true) (hb : KwD X.K fd ps ks pm) (hx : Passes (L2.CX X.prog X.w) X G.ex)
    (ha : DK G X kws WK) (hn : kws.length = ps.length) (hnk : kws.length = ks.length) (hall : (backToKw pos (keywordEach kws X.env)).all (·.1.isSome) = true := by rfl) (hks : (backToKw pos (keywordEach kws X.env)).filterMap (·.1) = ks := by rfl)
    (hdb : (x == ("__debug__" : Str)) = false := by decide)
    (hpl : ((backTo pos (starEach [] X.env)).any (·.1) || (backToKw pos (keywordEach kws X.env)).any (·.1.isNone)) = false := by rfl) :
    DE G X (.Call (.Name x p) [] kws pos) (wCallK wf G.ep pm waNil WK) := by
  refine ⟨fun pins s σ H Q I ⟨O, ρ, q, R, w, kq⟩ => ?_⟩
  refine wpAny_Call_Name_kw (ld_glob I hg hm ?_ hdb)
  refine PySem.W.callWith_KW0 (h₀ := X.base) I.ok.mod.kin hk hall (thn (ha.run pos pins s σ H (fun vs H1 => ∃ O1 ds, Ext O O1 H H1 ∧ RepA G.K O1 H1 vs ds ∧ ds.length = kws.length ∧ wf (pick pm .non ds) q G.ep) I (tDA2 R w fun O1 H1 vs ds R1 x1 r1 hl w1 => ⟨O1, ds, x1, r1, hl, w1⟩)) fun ws s1 ⟨vs, H1, I1, rv, O1, ds, x1, ra, hl, w1⟩ => ⟨I1.kIn, ?_⟩) hpl
  rw [hks]
  exact run_kw (us := []) hK F hr hb hx I1 (R.step x1) rv ra (hl.trans hn) (by rw [← rv.length, ra.length, hl, hnk]) w1 fun O' H' v d x2 => kq O' H' v d (x1.trans R.ok x2)
theorem de_callK {k : Nat} {f : Addr} {fd : FuncData} {ps ks : List Str} {pm : List Nat} {wf : WF} {x : Str} {kws : List Keyword} {WK : WA} (hK : X.K = G.K) (F : FnD X.prog X.w X.K X.mg X.base G.O0.T k f fd ps wf) (hr : Room k X.A) (hg : Gl X x) (hm : X.mg x = some (.ref f)) (hk : PySem.W.keepIn X.K (.ref f) = true) (hb : KwD X.K fd ps ks pm) (hx : Passes (L2.CX X.prog X.w) X G.ex)
    (ha0 : DA G X (e :: es) WL) (ha : DK G X kws WK) (hn : (e :: es).length + kws.length = ps.length) (hnk : kws.length = ks.length) (hall : (backToKw pos (keywordEach kws X.env)).all (·.1.isSome) = true := by rfl) (hks : (backToKw pos (keywordEach kws X.env)).filterMap (·.1) = ks := by rfl)
    (hdb : (x == ("__debug__" : Str)) = false := by decide) (he : starEach (e :: es) X.env = (false, eval e X.env) :: starEach es X.env := by rfl)
    (hpl : ((backTo pos (starEach (e :: es) X.env)).any (·.1) || (backToKw pos (keywordEach kws X.env)).any (·.1.isNone)) = false := by rfl) :
    DE G X (.Call (.Name x p) (e :: es) kws pos) (wCallK wf G.ep pm WL WK) := by
  refine ⟨fun pins s σ H Q I ⟨O, ρ, q, R, w, kq⟩ => ?_⟩
  refine wpAny_Call_Name_kw (ld_glob I hg hm ?_ hdb)
  refine PySem.W.callWith_KW (h₀ := X.base) I.ok.mod.kin hk hall (thn (ha0.run pos pins s σ H (fun vs H1 => ∃ O1 ds, Ext O O1 H H1 ∧ RepA G.K O1 H1 vs ds ∧ ds.length = (e :: es).length ∧ WK ρ fun fs => wf (pick pm .non (ds ++ fs)) q G.ep) I (tDA2 R w fun O1 H1 vs ds R1 x1 r1 hl w1 => ⟨O1, ds, x1, r1, hl, w1⟩)) fun us s1 ⟨vs, H1, I1, rv, O1, ds, x1, ra, hl, w1⟩ => ?_) hpl he
  have R1 := R.step x1
  refine thn (ha.run pos pins s1 σ H1 (fun zs H2 => ∃ O2 fs, Ext O1 O2 H1 H2 ∧ RepA G.K O2 H2 zs fs ∧ fs.length = kws.length ∧ wf (pick pm .non (ds ++ fs)) q G.ep) I1 (tDA2 R1 w1 fun O2 H2 zs fs R2 x2 r2 hl2 w2 => ⟨O2, fs, x2, r2, hl2, w2⟩)) fun ws s2 ⟨zs, H2, I2, rz, O2, fs, x2, rb, hl2, w2⟩ => ⟨I2.kIn, ?_⟩
  rw [hks]
  exact run_kw hK F hr hb hx I2 (R1.step x2) (rv.append rz) (((x2.keep R1.ok).repA _ _ ra).append rb) (by rw [List.length_append, hl, hl2]; exact hn) (by rw [← rz.length, rb.length, hl2, hnk]) w2 fun O' H' v d x3 => kq O' H' v d ((x1.trans R.ok x2).trans R.ok x3)

/-! ### a def that returns a new list, and the one that takes it as its bowl -/
def tDSF (G : Fx) (W : WS) : TS := fun E σ H => ∃ O ρ k, EnvR G O H σ ρ ∧ W k ρ ∧ ∀ O' H' a us ds, Ext G.O0 O' G.H0 H' → H' a = some (.lst us) → RepA G.K O' H' us ds → ¬ O'.F a → ¬ O'.Bo a → NT (G.H0 a) → k.rt (.lst ds) → E.rt (.ref a) H'
abbrev DSF (G : Fx) (X : Cx) (sts : List Stmt) (W : WS) : Prop := PSs X sts (tDSF G W)
def wSeqF (Ws Wr : WS) : WS := fun k ρ => Ws { nx := Wr k, rt := fun _ => False } ρ
theorem dsf_cons (h1 : DS G X st Ws) (h2 : DSF G X rest Wr) : DSF G X (st :: rest) (wSeqF Ws Wr) := PSs_mono (pss_cons h1 h2) fun D σ H ⟨O, ρ, k, R, w, krt⟩ =>
  ⟨O, ρ, _, R, w, fun O1 σ1 ρ1 H1 R1 _ w1 => ⟨O1, ρ1, k, R1, w1, krt⟩, fun _ _ _ _ _ _ z => z.elim, fun _ _ _ _ _ _ z => z.elim, fun _ _ _ _ _ _ z => z.elim⟩
theorem dsf_ret (h : DF G X e W) : DSF G X [.Return (some e) pos] (wRet W) := PSs_mono (pss_one (ps_ret h)) fun D σ H ⟨O, ρ, k, R, w, krt⟩ =>
  ⟨O, ρ, k.rt, R, w, fun O1 H1 a us ds x1 h1 h2 h3 h4 h5 w1 => krt O1 H1 a us ds (R.ext.trans R.ok0 x1) h1 h2 h3 h4 (R.ext.nt R.ok0 h5) w1⟩
def spF (K : PySem.W.Frag) (T : List (Addr × Str)) (n : Nat) (wf : WF) : Sp := fun vs H Q E => ∃ O ds q, vs.length = n ∧ (Ok O H ∧ O.T = T) ∧ RepA K O H vs ds ∧ wf ds q (fun _ => False) ∧
  (∀ O' H' a us es, Ext O O' H H' → H' a = some (.lst us) → RepA K O' H' us es → ¬ O'.F a → ¬ O'.Bo a → NT (H a) → q (.lst es) → Q (.ref a) H')
abbrev FnF (P : Program) (w : World) (K : PySem.W.Frag) (mg : Str → Option Value) (base : Heap) (T : List (Addr × Str)) (k : Nat) (f : Addr) (fd : FuncData) (ps : List Str) (wf : WF) : Prop := FnOk P w K mg base (L2.CX P w) k f fd ps (spF K T ps.length wf)
theorem fnf_ok {P : Program} {w : World} {K : PySem.W.Frag} {mg : Str → Option Value} {base : Heap} {T : List (Addr × Str)} {name qual : Str} {st : Stmt} {f : Addr} {fd : FuncData} {N ps : List Str} {k : Nat} {wf : WF} (F : Fun K name qual st f fd) (S : FnScope N ps (defScope st)) (Wb : WS)
    (hbody : ∀ (cdv : Value), fd.code = cdv → ∀ (A : Around) (outer : List PySem.Env) (s : Shared) (E : XK) (G : Fx), Room k (A.deeper (envOfC qual (defScope st) s.heap.objs.size f cdv)) → G.K = K →
      At (cxOf (L2.CX P w) P w K mg base N qual (defScope st) f cdv A outer s G.H0 E) G T → DSF G (cxOf (L2.CX P w) P w K mg base N qual (defScope st) f cdv A outer s G.H0 E) (defBody st) Wb)
    (hW : ∀ ds q, ds.length = ps.length → wf ds q (fun _ => False) → Wb { nx := fun _ => False, rt := q } (startE N.length ds)) : FnF P w K mg base T (k + 1) f fd ps wf := by
  refine F.okXC S (fun vs H Q E ⟨O, ds, q, hl, _⟩ => hl) fun cdv hcode A outer s H vs Q E hr ⟨O, ds, q, hl, ⟨ok, hT⟩, r, w1, kv⟩ => ?_
  have hG : ∀ cls d (σ : L2.St) H', (Fx.mk K H O fun _ => False).ex cls d H' → E cls d H' := fun cls d _ H' ⟨O', x, x1, rx, h⟩ => h.elim
  refine ⟨_, hbody cdv hcode A outer s E ⟨K, H, O, fun _ => False⟩ hr rfl ⟨rfl, hT, passes_call (takes_of rfl rfl rfl rfl) hG, passes_of rfl, (takes_of rfl rfl rfl rfl).imp hG⟩, ?_⟩
  exact ⟨O, startE N.length ds, _, start_rep (G := ⟨K, H, O, fun _ => False⟩) ok r, hW ds q (by rw [← r.length]; exact hl) w1, fun O' H' a us es x h1 h2 h3 h4 h5 h => kv O' H' a us es x h1 h2 h3 h4 h5 h⟩
def wBowlCall (wh wg : WF) (WL : WA) : WE := fun ρ q => WL ρ fun ds => wh ds (fun r => (∃ i j l, r = .lst [.int i, .int j, .int l]) ∧ wg [.bowl] (fun d => (∃ b, d = .bl b) ∧ q d) fun _ => False) fun _ => False
theorem Ext.bowlOut (okH : Ok O1 H1) {a : Addr} {O3 : Om} {H3 : Hp} (x2 : Ext O1 O2 H1 H2) (x3 : Ext ⟨O2.F, fun z => O2.Bo z ∨ z = a, O2.T⟩ O3 H2 H3) (nt : NT (H1 a)) : Ext O1 ⟨O3.F, O2.Bo, O3.T⟩ H1 H3 where
  bo := x2.bo
  tt := x3.tt.trans x2.tt
  same := fun z o nb ht e => x3.same z o (fun q => q.elim (fun q => nb (by rw [← x2.bo]; exact q)) fun q => by
    rw [← q, e] at nt
    exact nt_not ht nt) ht (x2.same z o nb ht e)
  up := fun z f => x3.up z (x2.up z f)
  new := fun z f => by
    rcases x3.new z f with q | q
    · exact x2.new z q
    · exact .inr (x2.nt okH q)
  ok := ⟨x3.ok.tabs, fun z hz => x3.ok.bow z (by rw [x3.bo]; exact .inl hz), fun z f hz => x3.ok.fb z f (by rw [x3.bo]; exact .inl hz), x3.ok.ft⟩
theorem de_bowlCall {k k' : Nat} {f f' : Addr} {fd fd' : FuncData} {ps ps' : List Str} {wh wg : WF} {x x' : Str} {p' pos' : Pos} (hK : X.K = G.K) (F : FnF X.prog X.w X.K X.mg X.base G.O0.T k f fd ps wh) (F' : FnD X.prog X.w X.K X.mg X.base G.O0.T k' f' fd' ps' wg) (hr : Room k X.A) (hr' : Room k' X.A)
    (hg : Gl X x) (hm : X.mg x = some (.ref f)) (hk : PySem.W.keepIn X.K (.ref f) = true) (hb : Binds X.K fd ps []) (hg' : Gl X x') (hm' : X.mg x' = some (.ref f')) (hk' : PySem.W.keepIn X.K (.ref f') = true) (hb' : Binds X.K fd' ps' []) (hx : Passes (L2.CX X.prog X.w) X G.ex)
    (ha : DA G X (e :: es) WL) (hn : (e :: es).length = ps.length) (hn' : ps'.length = 1) (hdb : (x == ("__debug__" : Str)) = false := by decide) (he : starEach (e :: es) X.env = (false, eval e X.env) :: starEach es X.env := by rfl) (hpl : (backTo pos (starEach es X.env)).any (·.1) = false := by rfl)
    (hdb' : (x' == ("__debug__" : Str)) = false := by decide) (he' : starEach [.Call (.Name x p) (e :: es) [] pos] X.env = (false, eval (.Call (.Name x p) (e :: es) [] pos) X.env) :: starEach [] X.env := by rfl) (hpl' : (backTo pos' (starEach [] X.env)).any (·.1) = false := by rfl) :
    DE G X (.Call (.Name x' p') [.Call (.Name x p) (e :: es) [] pos] [] pos') (wBowlCall wh wg WL) :=
  PE_mono (pe_call F' hr' hg' hm' hk' hb' .nil hx (pa_cons (pe_call F hr hg hm hk hb .nil hx ha hdb he hpl) pa_nil he') hdb' he' hpl') fun σ H Q ⟨O, ρ, q, R, w, kq⟩ =>
    tDA2 R w fun O1 H1 vs ds R1 x1 r1 hl w1 => by
      rw [hK, List.append_nil]
      refine ⟨O1, ds, _, by rw [r1.length, hl]; exact hn, ⟨R1.ok, R1.ext.tt⟩, r1, w1, fun O2 H2 a us bs x2 e2 ra nf nb nt ⟨⟨i, j, l, el⟩, w2⟩ => ?_⟩
      cases el
      show spD G.K G.O0.T ps'.length wg ([V.ref a] ++ []) H2 Q G.ex
      rw [List.append_nil]
      have hus : us = [.int i, .int j, .int l] := ra.ints (ns := [i, j, l])
      subst hus
      let OB : Om := ⟨O2.F, fun z => O2.Bo z ∨ z = a, O2.T⟩
      have okB : Ok OB H2 := ⟨x2.ok.tabs, fun z hz => hz.elim (fun q => x2.ok.bow z q) (fun q => by rw [q]; exact ⟨i, j, l, e2⟩), fun z f hz => hz.elim (x2.ok.fb z f) fun q => nf (by rw [← q]; exact f), x2.ok.ft⟩
      refine ⟨OB, [.bowl], _, fun _ => False, hn'.symm, ⟨okB, x2.tt.trans R1.ext.tt⟩, .cons (.bowl (.inr rfl)) .nil, w2, fun O3 H3 v d x3 r3 ⟨⟨b, hd⟩, q3⟩ => ?_, fun O3 H3 cls dx y x3 rx hy => hy.elim⟩
      subst hd
      cases r3
      exact kq ⟨O3.F, O2.Bo, O3.T⟩ H3 _ _ (x1.trans R.ok (x2.bowlOut R1.ok x3 nt)) (.bl b) q3
end
end DL
set_option Elab.async false
set_option linter.all false
set_option maxRecDepth 100000
set_option maxHeartbeats 4000000
/-! DL10: t[::-1] and t * n for small n, of tuples. -/
namespace DL
open PySem PySem.Spec PyProof.Rows L2 NdefX LamX
theorem adjust_rev (n : Nat) : Builtin.Slice.sliceAdjust none none (-1) (n : Int) = ((n : Int) - 1, -1) := by
  unfold Builtin.Slice.sliceAdjust
  rfl
theorem places_rev (n : Nat) : Builtin.Slice.slicePlaces ((n : Int) - 1) (-1) (-1) = n := by
  unfold Builtin.Slice.slicePlaces
  have h1 : ¬ ((-1 : Int) > 0) := by omega
  simp only [h1, if_false]
  have e : (-(-1 : Int)) = 1 := rfl
  rw [e, Int.ediv_one]
  split <;> omega
theorem filterMap_same {α β : Type} {f g : α → Option β} : ∀ {l : List α}, (∀ x ∈ l, f x = g x) → l.filterMap f = l.filterMap g
  | [], _ => rfl
  | x :: l, h => by
    rw [List.filterMap_cons, List.filterMap_cons, h x List.mem_cons_self, filterMap_same fun y hy => h y (List.mem_cons_of_mem _ hy)]
theorem pick_rev (xs : Array Value) : ((List.range xs.size).filterMap fun (m : Nat) => xs[((xs.size : Int) - 1 + (m : Int) * (-1)).toNat]?).toArray = xs.toList.reverse.toArray := by
  have e : (List.range xs.size).filterMap (fun (m : Nat) => xs[((xs.size : Int) - 1 + (m : Int) * (-1)).toNat]?) = ((List.range xs.size).map fun k => xs.size - 1 - k).filterMap (xs[·]?) := by
    rw [List.filterMap_map]
    refine filterMap_same fun m hm => ?_
    have := List.mem_range.mp hm
    have e2 : ((xs.size : Int) - 1 + (m : Int) * (-1)).toNat = xs.size - 1 - m := by omega
    show xs[_]? = xs[_]?
    rw [e2]
  rw [e, PySem.W.krv_range, List.filterMap_reverse, PySem.W.krv_all]
section
variable {prog : Program} {w : World} {A : Around} {E : Value → Shared → Prop} {s : Shared}
theorem getItem_tuple_rev {t sl : Addr} {items : Array Value} {vl vu vs : Value} {Q : Value → Shared → Prop} (ht : IsTup s.heap t items) (hs : s.heap.IsSliceOf sl vl vu vs) (pl : IsPart vl none) (pu : IsPart vu none) (ps : IsPart vs (some (-1)))
    (h : Q (.ref s.heap.objs.size) { s with heap := s.heap.push { cls := .type "tuple", data := .seq items.toList.reverse.toArray } }) (hsz : items.size ≤ sizeLine) : wpAny (model prog w) A (getItem (.ref t) (.ref sl)) Q E s := by
  have htake : sizeOk (.seq items.toList.reverse.toArray) := by
    show items.toList.reverse.toArray.size ≤ sizeLine
    rw [List.size_toArray, List.length_reverse, Array.length_toList]
    exact hsz
  obtain ⟨os, hos, hcs, hds⟩ := id hs
  have hTs : s.TypeIs (.ref sl) "slice" := ⟨os, hos, hcs⟩
  unfold getItem
  try with_reducible refine wpAny_holding ?_
  first | refine wpAny_bind (wpAny_pure ?_) | skip
  refine wpAny_bind (wpAny_sequenceKey ht.typeIs (by decide) ?_)
  refine wpAny_bind (wpAny_callSpecial?_slot (name := Str.ofString "__getitem__") ht.typeIs PyProof.Rows.slot_tuple_getitem
    (wpAny_call_entry PyProof.Rows.slot_tuple_getitem ht.typeIs entry_tuple_getitem ?_ (args_tuple_getitem _ _)))
  show wpAny _ _ (Builtin.Tuple.tupleItemsOf (.ref t) >>= _) _ _ s
  refine wpAny_bind (PyProof.Rows.tupleItemsOf_ ht ?_)
  refine wpAny_bind (wpAny_typeOf hTs ?_)
  rw [if_pos (by decide)]
  refine wpAny_bind ?_
  · unfold Builtin.Slice.sliceApplied Builtin.Slice.sliceFields
    refine wpAny_bind (wpAny_bind (wpAny_field hos hds (x := vl) rfl (wpAny_bind (wpAny_field hos hds (x := vu) rfl (wpAny_bind (wpAny_field hos hds (x := vs) rfl (wpAny_pure ?_)))))))
    refine wpAny_bind (HT.slicePart_ ps ?_)
    show wpAny _ _ (if ((-1 : Int) == 0) = true then _ else _) _ _ s
    rw [if_neg (by decide)]
    refine wpAny_bind (HT.slicePart_ pl (wpAny_bind (HT.slicePart_ pu (wpAny_bind (wpAny_pure ?_)))))
    show wpAny _ _ (match Builtin.Slice.sliceAdjust none none (-1) (items.size : Int) with | (lo, hi) => pure (lo, (-1 : Int), Builtin.Slice.slicePlaces lo hi (-1))) _ _ s
    rw [adjust_rev]
    show wpAny _ _ (pure ((items.size : Int) - 1, (-1 : Int), Builtin.Slice.slicePlaces ((items.size : Int) - 1) (-1) (-1))) _ _ s
    rw [places_rev]
    refine wpAny_pure ?_
    have hno : ¬ ((((items.size : Int) - 1 == 0) && (-1 : Int) == 1 && items.size == items.size) = true) := by
      intro q
      rw [Bool.and_eq_true, Bool.and_eq_true] at q
      exact absurd q.1.2 (by decide)
    show wpAny _ _ (if (((items.size : Int) - 1 == 0) && (-1 : Int) == 1 && items.size == items.size) = true then _ else _) _ _ s
    rw [if_neg hno, pick_rev]
    first
      | exact wpAny_bind (m := Builtin.Tuple.tupleExact _) (wpAny_newObj_type (wpAny_pure ⟨_, rfl, wpAny_pure h⟩) htake)
      | exact wpAny_bind (m := Builtin.Tuple.tupleExact _) (wpAny_newObj_type (wpAny_bind (wpAny_pure (wpAny_pure ⟨_, rfl, wpAny_pure h⟩))) htake)
      | exact wpAny_bind (wpAny_bind (m := Builtin.Tuple.tupleExact _) (wpAny_newObj_type (wpAny_pure (wpAny_pure ⟨_, rfl, wpAny_pure h⟩)) htake))
      | exact wpAny_bind (wpAny_bind (m := Builtin.Tuple.tupleExact _) (wpAny_newObj_type (wpAny_pure ⟨_, rfl, wpAny_pure h⟩) htake))
end
/-- xs[::-1], xs a tuple or a list -/
def tRevT (K : PySem.W.Frag) (te : TE) : TE := fun σ H Q => te σ H fun x H1 => ∃ a xs, x = .ref a ∧ SqT K H1 a xs ∧ ∀ p, H1 p = none → Q (.ref p) (upd H1 p (.tup xs.reverse))
theorem pe_revT {X : Cx} {e : Expr} {te : TE} {k : Nat} {p1 p2 p3 pos : Pos} (he : PE X e te) : PE X (.Subscript e (.Slice none none (some (.UnaryOp .USub (.Constant (.int 1) k p1) p2)) p3) pos) (tRevT X.K te) := by
  refine ⟨fun pins s σ H Q I h => ?_⟩
  refine PyProof.Rows.Subscript_ (thn (he.run pins s σ H _ I h) fun v s1 ⟨x, H1, I1, r1, q1⟩ => ?_)
  obtain ⟨a, xs, ex, hx, q⟩ := q1
  subst ex
  cases r1
  have hst : PO X (some (.UnaryOp .USub (.Constant (.int 1) k p1) p2)) (tPart (tUn (rU fun i => .int (-i)) (tC (.int 1)))) := po_some (pe_un un_neg pe_int)
  refine wpAny_Slice (thn (po_none.run pins s1 σ H1 (fun o H2 => o = none ∧ H2 = H1) I1 ⟨rfl, rfl⟩) fun vl s2 ⟨l, H2, I2, pl, el, e2⟩ => ?_)
  subst el e2
  refine thn (po_none.run pins s2 σ H2 (fun o H3 => o = none ∧ H3 = H2) I2 ⟨rfl, rfl⟩) fun vu s3 ⟨u, H3, I3, pu, eu, e3⟩ => ?_
  subst eu e3
  refine thn (hst.run pins s3 σ H3 (fun o H4 => o = some (-1) ∧ H4 = H3) I3 ⟨1, rfl, -1, rfl, rfl, rfl⟩) fun vs s4 ⟨o, H4, I4, ps, eo, e4⟩ => ?_
  subst eo e4
  have I5 : Inv X pins σ H4 { s4 with heap := s4.heap.push { cls := .type "slice", data := .fields #[vl, vu, vs] } } := I4.kept (t' := s4.toks) fun b ob q => Heap.get?_push_of_some _ q
  obtain ⟨its, r, ht, hz⟩ := I5.tuple hx
  have hlen := r.length
  show wpAny (model X.prog X.w) X.A (subscriptTail e (.Slice none none (some (.UnaryOp .USub (.Constant (.int 1) k p1) p2)) p3) (.ref a) (.ref s4.heap.objs.size)) (EP X pins σ Q) X.xe { s4 with heap := s4.heap.push { cls := .type "slice", data := .fields #[vl, vu, vs] } }
  refine tail_any (ops := [.ref a, .ref s4.heap.objs.size]) ht.typeIs (PyProof.Rows.slot_tuple_getitem.lookup) ?_ (by with_unfolding_all rfl)
  refine getItem_tuple_rev ht (Heap.IsSliceOf.new _ vl vu vs) pl pu ps ?_ (by rw [List.size_toArray]; omega)
  refine ⟨.ref _, _, I5.laid (t' := s4.toks) (o := .tup xs.reverse) (fun b ob q => Heap.get?_push_of_some _ q) (Nat.le_refl _) ?_, rfl, q _ (I5.hok.fresh (Nat.le_refl _))⟩
  exact ⟨by rw [List.length_reverse]; exact hz, _, r.reverse, IsTup.new _ _⟩
theorem RepA.reverse {K : PySem.W.Frag} {O : Om} {H : Hp} : ∀ {ds : List D} {vs : List V}, RepA K O H vs ds → RepA K O H vs.reverse ds.reverse
  | [], _, h => by cases h; exact .nil
  | _ :: _, _, h => by
    cases h with
    | cons h1 h2 =>
      rw [List.reverse_cons, List.reverse_cons]
      exact (RepA.reverse h2).append (.cons h1 .nil)
def wRevT (W : WE) : WE := fun ρ q => W ρ fun d => match d with
  | .tup ds => q (.tup ds.reverse)
  | _ => False
theorem de_revT {G : Fx} {X : Cx} {e : Expr} {W : WE} {k : Nat} {p1 p2 p3 pos : Pos} (hK : X.K = G.K) (he : DE G X e W) : DE G X (.Subscript e (.Slice none none (some (.UnaryOp .USub (.Constant (.int 1) k p1) p2)) p3) pos) (wRevT W) :=
  PE_mono (pe_revT he) fun σ H Q ⟨O, ρ, q, R, w, kq⟩ => tD1 R w fun O1 H1 v d R1 x1 r1 w1 => by
    rw [hK]
    cases d with
    | tup ds =>
      cases r1 with
      | tup hs ha =>
        refine ⟨_, _, rfl, hs, fun p hp => ?_⟩
        obtain ⟨y, r⟩ := lay_tup R1 ha.reverse hp
        exact kq _ _ _ _ (x1.trans R.ok y) r w1
    | _ => exact w1.elim

/-! ### t * n, n at most 1 -/
theorem tuple_mul1 (l : Addr) (items : Array Value) (n : Nat) (dd : Option Addr) (sl : Array (Option Value)) (x : Int) (u : Tok) (c0 : (decide (x < -(2 ^ 63)) || decide (x ≥ 2 ^ 63)) = false) (c1 : (items.isEmpty || x == 1) = true) :
    Meets (Builtin.«tuple.__mul__» ⟨[.ref l, .int x u], []⟩) (fun _ R s => s.heap.get? l = some { cls := .type "tuple", dict := dd, data := .seq items n, slots := sl } ∧ R (.ok (.ret (Value.ref l))) s) :=
  .of_wp fun prog w A R s h => by
    obtain ⟨hp, g, d, tk, os⟩ := s
    obtain ⟨hl, h⟩ := h
    have f1 := AutoSeq1.idx_int
    wp_walk using wpAny_loadPart' hl
    repeat (first
      | (refine wpAny_ite_false (decide_eq_false (by rw [c0]; exact Bool.false_ne_true)) ?_; wp_walk using wpAny_loadPart' hl)
      | (refine wpAny_ite_true (decide_eq_true c1) ?_; wp_walk using wpAny_loadPart' hl))
    exact ⟨_, rfl, h⟩
theorem tuple_mul0 (l : Addr) (items : Array Value) (n : Nat) (dd : Option Addr) (sl : Array (Option Value)) (x : Int) (u : Tok) (c0 : (decide (x < -(2 ^ 63)) || decide (x ≥ 2 ^ 63)) = false) (c1 : (items.isEmpty || x == 1) = false) (c2 : (decide (x ≤ 0) || items.isEmpty) = true) :
    Meets (Builtin.«tuple.__mul__» ⟨[.ref l, .int x u], []⟩) (fun _ R s => s.heap.get? l = some { cls := .type "tuple", dict := dd, data := .seq items n, slots := sl } ∧
      R (.ok (.ret (Value.ref s.heap.objs.size))) { s with heap := s.heap.push { cls := Value.type "tuple", data := Data.seq #[] }, toks := s.toks }) :=
  .of_wp fun prog w A R s h => by
    obtain ⟨hp, g, d, tk, os⟩ := s
    obtain ⟨hl, h⟩ := h
    have f1 := AutoSeq1.idx_int
    wp_walk using wpAny_loadPart' hl
    repeat (first
      | (refine wpAny_ite_false (decide_eq_false (by rw [c0]; exact Bool.false_ne_true)) ?_; wp_walk using wpAny_loadPart' hl)
      | (refine wpAny_ite_false (decide_eq_false (by rw [c1]; exact Bool.false_ne_true)) ?_; wp_walk using wpAny_loadPart' hl)
      | (refine wpAny_ite_true (decide_eq_true c2) ?_; wp_walk using wpAny_loadPart' hl))
    exact ⟨_, rfl, h⟩

def rRepT1 (K : PySem.W.Frag) : R2 := fun x y H Q => ∃ l k xs, x = .ref l ∧ y = .int k ∧ SqT K H l xs ∧ -1000 ≤ k ∧ k ≤ 1000 ∧ ((xs = [] ∨ k = 1) ∧ Q (.ref l) H ∨ (xs ≠ [] ∧ k ≤ 0) ∧ ∀ p, H p = none → Q (.ref p) (upd H p (.tup [])))
theorem op_repT1 {X : Cx} : OpR X (binaryOp .Mult) (rRepT1 X.K) := by
  intro pins s σ H x y v u Q I rx ry h
  obtain ⟨l, k, xs, rfl, rfl, hT, h1, h2, q⟩ := h
  cases rx
  obtain ⟨t, rfl⟩ := ry
  obtain ⟨its, r, ⟨⟨cls, dd, data, sl⟩, ho, hc, n, hd⟩, hs⟩ := I.tuple hT
  simp only at hc hd
  subst hc hd
  have hle : its.length = xs.length := r.length.symm
  have c0 : (decide (k < -(2 ^ 63)) || decide (k ≥ 2 ^ 63)) = false := by
    rw [decide_eq_false (by omega), decide_eq_false (by omega)] <;> rfl
  have hemp : its.toArray.isEmpty = true ↔ xs = [] := by
    cases its with
    | nil => simp; exact List.eq_nil_of_length_eq_zero hle.symm
    | cons a b =>
      simp
      intro z
      rw [z] at hle
      simp at hle
  refine wpAny_binaryOp_repeat_ref (T := "tuple") (U := "int") (by decide) ⟨_, ho, rfl⟩ (fun s' => typeIs_int s' k t) noFill_tuple_mul F.fills_int_mul F.slot_int_rmul repeat_tuple F.slot_int_index.lookup
    (call_meets F.slot_int_rmul (typeIs_int s k t) F.entry_int_rmul (F.args_int_rmul_2 _ _) (int_rmul_tuple k t l its.toArray n dd sl) ⟨ho, rfl, ⟨_, ho, rfl⟩, ?_⟩)
  rcases q with ⟨hc, q⟩ | ⟨⟨hne, hk⟩, q⟩
  · have c1 : (its.toArray.isEmpty || k == 1) = true := by
      rcases hc with z | z
      · rw [hemp.mpr z, Bool.true_or]
      · rw [z]
        exact Bool.or_true _
    exact call_meets F.slot_tuple_mul ⟨_, ho, rfl⟩ F.entry_tuple_mul (F.args_tuple_mul_2 _ _) (tuple_mul1 l its.toArray n dd sl k t c0 c1) ⟨ho, ⟨.ref l, H, I, rfl, q⟩⟩
  · have hi : its.toArray.isEmpty = false := by
      cases e : its.toArray.isEmpty with
      | true => exact absurd (hemp.mp e) hne
      | false => rfl
    have c1 : (its.toArray.isEmpty || k == 1) = false := by
      rw [hi, Bool.false_or]
      exact beq_eq_false_iff_ne.mpr (by omega)
    have c2 : (decide (k ≤ 0) || its.toArray.isEmpty) = true := by
      rw [decide_eq_true hk, Bool.true_or]
    refine call_meets F.slot_tuple_mul ⟨_, ho, rfl⟩ F.entry_tuple_mul (F.args_tuple_mul_2 _ _) (tuple_mul0 l its.toArray n dd sl k t c0 c1 c2) ⟨ho, ?_⟩
    refine ⟨.ref s.heap.objs.size, _, I.laid (t' := s.toks) (o := .tup []) (fun b ob q => Heap.get?_push_of_some _ q) (Nat.le_refl _) ?_, rfl, q _ (I.hok.fresh (Nat.le_refl _))⟩
    exact ⟨Nat.zero_le _, [], .nil, IsTup.new _ _⟩
def rMul2 (K : PySem.W.Frag) : R2 := fun x y H Q => rMul K x y H Q ∨ rRepT1 K x y H Q
theorem op_Mul2 {X : Cx} : OpR X (binaryOp .Mult) (rMul2 X.K) := op_or2 op_Mul op_repT1
def fMul2 : F2 := fun x y q => match x, y with
  | .tup a, .int k => (-1000 ≤ k ∧ k ≤ 1000 ∧ a.length ≤ 1000) ∧ q (.tup (List.replicate k.toNat a).flatten)
  | x, y => fMul x y q
theorem od_Mul2 {G : Fx} : OpD G (rMul2 G.K) fMul2 := fun O H σ ρ v u d e q Q R r1 r2 w k => by
  unfold fMul2 at w
  split at w
  · rename_i a j
    obtain ⟨⟨h1, h2, h3⟩, w⟩ := w
    by_cases hc : a = [] ∨ j = 1
    · obtain ⟨p, vs, e1, g1, a1⟩ := r1.tuple
      have e2 : (List.replicate j.toNat a).flatten = a := by
        rcases hc with z | z
        · subst z
          generalize j.toNat = n
          induction n with
          | zero => rfl
          | succ n ih => rw [List.replicate_succ, List.flatten_cons, ih]; rfl
        · subst z
          show (List.replicate 1 a).flatten = a
          simp
      rw [e2] at w
      refine .inr ⟨p, j, vs, e1, r2.int, g1, h1, h2, .inl ⟨?_, k O H _ _ (Ext.refl R.ok) (.tup g1 a1) w⟩⟩
      rcases hc with z | z
      · subst z
        exact .inl (List.length_eq_zero_iff.mp a1.length)
      · exact .inr z
    · by_cases hk : j ≤ 0
      · obtain ⟨p, vs, e1, g1, a1⟩ := r1.tuple
        have e2 : (List.replicate j.toNat a).flatten = [] := by
          rw [show j.toNat = 0 by omega]
          rfl
        rw [e2] at w
        refine .inr ⟨p, j, vs, e1, r2.int, g1, h1, h2, .inr ⟨⟨fun z => hc (.inl (List.length_eq_zero_iff.mp (by rw [← a1.length, z]; rfl))), hk⟩, fun l hl => ?_⟩⟩
        obtain ⟨x, r⟩ := lay_tup R (vs := []) (ds := []) .nil hl
        exact k _ _ _ _ x r w
      · exact .inl (od_Mul O H σ ρ v u _ _ q Q R r1 r2 ⟨⟨fun z => hc (.inl z), by omega, h2, h3⟩, w⟩ k)
  · exact .inl (od_Mul O H σ ρ v u _ _ q Q R r1 r2 w k)
end DL
set_option Elab.async false
set_option linter.all false
set_option maxRecDepth 100000
set_option maxHeartbeats 4000000
/-! DL11: the rules in the form that the printer of texts writes. -/
namespace DL
open PySem PySem.Spec PyProof.Rows L2 NdefX LamX

/-- a def of the module and its promise -/
structure FnE (P : Program) (w : World) (K : PySem.W.Frag) (mg : Str → Option Value) (base : Heap) (T : List (Addr × Str)) (k : Nat) (x : Str) (st : Stmt) (ps : List Str) (wf : WF) : Prop where
  ex : ∃ f fd, Fun K x x st f fd ∧ mg x = some (.ref f) ∧ FnD P w K mg base T k f fd ps wf ∧ Binds K fd ps []
structure FnFE (P : Program) (w : World) (K : PySem.W.Frag) (mg : Str → Option Value) (base : Heap) (T : List (Addr × Str)) (k : Nat) (x : Str) (st : Stmt) (ps : List Str) (wf : WF) : Prop where
  ex : ∃ f fd, Fun K x x st f fd ∧ mg x = some (.ref f) ∧ FnF P w K mg base T k f fd ps wf ∧ Binds K fd ps []
structure FnHE (P : Program) (w : World) (K : PySem.W.Frag) (mg : Str → Option Value) (base : Heap) (T : List (Addr × Str)) (k j : Nat) (x : Str) (st : Stmt) (ps : List Str) (n : Nat) (wh : WF → WF) : Prop where
  ex : ∃ f fd, Fun K x x st f fd ∧ mg x = some (.ref f) ∧ FnHO P w K mg base T k j f fd ps n wh ∧ Binds K fd ps []
/-- a def where it stands -/
structure DefE (K : PySem.W.Frag) (mg : Str → Option Value) (x : Str) (st : Stmt) (ps : List Str) : Prop where
  ex : ∃ f fd, Fun K x x st f fd ∧ mg x = some (.ref f) ∧ Binds K fd ps []
/-- .. with its code object and table -/
structure DefT (K : PySem.W.Frag) (mg : Str → Option Value) (base : Heap) (T : List (Addr × Str)) (x : Str) (st : Stmt) (ps : List Str) (c P : Addr) : Prop where
  ex : ∃ f fd, Fun K x x st f fd ∧ mg x = some (.ref f) ∧ Binds K fd ps [] ∧ fd.code = .ref c
  TB : TabB base mg c P
  inT : (P, x ++ ".<locals>." ++ "<lambda>") ∈ T
  uniq : ∀ p ∈ T, p.1 = P → p.2 = x ++ ".<locals>." ++ "<lambda>"

section
variable {P : Program} {w : World} {K : PySem.W.Frag} {mg : Str → Option Value} {base : Heap} {T : List (Addr × Str)} {k j : Nat} {x : Str} {st : Stmt} {N ps : List Str} {wf : WF}
theorem FnE.mono (F : FnE P w K mg base T j x st ps wf) (h : j ≤ k) : FnE P w K mg base T k x st ps wf := by
  obtain ⟨f, fd, h1, h2, h3, h4⟩ := F.ex
  exact ⟨f, fd, h1, h2, FnOk.mono h3 h, h4⟩
theorem FnE.imp {wf' : WF} (F : FnE P w K mg base T k x st ps wf) (h : ∀ ds q ep, ds.length = ps.length → wf' ds q ep → wf ds q ep) : FnE P w K mg base T k x st ps wf' := by
  obtain ⟨f, fd, h1, h2, h3, h4⟩ := F.ex
  exact ⟨f, fd, h1, h2, FnOk.imp h3 fun vs H Q E ⟨O, ds, q, ep, hl, ho, ra, hw, kv, kx⟩ => ⟨O, ds, q, ep, hl, ho, ra, h ds q ep (by rw [← ra.length]; exact hl) hw, kv, kx⟩, h4⟩
theorem fnE_ok (F : DefE K mg x st ps) (S : FnScope N ps (defScope st)) (Wb : (Ex → Prop) → WS)
    (hbody : ∀ (f : Addr) (cdv : Value) (A : Around) (outer : List PySem.Env) (s : Shared) (E : XK) (G : Fx), Room k (A.deeper (envOfC x (defScope st) s.heap.objs.size f cdv)) → G.K = K →
      At (cxOf (L2.CX P w) P w K mg base N x (defScope st) f cdv A outer s G.H0 E) G T → DSs G (cxOf (L2.CX P w) P w K mg base N x (defScope st) f cdv A outer s G.H0 E) (defBody st) (Wb G.ep)) :
    FnE P w K mg base T (k + 1) x st ps (fun ds q ep => Wb ep { nx := fun _ => q .non, rt := q } (startE N.length ds)) := by
  obtain ⟨f, fd, h1, h2, h3⟩ := F.ex
  exact ⟨f, fd, h1, h2, fn_ok h1 S Wb (fun cdv _ A outer s E G hr hK at_ => hbody f cdv A outer s E G hr hK at_) fun ds q ep _ h => h, h3⟩
theorem fnFE_ok (F : DefE K mg x st ps) (S : FnScope N ps (defScope st)) (Wb : WS)
    (hbody : ∀ (f : Addr) (cdv : Value) (A : Around) (outer : List PySem.Env) (s : Shared) (E : XK) (G : Fx), Room k (A.deeper (envOfC x (defScope st) s.heap.objs.size f cdv)) → G.K = K →
      At (cxOf (L2.CX P w) P w K mg base N x (defScope st) f cdv A outer s G.H0 E) G T → DSF G (cxOf (L2.CX P w) P w K mg base N x (defScope st) f cdv A outer s G.H0 E) (defBody st) Wb) :
    FnFE P w K mg base T (k + 1) x st ps (fun ds q _ => Wb { nx := fun _ => False, rt := q } (startE N.length ds)) := by
  obtain ⟨f, fd, h1, h2, h3⟩ := F.ex
  exact ⟨f, fd, h1, h2, fnf_ok h1 S Wb (fun cdv _ A outer s E G hr hK at_ => hbody f cdv A outer s E G hr hK at_) fun ds q _ h => h, h3⟩
/-- a def that makes lambdas -/
theorem fnT_ok {c Pt : Addr} (F : DefT K mg base T x st ps c Pt) (S : FnScope N ps (defScope st)) (Wb : (Ex → Prop) → WS)
    (hbody : ∀ (f : Addr) (A : Around) (outer : List PySem.Env) (s : Shared) (E : XK) (G : Fx), Room k (A.deeper (envOfC x (defScope st) s.heap.objs.size f (.ref c))) → G.K = K →
      At (cxOf (L2.CX P w) P w K mg base N x (defScope st) f (.ref c) A outer s G.H0 E) G T → DSs G (cxOf (L2.CX P w) P w K mg base N x (defScope st) f (.ref c) A outer s G.H0 E) (defBody st) (Wb G.ep)) :
    FnE P w K mg base T (k + 1) x st ps (fun ds q ep => Wb ep { nx := fun _ => q .non, rt := q } (startE N.length ds)) := by
  obtain ⟨f, fd, h1, h2, h3, h4⟩ := F.ex
  refine ⟨f, fd, h1, h2, fn_ok h1 S Wb (fun cdv hc A outer s E G hr hK at_ => ?_) fun ds q ep _ h => h, h3⟩
  rw [h4] at hc
  subst hc
  exact hbody f A outer s E G hr hK at_
theorem fnHE_ok {n : Nat} (F : DefE K mg x st ps) (S : FnScope N ps (defScope st)) (Wb : Addr → WF → (Ex → Prop) → WS)
    (hbody : ∀ (f : Addr) (cdv : Value) (A : Around) (outer : List PySem.Env) (s : Shared) (E : XK) (G : Fx) (fa : Addr) (wl : WF), Room k (A.deeper (envOfC x (defScope st) s.heap.objs.size f cdv)) → G.K = K →
      At (cxOf (L2.CX P w) P w K mg base N x (defScope st) f cdv A outer s G.H0 E) G T → LamOk P w K mg base G.O0 s G.H0 (frs outer) j fa n wl → DSs G (cxOf (L2.CX P w) P w K mg base N x (defScope st) f cdv A outer s G.H0 E) (defBody st) (Wb fa wl G.ep)) :
    FnHE P w K mg base T (k + 1) j x st ps n (fun wl ds q ep => ∀ fa, Wb fa wl ep { nx := fun _ => q .non, rt := q } (startE N.length (ds ++ [.ref fa]))) := by
  obtain ⟨f, fd, h1, h2, h3⟩ := F.ex
  exact ⟨f, fd, h1, h2, ho_ok h1 S Wb (fun cdv _ A outer s E G fa wl hr hK at_ L => hbody f cdv A outer s E G fa wl hr hK at_ L) (fun fa wl ds q ep _ h => h fa), h3⟩
end

section
variable {G : Fx} {X : Cx} {e : Expr} {es : List Expr} {W We Wa Wb : WE} {WL : WA} {T : WT} {pos p : Pos} {TT : List (Addr × Str)} {k j n : Nat} {x : Str} {st : Stmt} {ps : List Str} {wf : WF}
theorem pass_nox : Passes (L2.CX X.prog X.w) X G.nox.ex := fun pins σ H s e s' I h => by
  obtain ⟨_, _, _, _, _, _, _, _, _, _, _, _, _, _, _, _, z⟩ := h
  exact z.elim
theorem de_callE (hK : X.K = G.K) (hT : G.O0.T = TT) (F : FnE X.prog X.w X.K X.mg X.base TT j x st ps wf) (hr : Room k X.A) (hx : Passes (L2.CX X.prog X.w) X G.ex) (ha : DA G X (e :: es) WL) (hj : j ≤ k) (hn : (e :: es).length = ps.length) (hg : Gl X x)
    (hdb : (x == ("__debug__" : Str)) = false) (he : starEach (e :: es) X.env = (false, eval e X.env) :: starEach es X.env) (hpl : (backTo pos (starEach es X.env)).any (·.1) = false) :
    DE G X (.Call (.Name x p) (e :: es) [] pos) (wCall wf G.ep WL) := by
  subst hT
  obtain ⟨f, fd, h1, h2, h3, h4⟩ := (F.mono hj).ex
  exact de_call hK h3 hr hg h2 h1.kp h4 hx ha hn hdb he hpl
theorem de_callHE {lf : Env → WF} {m n : Nat} {wh : WF → WF} (hK : X.K = G.K) (hT : G.O0.T = TT) (F : FnHE X.prog X.w X.K X.mg X.base TT k (j + 1) x st ps m wh) (hr : Room k X.A) (hx : Passes (L2.CX X.prog X.w) X G.ex) (ha : AL X G j m n (e :: es) WL lf) (hn : n + 1 = ps.length) (hg : Gl X x)
    (hdb : (x == ("__debug__" : Str)) = false) (he : starEach (e :: es) X.env = (false, eval e X.env) :: starEach es X.env) (hpl : (backTo pos (starEach es X.env)).any (·.1) = false) :
    DE G X (.Call (.Name x p) (e :: es) [] pos) (wCallHO wh lf G.ep WL) := by
  subst hT
  obtain ⟨f, fd, h1, h2, h3, h4⟩ := F.ex
  exact de_callHO hK h3 hr hg h2 h1.kp h4 hx ha hn hdb he hpl
theorem de_bowlCallE {k' : Nat} {x' : Str} {st' : Stmt} {ps' : List Str} {wg : WF} {p' pos' : Pos} (hK : X.K = G.K) (hT : G.O0.T = TT) (F : FnFE X.prog X.w X.K X.mg X.base TT k x st ps wf) (F' : FnE X.prog X.w X.K X.mg X.base TT k' x' st' ps' wg) (hr : Room k X.A) (hr' : Room k' X.A) (hx : Passes (L2.CX X.prog X.w) X G.ex) (ha : DA G X (e :: es) WL)
    (hn : (e :: es).length = ps.length) (hn' : ps'.length = 1) (hg : Gl X x) (hg' : Gl X x') (hdb : (x == ("__debug__" : Str)) = false) (he : starEach (e :: es) X.env = (false, eval e X.env) :: starEach es X.env) (hpl : (backTo pos (starEach es X.env)).any (·.1) = false)
    (hdb' : (x' == ("__debug__" : Str)) = false) (he' : starEach [.Call (.Name x p) (e :: es) [] pos] X.env = (false, eval (.Call (.Name x p) (e :: es) [] pos) X.env) :: starEach [] X.env) (hpl' : (backTo pos' (starEach [] X.env)).any (·.1) = false) :
    DE G X (.Call (.Name x' p') [.Call (.Name x p) (e :: es) [] pos] [] pos') (wBowlCall wf wg WL) := by
  subst hT
  obtain ⟨f, fd, h1, h2, h3, h4⟩ := F.ex
  obtain ⟨f', fd', h1', h2', h3', h4'⟩ := F'.ex
  exact de_bowlCall hK h3 h3' hr hr' hg h2 h1.kp h4 hg' h2' h1'.kp h4' hx ha hn hn' hdb he hpl hdb' he' hpl'
/-- by names alone -/
theorem de_callKE {kws : List Keyword} {WK : WA} {ks : List Str} {pm : List Nat} (hK : X.K = G.K) (hT : G.O0.T = TT) (F : FnE X.prog X.w X.K X.mg X.base TT j x st ps wf) (hr : Room k X.A) (hx : Passes (L2.CX X.prog X.w) X G.ex) (ha : DK G X kws WK) (hj : j ≤ k)
    (hb : ∀ (kV doc pm' : Value) (an : Option Addr) (cdv ct : Value) (ws : List Value), ws.length = ks.length → bindArgs (PySem.W.fnOf x x (defArgs st) (defBody st) (defScope st) .none kV doc pm' an cdv ct) ⟨[], ks.zip ws⟩ = pure (ps.zip (pick pm .none ws)))
    (hpm : pm.length = ps.length) (hn : kws.length = ps.length) (hnk : kws.length = ks.length) (hg : Gl X x) (hall : (backToKw pos (keywordEach kws X.env)).all (·.1.isSome) = true) (hks : (backToKw pos (keywordEach kws X.env)).filterMap (·.1) = ks)
    (hdb : (x == ("__debug__" : Str)) = false) (hpl : ((backTo pos (starEach [] X.env)).any (·.1) || (backToKw pos (keywordEach kws X.env)).any (·.1.isNone)) = false) :
    DE G X (.Call (.Name x p) [] kws pos) (wCallK wf G.ep pm waNil WK) := by
  subst hT
  obtain ⟨f, fd, h1, h2, h3, h4⟩ := (F.mono hj).ex
  obtain ⟨oc, od, kV, doc, pm', an, cdv, ct, osl, e1, lk, hcd⟩ := id h1.ex
  exact de_callK0 hK h3 hr hg h2 h1.kp ⟨fun us ws h h' => by
    have e0 : us = [] := List.length_eq_zero_iff.mp (by omega)
    subst e0
    rw [e1]
    exact hb kV doc pm' an cdv ct ws h', hpm⟩ hx ha hn hnk hall hks hdb hpl
/-- a module's number -/
theorem de_gint {i : Int} (hg : Gl X x) (h : ∃ t, X.mg x = some (.int i t)) (hd : (x == ("__debug__" : Str)) = false := by decide) : DE G X (.Name x pos) (wC (.int i)) := by
  obtain ⟨t, h⟩ := h
  exact de_glob (v := .int i) hg h ⟨t, rfl⟩ (fun _ _ => .int i) hd
/-- -e -/
def wNeg (W : WE) : WE := fun ρ q => W ρ fun d => match d with
  | .int i => q (.int (-i))
  | _ => False
theorem de_neg (h : DE G X e W) : DE G X (.UnaryOp .USub e pos) (wNeg W) := PE_mono (pe_un un_neg h) fun σ H Q ⟨O, ρ, q, R, w, k⟩ => tD1 R w fun O1 H1 v d R1 x1 r1 w1 => by
  cases d with
  | int i => cases r1; exact ⟨i, rfl, k O1 H1 _ _ x1 (.int _) w1⟩
  | _ => exact w1.elim
/-- name = [..], the name a local, on one line -/
theorem ds_setLc {tg iter elt : Expr} {ifs : List Expr} {scope : Scope} {own : List (Str × Nat)} {i : Nat} {y : Str} {py spos : Pos} {Wi : WI} {g : WG} (hc : X.calm = true) (hN : X.N.Nodup) (hy : X.N[i]? = some y) (hyl : X.env.scope.names.lookup y = some .local)
    (hsw : swapsWith (.ListComp elt [⟨tg, iter, ifs, 0⟩] scope pos) (some (.Name y py)) spos.line X.env = pure true) (ok : BlkOk X.N X.env.scope scope own)
    (hi : DIB G X tg iter Wi) (hg : ∀ (s : Shared) (H : Hp) (C : Addr) (cl : List (Str × Addr)) (fp : List Addr), DG G.nox (X.blk s H scope (compEnvC scope cl C X.env) fp) (own.map (·.2)) tg g)
    (ht : ∀ (s : Shared) (H : Hp) (C : Addr) (cl : List (Str × Addr)) (fp : List Addr), DTs G.nox (X.blk s H scope (compEnvC scope cl C X.env) fp) ifs T)
    (he : ∀ (s : Shared) (H : Hp) (C : Addr) (cl : List (Str × Addr)) (fp : List Addr), DE G.nox (X.blk s H scope (compEnvC scope cl C X.env) fp) elt We) (hs : ∀ x, foldedSetIterable iter X.env x = pure x := by intro _; rfl) :
    DS G X (.Assign [.Name y py] (.ListComp elt [⟨tg, iter, ifs, 0⟩] scope pos) spos) (wAsg (wLc Wi g T We (own.map (·.2))) (wgOwn i)) :=
  df_set (vs := []) (ps_setLc hc hN hy hyl hsw hi ok hg ht he hs) tLc_of

theorem de_opK {op : Operator} {r : PySem.W.Frag → R2} {f : F2} {a b : Expr} (hK : X.K = G.K) (ho : OpR X (binaryOp op) (r X.K)) (hf : OpD G (r G.K) f) (ha : DB G X a Wa) (hb : DB G X b Wb) : DE G X (.BinOp a op b pos) (wOp f Wa Wb) := de_op ho (by rw [hK]; exact hf) ha hb
theorem de_cmpK {op : CmpOp} {r : PySem.W.Frag → R2} {f : F2} {a b : Expr} (hK : X.K = G.K) (ho : OpR X (compareOp op) (r X.K)) (hf : OpD G (r G.K) f) (ha : DB G X a Wa) (hb : DB G X b Wb) (hm : behindInMarks op b = false) : DE G X (.Compare a [op] [b] pos) (wOp f Wa Wb) := de_cmp ho (by rw [hK]; exact hf) ha hb hm
theorem dt_cmpK {op : CmpOp} {r : PySem.W.Frag → R2} {f : F2} {a b : Expr} (hK : X.K = G.K) (ho : OpR X (compareOp op) (r X.K)) (hf : OpD G (r G.K) f) (ha : DB G X a Wa) (hb : DB G X b Wb) (hm : behindInMarks op b = false) : DT G X (.Compare a [op] [b] pos) (wTest (wOp f Wa Wb)) := dt_cmp ho (by rw [hK]; exact hf) ha hb hm
theorem freeB_ok {sc scope : Scope} (h : (scope.names.all fun y => !decide (y.2 = .free) || (decide (sc.names.lookup y.1 = some .cell) || decide (sc.names.lookup y.1 = some .free))) = true) : ∀ y ∈ scope.names, y.2 = .free → sc.names.lookup y.1 = some .cell ∨ sc.names.lookup y.1 = some .free := fun y hy e => by
  have h1 := List.all_eq_true.mp h y hy
  rw [Bool.or_eq_true, Bool.or_eq_true, decide_eq_true_eq, decide_eq_true_eq] at h1
  rcases h1 with z | z
  · rw [decide_eq_true e] at z
    cases z
  · exact z
theorem len_nil : ∀ (ds : List D) (ρ : Env) (q : Env → Prop), wgsNil ds ρ q → ds.length = 0 := fun ds ρ q h => by
  cases ds with
  | nil => rfl
  | cons _ _ => exact h.elim
theorem len_name {i n : Nat} {gs : WGs} (h : ∀ (ds : List D) (ρ : Env) (q : Env → Prop), gs ds ρ q → ds.length = n) : ∀ (ds : List D) (ρ : Env) (q : Env → Prop), wgsCons (wgName i) gs ds ρ q → ds.length = n + 1 := fun ds ρ q w => by
  cases ds with
  | nil => exact w.elim
  | cons d ds => rw [List.length_cons, h ds _ q w]
theorem len_bowl {i n : Nat} {c : Int} {gs : WGs} (h : ∀ (ds : List D) (ρ : Env) (q : Env → Prop), gs ds ρ q → ds.length = n) : ∀ (ds : List D) (ρ : Env) (q : Env → Prop), wgsCons (wgBowl i c) gs ds ρ q → ds.length = n + 1 := fun ds ρ q w => by
  cases ds with
  | nil => exact w.elim
  | cons d ds => rw [List.length_cons, h ds _ q w.2.2.2.2]
end
end DL
set_option Elab.async false
set_option linter.all false
set_option maxRecDepth 100000
set_option maxHeartbeats 4000000
/-! DL12: new lists by + and *, to be kept as the def's own. -/
namespace DL
open PySem PySem.Spec PyProof.Rows L2
section
variable {G : Fx} {X : Cx} {a b : Expr} {Wa Wb : WE} {pos : Pos}
def fCatL : F2 := fun x y q => match x, y with
  | .lst a, .lst b => a.length + b.length ≤ sizeLine ∧ q (.lst (a ++ b))
  | _, _ => False
theorem df_catL (ha : DB G X a Wa) (hb : DB G X b Wb) : DF G X (.BinOp a .Add b pos) (wOp fCatL Wa Wb) := PE_mono (pe_op op_cat ha hb) fun σ H Q ⟨O, ρ, q, R, w, k⟩ => by
  refine tDB2 R w fun O' H' v u d e R' x rv ru w' => ?_
  unfold fCatL at w'
  split at w'
  · obtain ⟨p, vs, e1, h1, a1⟩ := rv.list
    obtain ⟨p2, us, e2, h2, a2⟩ := ru.list
    refine ⟨p, p2, vs, us, e1, e2, h1, h2, by rw [a1.length, a2.length]; exact w'.1, fun l hl => ?_⟩
    have y : Ext O' O' H' (upd H' l (.lst (vs ++ us))) := R'.lay hl
    exact k _ _ l _ _ (x.trans R.ok y) upd_same ((y.keep R'.ok).repA _ _ (a1.append a2)) (R'.newF hl) (R'.newB hl) (x.nt R.ok (.inl hl)) w'.2
  · exact w'.elim
def fRepL : F2 := fun x y q => match x, y with
  | .lst a, .int k => (-(2 ^ 63) ≤ k ∧ k < 2 ^ 63 ∧ a.length * k.toNat ≤ sizeLine) ∧ q (.lst (List.replicate k.toNat a).flatten)
  | _, _ => False
theorem df_repL (ha : DB G X a Wa) (hb : DB G X b Wb) : DF G X (.BinOp a .Mult b pos) (wOp fRepL Wa Wb) := PE_mono (pe_op op_rep ha hb) fun σ H Q ⟨O, ρ, q, R, w, k⟩ => by
  refine tDB2 R w fun O' H' v u d e R' x rv ru w' => ?_
  unfold fRepL at w'
  split at w'
  · rename_i _ j
    obtain ⟨p, vs, e1, h1, a1⟩ := rv.list
    refine ⟨p, j, vs, e1, ru.int, h1, w'.1.1, w'.1.2.1, by rw [a1.length]; exact w'.1.2.2, fun l hl => ?_⟩
    have y : Ext O' O' H' (upd H' l (.lst (List.replicate j.toNat vs).flatten)) := R'.lay hl
    exact k _ _ l _ _ (x.trans R.ok y) upd_same ((y.keep R'.ok).repA _ _ (a1.rep _)) (R'.newF hl) (R'.newB hl) (x.nt R.ok (.inl hl)) w'.2
  · exact w'.elim
/-! a tuple target within a tuple target -/
def Hits (g : WG) : Prop := ∀ (d : D) (ρ : Env) (q : Env → Prop), g d ρ q → ∃ ρ', q ρ'
def HitsS (gs : WGs) : Prop := ∀ (ds : List D) (ρ : Env) (q : Env → Prop), gs ds ρ q → ∃ ρ', q ρ'
theorem hits_name {i : Nat} : Hits (wgName i) := fun _ _ _ h => ⟨_, h⟩
theorem hitss_nil : HitsS wgsNil := fun ds ρ q h => by
  cases ds with
  | nil => exact ⟨ρ, h⟩
  | cons _ _ => exact h.elim
theorem hitss_cons {g : WG} {gs : WGs} (h : Hits g) (hs : HitsS gs) : HitsS (wgsCons g gs) := fun ds ρ q w => by
  cases ds with
  | nil => exact w.elim
  | cons d ds =>
    obtain ⟨ρ', h'⟩ := h d ρ _ w
    exact hs ds ρ' q h'
theorem hits_tup {gs : WGs} (h : HitsS gs) : Hits (wgTup gs) := fun d ρ q w => by
  cases d with
  | tup ds => exact h ds ρ q w
  | _ => exact w.elim
theorem len_hit {n : Nat} {g : WG} {gs : WGs} (hg : Hits g) (h : ∀ (ds : List D) (ρ : Env) (q : Env → Prop), gs ds ρ q → ds.length = n) : ∀ (ds : List D) (ρ : Env) (q : Env → Prop), wgsCons g gs ds ρ q → ds.length = n + 1 := fun ds ρ q w => by
  cases ds with
  | nil => exact w.elim
  | cons d ds =>
    obtain ⟨ρ', h'⟩ := hg d ρ _ w
    rw [List.length_cons, h ds ρ' q h']
end
end DL
set_option Elab.async false
set_option linter.all false
set_option maxRecDepth 100000
set_option maxHeartbeats 4000000
/-! DL13: comprehensions with two fors; sorted of pairs of ints, of ints. -/
namespace DL
open PySem PySem.Spec PyProof.Rows L2
section
variable {G : Fx} {X : Cx} {O O1 O2 O' : Om} {H H1 H2 H' : Hp} {σ σ' : L2.St} {ρ ρ' : Env} {tg tg1 e : Expr} {W We : WE} {T T1 : WT} {g g1 : WG} {pos : Pos}
/-- the lists of the def's own are left out -/
def deown : Env → Env
  | [] => []
  | some (.val d) :: ρ => some (.val d) :: deown ρ
  | _ :: ρ => none :: deown ρ
theorem deown_len : ∀ ρ : Env, (deown ρ).length = ρ.length
  | [] => rfl
  | some (.val d) :: ρ => congrArg (· + 1) (deown_len ρ)
  | some (.own ds) :: ρ => congrArg (· + 1) (deown_len ρ)
  | some (.own2 ds) :: ρ => congrArg (· + 1) (deown_len ρ)
  | none :: ρ => congrArg (· + 1) (deown_len ρ)
theorem deown_get : ∀ {ρ : Env} {i : Nat} {s : Slot}, (deown ρ)[i]? = some (some s) → ∃ d, s = .val d ∧ ρ[i]? = some (some (.val d))
  | [], i, s, h => by simp [deown] at h
  | some (.val d) :: ρ, 0, s, h => by
    simp [deown] at h
    exact ⟨d, h.symm, rfl⟩
  | some (.own ds) :: ρ, 0, s, h => by simp [deown] at h
  | some (.own2 ds) :: ρ, 0, s, h => by simp [deown] at h
  | none :: ρ, 0, s, h => by simp [deown] at h
  | some (.val d) :: ρ, i + 1, s, h => by
    obtain ⟨d', h1, h2⟩ := deown_get (ρ := ρ) (i := i) (by simpa [deown] using h)
    exact ⟨d', h1, by simpa using h2⟩
  | some (.own ds) :: ρ, i + 1, s, h => by
    obtain ⟨d', h1, h2⟩ := deown_get (ρ := ρ) (i := i) (by simpa [deown] using h)
    exact ⟨d', h1, by simpa using h2⟩
  | some (.own2 ds) :: ρ, i + 1, s, h => by
    obtain ⟨d', h1, h2⟩ := deown_get (ρ := ρ) (i := i) (by simpa [deown] using h)
    exact ⟨d', h1, by simpa using h2⟩
  | none :: ρ, i + 1, s, h => by
    obtain ⟨d', h1, h2⟩ := deown_get (ρ := ρ) (i := i) (by simpa [deown] using h)
    exact ⟨d', h1, by simpa using h2⟩
theorem EnvR.deown (R : EnvR G O H σ ρ) (kp : Keep O O' H H') (x : Ext G.O0 O' G.H0 H') : EnvR G O' H' σ (DL.deown ρ) where
  ok0 := R.ok0
  ext := x
  len := by rw [deown_len]; exact R.len
  val := fun i d e => by
    obtain ⟨d', h1, h2⟩ := deown_get e
    cases h1
    obtain ⟨v, h3, h4⟩ := R.val i _ h2
    exact ⟨v, h3, kp.rep _ _ h4⟩
  own := fun i ds e => by
    obtain ⟨d', h1, _⟩ := deown_get e
    cases h1
  apart := fun i j di dj a e => by
    obtain ⟨d', h1, _⟩ := deown_get e
    cases h1
  own2 := fun i dss e => by
    obtain ⟨d', h1, _⟩ := deown_get e
    cases h1
  apart2 := fun i j dss dj a b as e => by
    obtain ⟨d', h1, _⟩ := deown_get e
    cases h1
  uniq2 := fun i j di dj e => by
    obtain ⟨d', h1, _⟩ := deown_get e
    cases h1
def wLc2L (g : WG) (T : WT) (Wi1 : WI) (g1 : WG) (T1 : WT) (We : WE) (vs1 : List Nat) (ρw : Env) : List D → List D → (List D → Prop) → Prop
  | [], acc, q => q acc
  | d :: ds, acc, q => g d ρw fun ρ2 => T ρ2 fun b => if b = true then Wi1 ρ2 fun es => wLcL g1 T1 We (wipeE (deown ρ2) vs1) es acc fun acc' => wLc2L g T Wi1 g1 T1 We vs1 ρw ds acc' q else wLc2L g T Wi1 g1 T1 We vs1 ρw ds acc q
def wLc2 (Wi : WI) (g : WG) (T : WT) (Wi1 : WI) (g1 : WG) (T1 : WT) (We : WE) (vs vs1 : List Nat) : WE := fun ρ q => Wi ρ fun ds => wLc2L g T Wi1 g1 T1 We vs1 (wipeE ρ vs) ds [] fun acc => q (.lst acc)
theorem tLc2_of {Wi Wi1 : WI} {vs vs1 : List Nat} : ∀ σ H Q, tDF G (wLc2 Wi g T Wi1 g1 T1 We vs vs1) σ H Q → tLc2 (tDIB G Wi) (tDG G.nox vs g) (tDT G.nox T) (tDI G.nox Wi1) (tDG G.nox vs1 g1) (tDT G.nox T1) (tD G.nox We) vs vs1 σ H Q := fun σ H Q ⟨O, ρ, q, R, w, k⟩ => by
    refine ⟨O, ρ, _, R, w, fun O1 H1 J ds x1 wd w1 Dd hD => ?_⟩
    have R1 := R.step x1
    have nD : NT (H Dd) := x1.nt R.ok (.inl hD)
    have xl : Ext O1 O1 H1 (upd H1 Dd (.lst [])) := R1.lay hD
    refine ⟨fun i m Hi => m = ds.length - i ∧ i ≤ ds.length ∧ ∃ O2 acc vacc, Ext O1 O2 H1 Hi ∧ Hi Dd = some (.lst vacc) ∧ RepA G.K O2 Hi vacc acc ∧ ¬ O2.F Dd ∧ ¬ O2.Bo Dd ∧ wLc2L g T Wi1 g1 T1 We vs1 (wipeE ρ vs) (ds.drop i) acc fun acc => q (.lst acc),
      ⟨ds.length, by simp, Nat.zero_le _, O1, [], [], xl, upd_same, .nil, R1.newF hD, R1.newB hD, w1⟩, ?_⟩
    rintro i m Hi ⟨rfl, hi, O2, acc, vacc, x2, eD, ra, nf, nb, w2⟩
    by_cases hlt : i < ds.length
    · have hd : ds[i]? = some ds[i] := List.getElem?_eq_getElem hlt
      rw [List.drop_eq_getElem_cons hlt] at w2
      refine .inr ⟨wd.go O2 Hi i _ x2 hd, fun Hn => ∃ O2 acc vacc, Ext O1 O2 H1 Hn ∧ Hn Dd = some (.lst vacc) ∧ RepA G.K O2 Hn vacc acc ∧ ¬ O2.F Dd ∧ ¬ O2.Bo Dd ∧ wLc2L g T Wi1 g1 T1 We vs1 (wipeE ρ vs) (ds.drop (i + 1)) acc fun acc => q (.lst acc),
        fun Hn hn => ⟨ds.length - (i + 1), by omega, rfl, hlt, hn⟩, fun x H3 y => ?_⟩
      have notl : ∀ {us : List V} (ps : Array Value), HO.lst us ≠ .tbl ps := fun ps z => by cases z
      have stay : ∀ {O O' : Om} {H H' : Hp} {us : List V}, Ext O O' H H' → H Dd = some (.lst us) → ¬ O.F Dd → ¬ O.Bo Dd → H' Dd = some (.lst us) ∧ ¬ O'.F Dd ∧ ¬ O'.Bo Dd := fun {O O' H H' us} x e nf nb =>
        ⟨x.same Dd _ nb notl e, fun f => by
          rcases x.new Dd f with z | z
          · exact nf z
          · rw [e] at z; exact nt_not notl z, by rw [x.bo]; exact nb⟩
      obtain ⟨O3, x3, r3⟩ := wd.yld O2 Hi i _ x H3 x2 hd y
      have x13 := x2.trans R1.ok x3
      have R3 := R1.step x13
      obtain ⟨eD3, nf3, nb3⟩ := stay x3 eD nf nb
      have ra3 := (x3.keep x2.ok).repA _ _ ra
      refine ⟨O3, wipeE ρ vs, _, _, (R3.wipe vs).nox, r3, w2, fun σ4 ρ4 R4 e4 w4 => ⟨e4.trans (wipe_twice σ vs), ?_⟩⟩
      refine ⟨O3, ρ4, _, R4, w4, fun O5 H5 b x5 w5 => ?_⟩
      have x15 := x13.trans R1.ok x5
      obtain ⟨eD5, nf5, nb5⟩ := stay x5 eD3 nf3 nb3
      have ra5 := (x5.keep R4.ok).repA _ _ ra3
      cases b with
      | false =>
        rw [if_neg Bool.false_ne_true] at w5
        refine L2.iteF ?_
        exact ⟨O5, acc, vacc, x15, eD5, ra5, nf5, nb5, w5⟩
      | true =>
        rw [if_pos rfl] at w5
        refine L2.iteT ?_
        have R5 := R4.step x5
        refine ⟨O5, ρ4, _, R5, w5, fun O6 H6 J1 es x6 wd1 w6 => ?_⟩
        have x16 := x15.trans R1.ok x6
        have R6 := R5.step x6
        obtain ⟨eD6, nf6, nb6⟩ := stay x6 eD5 nf5 nb5
        have ra6 := (x6.keep R5.ok).repA _ _ ra5
        refine ⟨fun j k Hj => k = es.length - j ∧ j ≤ es.length ∧ ∃ O7 acc vacc, Ext O1 O7 H1 Hj ∧ Keep O6 O7 H6 Hj ∧ Hj Dd = some (.lst vacc) ∧ RepA G.K O7 Hj vacc acc ∧ ¬ O7.F Dd ∧ ¬ O7.Bo Dd ∧ wLcL g1 T1 We (wipeE (DL.deown ρ4) vs1) (es.drop j) acc fun acc' => wLc2L g T Wi1 g1 T1 We vs1 (wipeE ρ vs) (ds.drop (i + 1)) acc' fun acc => q (.lst acc),
          ⟨es.length, by simp, Nat.zero_le _, O6, acc, vacc, x16, Keep.refl, eD6, ra6, nf6, nb6, w6⟩, ?_⟩
        rintro j k Hj ⟨rfl, hj, O7, acc7, vacc7, x17, x7, eD7, ra7, nf7, nb7, w7⟩
        have s7 : SKeep O6 H6 O7 Hj := ⟨x17.ok, x7⟩
        by_cases hjl : j < es.length
        · have he : es[j]? = some es[j] := List.getElem?_eq_getElem hjl
          rw [List.drop_eq_getElem_cons hjl] at w7
          refine .inr ⟨wd1.go O7 Hj j _ s7 he, fun Hn => ∃ O7 acc vacc, Ext O1 O7 H1 Hn ∧ Keep O6 O7 H6 Hn ∧ Hn Dd = some (.lst vacc) ∧ RepA G.K O7 Hn vacc acc ∧ ¬ O7.F Dd ∧ ¬ O7.Bo Dd ∧ wLcL g1 T1 We (wipeE (DL.deown ρ4) vs1) (es.drop (j + 1)) acc fun acc' => wLc2L g T Wi1 g1 T1 We vs1 (wipeE ρ vs) (ds.drop (i + 1)) acc' fun acc => q (.lst acc),
            fun Hn hn => ⟨es.length - (j + 1), by omega, rfl, hjl, hn⟩, fun x H8 y => ?_⟩
          obtain ⟨O8, x8, r8⟩ := wd1.yld O7 Hj j _ x H8 s7 he y
          have x18 := x17.trans R1.ok x8
          have k68 := x7.trans (x8.keep x17.ok)
          have R8 : EnvR G.nox O8 H8 σ4 (DL.deown ρ4) := R6.deown k68 (R1.ext.trans R1.ok0 x18)
          obtain ⟨eD8, nf8, nb8⟩ := stay x8 eD7 nf7 nb7
          have ra8 := (x8.keep x17.ok).repA _ _ ra7
          refine ⟨O8, wipeE (DL.deown ρ4) vs1, _, _, R8.wipe vs1, r8, w7, fun σ9 ρ9 R9 e9 w9 => ⟨e9.trans (wipe_twice σ4 vs1), ?_⟩⟩
          refine ⟨O8, ρ9, _, R9, w9, fun Oa Ha b xa wa => ?_⟩
          have x1a := x18.trans R1.ok xa
          have k6a := k68.trans (xa.keep x18.ok)
          obtain ⟨eDa, nfa, nba⟩ := stay xa eD8 nf8 nb8
          have raa := (xa.keep R9.ok).repA _ _ ra8
          cases b with
          | true =>
            rw [if_pos rfl] at wa
            refine L2.iteT ?_
            refine ⟨Oa, ρ9, _, R9.step xa, wa, fun Ob Hb yv yd xb rb ⟨hl, wb⟩ => ?_⟩
            have x1b := x1a.trans R1.ok xb
            have k6b := k6a.trans (xb.keep x1a.ok)
            obtain ⟨eDb, nfb, nbb⟩ := stay xb eDa nfa nba
            have rab := (xb.keep x1a.ok).repA _ _ raa
            have hpt := put_ok (us := vacc7 ++ [yv]) x1b.ok eDb nfb nbb
            refine ⟨vacc7, eDb, by rw [rab.length]; exact hl, Ob, acc7 ++ [yd], vacc7 ++ [yv], x1b.put (.inl hD) eDb nfb nbb, k6b.trans hpt.2, upd_same, hpt.2.repA _ _ (rab.append (.cons rb .nil)), nfb, nbb, wb⟩
          | false =>
            rw [if_neg Bool.false_ne_true] at wa
            refine L2.iteF ?_
            exact ⟨Oa, acc7, vacc7, x1a, k6a, eDa, raa, nfa, nba, wa⟩
        · have ej : j = es.length := by omega
          subst ej
          rw [List.drop_length] at w7
          exact .inl ⟨wd1.stop O7 Hj s7, O7, acc7, vacc7, x17, eD7, ra7, nf7, nb7, w7⟩
    · have ei : i = ds.length := by omega
      subst ei
      rw [List.drop_length] at w2
      exact .inl ⟨wd.stop O2 Hi x2, k O2 Hi Dd vacc acc (x1.trans R.ok x2) eD ra nf nb nD w2⟩
theorem df_lc2 {elt iter iter1 : Expr} {ifs ifs1 : List Expr} {scope : Scope} {own : List (Str × Nat)} {vs1 : List Nat} {Wi Wi1 : WI} (hc : X.calm = true) (hN : X.N.Nodup) (ok : BlkOk X.N X.env.scope scope own) (hv : ∀ i ∈ vs1, i ∈ own.map (·.2))
    (hi : DIB G X tg iter Wi) (hg : ∀ (s : Shared) (H : Hp) (C : Addr) (cl : List (Str × Addr)) (fp : List Addr), DG G.nox (X.blk s H scope (compEnvC scope cl C X.env) fp) (own.map (·.2)) tg g)
    (ht : ∀ (s : Shared) (H : Hp) (C : Addr) (cl : List (Str × Addr)) (fp : List Addr), DTs G.nox (X.blk s H scope (compEnvC scope cl C X.env) fp) ifs T)
    (hi1 : ∀ (s : Shared) (H : Hp) (C : Addr) (cl : List (Str × Addr)) (fp : List Addr), DI G.nox (X.blk s H scope (compEnvC scope cl C X.env) fp) tg1 iter1 Wi1)
    (hg1 : ∀ (s : Shared) (H : Hp) (C : Addr) (cl : List (Str × Addr)) (fp : List Addr), DG G.nox (X.blk s H scope (compEnvC scope cl C X.env) fp) vs1 tg1 g1)
    (ht1 : ∀ (s : Shared) (H : Hp) (C : Addr) (cl : List (Str × Addr)) (fp : List Addr), DTs G.nox (X.blk s H scope (compEnvC scope cl C X.env) fp) ifs1 T1)
    (he : ∀ (s : Shared) (H : Hp) (C : Addr) (cl : List (Str × Addr)) (fp : List Addr), DE G.nox (X.blk s H scope (compEnvC scope cl C X.env) fp) elt We) (hs : ∀ x, foldedSetIterable iter X.env x = pure x := by intro _; rfl) (hs1 : ∀ env x, foldedSetIterable iter1 env x = pure x := by intro _ _; rfl) :
    DF G X (.ListComp elt [⟨tg, iter, ifs, 0⟩, ⟨tg1, iter1, ifs1, 0⟩] scope pos) (wLc2 Wi g T Wi1 g1 T1 We (own.map (·.2)) vs1) :=
  PE_mono (pe_lc2 hc hN hi ok hv hg ht hi1 hg1 ht1 he hs hs1) tLc2_of

/-! ### sorted -/
abbrev pairD (p : Int × Int) : D := .tup [.int p.1, .int p.2]
def pairLe (p q : Int × Int) : Prop := p.1 < q.1 ∨ (p.1 = q.1 ∧ p.2 ≤ q.2)
inductive PairAll (K : PySem.W.Frag) (H : Hp) : List V → List (Int × Int) → Prop
  | nil : PairAll K H [] []
  | cons {t : Addr} {p : Int × Int} {vs : List V} {ps : List (Int × Int)} : SqT K H t [.int p.1, .int p.2] → PairAll K H vs ps → PairAll K H (V.ref t :: vs) (p :: ps)
def rSortedQ (K : PySem.W.Frag) : List V → Hp → VK → Prop := fun vs H Q => ∃ (a : Addr) (xs : List V) (ps : List (Int × Int)), vs = [V.ref a] ∧ SqL K H a xs ∧ PairAll K H xs ps ∧
  ∀ ys qs p, PairAll K H ys qs → qs.Perm ps → qs.Pairwise pairLe → H p = none → Q (.ref p) (upd H p (.lst ys))
theorem PairAll.mem {K : PySem.W.Frag} : ∀ {xs : List V} {ps : List (Int × Int)}, PairAll K H xs ps → ∀ x ∈ xs, ∃ (t : Addr) (p : Int × Int), x = V.ref t ∧ SqT K H t [.int p.1, .int p.2]
  | _, _, .nil, x, h => nomatch h
  | _, _, .cons h1 h2, x, h => by
    rcases List.mem_cons.mp h with rfl | h
    · exact ⟨_, _, rfl, h1⟩
    · exact h2.mem x h
open Classical in
noncomputable def pairOf (K : PySem.W.Frag) (H : Hp) (x : V) : Int × Int := if h : ∃ (p : Int × Int) (t : Addr), x = V.ref t ∧ SqT K H t [.int p.1, .int p.2] then h.choose else (0, 0)
theorem pairOf_spec {K : PySem.W.Frag} {x : V} (h : ∃ (p : Int × Int) (t : Addr), x = V.ref t ∧ SqT K H t [.int p.1, .int p.2]) : ∃ t, x = V.ref t ∧ SqT K H t [.int (pairOf K H x).1, .int (pairOf K H x).2] := by
  unfold pairOf
  rw [dif_pos h]
  exact h.choose_spec
theorem pairAll_of {K : PySem.W.Frag} : ∀ {ys : List V}, (∀ x ∈ ys, ∃ (p : Int × Int) (t : Addr), x = V.ref t ∧ SqT K H t [.int p.1, .int p.2]) → PairAll K H ys (ys.map (pairOf K H))
  | [], _ => .nil
  | y :: ys, h => by
    obtain ⟨t, e, hs⟩ := pairOf_spec (h y List.mem_cons_self)
    rw [List.map_cons]
    have := pairAll_of (ys := ys) fun x hx => h x (List.mem_cons_of_mem _ hx)
    generalize pairOf K H y = p at hs ⊢
    subst e
    exact .cons hs this
theorem cr_sortedQ : CallR X (.builtin "sorted") (rSortedQ X.K) := by
  intro pins s σ H vs us Q I r h
  obtain ⟨a, xs, ps, rfl, hs, hx, q⟩ := h
  obtain ⟨its, rv, hl, hz⟩ := I.list hs
  obtain ⟨u, rfl, ru⟩ := vals1 r
  obtain rfl : u = Value.ref a := ru
  have hmem : ∀ x ∈ xs, ∃ (p : Int × Int) (t : Addr), x = V.ref t ∧ SqT X.K H t [.int p.1, .int p.2] := fun x m => by
    obtain ⟨t, p, h1, h2⟩ := hx.mem x m
    exact ⟨p, t, h1, h2⟩
  have hps : ps = xs.map (pairOf X.K H) := by
    clear q hs hl hz rv
    induction hx with
    | nil => rfl
    | cons h1 h2 ih =>
      rw [List.map_cons, ← ih fun x m => hmem x (List.mem_cons_of_mem _ m)]
      obtain ⟨t, e, h3⟩ := pairOf_spec (hmem _ List.mem_cons_self)
      cases e
      have e2 := I.tuple_inj h1 h3
      injection e2 with e3 e4
      injection e3 with e3
      injection e4 with e4 _
      injection e4 with e4
      congr 1
      exact Prod.ext e3 e4
  obtain ⟨e1, e2⟩ := refs_back rv fun x m => by
    obtain ⟨p, t, e, _⟩ := hmem x m
    exact ⟨t, e⟩
  refine SrtO.sorted_pairsO (k := fun u => pairOf X.K H (backV u)) hl.isList (by rw [← rv.length]; exact hz) (fun v hv => ?_) fun h' d out h1 h2 kp hd hn => ?_
  · obtain ⟨t, rfl⟩ := e2 v hv
    have hm : V.ref t ∈ xs := by rw [e1]; exact List.mem_map.mpr ⟨_, hv, rfl⟩
    obtain ⟨t', e, ht⟩ := pairOf_spec (hmem _ hm)
    cases e
    obtain ⟨its2, r2, ⟨o, ho, hc, n, hd⟩, _⟩ := I.tuple ht
    obtain ⟨u1, u2, rfl, ri, rj⟩ := vals2 r2
    obtain ⟨t1, rfl⟩ := ri
    obtain ⟨t2, rfl⟩ := rj
    exact ⟨t, o, t1, t2, n, rfl, ho, hc, hd⟩
  · have h3 : ∀ u ∈ out, ∃ a, u = Value.ref a := fun u hu => e2 u (h2.perm.mem_iff.mp hu)
    obtain ⟨n, hn⟩ := hn
    have hb : SrtO.Stb (ltP (pairOf X.K H)) (out.map backV) xs := by
      rw [e1]
      exact SrtO.Stb.map (ltP_swo _) backV h2
    have hso : SrtO.Srtd (ltP (pairOf X.K H)) (out.map backV) := SrtO.srtd_map h1
    refine ⟨.ref d, upd H d (.lst (out.map backV)), I.laid (t' := s.toks) kp hd ⟨?_, out, n, vals_back h3, hn⟩, rfl, q _ ((out.map backV).map (pairOf X.K H)) d (pairAll_of fun x hx => hmem x (hb.perm.mem_iff.mp hx)) (by rw [hps]; exact hb.perm.map _) ?_ (I.hok.fresh hd)⟩
    · rw [hb.len]
      exact hz
    · rw [List.pairwise_map]
      refine List.Pairwise.imp (fun {x y} hxy => ?_) hso
      have := SrtO.lexB_no.mp hxy
      unfold pairLe
      omega
theorem repA_pairs {K : PySem.W.Frag} : ∀ {ps : List (Int × Int)} {vs : List V}, RepA K O H vs (ps.map pairD) → PairAll K H vs ps
  | [], _, h => by cases h; exact .nil
  | p :: ps, _, h => by
    cases h with
    | cons h1 h2 =>
      cases h1 with
      | tup hs ha =>
        have e := RepA.ints (ns := [p.1, p.2]) ha
        subst e
        exact .cons hs (repA_pairs h2)
theorem pairs_repA {K : PySem.W.Frag} : ∀ {ps : List (Int × Int)} {vs : List V}, PairAll K H vs ps → RepA K O H vs (ps.map pairD)
  | _, _, .nil => .nil
  | _, _, .cons h1 h2 => .cons (.tup h1 (.cons (.int _) (.cons (.int _) .nil))) (pairs_repA h2)
/-- sorted(xs), xs a list of ints, or of pairs of ints -/
def fSorted : FL := fun ds q => match ds with
  | [.lst a] => (∃ ns : List Int, a = ns.map .int ∧ ∀ ms : List Int, ms.Perm ns → ms.Pairwise (· ≤ ·) → q (.lst (ms.map .int))) ∨ ∃ ps : List (Int × Int), a = ps.map pairD ∧ ∀ qs : List (Int × Int), qs.Perm ps → qs.Pairwise pairLe → q (.lst (qs.map pairD))
  | _ => False
theorem cr_Sorted : CallR X (.builtin "sorted") (fun vs H Q => rSortedI X.K vs H Q ∨ rSortedQ X.K vs H Q) := cr_or2 cr_sortedI cr_sortedQ
theorem cd_sorted (hK : X.K = G.K) : CallD G (fun vs H Q => rSortedI X.K vs H Q ∨ rSortedQ X.K vs H Q) fSorted := fun O H σ ρ vs ds q Q R ra w k => by
  rw [hK]
  unfold fSorted at w
  split at w
  · obtain ⟨v, rfl, r⟩ := rep1A_1 ra
    obtain ⟨p, us, e1, h1, a1⟩ := r.list
    subst e1
    rcases w with ⟨ns, e, w⟩ | ⟨ps, e, w⟩
    · subst e
      rw [a1.ints] at h1
      refine .inl ⟨p, ns, rfl, SqL.of h1, fun ms l hp hs hl => ?_⟩
      obtain ⟨x, r'⟩ := lay_lst R (repA_ints ms) hl
      exact k _ _ _ _ x r' (w ms hp hs)
    · subst e
      refine .inr ⟨p, us, ps, rfl, SqL.of h1, repA_pairs a1, fun ys qs l hy hp hs hl => ?_⟩
      obtain ⟨x, r'⟩ := lay_lst R (pairs_repA (O := O) hy) hl
      exact k _ _ _ _ x r' (w qs hp hs)
  · exact w.elim
end
end DL
set_option Elab.async false
set_option linter.all false
set_option maxRecDepth 100000
set_option maxHeartbeats 4000000
/-! DL14: lists of lists of the def's own. -/
namespace DL
open PySem PySem.Spec PyProof.Rows L2
section
variable {G : Fx} {X : Cx} {O O1 O2 O' : Om} {H H1 H2 H' : Hp} {σ σ' : L2.St} {ρ ρ' : Env} {tg e : Expr} {W We : WE} {T : WT} {g : WG} {pos : Pos}
/-- nothing of what is held is in the frozen, nothing is a bowl, all is new -/
def NewL (G : Fx) (O : Om) (H : Hp) (as : List Addr) : Prop := ∀ b ∈ as, ¬ O.F b ∧ ¬ O.Bo b ∧ NT (H b)
def tDF2 (G : Fx) (W : WE) : TE := fun σ H Q => ∃ O ρ q, EnvR G O H σ ρ ∧ W ρ q ∧ ∀ O' H' a as dss, Ext O O' H H' → H' a = some (.lst (as.map V.ref)) → (a :: as).Nodup → (∀ b ∈ a :: as, ¬ O'.F b ∧ ¬ O'.Bo b ∧ NT (H b)) → Inn G.K O' H' as dss → q (.lst (dss.map D.lst)) → Q (.ref a) H'
abbrev DF2 (G : Fx) (X : Cx) (e : Expr) (W : WE) : Prop := PE X e (tDF2 G W)
theorem Inn.length {K : PySem.W.Frag} : ∀ {as : List Addr} {dss : List (List D)}, Inn K O H as dss → as.length = dss.length
  | _, _, .nil => rfl
  | _, _, .cons _ _ h => congrArg (· + 1) h.length
theorem Inn.append {K : PySem.W.Frag} : ∀ {as bs : List Addr} {dss ess : List (List D)}, Inn K O H as dss → Inn K O H bs ess → Inn K O H (as ++ bs) (dss ++ ess)
  | _, _, _, _, .nil, k => k
  | _, _, _, _, .cons h1 h2 h3, k => .cons h1 h2 (h3.append k)
theorem Inn.get {K : PySem.W.Frag} : ∀ {as : List Addr} {dss : List (List D)} {i : Nat} {ds : List D}, Inn K O H as dss → dss[i]? = some ds → ∃ b vs, as[i]? = some b ∧ H b = some (.lst vs) ∧ RepA K O H vs ds
  | _, _, i, _, .nil, h => by simp at h
  | _, _, 0, _, .cons h1 h2 h3, h => by
    simp at h
    subst h
    exact ⟨_, _, rfl, h1, h2⟩
  | _, _, i + 1, _, .cons h1 h2 h3, h => by
    obtain ⟨b, vs, e1, e2⟩ := Inn.get (i := i) h3 (by simpa using h)
    exact ⟨b, vs, by simpa using e1, e2⟩
/-- what of new lists stays over a step -/
theorem stay1 {a : Addr} {us : List V} (x : Ext O O' H H') (e : H a = some (.lst us)) (nf : ¬ O.F a) (nb : ¬ O.Bo a) : H' a = some (.lst us) ∧ ¬ O'.F a ∧ ¬ O'.Bo a :=
  ⟨x.same a _ nb (fun ps z => by cases z) e, fun f => by
    rcases x.new a f with z | z
    · exact nf z
    · rw [e] at z; exact nt_not (fun ps q => by cases q) z, by rw [x.bo]; exact nb⟩
theorem Inn.step {K : PySem.W.Frag} {as : List Addr} {dss : List (List D)} (okH : Ok O H) (x : Ext O O' H H') (h : Inn K O H as dss) (hb : ∀ b ∈ as, ¬ O.F b ∧ ¬ O.Bo b) : Inn K O' H' as dss ∧ ∀ b ∈ as, ¬ O'.F b ∧ ¬ O'.Bo b :=
  ⟨h.same (x.keep okH) fun b m vs e => (stay1 x e (hb b m).1 (hb b m).2).1, fun b m => by
    obtain ⟨vs, e⟩ := h.lists b m
    exact (stay1 x e (hb b m).1 (hb b m).2).2⟩
/-- [new list for ..]: a new list of new lists -/
structure Acc2 (G : Fx) (O1 : Om) (H1 : Hp) (Dd : Addr) (O2 : Om) (Hi : Hp) (as : List Addr) (dss : List (List D)) : Prop where
  x : Ext O1 O2 H1 Hi
  e : Hi Dd = some (.lst (as.map V.ref))
  nd : (Dd :: as).Nodup
  nw : ∀ b ∈ Dd :: as, ¬ O2.F b ∧ ¬ O2.Bo b ∧ NT (H1 b)
  inn : Inn G.K O2 Hi as dss
theorem Acc2.step {Dd : Addr} {as : List Addr} {dss : List (List D)} (ok1 : Ok O1 H1) (A : Acc2 G O1 H1 Dd O2 H2 as dss) (x : Ext O2 O' H2 H') : Acc2 G O1 H1 Dd O' H' as dss := by
  have hD := A.nw Dd List.mem_cons_self
  obtain ⟨e, nf, nb⟩ := stay1 x A.e hD.1 hD.2.1
  obtain ⟨hi, hb⟩ := A.inn.step A.x.ok x fun b m => ⟨(A.nw b (List.mem_cons_of_mem _ m)).1, (A.nw b (List.mem_cons_of_mem _ m)).2.1⟩
  exact ⟨A.x.trans ok1 x, e, A.nd, fun b m => by
    rcases List.mem_cons.mp m with rfl | m
    · exact ⟨nf, nb, hD.2.2⟩
    · exact ⟨(hb b m).1, (hb b m).2, (A.nw b (List.mem_cons_of_mem _ m)).2.2⟩, hi⟩
theorem tLcF_of {Wi : WI} {vs : List Nat} : ∀ σ H Q, tDF2 G (wLc Wi g T We vs) σ H Q → tLc (tDIB G Wi) (tDG G.nox vs g) (tDT G.nox T) (tDF G.nox We) vs σ H Q := fun σ H Q ⟨O, ρ, q, R, w, k⟩ => by
    refine ⟨O, ρ, _, R, w, fun O1 H1 J ds x1 wd w1 Dd hD => ?_⟩
    have R1 := R.step x1
    have xl : Ext O1 O1 H1 (upd H1 Dd (.lst [])) := R1.lay hD
    have I0 : Acc2 G O1 H1 Dd O1 (upd H1 Dd (.lst [])) [] [] := ⟨xl, upd_same, List.nodup_cons.mpr ⟨(fun h => nomatch h), List.nodup_nil⟩, (fun b m => by
      rw [List.mem_singleton.mp m]
      exact ⟨R1.newF hD, R1.newB hD, .inl hD⟩), .nil⟩
    refine ⟨fun i m Hi => m = ds.length - i ∧ i ≤ ds.length ∧ ∃ O2 as dss, Acc2 G O1 H1 Dd O2 Hi as dss ∧ wLcL g T We (wipeE ρ vs) (ds.drop i) (dss.map D.lst) fun acc => q (.lst acc),
      ⟨ds.length, by simp, Nat.zero_le _, O1, [], [], I0, w1⟩, ?_⟩
    rintro i m Hi ⟨rfl, hi, O2, as, dss, A2, w2⟩
    by_cases hlt : i < ds.length
    · have hd : ds[i]? = some ds[i] := List.getElem?_eq_getElem hlt
      rw [List.drop_eq_getElem_cons hlt] at w2
      refine .inr ⟨wd.go O2 Hi i _ A2.x hd, fun Hn => ∃ O2 as dss, Acc2 G O1 H1 Dd O2 Hn as dss ∧ wLcL g T We (wipeE ρ vs) (ds.drop (i + 1)) (dss.map D.lst) fun acc => q (.lst acc),
        fun Hn hn => ⟨ds.length - (i + 1), by omega, rfl, hlt, hn⟩, fun x H3 y => ?_⟩
      obtain ⟨O3, x3, r3⟩ := wd.yld O2 Hi i _ x H3 A2.x hd y
      have A3 := A2.step R1.ok x3
      have R3 := R1.step A3.x
      refine ⟨O3, wipeE ρ vs, _, _, (R3.wipe vs).nox, r3, w2, fun σ4 ρ4 R4 e4 w4 => ⟨e4.trans (wipe_twice σ vs), ?_⟩⟩
      refine ⟨O3, ρ4, _, R4, w4, fun O5 H5 b x5 w5 => ?_⟩
      have A5 := A3.step R1.ok x5
      cases b with
      | true =>
        rw [if_pos rfl] at w5
        refine L2.iteT ?_
        refine ⟨O5, ρ4, _, R4.step x5, w5, fun O6 H6 a us es x6 h1 h2 h3 h4 h5 ⟨hl, w6⟩ => ?_⟩
        have A6 := A5.step R1.ok x6
        have hDd := A6.nw Dd List.mem_cons_self
        have hnew : a ∉ Dd :: as := fun hm => by
          obtain ⟨vs', e⟩ : ∃ vs', H5 a = some (.lst vs') := by
            rcases List.mem_cons.mp hm with rfl | hm
            · exact ⟨_, A5.e⟩
            · exact A5.inn.lists a hm
          rw [e] at h5
          exact nt_not (fun ps z => by cases z) h5
        have hne : a ≠ Dd := fun z => hnew (by rw [z]; exact List.mem_cons_self)
        have kp := (put_ok (us := (as.map V.ref) ++ [V.ref a]) A6.x.ok A6.e hDd.1 hDd.2.1).2
        have hDas : Dd ∉ as := (List.nodup_cons.mp A6.nd).1
        refine ⟨as.map V.ref, A6.e, by rw [List.length_map, A6.inn.length]; rw [List.length_map] at hl; exact hl, O6, as ++ [a], dss ++ [es], ⟨A6.x.put hDd.2.2 A6.e hDd.1 hDd.2.1, ?_, ?_, ?_, ?_⟩, by rw [List.map_append]; exact w6⟩
        · rw [upd_same, List.map_append]
          rfl
        · have e : Dd :: (as ++ [a]) = (Dd :: as) ++ [a] := rfl
          rw [e, List.nodup_append]
          refine ⟨A6.nd, List.nodup_cons.mpr ⟨(fun h => nomatch h), List.nodup_nil⟩, fun b hb c hc => ?_⟩
          rw [List.mem_singleton.mp hc]
          exact fun z => hnew (by rw [← z]; exact hb)
        · intro b hb
          have hb2 : b ∈ Dd :: as ∨ b = a := by
            rcases List.mem_cons.mp hb with h | h
            · exact .inl (by rw [h]; exact List.mem_cons_self)
            · rcases List.mem_append.mp h with h | h
              · exact .inl (List.mem_cons_of_mem _ h)
              · exact .inr (List.mem_singleton.mp h)
          rcases hb2 with hb2 | rfl
          · exact A6.nw b hb2
          · exact ⟨h3, h4, A5.x.nt R1.ok h5⟩
        · refine Inn.append (A6.inn.same kp fun b hb vs e => ?_) (.cons ?_ (kp.repA _ _ h2) .nil)
          · rw [upd_ne (fun z => hDas (by rw [← z]; exact hb))]
            exact e
          · rw [upd_ne hne]
            exact h1
      | false =>
        rw [if_neg Bool.false_ne_true] at w5
        refine L2.iteF ?_
        exact ⟨O5, as, dss, A5, w5⟩
    · have ei : i = ds.length := by omega
      subst ei
      rw [List.drop_length] at w2
      exact .inl ⟨wd.stop O2 Hi A2.x, k O2 Hi Dd as dss (x1.trans R.ok A2.x) A2.e A2.nd (fun b hb => ⟨(A2.nw b hb).1, (A2.nw b hb).2.1, x1.nt R.ok (A2.nw b hb).2.2⟩) A2.inn w2⟩
theorem df2_lc {elt iter : Expr} {ifs : List Expr} {scope : Scope} {own : List (Str × Nat)} {Wi : WI} (hc : X.calm = true) (hN : X.N.Nodup) (ok : BlkOk X.N X.env.scope scope own)
    (hi : DIB G X tg iter Wi) (hg : ∀ (s : Shared) (H : Hp) (C : Addr) (cl : List (Str × Addr)) (fp : List Addr), DG G.nox (X.blk s H scope (compEnvC scope cl C X.env) fp) (own.map (·.2)) tg g)
    (ht : ∀ (s : Shared) (H : Hp) (C : Addr) (cl : List (Str × Addr)) (fp : List Addr), DTs G.nox (X.blk s H scope (compEnvC scope cl C X.env) fp) ifs T)
    (he : ∀ (s : Shared) (H : Hp) (C : Addr) (cl : List (Str × Addr)) (fp : List Addr), DF G.nox (X.blk s H scope (compEnvC scope cl C X.env) fp) elt We) (hs : ∀ x, foldedSetIterable iter X.env x = pure x := by intro _; rfl) :
    DF2 G X (.ListComp elt [⟨tg, iter, ifs, 0⟩] scope pos) (wLc Wi g T We (own.map (·.2))) := PE_mono (pe_lc hc hN hi ok hg ht he hs) tLcF_of

/-! ### a name gets it -/
def noOwn2 : Env → Bool
  | [] => true
  | some (.own2 _) :: _ => false
  | _ :: ρ => noOwn2 ρ
theorem noOwn2_get : ∀ {ρ : Env} {i : Nat} {dss : List (List D)}, noOwn2 ρ = true → ρ[i]? ≠ some (some (.own2 dss))
  | [], i, _, _, h => by simp at h
  | some (.own2 _) :: ρ, i, _, h, _ => by cases h
  | some (.own _) :: ρ, 0, _, h, z => by simp at z
  | some (.val _) :: ρ, 0, _, h, z => by simp at z
  | none :: ρ, 0, _, h, z => by simp at z
  | some (.own _) :: ρ, i + 1, _, h, z => noOwn2_get (ρ := ρ) (i := i) h (by simpa using z)
  | some (.val _) :: ρ, i + 1, _, h, z => noOwn2_get (ρ := ρ) (i := i) h (by simpa using z)
  | none :: ρ, i + 1, _, h, z => noOwn2_get (ρ := ρ) (i := i) h (by simpa using z)
theorem EnvR.setOwn2 (R : EnvR G O H σ ρ) {a : Addr} {as : List Addr} {dss : List (List D)} (i : Nat) (h1 : H a = some (.lst (as.map V.ref))) (h2 : (a :: as).Nodup) (h3 : ∀ b ∈ a :: as, ¬ O.F b ∧ ¬ O.Bo b ∧ NT (G.H0 b)) (h4 : Inn G.K O H as dss)
    (no : noOwn2 (ρ.set i none) = true) (ne : ∀ (j : Nat) (dj : List D) (b : Addr), j ≠ i → ρ[j]? = some (some (.own dj)) → σ[j]? = some (some (.ref b)) → b ∉ a :: as) : EnvR G O H (σ.set i (some (.ref a))) (ρ.set i (some (.own2 dss))) where
  ok0 := R.ok0
  ext := R.ext
  len := by rw [List.length_set, List.length_set]; exact R.len
  val := fun j e h => by
    rcases getset h with ⟨rfl, z⟩ | ⟨ne, h⟩
    · cases z
    · obtain ⟨w, h1, h2⟩ := R.val j e h
      exact ⟨w, by rw [List.getElem?_set_ne (Ne.symm ne)]; exact h1, h2⟩
  own := fun j es h => by
    rcases getset h with ⟨rfl, z⟩ | ⟨ne, h⟩
    · cases z
    · obtain ⟨b, us, k1, k2⟩ := R.own j es h
      exact ⟨b, us, by rw [List.getElem?_set_ne (Ne.symm ne)]; exact k1, k2⟩
  apart := fun j j' di dj b h h' s s' => by
    rcases getset h with ⟨rfl, z⟩ | ⟨ne1, h⟩
    · cases z
    rcases getset h' with ⟨rfl, z⟩ | ⟨ne2, h'⟩
    · cases z
    rw [List.getElem?_set_ne (Ne.symm ne1)] at s
    rw [List.getElem?_set_ne (Ne.symm ne2)] at s'
    exact R.apart j j' di dj b h h' s s'
  own2 := fun j ess h => by
    rcases getset h with ⟨rfl, z⟩ | ⟨ne1, h⟩
    · cases z
      have hl : j < σ.length := by
        have := (List.getElem?_eq_some_iff.mp h).1
        rw [List.length_set, R.len] at this
        exact this
      exact ⟨a, as, List.getElem?_set_self hl, h1, h2, h3, h4⟩
    · exact absurd (by rw [List.getElem?_set_ne (Ne.symm ne1)]; exact h) (noOwn2_get (i := j) (dss := ess) no)
  apart2 := fun j j' ess dj b b' bs h h' s hh s' => by
    rcases getset h with ⟨z1, z⟩ | ⟨ne1, h⟩
    · rw [z1] at s
      have eb := setget s
      cases eb
      rw [lst_inj hh h1]
      rcases getset h' with ⟨rfl, z⟩ | ⟨ne2, h'⟩
      · cases z
      · rw [List.getElem?_set_ne (Ne.symm ne2)] at s'
        exact ne j' dj b' ne2 h' s'
    · exact absurd (by rw [List.getElem?_set_ne (Ne.symm ne1)]; exact h) (noOwn2_get (i := j) (dss := ess) no)
  uniq2 := fun j j' di dj h h' => by
    rcases getset h with ⟨z1, z⟩ | ⟨ne1, h⟩
    · rcases getset h' with ⟨z2, z'⟩ | ⟨ne2, h'⟩
      · rw [z1, z2]
      · exact absurd (by rw [List.getElem?_set_ne (Ne.symm ne2)]; exact h') (noOwn2_get (i := j') (dss := dj) no)
    · exact absurd (by rw [List.getElem?_set_ne (Ne.symm ne1)]; exact h) (noOwn2_get (i := j) (dss := di) no)
def wgOwn2 (i : Nat) : WG := fun d ρ q => noOwn2 (ρ.set i none) = true ∧ ∃ dss : List (List D), d = .lst (dss.map D.lst) ∧ q (ρ.set i (some (.own2 dss)))
theorem map_lst_inj {x y : List (List D)} (h : x.map D.lst = y.map D.lst) : x = y := by
  have := congrArg (List.map fun d : D => match d with | .lst a => a | _ => []) h
  simpa [List.map_map, Function.comp_def] using this
theorem df2_set {i : Nat} {x : Str} {px : Pos} {rhs : Expr} {te : TE} (h : PS X (.Assign [.Name x px] rhs pos) (tAsg te (gName i))) (ht : ∀ σ H Q, tDF2 G W σ H Q → te σ H Q) : DS G X (.Assign [.Name x px] rhs pos) (wAsg W (wgOwn2 i)) :=
  PS_mono h fun D σ H ⟨O, ρ, k, R, w, knx, _⟩ => ht σ H _ ⟨O, ρ, _, R, w, fun O1 H1 a as dss x1 h1 h2 h3 h4 ⟨no, dss', e, w1⟩ => by
    have e2 := map_lst_inj (DL.D.lst.inj e)
    subst e2
    have R1 := R.step x1
    refine knx O1 _ _ H1 (R1.setOwn2 i h1 h2 (fun b hb => ⟨(h3 b hb).1, (h3 b hb).2.1, R.ext.nt R.ok0 (h3 b hb).2.2⟩) h4 no fun j dj b _ hj hs hm => ?_) (x1.keep R.ok) w1
    obtain ⟨c, us, k1, k2, _⟩ := R.own j dj hj
    rw [hs] at k1
    cases k1
    have := (h3 _ hm).2.2
    rw [k2] at this
    exact nt_not (fun ps z => by cases z) this⟩
theorem ds_setLc2D {iter elt : Expr} {ifs : List Expr} {scope : Scope} {own : List (Str × Nat)} {i : Nat} {y : Str} {py spos : Pos} {Wi : WI} (hc : X.calm = true) (hN : X.N.Nodup) (hy : X.N[i]? = some y) (hyl : X.env.scope.names.lookup y = some .local)
    (hsw : swapsWith (.ListComp elt [⟨tg, iter, ifs, 0⟩] scope pos) (some (.Name y py)) spos.line X.env = pure true) (ok : BlkOk X.N X.env.scope scope own)
    (hi : DIB G X tg iter Wi) (hg : ∀ (s : Shared) (H : Hp) (C : Addr) (cl : List (Str × Addr)) (fp : List Addr), DG G.nox (X.blk s H scope (compEnvC scope cl C X.env) fp) (own.map (·.2)) tg g)
    (ht : ∀ (s : Shared) (H : Hp) (C : Addr) (cl : List (Str × Addr)) (fp : List Addr), DTs G.nox (X.blk s H scope (compEnvC scope cl C X.env) fp) ifs T)
    (he : ∀ (s : Shared) (H : Hp) (C : Addr) (cl : List (Str × Addr)) (fp : List Addr), DF G.nox (X.blk s H scope (compEnvC scope cl C X.env) fp) elt We) (hs : ∀ x, foldedSetIterable iter X.env x = pure x := by intro _; rfl) :
    DS G X (.Assign [.Name y py] (.ListComp elt [⟨tg, iter, ifs, 0⟩] scope pos) spos) (wAsg (wLc Wi g T We (own.map (·.2))) (wgOwn2 i)) :=
  df2_set (ps_setLc hc hN hy hyl hsw hi ok hg ht he hs) tLcF_of

/-! ### x[i][j] -/
variable {e1 e2 : Expr} {W1 W2 : WE}
def wIx2 (i : Nat) (W1 W2 : WE) : WE := fun ρ q => match ρ[i]? with
  | some (some (.own2 dss)) => W1 ρ fun d1 => match d1 with
    | .int z => ∃ ds, atI dss z = some ds ∧ W2 ρ fun d2 => match d2 with
      | .int y => ∃ d, atI ds y = some d ∧ q d
      | _ => False
    | _ => False
  | _ => False
theorem inn_at {K : PySem.W.Frag} {as : List Addr} {dss : List (List D)} {z : Int} {ds : List D} (h : Inn K O H as dss) (e : atI dss z = some ds) : ∃ b vs n, ixN as.length z = some n ∧ as[n]? = some b ∧ dss[n]? = some ds ∧ H b = some (.lst vs) ∧ RepA K O H vs ds := by
  unfold atI at e
  rw [← h.length] at e
  cases q : ixN as.length z with
  | none => rw [q] at e; cases e
  | some n =>
    rw [q] at e
    obtain ⟨b, vs, h1, h2, h3⟩ := h.get (show dss[n]? = some ds from e)
    exact ⟨b, vs, n, rfl, h1, e, h2, h3⟩
theorem atI_refs {as : List Addr} {z : Int} {n : Nat} {b : Addr} (h1 : ixN as.length z = some n) (h2 : as[n]? = some b) : atI (as.map V.ref) z = some (V.ref b) := by
  unfold atI
  rw [List.length_map, h1]
  show (as.map V.ref)[n]? = _
  rw [List.getElem?_map, h2]
  rfl
theorem de_ix22 {i : Nat} {x : Str} {px p1 p2 : Pos} (hK : X.K = G.K) (hv : PE X (.Name x px) (tVar i)) (h1 : DE G X e1 W1) (h2 : DE G X e2 W2) (hs1 : PlainIx e1) (hs2 : PlainIx e2) :
    DE G X (.Subscript (.Subscript (.Name x px) e1 p1) e2 p2) (wIx2 i W1 W2) := PE_mono (pe_ix ix_seq (pe_ix ix_seq hv h1 hs1) h2 hs2) fun σ H Q ⟨O, ρ, q, R, w, k⟩ => by
  rw [hK]
  unfold wIx2 at w
  split at w
  · rename_i dss hi
    obtain ⟨a, as, s1, ha, _, nw, inn⟩ := R.own2 i dss hi
    refine ⟨_, s1, ?_⟩
    refine tD1 R w fun O1 H1 v d R1 x1 r1 w1 => ?_
    split at w1
    · rename_i z
      obtain ⟨ds, e, w1⟩ := w1
      cases r1
      have A := inn.step R.ok x1 fun b m => ⟨(nw b (List.mem_cons_of_mem _ m)).1, (nw b (List.mem_cons_of_mem _ m)).2.1⟩
      obtain ⟨b, vs, n, hn, hb, _, hbl, rb⟩ := inn_at A.1 e
      have ha1 := (stay1 x1 ha (nw a List.mem_cons_self).1 (nw a List.mem_cons_self).2.1).1
      refine .inl ⟨a, _, z, _, rfl, rfl, SqL.of ha1, atI_refs hn hb, ?_⟩
      refine tD1 R1 w1 fun O2 H2 v2 d2 R2 x2 r2 w2 => ?_
      split at w2
      · rename_i y
        cases r2
        obtain ⟨d, ed, w2⟩ := w2
        have hbn := A.2 b (List.mem_of_getElem? hb)
        have hb2 := (stay1 x2 hbl hbn.1 hbn.2).1
        obtain ⟨v', ev, rv⟩ := atI_repA ((x2.keep R1.ok).repA _ _ rb) ed
        exact .inl ⟨b, _, y, v', rfl, rfl, SqL.of hb2, ev, k O2 H2 v' d (x1.trans R.ok x2) rv w2⟩
      · exact w2.elim
    · exact w1.elim
  · exact w.elim
/-- an inner list is written -/
theorem EnvR.write2 (R : EnvR G O H σ ρ) {i n : Nat} {a b : Addr} {as : List Addr} {dss : List (List D)} {es : List D} {us : List V} (hi : ρ[i]? = some (some (.own2 dss))) (ha : σ[i]? = some (some (.ref a))) (hl : H a = some (.lst (as.map V.ref))) (hb : as[n]? = some b) (h2 : RepA G.K O H us es) :
    EnvR G O (upd H b (.lst us)) σ (ρ.set i (some (.own2 (dss.set n es)))) ∧ Keep O O H (upd H b (.lst us)) := by
  obtain ⟨a0, as0, k1, k2, k3, k4, k5⟩ := R.own2 i dss hi
  rw [ha] at k1
  cases k1
  have eas := lst_inj hl k2
  subst eas
  have hbm : b ∈ as := List.mem_of_getElem? hb
  have hbn := k4 b (List.mem_cons_of_mem _ hbm)
  obtain ⟨vs, hbl⟩ := k5.lists b hbm
  obtain ⟨okn, kp⟩ := put_ok (us := us) R.ok hbl hbn.1 hbn.2.1
  have hab : a ≠ b := fun z => (List.nodup_cons.mp k3).1 (by rw [z]; exact hbm)
  have ex : Ext G.O0 O G.H0 (upd H b (.lst us)) := R.ext.put hbn.2.2 hbl hbn.1 hbn.2.1
  refine ⟨?_, kp⟩
  have inn' : Inn G.K O (upd H b (.lst us)) as (dss.set n es) := by
    have nd : as.Nodup := (List.nodup_cons.mp k3).2
    clear hl k2 k3 k4 hbm hi ha
    have h2' := kp.repA _ _ h2
    clear okn ex hbl
    induction k5 generalizing n with
    | nil => simp at hb
    | cons g1 g2 g3 ih =>
      rename_i c vs' ds as' dss'
      cases n with
      | zero =>
        simp at hb
        subst hb
        rw [List.set_cons_zero]
        refine .cons upd_same h2' (g3.same kp fun d hd vs e => ?_)
        rw [upd_ne (fun z => (List.nodup_cons.mp nd).1 (by rw [← z]; exact hd))]
        exact e
      | succ n =>
        rw [List.set_cons_succ]
        have hb' : as'[n]? = some b := by simpa using hb
        refine .cons ?_ (kp.repA _ _ g2) (ih hb' (List.nodup_cons.mp nd).2)
        rw [upd_ne (fun z => (List.nodup_cons.mp nd).1 (by rw [z]; exact List.mem_of_getElem? hb'))]
        exact g1
  have R1 : EnvR G O (upd H b (.lst us)) σ (ρ.set i none) := {
    ok0 := R.ok0
    ext := ex
    len := by rw [List.length_set]; exact R.len
    val := fun j e h => by
      rcases getset h with ⟨rfl, z⟩ | ⟨ne, h⟩
      · cases z
      · obtain ⟨w, h1, h2⟩ := R.val j e h
        exact ⟨w, h1, kp.rep _ _ h2⟩
    own := fun j fs h => by
      rcases getset h with ⟨rfl, z⟩ | ⟨ne, h⟩
      · cases z
      · obtain ⟨c, ws, m1, m2, m3, m4, m5, m6⟩ := R.own j fs h
        have off := R.apart2 i j dss fs a c as hi h ha hl m1
        exact ⟨c, ws, m1, by rw [upd_ne (fun z => off (by rw [z]; exact List.mem_cons_of_mem _ hbm))]; exact m2, kp.repA _ _ m3, m4, m5, m6⟩
    apart := fun j j' di dj c h h' s s' => by
      rcases getset h with ⟨rfl, z⟩ | ⟨ne1, h⟩
      · cases z
      rcases getset h' with ⟨rfl, z⟩ | ⟨ne2, h'⟩
      · cases z
      exact R.apart j j' di dj c h h' s s'
    own2 := fun j ess h => by
      rcases getset h with ⟨rfl, z⟩ | ⟨ne, h⟩
      · cases z
      · exact absurd (R.uniq2 j i ess dss h hi) ne
    apart2 := fun j j' ess dj c c' cs h h' s hh s' => by
      rcases getset h with ⟨rfl, z⟩ | ⟨ne, h⟩
      · cases z
      · exact absurd (R.uniq2 j i ess dss h hi) ne
    uniq2 := fun j j' di dj h h' => by
      rcases getset h with ⟨rfl, z⟩ | ⟨ne, h⟩
      · cases z
      · exact absurd (R.uniq2 j i di dss h hi) ne }
  have no : noOwn2 ((ρ.set i none).set i none) = true := by
    rw [List.set_set]
    have : ∀ (l : Env) , (∀ (j : Nat) (ess : List (List D)), l[j]? ≠ some (some (.own2 ess))) → noOwn2 l = true := by
      intro l
      induction l with
      | nil => intro _; rfl
      | cons y l ih =>
        intro h
        cases y with
        | none => exact ih fun j ess z => h (j + 1) ess (by simpa using z)
        | some sl =>
          cases sl with
          | val d => exact ih fun j ess z => h (j + 1) ess (by simpa using z)
          | own d => exact ih fun j ess z => h (j + 1) ess (by simpa using z)
          | own2 d => exact absurd rfl (h 0 d)
    refine this _ fun j ess h => ?_
    rcases getset h with ⟨rfl, z⟩ | ⟨ne, h⟩
    · cases z
    · exact ne (R.uniq2 j i ess dss h hi)
  have R2 := R1.setOwn2 (a := a) (as := as) (dss := dss.set n es) i (by rw [upd_ne hab]; exact hl) k3 k4 inn' no fun j dj c ne h s => by
    rcases getset h with ⟨rfl, z⟩ | ⟨_, h⟩
    · cases z
    · exact R.apart2 i j dss dj a c as hi h ha hl s
  rw [List.set_set] at R2
  have es' : σ.set i (some (V.ref a)) = σ := by
    apply List.ext_getElem?
    intro j
    by_cases e : i = j
    · subst e
      rw [List.getElem?_set_self (R.lt hi), ha]
    · rw [List.getElem?_set_ne e]
  rw [es'] at R2
  exact R2
def wPut2 (i : Nat) (W1 W2 We : WE) : WS := fun k ρ => We ρ fun d => match ρ[i]? with
  | some (some (.own2 dss)) => W1 ρ fun z1 => match z1 with
    | .int z => ∃ n ds, ixN dss.length z = some n ∧ dss[n]? = some ds ∧ W2 ρ fun z2 => match z2 with
      | .int y => ∃ m, ixN ds.length y = some m ∧ k.nx (ρ.set i (some (.own2 (dss.set n (ds.set m d)))))
      | _ => False
    | _ => False
  | _ => False
theorem ds_put2 {i : Nat} {x : Str} {px p1 p2 : Pos} (hK : X.K = G.K) (hv : PE X (.Name x px) (tVar i)) (h1 : DE G X e1 W1) (h2 : DE G X e2 W2) (he : DE G X e We) (hs1 : PlainIx e1)
    (h : ∀ {te tb ti : TE}, PE X e te → PE X (.Subscript (.Name x px) e1 p1) tb → PE X e2 ti → PS X (.Assign [.Subscript (.Subscript (.Name x px) e1 p1) e2 p2] e pos) (tAsg te (gSub tb ti rSetL))) :
    DS G X (.Assign [.Subscript (.Subscript (.Name x px) e1 p1) e2 p2] e pos) (wPut2 i W1 W2 We) :=
  PS_mono (h he (pe_ix ix_seq hv h1 hs1) h2) fun D σ H ⟨O, ρ, k, R, w, knx, _⟩ => tD1 R w fun O1 H1 v d R1 x1 r1 w1 => by
    rw [hK]
    split at w1
    · rename_i dss hi
      obtain ⟨a, as, s1, ha, nd, nw, inn⟩ := R1.own2 i dss hi
      refine ⟨_, s1, ?_⟩
      refine tD1 R1 w1 fun O2 H2 v2 d2 R2 x2 r2 w2 => ?_
      split at w2
      · rename_i z
        cases r2
        obtain ⟨n, ds, hn, hds, w2⟩ := w2
        have A := inn.step R1.ok x2 fun b m => ⟨(nw b (List.mem_cons_of_mem _ m)).1, (nw b (List.mem_cons_of_mem _ m)).2.1⟩
        rw [← A.1.length] at hn
        obtain ⟨b, vs, hb, hbl, rb⟩ := A.1.get hds
        have ha2 := (stay1 x2 ha (nw a List.mem_cons_self).1 (nw a List.mem_cons_self).2.1).1
        refine .inl ⟨a, _, z, _, rfl, rfl, SqL.of ha2, atI_refs hn hb, ?_⟩
        refine tD1 R2 w2 fun O3 H3 v3 d3 R3 x3 r3 w3 => ?_
        split at w3
        · rename_i y
          cases r3
          obtain ⟨m, hm, w3⟩ := w3
          have hbn := A.2 b (List.mem_of_getElem? hb)
          have hb3 := (stay1 x3 hbl hbn.1 hbn.2).1
          have A0 := nw a List.mem_cons_self
          have han := stay1 x2 ha A0.1 A0.2.1
          have ha3 := (stay1 x3 han.1 han.2.1 han.2.2).1
          have rb3 := (x3.keep R2.ok).repA _ _ rb
          have rd3 := ((x2.trans R1.ok x3).keep R1.ok).rep _ _ r1
          obtain ⟨R4, kp⟩ := R3.write2 (es := ds.set m d) (us := vs.set m v) hi s1 ha3 hb (rb3.set m rd3)
          exact ⟨b, _, y, m, rfl, rfl, hb3, by rw [rb3.length]; exact hm, knx O3 σ _ _ R4 ((((x1.keep R.ok).trans (x2.keep R1.ok)).trans (x3.keep R2.ok)).trans kp) w3⟩
        · exact w3.elim
      · exact w2.elim
    · exact w1.elim
end
end DL
set_option Elab.async false
set_option linter.all false
set_option maxRecDepth 100000
set_option maxHeartbeats 4000000
/-! DL15: a, b, c, d = x, y, z, w by a tuple. -/
namespace DL
open PySem PySem.Spec PyProof.Rows L2
section
variable {G : Fx} {X : Cx} {O O1 O2 O' : Om} {H H1 H2 H' : Hp} {σ σ' : L2.St} {ρ ρ' : Env} {e1 e2 e3 e4 : Expr} {pos : Pos}
def wPar4 (i1 i2 i3 i4 : Nat) (W1 W2 W3 W4 : WM) : WS := fun k ρ => W1 ρ fun s1 => W2 ρ fun s2 => W3 ρ fun s3 => W4 ρ fun s4 => k.nx ((((ρ.set i1 (some s1)).set i2 (some s2)).set i3 (some s3)).set i4 (some s4))
theorem ds_par4 {i1 i2 i3 i4 : Nat} {x1 x2 x3 x4 : Str} {p1 p2 p3 p4 pt pt2 : Pos} {kt k2} {W1 W2 W3 W4 : WM} (hc : X.calm = true) (h1 : DM G X e1 W1) (h2 : DM G X e2 W2) (h3 : DM G X e3 W3) (h4 : DM G X e4 W4)
    (g1 : PG X (.Name x1 p1) (gName i1)) (g2 : PG X (.Name x2 p2) (gName i2)) (g3 : PG X (.Name x3 p3) (gName i3)) (g4 : PG X (.Name x4 p4) (gName i4))
    (hs : swapsWithSole [.Tuple [.Name x1 p1, .Name x2 p2, .Name x3 p3, .Name x4 p4] kt pt] (.Tuple [e1, e2, e3, e4] k2 pt2) pos.line X.env = pure false := by rfl)
    (hw : swappedStores [.Tuple [.Name x1 p1, .Name x2 p2, .Name x3 p3, .Name x4 p4] kt pt] (.Tuple [e1, e2, e3, e4] k2 pt2) X.env = pure none := by rfl)
    (a1 : starEach [e1, e2, e3, e4] X.env = (false, eval e1 X.env) :: starEach [e2, e3, e4] X.env := by rfl) (a2 : starEach [e2, e3, e4] X.env = (false, eval e2 X.env) :: starEach [e3, e4] X.env := by rfl)
    (a3 : starEach [e3, e4] X.env = (false, eval e3 X.env) :: starEach [e4] X.env := by rfl) (a4 : starEach [e4] X.env = (false, eval e4 X.env) :: starEach [] X.env := by rfl)
    (hn : (assignEach [.Name x1 p1, .Name x2 p2, .Name x3 p3, .Name x4 p4] X.env).length = 4 := by rfl) (hst : (assignEach [.Name x1 p1, .Name x2 p2, .Name x3 p3, .Name x4 p4] X.env).findIdx? (·.1) = none := by rfl)
    (b1 : (assignEach [.Name x1 p1, .Name x2 p2, .Name x3 p3, .Name x4 p4] X.env).map (·.2) = assign (.Name x1 p1) X.env :: (assignEach [.Name x2 p2, .Name x3 p3, .Name x4 p4] X.env).map (·.2) := by rfl)
    (b2 : (assignEach [.Name x2 p2, .Name x3 p3, .Name x4 p4] X.env).map (·.2) = assign (.Name x2 p2) X.env :: (assignEach [.Name x3 p3, .Name x4 p4] X.env).map (·.2) := by rfl)
    (b3 : (assignEach [.Name x3 p3, .Name x4 p4] X.env).map (·.2) = assign (.Name x3 p3) X.env :: (assignEach [.Name x4 p4] X.env).map (·.2) := by rfl)
    (b4 : (assignEach [.Name x4 p4] X.env).map (·.2) = assign (.Name x4 p4) X.env :: (assignEach [] X.env).map (·.2) := by rfl)
    (h0 : (assignEach [.Tuple [.Name x1 p1, .Name x2 p2, .Name x3 p3, .Name x4 p4] kt pt] X.env).map (·.2) = [assign (.Tuple [.Name x1 p1, .Name x2 p2, .Name x3 p3, .Name x4 p4] kt pt) X.env] := by rfl) :
    DS G X (.Assign [.Tuple [.Name x1 p1, .Name x2 p2, .Name x3 p3, .Name x4 p4] kt pt] (.Tuple [e1, e2, e3, e4] k2 pt2) pos) (wPar4 i1 i2 i3 i4 W1 W2 W3 W4) :=
  PS_mono (ps_asg (pe_tup (pa_cons h1 (pa_cons h2 (pa_cons h3 (pa_cons h4 pa_nil a4) a3) a2) a1)) (pg_tup hc (pgs_cons g1 (pgs_cons g2 (pgs_cons g3 (pgs_cons g4 pgs_nil b4) b3) b2) b1) hn hst) hs hw h0) fun D σ H ⟨O, ρ, k, R, w, knx, _⟩ =>
    tDM1 R w fun O1 H1 v1 s1 R1 x1 r1 f1 w1 => tDM1 R1 w1 fun O2 H2 v2 s2 R2 x2 r2 f2 w2 => tDM1 R2 w2 fun O3 H3 v3 s3 R3 x3 r3 f3 w3 => tDM1 R3 w3 fun O4 H4 v4 s4 R4 x4 r4 f4 w4 => by
      refine ⟨by show 4 ≤ sizeLine; decide, fun p hp => ?_⟩
      have xl : Ext O4 O4 H4 (upd H4 p (.tup [v1, v2, v3, v4])) := R4.lay hp
      refine ⟨p, _, rfl, SqT.of upd_same, rfl, _, _, rfl, _, _, rfl, _, _, rfl, _, _, rfl, rfl, ?_⟩
      have RF := ((((R.setS x1 i1 r1 f1).setS x2 i2 r2 f2).setS x3 i3 r3 f3).setS x4 i4 r4 f4).step xl
      exact knx O4 _ _ _ RF (((((x1.trans R.ok x2).trans R.ok x3).trans R.ok x4).trans R.ok xl).keep R.ok) w4
end
end DL
set_option Elab.async false
set_option linter.all false
set_option maxRecDepth 100000
set_option maxHeartbeats 4000000
/-! DLE: from the head's facts to the defs where they stand; a law's end. -/
namespace DL
open PySem PySem.Spec PyProof.Rows L2 NdefX LamX
def dOf (x : Str) (st : Stmt) : He.DefD := ⟨(x, none), x, x, defArgs st, defBody st, defScope st, [], []⟩
section
variable {K : PySem.W.Frag} {mg : Str → Option Value} {h : Heap} {fa : List He.Fa} {fn : List He.DefD} {x : Str} {st : Stmt} {ps : List Str}
theorem fun_of (c : He.SaysD fa fn K) (hx : dOf x st ∈ fn) : ∃ fd, Fun K x x st (He.fAd K (x, none)) fd := by
  obtain ⟨fd, F⟩ := c.defs hx
  obtain ⟨oc, od, dV, kV, doc, pm, an, cdv, ct, osl, e, lk, hc, hd, _⟩ := F.ex
  have e2 : dV = .none := by
    rcases hd with ⟨_, z⟩ | ⟨z, _⟩
    · exact z
    · exact absurd rfl z
  subst e2
  exact ⟨fd, ⟨oc, od, kV, doc, pm, an, cdv, ct, osl, e, lk, hc⟩, F.kp⟩
theorem glo_of (X : K.In h) (G : h.Ns mainGlobals mg) (c : He.SaysD fa fn K) (hf : He.Fa.glo x ∈ fa) : mg x = some (.ref (He.fAd K (x, none))) := He.glo_ok X G (c.facts hf)
theorem defE_of (X : K.In h) (G : h.Ns mainGlobals mg) (c : He.SaysD fa fn K) (hx : dOf x st ∈ fn) (hf : He.Fa.glo x ∈ fa)
    (hb : ∀ (kV doc pm : Value) (an : Option Addr) (cdv ct : Value) (us : List Value), us.length = ps.length → bindArgs (PySem.W.fnOf x x (defArgs st) (defBody st) (defScope st) .none kV doc pm an cdv ct) ⟨us, []⟩ = pure (ps.zip us)) : DefE K mg x st ps := by
  obtain ⟨fd, F⟩ := fun_of c hx
  exact ⟨_, fd, F, glo_of X G c hf, F.binds hb⟩
/-- the tables of the defs that make lambdas -/
def tabsOf (K : PySem.W.Frag) (tf : List He.Defn) : List (Addr × Str) := tf.map fun p => ((He.cT K p).2, p.1 ++ ".<locals>." ++ "<lambda>")
def apartB (tf : List He.Defn) (K : PySem.W.Frag) : Bool := decide ((tf.map fun p => (He.cT K p).2).Nodup)
theorem uniq_tab {tf : List He.Defn} (hn : (tf.map fun p => (He.cT K p).2).Nodup) (hm : (x, none) ∈ tf) : ∀ p ∈ tabsOf K tf, p.1 = (He.cT K (x, none)).2 → p.2 = x ++ ".<locals>." ++ "<lambda>" := fun p hp e => by
  obtain ⟨d, hd, rfl⟩ := List.mem_map.mp hp
  have e2 : d = (x, none) := by
    clear hp
    induction tf with
    | nil => cases hm
    | cons a tf ih =>
      rw [List.map_cons, List.nodup_cons] at hn
      rcases List.mem_cons.mp hd with h1 | h1
      · rcases List.mem_cons.mp hm with h2 | h2
        · exact h1.trans h2.symm
        · refine absurd (List.mem_map.mpr ⟨_, h2, ?_⟩) hn.1
          rw [← h1]
          exact e.symm
      · rcases List.mem_cons.mp hm with h2 | h2
        · refine absurd (List.mem_map.mpr ⟨_, h1, ?_⟩) hn.1
          rw [← h2]
          exact e
        · exact ih hn.2 h2 h1
  rw [e2]
theorem defT_of {tf : List He.Defn} {base : Heap} (X : K.In h) (G : h.Ns mainGlobals mg) (c : He.SaysD fa fn K) (hx : dOf x st ∈ fn) (hf : He.Fa.glo x ∈ fa) (hm : (x, none) ∈ tf) (hn : apartB tf K = true) (hT : ∀ p ∈ tf.map (He.cT K), TabB base mg p.1 p.2)
    (hb : ∀ (kV doc pm : Value) (an : Option Addr) (cdv ct : Value) (us : List Value), us.length = ps.length → bindArgs (PySem.W.fnOf x x (defArgs st) (defBody st) (defScope st) .none kV doc pm an cdv ct) ⟨us, []⟩ = pure (ps.zip us)) : ∃ c P, DefT K mg base (tabsOf K tf) x st ps c P := by
  obtain ⟨fd, F⟩ := fun_of c hx
  obtain ⟨oc, od, kV, doc, pm, an, cdv, ct, osl, e, lk, hcd⟩ := id F.ex
  obtain ⟨cd, ec⟩ := He.codeIn_ref hcd
  have e3 : fd.code = .ref cd := by rw [e, ec]
  have e4 := He.codeOf_eq lk e3
  refine ⟨cd, (He.cT K (x, none)).2, ⟨_, fd, F, glo_of X G c hf, F.binds hb, e3⟩, ?_, List.mem_map.mpr ⟨_, hm, rfl⟩, uniq_tab (of_decide_eq_true hn) hm⟩
  have := hT _ (List.mem_map.mpr ⟨_, hm, rfl⟩)
  rw [← e4]
  exact this
end
/-- the law's promise, where the head stands -/
theorem law_at {l : PySem.W.OpenLaw} {w : World} {K : PySem.W.Frag} {k : Nat} {mg : Str → Option Value} {fa : Addr} {h : Heap} {fs : List He.Fa} {fn : List He.DefD} {tf : List He.Defn} {st : Stmt} {wf : WF} (X : K.In h) (G : h.Ns mainGlobals mg) (hfa : mg ("law" : Str) = some (.ref fa)) (c : He.SaysX fs fn [] tf (apartB tf) w h K)
    (hl : l.most = some 63) (hx : dOf "law" st ∈ fn) (hg : He.Fa.glo "law" ∈ fs)
    (hb : ∀ (kV doc pm : Value) (an : Option Addr) (cdv ct : Value) (us : List Value), us.length = (["script"] : List Str).length → bindArgs (PySem.W.fnOf "law" "law" (defArgs st) (defBody st) (defScope st) .none kV doc pm an cdv ct) ⟨us, []⟩ = pure ((["script"] : List Str).zip us))
    (hF : ∀ base : Heap, K.In base → base.Ns mainGlobals mg → (∀ p ∈ tf.map (He.cT K), TabB base mg p.1 p.2) → FnE l.prog w K mg base (tabsOf K tf) k "law" st ["script"] wf)
    (hW : ∀ ns : List Int, ns.length ≤ 63 → wf [.scr ns] (fun d => d = .bl true) (fun _ => False)) : LawAtS l w K (L2.CX l.prog w) k 63 "script" mg fa h := by
  obtain ⟨fd, F⟩ := fun_of c.t.d hx
  have e := hfa.symm.trans (glo_of X G c.t.d hg)
  cases e
  refine ⟨fd, tf.map (He.cT K), spD K (tabsOf K tf) 1 wf, fun p hp => ?_, fun p hp => ?_, fun p hp => ?_, fun s u => ?_, fun H a ns hn _ hE hS => ?_, fun base Xb Gb hT => ?_⟩
  · obtain ⟨d, hd, rfl⟩ := List.mem_map.mp hp
    exact c.empty d hd
  · obtain ⟨d, hd, rfl⟩ := List.mem_map.mp hp
    exact c.out d hd
  · obtain ⟨d, hd, rfl⟩ := List.mem_map.mp hp
    exact PySem.W.codeHd_of_K X (c.hd d hd)
  · obtain ⟨oc, od, kV, doc, pm, an, cdv, ct, osl, e1, lk, hcd⟩ := F.ex
    subst e1
    exact .of_eq (hb kV doc pm an cdv ct [u] rfl)
  · have key : ∃ O : Om, Ok O H ∧ O.T = tabsOf K tf ∧ ScrAt K O H a (ns.map V.int) := by
      have tabs : ∀ (O : Om), O.T = tabsOf K tf → LamX.Tabs O.T H := fun O e p hp => by
        rw [e] at hp
        obtain ⟨d, hd, rfl⟩ := List.mem_map.mp hp
        exact TabS.nil (hE _ (List.mem_map.mpr ⟨d, hd, rfl⟩))
      rcases hS with (h1 | h1) | h1
      · refine ⟨⟨fun x => x = a, fun _ => False, tabsOf K tf⟩, ⟨tabs _ rfl, fun _ z => z.elim, fun _ _ z => z, fun x e z => ?_⟩, rfl, .inl ⟨rfl, h1⟩⟩
        subst e
        rw [h1] at z
        exact nt_not (fun ps q => by cases q) z
      · exact ⟨⟨fun _ => False, fun _ => False, tabsOf K tf⟩, ⟨tabs _ rfl, fun _ z => z.elim, fun _ z => z.elim, fun _ z => z.elim⟩, rfl, .inr (.inl h1)⟩
      · exact ⟨⟨fun _ => False, fun _ => False, tabsOf K tf⟩, ⟨tabs _ rfl, fun _ z => z.elim, fun _ z => z.elim, fun _ z => z.elim⟩, rfl, .inr (.inr h1)⟩
    obtain ⟨O, ok, hT, hs⟩ := key
    refine ⟨O, [.scr ns], _, fun _ => False, rfl, ⟨ok, hT⟩, .cons (.scr hs) .nil, hW ns hn, fun O' H' v d _ r e => ?_, fun _ _ _ _ _ _ _ z => z⟩
    subst e
    cases r
    rfl
  · obtain ⟨f2, fd2, h1, h2, h3, h4⟩ := (hF base Xb Gb hT).ex
    have e2 := h2.symm.trans hfa
    cases e2
    have e5 : fd2 = fd := by
      obtain ⟨oc, od, kV, doc, pm, an, cdv, ct, osl, e1, lk, hcd⟩ := F.ex
      obtain ⟨oc', od', kV', doc', pm', an', cdv', ct', osl', e1', lk', hcd'⟩ := h1.ex
      rw [lk] at lk'
      injection lk' with z
      injection z with z1 z2 z3 z4
      injection z3 with z5
      exact z5.symm
    subst e5
    exact h3
end DL
set_option Elab.async false
set_option linter.all false
set_option maxRecDepth 100000
set_option maxHeartbeats 4000000
/-! DLP: reading transformers: small steps. -/
namespace DL
open PySem PySem.Spec PyProof.Rows L2
theorem kits : kitB "int" "int" = some true ∧ kitB "int" "bool" = some false ∧ kitB "int" "tuple" = some false ∧ kitB "int" "list" = some false ∧ kitB "int" "str" = some false ∧
    kitB "bool" "int" = some true ∧ kitB "bool" "bool" = some true ∧ kitB "bool" "tuple" = some false ∧ kitB "bool" "list" = some false ∧ kitB "bool" "str" = some false ∧
    kitB "NoneType" "int" = some false ∧ kitB "NoneType" "bool" = some false ∧ kitB "NoneType" "tuple" = some false ∧ kitB "NoneType" "list" = some false ∧ kitB "NoneType" "str" = some false ∧
    kitB "tuple" "int" = some false ∧ kitB "tuple" "bool" = some false ∧ kitB "tuple" "tuple" = some true ∧ kitB "tuple" "list" = some false ∧ kitB "tuple" "str" = some false ∧
    kitB "list" "int" = some false ∧ kitB "list" "bool" = some false ∧ kitB "list" "tuple" = some false ∧ kitB "list" "list" = some true ∧ kitB "list" "str" = some false ∧
    kitB "str" "int" = some false ∧ kitB "str" "bool" = some false ∧ kitB "str" "tuple" = some false ∧ kitB "str" "list" = some false ∧ kitB "str" "str" = some true := by decide +kernel
theorem isi_eq {d : D} {t n : String} {b : Bool} {q : D → Prop} (ht : d.tyName = some t) (h : kitB t n = some b) : fIsi [d, .ty n] q = q (.bl b) :=
  propext ⟨fun ⟨t', b', h1, h2, h3⟩ => by rw [ht] at h1; cases h1; rw [h] at h2; cases h2; exact h3, fun w => ⟨_, _, ht, h, w⟩⟩
section
variable (i : Int) (b : Bool) (ds : List D) (s : Str) (q : D → Prop)
@[simp] theorem isi_int_int : fIsi [.int i, .ty "int"] q = q (.bl true) := isi_eq rfl kits.1
@[simp] theorem isi_int_bool : fIsi [.int i, .ty "bool"] q = q (.bl false) := isi_eq rfl kits.2.1
@[simp] theorem isi_int_tuple : fIsi [.int i, .ty "tuple"] q = q (.bl false) := isi_eq rfl kits.2.2.1
@[simp] theorem isi_int_list : fIsi [.int i, .ty "list"] q = q (.bl false) := isi_eq rfl kits.2.2.2.1
@[simp] theorem isi_bl_int : fIsi [.bl b, .ty "int"] q = q (.bl true) := isi_eq rfl kits.2.2.2.2.2.1
@[simp] theorem isi_bl_bool : fIsi [.bl b, .ty "bool"] q = q (.bl true) := isi_eq rfl kits.2.2.2.2.2.2.1
@[simp] theorem isi_bl_tuple : fIsi [.bl b, .ty "tuple"] q = q (.bl false) := isi_eq rfl kits.2.2.2.2.2.2.2.1
@[simp] theorem isi_bl_list : fIsi [.bl b, .ty "list"] q = q (.bl false) := isi_eq rfl kits.2.2.2.2.2.2.2.2.1
@[simp] theorem isi_non_int : fIsi [.non, .ty "int"] q = q (.bl false) := isi_eq rfl kits.2.2.2.2.2.2.2.2.2.2.1
@[simp] theorem isi_non_bool : fIsi [.non, .ty "bool"] q = q (.bl false) := isi_eq rfl kits.2.2.2.2.2.2.2.2.2.2.2.1
@[simp] theorem isi_non_tuple : fIsi [.non, .ty "tuple"] q = q (.bl false) := isi_eq rfl kits.2.2.2.2.2.2.2.2.2.2.2.2.1
@[simp] theorem isi_non_list : fIsi [.non, .ty "list"] q = q (.bl false) := isi_eq rfl kits.2.2.2.2.2.2.2.2.2.2.2.2.2.1
@[simp] theorem isi_tup_int : fIsi [.tup ds, .ty "int"] q = q (.bl false) := isi_eq rfl kits.2.2.2.2.2.2.2.2.2.2.2.2.2.2.2.1
@[simp] theorem isi_tup_bool : fIsi [.tup ds, .ty "bool"] q = q (.bl false) := isi_eq rfl kits.2.2.2.2.2.2.2.2.2.2.2.2.2.2.2.2.1
@[simp] theorem isi_tup_tuple : fIsi [.tup ds, .ty "tuple"] q = q (.bl true) := isi_eq rfl kits.2.2.2.2.2.2.2.2.2.2.2.2.2.2.2.2.2.1
@[simp] theorem isi_tup_list : fIsi [.tup ds, .ty "list"] q = q (.bl false) := isi_eq rfl kits.2.2.2.2.2.2.2.2.2.2.2.2.2.2.2.2.2.2.1
@[simp] theorem isi_lst_int : fIsi [.lst ds, .ty "int"] q = q (.bl false) := isi_eq rfl kits.2.2.2.2.2.2.2.2.2.2.2.2.2.2.2.2.2.2.2.2.1
@[simp] theorem isi_lst_bool : fIsi [.lst ds, .ty "bool"] q = q (.bl false) := isi_eq rfl kits.2.2.2.2.2.2.2.2.2.2.2.2.2.2.2.2.2.2.2.2.2.1
@[simp] theorem isi_lst_tuple : fIsi [.lst ds, .ty "tuple"] q = q (.bl false) := isi_eq rfl kits.2.2.2.2.2.2.2.2.2.2.2.2.2.2.2.2.2.2.2.2.2.2.1
@[simp] theorem isi_lst_list : fIsi [.lst ds, .ty "list"] q = q (.bl true) := isi_eq rfl kits.2.2.2.2.2.2.2.2.2.2.2.2.2.2.2.2.2.2.2.2.2.2.2.1
/-! comparing -/
variable (j : Int) (c : Bool)
theorem sh_int : (D.int i).eqOk = true := by simp [D.eqOk, D.pure, D.pd, SeqAt.shaped, PyData.canLay0, PyData.depth]
theorem sh_bl : (D.bl b).eqOk = true := by simp [D.eqOk, D.pure, D.pd, SeqAt.shaped, PyData.canLay0, PyData.depth]
theorem sh_non : D.non.eqOk = true := by simp [D.eqOk, D.pure, D.pd, SeqAt.shaped, PyData.canLay0, PyData.depth]
@[simp] theorem eq_int : fEq (.int i) (.int j) q = q (.bl (i == j)) := by
  have e : (D.int i).eqv (.int j) = (i == j) := by simp [D.eqv, D.pd, PyData.eqv]
  simp [fEq, sh_int, e]
@[simp] theorem ne_int : fNe (.int i) (.int j) q = q (.bl (!(i == j))) := by
  have e : (D.int i).eqv (.int j) = (i == j) := by simp [D.eqv, D.pd, PyData.eqv]
  simp [fNe, sh_int, e]
@[simp] theorem eq_bl : fEq (.bl b) (.bl c) q = q (.bl (b == c)) := by
  have e : (D.bl b).eqv (.bl c) = (b == c) := by cases b <;> cases c <;> simp [D.eqv, D.pd, PyData.eqv]
  simp [fEq, sh_bl, e]
@[simp] theorem ne_bl : fNe (.bl b) (.bl c) q = q (.bl (!(b == c))) := by
  have e : (D.bl b).eqv (.bl c) = (b == c) := by cases b <;> cases c <;> simp [D.eqv, D.pd, PyData.eqv]
  simp [fNe, sh_bl, e]
end
/-! operators at their kinds -/
section
variable (i j : Int) (a b : List D) (q : D → Prop)
theorem fSl_tup (lo hi : Option Int) : fSl (.tup a) lo hi q = q (.tup (cut a lo hi)) := rfl
theorem fSl_lst (lo hi : Option Int) : fSl (.lst a) lo hi q = q (.lst (cut a lo hi)) := rfl
theorem fSl_scr (s : List Int) (lo hi : Option Int) : fSl (.scr s) lo hi q = q (.lst ((cut s lo hi).map .int)) := rfl
@[simp] theorem len_tup : fLen [.tup a] q = q (.int a.length) := rfl
@[simp] theorem len_lst : fLen [.lst a] q = q (.int a.length) := rfl
@[simp] theorem len_scr (s : List Int) : fLen [.scr s] q = q (.int s.length) := rfl
@[simp] theorem add_ii : fAdd (.int i) (.int j) q = q (.int (i + j)) := by simp [fAdd]
@[simp] theorem sub_ii : fSub (.int i) (.int j) q = q (.int (i - j)) := by simp [fSub, fI, TT2]
@[simp] theorem mul_ii : fMul2 (.int i) (.int j) q = (CMul i j ∧ q (.int (i * j))) := by simp [fMul2, fMul]
@[simp] theorem fdiv_ii : fFdiv (.int i) (.int j) q = (CDiv i j ∧ q (.int (i / j))) := by simp [fFdiv, fI]
@[simp] theorem mod_ii : fMod (.int i) (.int j) q = (0 < j ∧ q (.int (i % j))) := by simp [fMod, fI]
@[simp] theorem pow_ii : fPow (.int i) (.int j) q = (CPow i j ∧ q (.int (i ^ j.toNat))) := by simp [fPow, fI]
@[simp] theorem lt_ii : fLt (.int i) (.int j) q = q (.bl (decide (i < j))) := by simp [fLt, fI, TT2]
@[simp] theorem le_ii : fLe (.int i) (.int j) q = q (.bl (decide (i ≤ j))) := by simp [fLe, fI, TT2]
@[simp] theorem gt_ii : fGt (.int i) (.int j) q = q (.bl (decide (j < i))) := by simp [fGt, fI, TT2]
@[simp] theorem ge_ii : fGe (.int i) (.int j) q = q (.bl (decide (j ≤ i))) := by simp [fGe, fI, TT2]
@[simp] theorem isN_n : fIsN d .non q = q (.bl d.isNon) := rfl
@[simp] theorem notN_n : fNotN d .non q = q (.bl (!d.isNon)) := rfl
end

/-! loops -/
theorem lc_map {α : Type} {g : WG} {We : WE} {ρw : Env} {q : List D → Prop} (rd f : α → D) : ∀ (xs : List α) (acc : List D), (∀ x ∈ xs, ∀ k : D → Prop, k (f x) → g (rd x) ρw fun ρ2 => We ρ2 k) → acc.length + xs.length < 16777216 → q (acc ++ xs.map f) → wLcL g wYes We ρw (xs.map rd) acc q
  | [], acc, _, _, h => by
    rw [List.map_nil, List.append_nil] at h
    exact h
  | x :: xs, acc, he, hn, h => by
    have e : (fun ρ2 : Env => wYes ρ2 fun b => if b = true then We ρ2 fun y => acc.length < sizeLine ∧ wLcL g wYes We ρw (xs.map rd) (acc ++ [y]) q else wLcL g wYes We ρw (xs.map rd) acc q) = fun ρ2 => We ρ2 fun y => acc.length < sizeLine ∧ wLcL g wYes We ρw (xs.map rd) (acc ++ [y]) q := by
      funext ρ2
      simp [wYes]
    show g (rd x) ρw fun ρ2 => wYes ρ2 fun b => if b = true then We ρ2 fun y => acc.length < sizeLine ∧ wLcL g wYes We ρw (xs.map rd) (acc ++ [y]) q else wLcL g wYes We ρw (xs.map rd) acc q
    rw [e]
    rw [List.length_cons] at hn
    refine he x List.mem_cons_self _ ⟨by rw [sizeLine_eq]; omega, lc_map rd f xs _ (fun y hy => he y (List.mem_cons_of_mem _ hy)) ?_ ?_⟩
    · rw [List.length_append, List.length_singleton]
      omega
    · rw [List.append_assoc]
      exact h
theorem for_run {g : WG} {body : WS} {k : WEnds} (I : Nat → Env → Prop) : ∀ (ds : List D) (n : Nat) (ρ : Env), I n ρ →
    (∀ (i : Nat) (d : D) (ρ : Env) (K : Env → Prop), ds[i]? = some d → I (n + i) ρ → (∀ ρ', I (n + i + 1) ρ' → K ρ') → g d ρ fun ρ2 => body { nx := K, rt := k.rt, bk := k.nx, ct := K } ρ2) →
    (∀ ρ, I (n + ds.length) ρ → k.nx ρ) → wForL g body k ds ρ
  | [], n, ρ, h0, _, hd => hd ρ h0
  | d :: ds, n, ρ, h0, hs, hd => by
    refine hs 0 d ρ _ rfl h0 fun ρ' h1 => ?_
    refine for_run I ds (n + 1) ρ' h1 (fun i d ρ K e hi hk => ?_) fun ρ h => hd ρ (by rw [List.length_cons]; rwa [show n + (ds.length + 1) = n + 1 + ds.length by omega])
    refine hs (i + 1) d ρ K e ?_ fun ρ' h => hk ρ' ?_
    · rwa [show n + (i + 1) = n + 1 + i by omega]
    · rwa [show n + 1 + i + 1 = n + (i + 1) + 1 by omega]
theorem cut_nat {α : Type} (xs : List α) (a b : Nat) : cut xs (some (a : Int)) (some (b : Int)) = (xs.drop a).take (b - a) := by
  unfold cut
  rw [HT.sIx_nat, HT.sIx_nat]
  by_cases h : a ≤ xs.length
  · rw [Nat.min_eq_left h]
    by_cases h2 : b ≤ xs.length
    · rw [Nat.min_eq_left h2]
    · rw [Nat.min_eq_right (by omega), List.take_of_length_le (by rw [List.length_drop]; omega), List.take_of_length_le (by rw [List.length_drop]; omega)]
  · rw [List.drop_eq_nil_of_le (by omega), List.drop_eq_nil_of_le (by omega), List.take_nil, List.take_nil]
theorem cut_to {α : Type} (xs : List α) (b : Nat) : cut xs none (some (b : Int)) = xs.take b := by
  unfold cut
  rw [HT.sIx_nat]
  show (xs.drop 0).take (min b xs.length - 0) = xs.take b
  rw [List.drop_zero, Nat.sub_zero]
  by_cases h : b ≤ xs.length
  · rw [Nat.min_eq_left h]
  · rw [Nat.min_eq_right (by omega), List.take_length, List.take_of_length_le (by omega)]
theorem atI_ix {α : Type} (xs : List α) (i : Nat) : atI xs (i : Int) = xs[i]? := by
  unfold atI ixN
  rw [if_pos (by omega)]
  by_cases h : (i : Int) < xs.length
  · rw [if_pos h, Int.toNat_natCast]; rfl
  · rw [if_neg h, List.getElem?_eq_none (by omega)]; rfl
theorem atI_last {α : Type} (xs : List α) (x : α) : atI (xs ++ [x]) (-1) = some x := by
  unfold atI ixN
  rw [if_neg (by omega), if_pos (by rw [List.length_append, List.length_singleton]; omega)]
  show (xs ++ [x])[_]? = some x
  rw [show ((-1 : Int) + ((xs ++ [x]).length : Nat)).toNat = xs.length by rw [List.length_append, List.length_singleton]; omega]
  simp

theorem seq_step {Ws Wr : WS} {k : WEnds} {ρ : Env} (h : ∀ KK : Env → Prop, (∀ ρ', Wr k ρ' → KK ρ') → Ws { nx := KK, rt := k.rt, bk := k.bk, ct := k.ct } ρ) : wSeq Ws Wr k ρ := h (Wr k) fun _ h => h
theorem seqF_step {Ws Wr : WS} {k : WEnds} {ρ : Env} (h : ∀ KK : Env → Prop, (∀ ρ', Wr k ρ' → KK ρ') → Ws { nx := KK, rt := fun _ => False } ρ) : wSeqF Ws Wr k ρ := h (Wr k) fun _ h => h
end DL
set_option Elab.async false
set_option linter.all false
set_option maxRecDepth 100000
set_option maxHeartbeats 400000
/-! DLQ: the same small steps as equations with proofs (no unfolding left to the kernel). -/
namespace DL
open PySem PySem.Spec PyProof.Rows L2
variable {W Wa Wb Wc : WE} {WL WK : WA} {T U : WT} {g : WG} {gs : WGs} {k : WEnds} {ρ : Env} {q : D → Prop} {ep : Ex → Prop} {A B : WS} {f : F2} {d e : D} {ds es : List D} {wf : WF}
def tq (q : Bool → Prop) : D → Prop := fun d => match d with | .bl b => q b | _ => False
def aq (B : (D → Prop) → Prop) (q : D → Prop) : D → Prop := fun d => match d with | .bl true => B q | .bl false => q (.bl false) | _ => False
def oq (B : (D → Prop) → Prop) (q : D → Prop) : D → Prop := fun d => match d with | .bl false => B q | .bl true => q (.bl true) | _ => False
def ngq (q : D → Prop) : D → Prop := fun d => match d with | .int i => q (.int (-i)) | _ => False
def soq (q : Option Int → Prop) : D → Prop := fun d => match d with | .int i => q (some i) | _ => False
def rvq (q : D → Prop) : D → Prop := fun d => match d with | .tup ds => q (.tup ds.reverse) | _ => False
theorem e_asg : wAsg W g k ρ = W ρ fun d => g d ρ k.nx := propext Iff.rfl
theorem e_ret : wRet W k ρ = W ρ k.rt := propext Iff.rfl
theorem e_drop : wDrop W k ρ = W ρ fun _ => k.nx ρ := propext Iff.rfl
theorem e_next : wNext k ρ = k.nx ρ := propext Iff.rfl
theorem e_ifS : wIfS T A B k ρ = T ρ fun b => if b = true then A k ρ else B k ρ := propext Iff.rfl
theorem e_if : wIf T Wa Wb ρ q = T ρ fun b => if b = true then Wa ρ q else Wb ρ q := propext Iff.rfl
theorem e_test (q : Bool → Prop) : wTest W ρ q = W ρ (tq q) := propext Iff.rfl
theorem e_tq (q : Bool → Prop) (b : Bool) : tq q (.bl b) = q b := propext Iff.rfl
theorem e_and (q : Bool → Prop) : wAnd T U ρ q = T ρ fun b => if b = true then U ρ q else q false := propext Iff.rfl
theorem e_or (q : Bool → Prop) : wOr T U ρ q = T ρ fun b => if b = true then q true else U ρ q := propext Iff.rfl
theorem e_not (q : Bool → Prop) : wNot T ρ q = T ρ fun b => q (!b) := propext Iff.rfl
theorem e_andV : wAndV Wa Wb ρ q = Wa ρ (aq (Wb ρ) q) := propext Iff.rfl
theorem e_orV : wOrV Wa Wb ρ q = Wa ρ (oq (Wb ρ) q) := propext Iff.rfl
theorem e_aq1 (B : (D → Prop) → Prop) : aq B q (.bl true) = B q := propext Iff.rfl
theorem e_aq0 (B : (D → Prop) → Prop) : aq B q (.bl false) = q (.bl false) := propext Iff.rfl
theorem e_oq1 (B : (D → Prop) → Prop) : oq B q (.bl true) = q (.bl true) := propext Iff.rfl
theorem e_oq0 (B : (D → Prop) → Prop) : oq B q (.bl false) = B q := propext Iff.rfl
theorem e_c : wC d ρ q = q d := propext Iff.rfl
theorem e_op : wOp f Wa Wb ρ q = Wa ρ fun x => Wb ρ fun y => f x y q := propext Iff.rfl
theorem e_neg : wNeg W ρ q = W ρ (ngq q) := propext Iff.rfl
theorem e_ngq (i : Int) : ngq q (.int i) = q (.int (-i)) := propext Iff.rfl
theorem e_nil (q : List D → Prop) : waNil ρ q = q [] := propext Iff.rfl
theorem e_cons (q : List D → Prop) : waCons W WL ρ q = W ρ fun d => WL ρ fun ds => q (d :: ds) := propext Iff.rfl
theorem e_call : wCall wf ep WL ρ q = WL ρ fun ds => wf ds q ep := propext Iff.rfl
theorem e_callK {pm : List Nat} : wCallK wf ep pm WL WK ρ q = WL ρ fun ds => WK ρ fun es => wf (pick pm .non (ds ++ es)) q ep := propext Iff.rfl
theorem e_cb {f : FL} : wCB f WL ρ q = WL ρ fun ds => f ds q := propext Iff.rfl
theorem e_tup : wTup WL ρ q = WL ρ fun ds => ds.length ≤ sizeLine ∧ q (.tup ds) := propext Iff.rfl
theorem e_lst : wLst WL ρ q = WL ρ fun ds => ds.length ≤ sizeLine ∧ q (.lst ds) := propext Iff.rfl
theorem e_sl {Wl Wh : WO} : wSl W Wl Wh ρ q = W ρ fun d => Wl ρ fun l => Wh ρ fun h => fSl d l h q := propext Iff.rfl
theorem e_oN (q : Option Int → Prop) : woNone ρ q = q none := propext Iff.rfl
theorem e_oS (q : Option Int → Prop) : woSome W ρ q = W ρ (soq q) := propext Iff.rfl
theorem e_soq (q : Option Int → Prop) (i : Int) : soq q (.int i) = q (some i) := propext Iff.rfl
theorem e_rev : wRevT W ρ q = W ρ (rvq q) := propext Iff.rfl
theorem e_rvq : rvq q (.tup ds) = q (.tup ds.reverse) := propext Iff.rfl
theorem e_var0 : wVar 0 (some (.val d) :: ρ) q = q d := propext Iff.rfl
theorem e_varS {n : Nat} {x : Option Slot} : wVar (n + 1) (x :: ρ) q = wVar n ρ q := propext Iff.rfl
theorem e_varB0 : wVarB 0 (some (.val d) :: ρ) q = q d := propext Iff.rfl
theorem e_varBo : wVarB 0 (some (.own ds) :: ρ) q = q (.lst ds) := propext Iff.rfl
theorem e_varBS {n : Nat} {x : Option Slot} : wVarB (n + 1) (x :: ρ) q = wVarB n ρ q := propext Iff.rfl
theorem e_gn {i : Nat} (q : Env → Prop) : wgName i d ρ q = q (ρ.set i (some (.val d))) := propext Iff.rfl
theorem e_go {i : Nat} (q : Env → Prop) : wgOwn i (.lst ds) ρ q = q (ρ.set i (some (.own ds))) := propext Iff.rfl
theorem e_gt (q : Env → Prop) : wgTup gs (.tup ds) ρ q = gs ds ρ q := propext Iff.rfl
theorem e_gsc (q : Env → Prop) : wgsCons g gs (d :: ds) ρ q = g d ρ fun ρ' => gs ds ρ' q := propext Iff.rfl
theorem e_gsn (q : Env → Prop) : wgsNil [] ρ q = q ρ := propext Iff.rfl
theorem e_fl_t (a : List D) : fLen [.tup a] q = q (.int a.length) := propext Iff.rfl
theorem e_fl_l (a : List D) : fLen [.lst a] q = q (.int a.length) := propext Iff.rfl
theorem e_fl_s (a : List Int) : fLen [.scr a] q = q (.int a.length) := propext Iff.rfl
theorem e_sl_t (a : List D) (lo hi : Option Int) : fSl (.tup a) lo hi q = q (.tup (cut a lo hi)) := propext Iff.rfl
theorem e_isN : fIsN d .non q = q (.bl d.isNon) := propext Iff.rfl
theorem e_notN : fNotN d .non q = q (.bl (!d.isNon)) := propext Iff.rfl
theorem e_max2 (i j : Int) : fMax [.int i, .int j] q = q (.int (maxI i j)) := propext Iff.rfl
theorem e_min2 (i j : Int) : fMin [.int i, .int j] q = q (.int (minI i j)) := propext Iff.rfl
theorem e_int1 (i : Int) : fInt [.int i] q = q (.int i) := propext Iff.rfl
theorem e_abs1 (i : Int) : fAbs [.int i] q = q (.int (if i < 0 then -i else i)) := propext Iff.rfl
theorem e_tupl (a : List D) : fTuple [.lst a] q = q (.tup a) := propext Iff.rfl
theorem e_wseq {Wi : WE} (q : List D → Prop) : wiSeq Wi ρ q = Wi ρ fun d => match d with | .tup ds => q ds | .lst ds => q ds | .scr ns => q (ns.map .int) | _ => False := propext Iff.rfl
theorem e_lc {Wi : WI} {We : WE} {vs : List Nat} : wLc Wi g T We vs ρ q = Wi ρ fun ds => wLcL g T We (wipeE ρ vs) ds [] fun acc => q (.lst acc) := propext Iff.rfl
def r1q (q : List D → Prop) : List D → Prop := fun ds => match ds with | [.int j] => (-(2 ^ 62) ≤ j ∧ j < 2 ^ 62) ∧ q (rangeD 0 j) | _ => False
theorem e_rng1 (q : List D → Prop) : wiRng1 WL ρ q = WL ρ (r1q q) := propext Iff.rfl
theorem e_r1q (q : List D → Prop) (j : Int) : r1q q [.int j] = ((-(2 ^ 62) ≤ j ∧ j < 2 ^ 62) ∧ q (rangeD 0 j)) := propext Iff.rfl
theorem e_bowl {wh wg : WF} : wBowlCall wh wg WL ρ q = WL ρ fun ds => wh ds (fun r => (∃ i j l, r = .lst [.int i, .int j, .int l]) ∧ wg [.bowl] (fun d => (∃ b, d = .bl b) ∧ q d) fun _ => False) fun _ => False := propext Iff.rfl
theorem e_wipe0 : wipeE ρ [] = ρ := rfl
theorem e_wipe1 {v : Nat} : wipeE ρ [v] = ρ.set v none := rfl
theorem e_for {Wi : WI} {body : WS} : wFor Wi g body k ρ = Wi ρ fun ds => wForL g body k ds ρ := propext Iff.rfl
end DL
set_option Elab.async false
set_option linter.all false
set_option maxRecDepth 100000
set_option maxHeartbeats 4000000
/-! DLR: more small steps. -/
namespace DL
open PySem PySem.Spec PyProof.Rows L2
section
variable {W Wa Wb Wc : WE} {ρ : Env} {q : D → Prop} {f g : F2} {a b c d e : D} {ds : List D}
theorem e_chain : wChain f g Wa Wb Wc ρ q = Wa ρ fun x => Wb ρ fun y => f x y (aq (fun q => Wc ρ fun w => g y w q) q) := propext Iff.rfl
theorem ix_atI {i : Int} (h : atI ds i = some d) : fIx (.tup ds) (.int i) q = q d := propext ⟨fun ⟨d', e, w⟩ => by rw [h] at e; cases e; exact w, fun w => ⟨d, h, w⟩⟩
theorem ixl_atI {i : Int} (h : atI ds i = some d) : fIx (.lst ds) (.int i) q = q d := propext ⟨fun ⟨d', e, w⟩ => by rw [h] at e; cases e; exact w, fun w => ⟨d, h, w⟩⟩
theorem at0 : atI (a :: ds) 0 = some a := by rw [show (0 : Int) = ((0 : Nat) : Int) from rfl, atI_ix]; rfl
theorem at1 : atI (a :: b :: ds) 1 = some b := by rw [show (1 : Int) = ((1 : Nat) : Int) from rfl, atI_ix]; rfl
theorem at2 : atI (a :: b :: c :: ds) 2 = some c := by rw [show (2 : Int) = ((2 : Nat) : Int) from rfl, atI_ix]; rfl
theorem at3 : atI (a :: b :: c :: d :: ds) 3 = some d := by rw [show (3 : Int) = ((3 : Nat) : Int) from rfl, atI_ix]; rfl
theorem ix_t0 : fIx (.tup (a :: ds)) (.int 0) q = q a := ix_atI at0
theorem ix_t1 : fIx (.tup (a :: b :: ds)) (.int 1) q = q b := ix_atI at1
theorem ix_t2 : fIx (.tup (a :: b :: c :: ds)) (.int 2) q = q c := ix_atI at2
theorem ix_t3 : fIx (.tup (a :: b :: c :: d :: ds)) (.int 3) q = q d := ix_atI at3
theorem ix_l0 : fIx (.lst (a :: ds)) (.int 0) q = q a := ixl_atI at0
theorem ix_l1 : fIx (.lst (a :: b :: ds)) (.int 1) q = q b := ixl_atI at1
theorem ix_last : fIx (.tup (ds ++ [a])) (.int (-1)) q = q a := ix_atI (DL.atI_last ds a)
theorem ixl_last : fIx (.lst (ds ++ [a])) (.int (-1)) q = q a := ixl_atI (DL.atI_last ds a)
def wsq (q : List D → Prop) : D → Prop := fun d => match d with | .tup ds => q ds | .lst ds => q ds | .scr ns => q (ns.map .int) | _ => False
theorem e_wseqN (q : List D → Prop) : wiSeq W ρ q = W ρ (wsq q) := propext Iff.rfl
theorem e_wsq_t (q : List D → Prop) : wsq q (.tup ds) = q ds := propext Iff.rfl
theorem e_wsq_l (q : List D → Prop) : wsq q (.lst ds) = q ds := propext Iff.rfl
def enq (q : List D → Prop) : List D → Prop := fun ds => match ds with | [.tup a] => q (enumD 0 a) | [.lst a] => q (enumD 0 a) | _ => False
theorem e_enum {WL : WA} (q : List D → Prop) : wiEnum WL ρ q = WL ρ (enq q) := propext Iff.rfl
theorem e_enq_t (q : List D → Prop) : enq q [.tup ds] = q (enumD 0 ds) := propext Iff.rfl
theorem e_enq_l (q : List D → Prop) : enq q [.lst ds] = q (enumD 0 ds) := propext Iff.rfl
def r2q (q : List D → Prop) : List D → Prop := fun ds => match ds with | [.int i, .int j] => (-(2 ^ 62) ≤ i ∧ i < 2 ^ 62 ∧ -(2 ^ 62) ≤ j ∧ j < 2 ^ 62) ∧ q (rangeD i j) | _ => False
theorem e_rng2 {WL : WA} (q : List D → Prop) : wiRng2 WL ρ q = WL ρ (r2q q) := propext Iff.rfl
theorem e_r2q (q : List D → Prop) (i j : Int) : r2q q [.int i, .int j] = ((-(2 ^ 62) ≤ i ∧ i < 2 ^ 62 ∧ -(2 ^ 62) ≤ j ∧ j < 2 ^ 62) ∧ q (rangeD i j)) := propext Iff.rfl
theorem add_tt (x y : List D) : fAdd (.tup x) (.tup y) q = (x.length + y.length ≤ sizeLine ∧ q (.tup (x ++ y))) := propext Iff.rfl
theorem add_ll (x y : List D) : fAdd (.lst x) (.lst y) q = (x.length + y.length ≤ sizeLine ∧ q (.lst (x ++ y))) := propext Iff.rfl
theorem cat_ll (x y : List D) : fCatL (.lst x) (.lst y) q = (x.length + y.length ≤ sizeLine ∧ q (.lst (x ++ y))) := propext Iff.rfl
theorem list_t (x : List D) : fList [.tup x] q = q (.lst x) := propext Iff.rfl
theorem list_l (x : List D) : fList [.lst x] q = q (.lst x) := propext Iff.rfl
theorem tuple_t (x : List D) : fTuple [.tup x] q = q (.tup x) := propext Iff.rfl
theorem sl_l (x : List D) (lo hi : Option Int) : fSl (.lst x) lo hi q = q (.lst (cut x lo hi)) := propext Iff.rfl
theorem e_app {i : Nat} {k : WEnds} : wApp i W k ρ = (match ρ[i]? with | some (some (.own ds)) => W ρ fun d => ds.length < sizeLine ∧ k.nx (ρ.set i (some (.own (ds ++ [d])))) | _ => False) := propext Iff.rfl
theorem e_app0 {k : WEnds} : wApp 0 W k (some (.own ds) :: ρ) = W (some (.own ds) :: ρ) (fun d => ds.length < sizeLine ∧ k.nx (some (.own (ds ++ [d])) :: ρ)) := propext Iff.rfl
theorem e_wipeL {v : Nat} {vs : List Nat} : wipeE ρ (v :: vs) = (wipeE ρ vs).set v none := rfl
theorem e_wipeN : wipeE ρ [] = ρ := rfl
theorem isi_str (s : PySem.Str) : fIsi [.str s, .ty "int"] q = q (.bl false) ∧ fIsi [.str s, .ty "bool"] q = q (.bl false) ∧ fIsi [.str s, .ty "tuple"] q = q (.bl false) ∧ fIsi [.str s, .ty "list"] q = q (.bl false) ∧ fIsi [.str s, .ty "str"] q = q (.bl true) := by
  obtain ⟨_, _, _, _, _, _, _, _, _, _, _, _, _, _, _, _, _, _, _, _, _, _, _, _, _, h1, h2, h3, h4, h5⟩ := kits
  exact ⟨isi_eq rfl h1, isi_eq rfl h2, isi_eq rfl h3, isi_eq rfl h4, isi_eq rfl h5⟩
theorem isi_str_int (s : PySem.Str) : fIsi [.str s, .ty "int"] q = q (.bl false) := (isi_str s).1
theorem isi_str_bool (s : PySem.Str) : fIsi [.str s, .ty "bool"] q = q (.bl false) := (isi_str s).2.1
theorem isi_str_tuple (s : PySem.Str) : fIsi [.str s, .ty "tuple"] q = q (.bl false) := (isi_str s).2.2.1
theorem isi_str_list (s : PySem.Str) : fIsi [.str s, .ty "list"] q = q (.bl false) := (isi_str s).2.2.2.1
theorem isi_str_str (s : PySem.Str) : fIsi [.str s, .ty "str"] q = q (.bl true) := (isi_str s).2.2.2.2
end
section
variable {W Wa Wb : WE} {WL : WA} {ρ : Env} {q : D → Prop} {ds : List D} {k : WEnds} {A : WS} {wf : WF} {wh : WF → WF} {lf : Env → WF} {ep : Ex → Prop}
theorem e_par2 {i j : Nat} {Ma Mb : WM} : wPar2 i j Ma Mb k ρ = Ma ρ fun x => Mb ρ fun y => k.nx ((ρ.set i (some x)).set j (some y)) := propext Iff.rfl
theorem e_par3 {i j l : Nat} {Ma Mb Mc : WM} : wPar3 i j l Ma Mb Mc k ρ = Ma ρ fun x => Mb ρ fun y => Mc ρ fun z => k.nx (((ρ.set i (some x)).set j (some y)).set l (some z)) := propext Iff.rfl
theorem e_par4 {i1 i2 i3 i4 : Nat} {M1 M2 M3 M4 : WM} : wPar4 i1 i2 i3 i4 M1 M2 M3 M4 k ρ = M1 ρ fun s1 => M2 ρ fun s2 => M3 ρ fun s3 => M4 ρ fun s4 => k.nx ((((ρ.set i1 (some s1)).set i2 (some s2)).set i3 (some s3)).set i4 (some s4)) := propext Iff.rfl
theorem e_mval (q : Slot → Prop) : wmVal W ρ q = W ρ fun d => q (.val d) := propext Iff.rfl
def owq (q : Slot → Prop) : D → Prop := fun d => match d with | .lst ds => q (.own ds) | _ => False
theorem e_mown (q : Slot → Prop) : wmOwn W ρ q = W ρ (owq q) := propext Iff.rfl
theorem e_owq (q : Slot → Prop) : owq q (.lst ds) = q (.own ds) := propext Iff.rfl
theorem e_frz {i : Nat} : wFreeze i A k ρ = (match ρ[i]? with | some (some (.own ds)) => A k (ρ.set i (some (.val (.lst ds)))) | _ => A k ρ) := propext Iff.rfl
theorem e_appM {i : Nat} : wApp i W k ρ = (match ρ[i]? with | some (some (.own ds)) => W ρ fun d => ds.length < sizeLine ∧ k.nx (ρ.set i (some (.own (ds ++ [d])))) | _ => False) := propext Iff.rfl
def ptq (ds : List D) (d : D) (q : List D → Prop) : D → Prop := fun z => match z with | .int j => ∃ n, ixN ds.length j = some n ∧ q (ds.set n d) | _ => False
theorem e_put {i : Nat} {Wi We : WE} : wPut i Wi We k ρ = We ρ fun d => (match ρ[i]? with | some (some (.own ds)) => Wi ρ (ptq ds d fun es => k.nx (ρ.set i (some (.own es)))) | _ => False) := propext Iff.rfl
theorem e_ptq {d : D} {j n : Nat} (q : List D → Prop) (h : ds.length = n) (hj : j < n) : ptq ds d q (.int (j : Int)) = q (ds.set j d) := by
  have e : ixN ds.length (j : Int) = some j := by
    unfold ixN
    rw [if_pos (by omega), if_pos (by omega), Int.toNat_natCast]
  exact propext ⟨fun ⟨m, h1, h2⟩ => by rw [e] at h1; cases h1; exact h2, fun h => ⟨j, e, h⟩⟩
def nvq (q : D → Prop) : D → Prop := fun d => match d with | .bl b => q (.bl (!b)) | _ => False
theorem e_notV : wNotV W ρ q = W ρ (nvq q) := propext Iff.rfl
theorem e_nvq (b : Bool) : nvq q (.bl b) = q (.bl (!b)) := propext Iff.rfl
def ix2q (dss : List (List D)) (W2 : (D → Prop) → Prop) (q : D → Prop) : D → Prop := fun d1 => match d1 with
  | .int z => ∃ ds, atI dss z = some ds ∧ W2 fun d2 => match d2 with
    | .int y => ∃ d, atI ds y = some d ∧ q d
    | _ => False
  | _ => False
theorem e_ix2 {i : Nat} : wIx2 i Wa Wb ρ q = (match ρ[i]? with | some (some (.own2 dss)) => Wa ρ (ix2q dss (Wb ρ) q) | _ => False) := propext Iff.rfl
def ix1q (ds : List D) (q : D → Prop) : D → Prop := fun d => match d with | .int y => ∃ d, atI ds y = some d ∧ q d | _ => False
theorem e_ix2q {dss : List (List D)} {W2 : (D → Prop) → Prop} {z : Int} : ix2q dss W2 q (.int z) = ∃ ds, atI dss z = some ds ∧ W2 (ix1q ds q) := propext Iff.rfl
theorem e_ix1q {y : Int} : ix1q ds q (.int y) = ∃ d, atI ds y = some d ∧ q d := propext Iff.rfl
def pt2q (dss : List (List D)) (d : D) (W2 : (D → Prop) → Prop) (q : List (List D) → Prop) : D → Prop := fun z1 => match z1 with
  | .int z => ∃ n ds, ixN dss.length z = some n ∧ dss[n]? = some ds ∧ W2 fun z2 => match z2 with
    | .int y => ∃ m, ixN ds.length y = some m ∧ q (dss.set n (ds.set m d))
    | _ => False
  | _ => False
theorem e_put2 {i : Nat} {W1 W2 We : WE} : wPut2 i W1 W2 We k ρ = We ρ fun d => (match ρ[i]? with | some (some (.own2 dss)) => W1 ρ (pt2q dss d (W2 ρ) fun es => k.nx (ρ.set i (some (.own2 es)))) | _ => False) := propext Iff.rfl
theorem e_go2 {i : Nat} {d : D} (q : Env → Prop) : wgOwn2 i d ρ q = (noOwn2 (ρ.set i none) = true ∧ ∃ dss : List (List D), d = .lst (dss.map D.lst) ∧ q (ρ.set i (some (.own2 dss)))) := propext Iff.rfl
theorem e_callHO : wCallHO wh lf ep WL ρ q = WL ρ fun ds => wh (lf ρ) ds q ep := propext Iff.rfl
def mkq (wl : WF) (q : D → Prop) : D → Prop := fun d => match d with | .lst ds => wKey wl q ds | _ => False
theorem e_maxK : wMaxK W lf ρ q = W ρ (mkq (lf ρ) q) := propext Iff.rfl
theorem e_mkq {wl : WF} : mkq wl q (.lst ds) = wKey wl q ds := propext Iff.rfl
end
/-! sums, greatest, least of lists of ints -/
theorem map_int_inj {xs ys : List Int} (h : xs.map D.int = ys.map D.int) : xs = ys := by
  have := congrArg (List.map fun d : D => match d with | .int i => i | _ => 0) h
  simpa [List.map_map, Function.comp_def] using this
theorem sum_l {q : D → Prop} (ns : List Int) (h : q (.int ns.sum)) : fSum [.lst (ns.map .int)] q := ⟨ns, rfl, h⟩
theorem sum_t {q : D → Prop} (ns : List Int) (h : q (.int ns.sum)) : fSum [.tup (ns.map .int)] q := ⟨ns, rfl, h⟩
/-! what is a whole number, a number within two -/
def D.isWhole : D → Bool
  | .int _ => true
  | _ => false
def D.btw (a b : Int) : D → Bool
  | .int i => decide (a ≤ i) && decide (i ≤ b)
  | _ => false
theorem D.btw_true {a b : Int} {d : D} (h : d.btw a b = true) : ∃ i : Int, d = .int i ∧ a ≤ i ∧ i ≤ b := by
  cases d with
  | int i =>
    unfold D.btw at h
    rw [Bool.and_eq_true, decide_eq_true_eq, decide_eq_true_eq] at h
    exact ⟨i, rfl, h.1, h.2⟩
  | _ => cases h
theorem D.btw_int {a b i : Int} : (D.int i).btw a b = (decide (a ≤ i) && decide (i ≤ b)) := rfl
theorem D.btw_of {a b i : Int} (h1 : a ≤ i) (h2 : i ≤ b) : (D.int i).btw a b = true := by rw [D.btw_int, decide_eq_true h1, decide_eq_true h2]; rfl
/-- a tuple of just n things -/
def D.tupN (n : Nat) : D → Bool
  | .tup xs => xs.length == n
  | _ => false
theorem pures_mem : ∀ {ds : List D}, D.pures ds = true → ∀ d ∈ ds, d.pure = true
  | [], _, d, h => by cases h
  | e :: es, hp, d, h => by
    have hp' : (e.pure && D.pures es) = true := hp
    rw [Bool.and_eq_true] at hp'
    rcases List.mem_cons.mp h with rfl | h
    · exact hp'.1
    · exact pures_mem hp'.2 d h
theorem pures_all : ∀ {ds : List D}, (∀ d ∈ ds, d.pure = true) → D.pures ds = true
  | [], _ => rfl
  | e :: es, h => by
    show (e.pure && D.pures es) = true
    rw [h e List.mem_cons_self, pures_all fun d hd => h d (List.mem_cons_of_mem _ hd)]
    rfl
theorem pure_tup {ds : List D} : (D.tup ds).pure = D.pures ds := rfl
theorem pure_lst {ds : List D} : (D.lst ds).pure = D.pures ds := rfl
theorem e_lc2 {Wi Wi1 : WI} {g g1 : WG} {T T1 : WT} {We : WE} {vs vs1 : List Nat} {ρ : Env} {q : D → Prop} : wLc2 Wi g T Wi1 g1 T1 We vs vs1 ρ q = Wi ρ fun ds => wLc2L g T Wi1 g1 T1 We vs1 (wipeE ρ vs) ds [] fun acc => q (.lst acc) := propext Iff.rfl
theorem nn_non : D.non.isNon = true := rfl
theorem nn_int (i : Int) : (D.int i).isNon = false := rfl
theorem nn_bl (i : Bool) : (D.bl i).isNon = false := rfl
theorem nn_str (i : PySem.Str) : (D.str i).isNon = false := rfl
theorem nn_tup (i : List D) : (D.tup i).isNon = false := rfl
theorem nn_lst (i : List D) : (D.lst i).isNon = false := rfl
theorem e_deN : deown [] = [] := rfl
theorem e_deV {d : D} {ρ : Env} : deown (some (.val d) :: ρ) = some (.val d) :: deown ρ := rfl
theorem e_deO {ds : List D} {ρ : Env} : deown (some (.own ds) :: ρ) = none :: deown ρ := rfl
theorem e_de0 {ρ : Env} : deown (none :: ρ) = none :: deown ρ := rfl
theorem lc_filt {α : Type} {g : WG} {T : WT} {We : WE} {ρw : Env} {q : List D → Prop} (rd f : α → D) (p : α → Bool) : ∀ (xs : List α) (acc : List D), (∀ x ∈ xs, ∀ (A : D → Prop) (B : Prop), (p x = true → A (f x)) → (p x = false → B) → g (rd x) ρw fun ρ2 => T ρ2 fun b => if b = true then We ρ2 A else B) → acc.length + xs.length < 16777216 →
    q (acc ++ (xs.filter p).map f) → wLcL g T We ρw (xs.map rd) acc q
  | [], acc, _, _, h => by
    rw [List.filter_nil, List.map_nil, List.append_nil] at h
    exact h
  | x :: xs, acc, he, hn, h => by
    rw [List.length_cons] at hn
    refine he x List.mem_cons_self _ _ (fun e => ⟨by rw [sizeLine_eq]; omega, lc_filt rd f p xs _ (fun y hy => he y (List.mem_cons_of_mem _ hy)) ?_ ?_⟩) fun e => lc_filt rd f p xs _ (fun y hy => he y (List.mem_cons_of_mem _ hy)) (by omega) ?_
    · rw [List.length_append, List.length_singleton]
      omega
    · rw [List.filter_cons_of_pos e] at h
      rw [List.append_assoc]
      exact h
    · rw [List.filter_cons_of_neg (by rw [e]; exact Bool.false_ne_true)] at h
      exact h
theorem lc2_map {α : Type} {g g1 : WG} {Wi1 : WI} {T1 : WT} {We : WE} {vs1 : List Nat} {ρw : Env} {q : List D → Prop} (rd : α → D) (f : α → List D) : ∀ (xs : List α) (acc : List D),
    (∀ x ∈ xs, ∀ (acc : List D) (k : List D → Prop), acc.length + (f x).length < 16777216 → k (acc ++ f x) → g (rd x) ρw fun ρ2 => Wi1 ρ2 fun es => wLcL g1 T1 We (wipeE (deown ρ2) vs1) es acc k) →
    acc.length + (xs.flatMap f).length < 16777216 → q (acc ++ xs.flatMap f) → wLc2L g wYes Wi1 g1 T1 We vs1 ρw (xs.map rd) acc q
  | [], acc, _, _, h => by
    rw [List.flatMap_nil, List.append_nil] at h
    exact h
  | x :: xs, acc, he, hn, h => by
    rw [List.flatMap_cons, List.length_append] at hn
    rw [List.flatMap_cons, ← List.append_assoc] at h
    have e : (fun ρ2 : Env => wYes ρ2 fun b => if b = true then Wi1 ρ2 fun es => wLcL g1 T1 We (wipeE (deown ρ2) vs1) es acc fun acc' => wLc2L g wYes Wi1 g1 T1 We vs1 ρw (xs.map rd) acc' q else wLc2L g wYes Wi1 g1 T1 We vs1 ρw (xs.map rd) acc q) = fun ρ2 => Wi1 ρ2 fun es => wLcL g1 T1 We (wipeE (deown ρ2) vs1) es acc fun acc' => wLc2L g wYes Wi1 g1 T1 We vs1 ρw (xs.map rd) acc' q := by
      funext ρ2
      simp [wYes]
    show g (rd x) ρw fun ρ2 => wYes ρ2 fun b => if b = true then Wi1 ρ2 fun es => wLcL g1 T1 We (wipeE (deown ρ2) vs1) es acc fun acc' => wLc2L g wYes Wi1 g1 T1 We vs1 ρw (xs.map rd) acc' q else wLc2L g wYes Wi1 g1 T1 We vs1 ρw (xs.map rd) acc q
    rw [e]
    refine he x List.mem_cons_self acc _ (by omega) (lc2_map rd f xs _ (fun y hy => he y (List.mem_cons_of_mem _ hy)) ?_ h)
    rw [List.length_append]
    omega
end DL
set_option Elab.async false
set_option linter.all false
set_option maxRecDepth 100000
set_option maxHeartbeats 0
namespace HX
open PySem PySem.Spec PyProof.Rows L2 DL NdefX LamX
def top (i : Nat) : Stmt := PySem.Challenge.pw_layerwebs_k56_whole_most_brought_of_sixt.main.body.getD i (.Pass ⟨0, 0, 0, 0⟩)
abbrev s_is_whole : Stmt := top 5
abbrev s_is_between : Stmt := top 6
abbrev s_is_up_to : Stmt := top 7
abbrev s_is_tuple_of : Stmt := top 8
abbrev s_wrong_in : Stmt := top 9
abbrev s_wrong_in_damages : Stmt := top 15
abbrev s_is_clause : Stmt := top 16
abbrev s_brought_of : Stmt := top 17
abbrev s_sum_of : Stmt := top 18
abbrev s_windows_to : Stmt := top 19
abbrev s_longer_by : Stmt := top 20
abbrev s_best_line : Stmt := top 21
abbrev s_best_by : Stmt := top 22
abbrev s_check_hours : Stmt := top 24
abbrev s_most_brought : Stmt := top 25
abbrev s_best_choice : Stmt := top 26
abbrev s__law_flask : Stmt := top 28
abbrev s__law_pour : Stmt := top 29
abbrev s__law_of : Stmt := top 30
abbrev s__law_same : Stmt := top 31
abbrev s__law_is_number : Stmt := top 32
abbrev s__law_layered : Stmt := top 33
abbrev s__law_damages : Stmt := top 34
abbrev s__law_clause : Stmt := top 35
abbrev s__law_is_choice : Stmt := top 36
abbrev s__law_brings : Stmt := top 37
abbrev s__law_most : Stmt := top 38
abbrev s__law_is_told : Stmt := top 39
abbrev s__law_blocks_right : Stmt := top 40
abbrev s__law_right : Stmt := top 41
abbrev s_law : Stmt := top 42
structure Mod (K : PySem.W.Frag) (mg : PySem.Str → Option Value) (base : Heap) (T : List (Addr × PySem.Str)) : Prop where
  z_abs : mg "abs" = none
  z_all : mg "all" = none
  z_bool : mg "bool" = none
  z_divmod : mg "divmod" = none
  z_enumerate : mg "enumerate" = none
  z_int : mg "int" = none
  z_isinstance : mg "isinstance" = none
  z_len : mg "len" = none
  z_list : mg "list" = none
  z_max : mg "max" = none
  z_min : mg "min" = none
  z_range : mg "range" = none
  z_str : mg "str" = none
  z_sum : mg "sum" = none
  z_super : mg "super" = none
  z_tuple : mg "tuple" = none
  z_zip : mg "zip" = none
  i_MOST_DAMAGES : ∃ t, mg "MOST_DAMAGES" = some (.int 60 t)
  i_MOST_HOURS : ∃ t, mg "MOST_HOURS" = some (.int 60 t)
  i_MOST_COUNT : ∃ t, mg "MOST_COUNT" = some (.int 9 t)
  i_MOST_END : ∃ t, mg "MOST_END" = some (.int 9999 t)
  d_is_whole : DefE K mg "is_whole" s_is_whole ["value"]
  d_is_between : DefE K mg "is_between" s_is_between ["value", "least", "most"]
  d_is_up_to : DefE K mg "is_up_to" s_is_up_to ["value", "most"]
  d_is_tuple_of : DefE K mg "is_tuple_of" s_is_tuple_of ["value", "many"]
  d_wrong_in : DefE K mg "wrong_in" s_wrong_in ["value", "least", "most", "is_right"]
  d_wrong_in_damages : ∃ c P, DefT K mg base T "wrong_in_damages" s_wrong_in_damages ["value"] c P
  d_is_clause : DefE K mg "is_clause" s_is_clause ["value"]
  d_brought_of : DefE K mg "brought_of" s_brought_of ["clause", "amount"]
  d_sum_of : DefE K mg "sum_of" s_sum_of ["damages", "window"]
  d_windows_to : DefE K mg "windows_to" s_windows_to ["damages", "clause", "last"]
  d_longer_by : DefE K mg "longer_by" s_longer_by ["damages", "clause", "way", "window"]
  d_best_line : ∃ c P, DefT K mg base T "best_line" s_best_line ["damages", "clause", "before"] c P
  d_best_by : DefE K mg "best_by" s_best_by ["damages", "clause"]
  d_check_hours : DefE K mg "check_hours" s_check_hours ["damages", "clause"]
  d_most_brought : DefE K mg "most_brought" s_most_brought ["damages", "clause"]
  d_best_choice : DefE K mg "best_choice" s_best_choice ["damages", "clause"]
  d__law_flask : DefE K mg "_law_flask" s__law_flask ["script", "lap"]
  d__law_pour : DefE K mg "_law_pour" s__law_pour ["flask", "many"]
  d__law_of : DefE K mg "_law_of" s__law_of ["flask", "some"]
  d__law_same : DefE K mg "_law_same" s__law_same ["told", "due"]
  d__law_is_number : DefE K mg "_law_is_number" s__law_is_number ["thing", "low", "high"]
  d__law_layered : DefE K mg "_law_layered" s__law_layered ["clause", "total"]
  d__law_damages : DefE K mg "_law_damages" s__law_damages ["flask", "most"]
  d__law_clause : DefE K mg "_law_clause" s__law_clause ["flask", "damages"]
  d__law_is_choice : DefE K mg "_law_is_choice" s__law_is_choice ["damages", "clause", "thing"]
  d__law_brings : DefE K mg "_law_brings" s__law_brings ["damages", "clause", "choice"]
  d__law_most : DefE K mg "_law_most" s__law_most ["damages", "clause"]
  d__law_is_told : DefE K mg "_law_is_told" s__law_is_told ["damages", "clause", "due"]
  d__law_blocks_right : DefE K mg "_law_blocks_right" s__law_blocks_right ["flask"]
  d__law_right : DefE K mg "_law_right" s__law_right ["flask"]
  d_law : DefE K mg "law" s_law ["script"]
section
variable {P : Program} {w : World} {K : PySem.W.Frag} {mg : PySem.Str → Option Value} {base : Heap} {T : List (Addr × PySem.Str)}
abbrev N_is_whole : List PySem.Str := ["value"]
theorem sc_is_whole : FnScope N_is_whole ["value"] (defScope s_is_whole) := ⟨rfl, rfl, rfl, by decide +kernel, rfl, by decide +kernel, by decide +kernel⟩
def W_is_whole (ep : Ex → Prop) : WS := wRet (wAndV (wCB fIsi (waCons (wVarB 0) (waCons (wC (.ty "int")) (waNil)))) (wNotV (wCB fIsi (waCons (wVarB 0) (waCons (wC (.ty "bool")) (waNil))))))
def wf_is_whole : WF := fun ds q ep => W_is_whole ep { nx := fun _ => q .non, rt := q } (startE 1 ds)
theorem d_is_whole (M : Mod K mg base T) : FnE P w K mg base T 1 "is_whole" s_is_whole ["value"] wf_is_whole := fnE_ok M.d_is_whole sc_is_whole W_is_whole (fun f cdv A outer s E G hr hK at_ => by
  unfold W_is_whole
  exact (dss_one (ds_ret (de_and (de_callB call_isi (cd_isi at_.K) (by rfl) M.z_isinstance boot_isinstance (dab_cons (db_var 0 (pv 0)) (dab_cons (db_of (de_blt (by rfl) M.z_int boot_int)) (dab_nil)))) (de_one (de_not (de_callB call_isi (cd_isi at_.K) (by rfl) M.z_isinstance boot_isinstance (dab_cons (db_var 0 (pv 0)) (dab_cons (db_of (de_blt (by rfl) M.z_bool boot_bool)) (dab_nil))))))))))
abbrev N_is_between : List PySem.Str := ["value", "least", "most"]
theorem sc_is_between : FnScope N_is_between ["value", "least", "most"] (defScope s_is_between) := ⟨rfl, rfl, rfl, by decide +kernel, rfl, by decide +kernel, by decide +kernel⟩
def W_is_between (ep : Ex → Prop) : WS := wRet (wAndV (wCall wf_is_whole ep (waCons (wVar 0) (waNil))) (wChain fLe fLe (wVarB 1) (wVarB 0) (wVarB 2)))
def wf_is_between : WF := fun ds q ep => W_is_between ep { nx := fun _ => q .non, rt := q } (startE 3 ds)
theorem d_is_between (M : Mod K mg base T) : FnE P w K mg base T 2 "is_between" s_is_between ["value", "least", "most"] wf_is_between := fnE_ok M.d_is_between sc_is_between W_is_between (fun f cdv A outer s E G hr hK at_ => by
  unfold W_is_between
  exact (dss_one (ds_ret (de_and (de_callE (k := 1) at_.K at_.T (d_is_whole M) (hr.mono (by decide)) at_.pass (da_cons (de_var 0 (pv 0)) (da_nil)) (by decide) rfl rfl (by decide +kernel) rfl rfl) (de_one (de_chain op_le od_Le op_le od_Le (db_var 1 (pv 1)) (db_var 0 (pv 0)) (db_var 2 (pv 2))))))))
abbrev N_is_up_to : List PySem.Str := ["value", "most"]
theorem sc_is_up_to : FnScope N_is_up_to ["value", "most"] (defScope s_is_up_to) := ⟨rfl, rfl, rfl, by decide +kernel, rfl, by decide +kernel, by decide +kernel⟩
def W_is_up_to (ep : Ex → Prop) : WS := wRet (wCall wf_is_between ep (waCons (wVar 0) (waCons (wC (.int 0)) (waCons (wVar 1) (waNil)))))
def wf_is_up_to : WF := fun ds q ep => W_is_up_to ep { nx := fun _ => q .non, rt := q } (startE 2 ds)
theorem d_is_up_to (M : Mod K mg base T) : FnE P w K mg base T 3 "is_up_to" s_is_up_to ["value", "most"] wf_is_up_to := fnE_ok M.d_is_up_to sc_is_up_to W_is_up_to (fun f cdv A outer s E G hr hK at_ => by
  unfold W_is_up_to
  exact (dss_one (ds_ret (de_callE (k := 2) at_.K at_.T (d_is_between M) (hr.mono (by decide)) at_.pass (da_cons (de_var 0 (pv 0)) (da_cons (de_int) (da_cons (de_var 1 (pv 1)) (da_nil)))) (by decide) rfl rfl (by decide +kernel) rfl rfl))))
abbrev N_is_tuple_of : List PySem.Str := ["value", "many"]
theorem sc_is_tuple_of : FnScope N_is_tuple_of ["value", "many"] (defScope s_is_tuple_of) := ⟨rfl, rfl, rfl, by decide +kernel, rfl, by decide +kernel, by decide +kernel⟩
def W_is_tuple_of (ep : Ex → Prop) : WS := wRet (wAndV (wCB fIsi (waCons (wVarB 0) (waCons (wC (.ty "tuple")) (waNil)))) (wOp fEq (wCB fLen (waCons (wVarB 0) (waNil))) (wVarB 1)))
def wf_is_tuple_of : WF := fun ds q ep => W_is_tuple_of ep { nx := fun _ => q .non, rt := q } (startE 2 ds)
theorem d_is_tuple_of (M : Mod K mg base T) : FnE P w K mg base T 1 "is_tuple_of" s_is_tuple_of ["value", "many"] wf_is_tuple_of := fnE_ok M.d_is_tuple_of sc_is_tuple_of W_is_tuple_of (fun f cdv A outer s E G hr hK at_ => by
  unfold W_is_tuple_of
  exact (dss_one (ds_ret (de_and (de_callB call_isi (cd_isi at_.K) (by rfl) M.z_isinstance boot_isinstance (dab_cons (db_var 0 (pv 0)) (dab_cons (db_of (de_blt (by rfl) M.z_tuple boot_tuple)) (dab_nil)))) (de_one (de_cmpK (r := rEqD) at_.K (op_eqD hr.units) od_Eq (db_of (de_callB call_len (cd_len at_.K) (by rfl) M.z_len boot_len (dab_cons (db_var 0 (pv 0)) (dab_nil)))) (db_var 1 (pv 1)) (nomark _)))))))
abbrev N_wrong_in : List PySem.Str := ["value", "least", "most", "is_right", "index", "each"]
theorem sc_wrong_in : FnScope N_wrong_in ["value", "least", "most", "is_right"] (defScope s_wrong_in) := ⟨rfl, rfl, rfl, by decide +kernel, rfl, by decide +kernel, by decide +kernel⟩
def W_wrong_in (fa : Addr) (wl : WF) (ep : Ex → Prop) : WS := wSeq (wIfS (wOr (wNot (wTest (wCB fIsi (waCons (wVarB 0) (waCons (wC (.ty "tuple")) (waNil)))))) (wTest (wOp fLt (wCB fLen (waCons (wVarB 0) (waNil))) (wVarB 1)))) (wRet (wLst (waCons (wC .non) (waNil)))) (wNext)) (wSeq (wFor (wiEnum (waCons (wVar 0) (waNil))) (wgTup (wgsCons (wgName 4) (wgsCons (wgName 5) (wgsNil)))) (wIfS (wOr (wTest (wOp fEq (wVarB 4) (wVarB 2))) (wNot (wTest (wCallV 3 fa wl ep (waCons (wSl (wVarB 0) (woNone) (woSome (wVar 4))) (waCons (wVar 5) (waNil))))))) (wRet (wLst (waCons (wVar 4) (waNil)))) (wNext))) (wRet (wLst (waNil))))
def wf_wrong_in : WF → WF := fun wl ds q ep => ∀ fa, W_wrong_in fa wl ep { nx := fun _ => q .non, rt := q } (startE 6 (ds ++ [.ref fa]))
theorem d_wrong_in (M : Mod K mg base T) {k j : Nat} (hj : j ≤ k) : FnHE P w K mg base T (k + 1) j "wrong_in" s_wrong_in ["value", "least", "most", "is_right"] 2 wf_wrong_in := fnHE_ok M.d_wrong_in sc_wrong_in W_wrong_in (fun f cdv A outer s E G fa wl hr hK at_ L => by
  unfold W_wrong_in
  exact (dss_cons (ds_if (dt_w (dw_or (dt_not (dt_val (de_callB call_isi (cd_isi at_.K) (by rfl) M.z_isinstance boot_isinstance (dab_cons (db_var 0 (pv 0)) (dab_cons (db_of (de_blt (by rfl) M.z_tuple boot_tuple)) (dab_nil)))))) (dw_or1 (dt_cmp op_lt od_Lt (db_of (de_callB call_len (cd_len at_.K) (by rfl) M.z_len boot_len (dab_cons (db_var 0 (pv 0)) (dab_nil)))) (db_var 1 (pv 1)) (nomark _))))) (dss_one (ds_ret (de_lst (da_cons (de_non) (da_nil))))) (dss_nil)) (dss_cons (ds_for (vs := [4, 5]) at_.own rfl (di_enum at_.K (by rfl) M.z_enumerate (da_cons (de_var 0 (pv 0)) (da_nil))) (dg_tup at_.K rfl (dgs_cons (dg_name 4 (by decide) (pg_name (i := 4) sc_wrong_in.nd rfl (Or.inl rfl))) (dgs_cons (dg_name 5 (by decide) (pg_name (i := 5) sc_wrong_in.nd rfl (Or.inl rfl))) (dgs_nil))) (len_name (len_name (len_nil)))) (dss_one (ds_if (dt_w (dw_or (dt_cmpK (r := rEqD) at_.K (op_eqD hr.units) od_Eq (db_var 4 (pv 4)) (db_var 2 (pv 2)) (nomark _)) (dw_or1 (dt_not (dt_val (de_callV at_.K rfl rfl (L.mono hj) hr at_.pass (pv 3) (da_cons (de_slice at_.K (db_var 0 (pv 0)) (do_none) (do_some (de_var 4 (pv 4)))) (da_cons (de_var 5 (pv 5)) (da_nil))) rfl)))))) (dss_one (ds_ret (de_lst (da_cons (de_var 4 (pv 4)) (da_nil))))) (dss_nil)))) (dss_one (ds_ret (de_lst (da_nil)))))))
abbrev N_wrong_in_damages : List PySem.Str := ["value"]
theorem sc_wrong_in_damages : FnScope N_wrong_in_damages ["value"] (defScope s_wrong_in_damages) := ⟨rfl, rfl, rfl, by decide +kernel, rfl, by decide +kernel, by decide +kernel⟩
def W_wrong_in_damages (ep : Ex → Prop) : WS := wRet (wCallHO wf_wrong_in (lamF (fun ep1 => wCall wf_is_up_to ep1 (waCons (wVar 1) (waCons (wC (.int 9999)) (waNil)))) 2 []) ep (waCons (wVar 0) (waCons (wC (.int 1)) (waCons (wC (.int 60)) (waNil)))))
def wf_wrong_in_damages : WF := fun ds q ep => W_wrong_in_damages ep { nx := fun _ => q .non, rt := q } (startE 1 ds)
theorem d_wrong_in_damages (M : Mod K mg base T) : FnE P w K mg base T 6 "wrong_in_damages" s_wrong_in_damages ["value"] wf_wrong_in_damages := by
  obtain ⟨c, Pt, F⟩ := M.d_wrong_in_damages
  exact fnT_ok F sc_wrong_in_damages W_wrong_in_damages (fun f A outer s E G hr hK at_ => by
  unfold W_wrong_in_damages
  exact (dss_one (ds_ret (de_callHE (j := 3) (lf := lamF (fun ep1 => wCall wf_is_up_to ep1 (waCons (wVar 1) (waCons (wC (.int 9999)) (waNil)))) 2 []) at_.K at_.T (d_wrong_in M (k := 4) (j := 4) (by decide)) (hr.mono (by decide)) at_.pass (al_cons (de_var 0 (pv 0)) (al_cons (de_int) (al_cons (de_gint (by rfl) M.i_MOST_DAMAGES) (al_lam (N := ["ahead", "each"]) (ps := ["ahead", "each"]) (fr := []) (js := []) (j := 3) (Wl := fun ep1 => wCall wf_is_up_to ep1 (waCons (wVar 1) (waCons (wC (.int 9999)) (waNil)))) at_.K { TB := F.TB, code := rfl, inT := (by rw [at_.T]; exact F.inT), uniq := (by rw [at_.T]; exact F.uniq), dflt := rfl, S := nscope_by (N := ["ahead", "each"]) (ps := ["ahead", "each"]) (fr := []) (by decide +kernel), free := freeB_ok (sc := defScope s_wrong_in_damages) (by decide +kernel), frm := (by decide +kernel), js := rfl, bind := (fun _ _ _ _ _ us hl => match us, hl with | [_, _], _ => rfl), body := (fun f1 c1 A1 outer1 s1 E1 G1 hr1 hk1 at1 => de_callE (k := 3) at1.K (at1.T.trans at_.T) (d_is_up_to M) (hr1.mono (by decide)) at1.pass (da_cons (de_var 1 (pv 1)) (da_cons (de_gint (by rfl) M.i_MOST_END) (da_nil))) (by decide) rfl rfl (by decide +kernel) rfl rfl) })))) rfl rfl (by decide +kernel) rfl rfl))))
abbrev N_is_clause : List PySem.Str := ["value"]
theorem sc_is_clause : FnScope N_is_clause ["value"] (defScope s_is_clause) := ⟨rfl, rfl, rfl, by decide +kernel, rfl, by decide +kernel, by decide +kernel⟩
def W_is_clause (ep : Ex → Prop) : WS := wSeq (wIfS (wOr (wNot (wTest (wCall wf_is_tuple_of ep (waCons (wVar 0) (waCons (wC (.int 4)) (waNil)))))) (wOr (wNot (wTest (wCall wf_is_between ep (waCons (wOp fIx (wVarB 0) (wC (.int 0))) (waCons (wC (.int 1)) (waCons (wC (.int 60)) (waNil))))))) (wNot (wTest (wCall wf_is_between ep (waCons (wOp fIx (wVarB 0) (wC (.int 1))) (waCons (wC (.int 1)) (waCons (wC (.int 9)) (waNil))))))))) (wRet (wC (.bl false))) (wNext)) (wSeq (wIfS (wNot (wTest (wCall wf_is_up_to ep (waCons (wOp fIx (wVarB 0) (wC (.int 2))) (waCons (wC (.int 9999)) (waNil)))))) (wRet (wC (.bl false))) (wNext)) (wRet (wOrV (wOp fIsN (wOp fIx (wVarB 0) (wC (.int 3))) (wC .non)) (wCall wf_is_between ep (waCons (wOp fIx (wVarB 0) (wC (.int 3))) (waCons (wOp fAdd (wOp fIx (wVarB 0) (wC (.int 2))) (wC (.int 1))) (waCons (wC (.int 9999)) (waNil))))))))
def wf_is_clause : WF := fun ds q ep => W_is_clause ep { nx := fun _ => q .non, rt := q } (startE 1 ds)
theorem d_is_clause (M : Mod K mg base T) : FnE P w K mg base T 4 "is_clause" s_is_clause ["value"] wf_is_clause := fnE_ok M.d_is_clause sc_is_clause W_is_clause (fun f cdv A outer s E G hr hK at_ => by
  unfold W_is_clause
  exact (dss_cons (ds_if (dt_w (dw_or (dt_not (dt_val (de_callE (k := 1) at_.K at_.T (d_is_tuple_of M) (hr.mono (by decide)) at_.pass (da_cons (de_var 0 (pv 0)) (da_cons (de_int) (da_nil))) (by decide) rfl rfl (by decide +kernel) rfl rfl))) (dw_or (dt_not (dt_val (de_callE (k := 2) at_.K at_.T (d_is_between M) (hr.mono (by decide)) at_.pass (da_cons (de_ix at_.K (db_var 0 (pv 0)) (db_of (de_int)) (fun _ _ => rfl)) (da_cons (de_int) (da_cons (de_gint (by rfl) M.i_MOST_HOURS) (da_nil)))) (by decide) rfl rfl (by decide +kernel) rfl rfl))) (dw_or1 (dt_not (dt_val (de_callE (k := 2) at_.K at_.T (d_is_between M) (hr.mono (by decide)) at_.pass (da_cons (de_ix at_.K (db_var 0 (pv 0)) (db_of (de_int)) (fun _ _ => rfl)) (da_cons (de_int) (da_cons (de_gint (by rfl) M.i_MOST_COUNT) (da_nil)))) (by decide) rfl rfl (by decide +kernel) rfl rfl))))))) (dss_one (ds_ret (de_bl))) (dss_nil)) (dss_cons (ds_if (dt_not (dt_val (de_callE (k := 3) at_.K at_.T (d_is_up_to M) (hr.mono (by decide)) at_.pass (da_cons (de_ix at_.K (db_var 0 (pv 0)) (db_of (de_int)) (fun _ _ => rfl)) (da_cons (de_gint (by rfl) M.i_MOST_END) (da_nil))) (by decide) rfl rfl (by decide +kernel) rfl rfl))) (dss_one (ds_ret (de_bl))) (dss_nil)) (dss_one (ds_ret (de_or (de_cmp op_isN od_IsN (db_of (de_ix at_.K (db_var 0 (pv 0)) (db_of (de_int)) (fun _ _ => rfl))) (db_of (de_non)) (nomark _)) (de_one (de_callE (k := 2) at_.K at_.T (d_is_between M) (hr.mono (by decide)) at_.pass (da_cons (de_ix at_.K (db_var 0 (pv 0)) (db_of (de_int)) (fun _ _ => rfl)) (da_cons (de_opK (r := rAdd) at_.K op_Add od_Add (db_of (de_ix at_.K (db_var 0 (pv 0)) (db_of (de_int)) (fun _ _ => rfl))) (db_of (de_int))) (da_cons (de_gint (by rfl) M.i_MOST_END) (da_nil)))) (by decide) rfl rfl (by decide +kernel) rfl rfl))))))))
abbrev N_brought_of : List PySem.Str := ["clause", "amount", "low", "high", "reached"]
theorem sc_brought_of : FnScope N_brought_of ["clause", "amount"] (defScope s_brought_of) := ⟨rfl, rfl, rfl, by decide +kernel, rfl, by decide +kernel, by decide +kernel⟩
def W_brought_of (ep : Ex → Prop) : WS := wSeq (wAsg (wSl (wVarB 0) (woSome (wC (.int 2))) (woNone)) (wgTup (wgsCons (wgName 2) (wgsCons (wgName 3) (wgsNil))))) (wSeq (wAsg (wIf (wTest (wOp fIsN (wVarB 3) (wC .non))) (wVar 1) (wCB fMin (waCons (wVarB 1) (waCons (wVarB 3) (waNil))))) (wgName 4)) (wRet (wCB fMax (waCons (wOp fSub (wVarB 4) (wVarB 2)) (waCons (wC (.int 0)) (waNil))))))
def wf_brought_of : WF := fun ds q ep => W_brought_of ep { nx := fun _ => q .non, rt := q } (startE 5 ds)
theorem d_brought_of (M : Mod K mg base T) : FnE P w K mg base T 1 "brought_of" s_brought_of ["clause", "amount"] wf_brought_of := fnE_ok M.d_brought_of sc_brought_of W_brought_of (fun f cdv A outer s E G hr hK at_ => by
  unfold W_brought_of
  exact (dss_cons (ds_asg (vs := [2, 3]) (de_slice at_.K (db_var 0 (pv 0)) (do_some (de_int)) (do_none)) (dg_tup at_.K rfl (dgs_cons (dg_name 2 (by decide) (pg_name (i := 2) sc_brought_of.nd rfl (Or.inl rfl))) (dgs_cons (dg_name 3 (by decide) (pg_name (i := 3) sc_brought_of.nd rfl (Or.inl rfl))) (dgs_nil))) (len_name (len_name (len_nil))))) (dss_cons (ds_set (i := 4) sc_brought_of.nd rfl (Or.inl rfl) (de_if (dt_cmp op_isN od_IsN (db_var 3 (pv 3)) (db_of (de_non)) (nomark _)) (de_var 1 (pv 1)) (de_callB (cr_Min rfl) (cd_min at_.K) (by rfl) M.z_min boot_min (dab_cons (db_var 1 (pv 1)) (dab_cons (db_var 3 (pv 3)) (dab_nil)))))) (dss_one (ds_ret (de_callB (cr_Max rfl) (cd_max at_.K) (by rfl) M.z_max boot_max (dab_cons (db_of (de_op op_sub od_Sub (db_var 4 (pv 4)) (db_var 2 (pv 2)))) (dab_cons (db_of (de_int)) (dab_nil)))))))))
abbrev N_sum_of : List PySem.Str := ["damages", "window"]
theorem sc_sum_of : FnScope N_sum_of ["damages", "window"] (defScope s_sum_of) := ⟨rfl, rfl, rfl, by decide +kernel, rfl, by decide +kernel, by decide +kernel⟩
def W_sum_of (ep : Ex → Prop) : WS := wRet (wCB fSum (waCons (wSl (wVarB 0) (woSome (wOp fIx (wVarB 1) (wC (.int 0)))) (woSome (wOp fAdd (wOp fIx (wVarB 1) (wC (.int 1))) (wC (.int 1))))) (waNil)))
def wf_sum_of : WF := fun ds q ep => W_sum_of ep { nx := fun _ => q .non, rt := q } (startE 2 ds)
theorem d_sum_of (M : Mod K mg base T) : FnE P w K mg base T 1 "sum_of" s_sum_of ["damages", "window"] wf_sum_of := fnE_ok M.d_sum_of sc_sum_of W_sum_of (fun f cdv A outer s E G hr hK at_ => by
  unfold W_sum_of
  exact (dss_one (ds_ret (de_callB (cr_Sum rfl) (cd_sum at_.K) (by rfl) M.z_sum boot_sum (dab_cons (db_of (de_slice at_.K (db_var 0 (pv 0)) (do_some (de_ix at_.K (db_var 1 (pv 1)) (db_of (de_int)) (fun _ _ => rfl))) (do_some (de_opK (r := rAdd) at_.K op_Add od_Add (db_of (de_ix at_.K (db_var 1 (pv 1)) (db_of (de_int)) (fun _ _ => rfl))) (db_of (de_int)))))) (dab_nil))))))
abbrev N_windows_to : List PySem.Str := ["damages", "clause", "last", "first"]
theorem sc_windows_to : FnScope N_windows_to ["damages", "clause", "last"] (defScope s_windows_to) := ⟨rfl, rfl, rfl, by decide +kernel, rfl, by decide +kernel, by decide +kernel⟩
def W_windows_to (ep : Ex → Prop) : WS := wRet (wLc (wiRng2 (waCons (wCB fMax (waCons (wC (.int 0)) (waCons (wOp fAdd (wOp fSub (wVarB 2) (wOp fIx (wVarB 1) (wC (.int 0)))) (wC (.int 1))) (waNil)))) (waCons (wOp fAdd (wVarB 2) (wC (.int 1))) (waNil)))) (wgName 3) (wYes) (wTup (waCons (wVar 3) (waCons (wVar 2) (waNil)))) [3])
def wf_windows_to : WF := fun ds q ep => W_windows_to ep { nx := fun _ => q .non, rt := q } (startE 4 ds)
theorem d_windows_to (M : Mod K mg base T) : FnE P w K mg base T 1 "windows_to" s_windows_to ["damages", "clause", "last"] wf_windows_to := fnE_ok M.d_windows_to sc_windows_to W_windows_to (fun f cdv A outer s E G hr hK at_ => by
  unfold W_windows_to
  exact (dss_one (ds_ret (de_of_df (de_lc (own := [("first", 3)]) rfl sc_windows_to.nd (blkOk_by (own := [("first", 3)]) (N := N_windows_to) (sc := defScope s_windows_to) (by decide +kernel)) (dib_of (di_range2 (by rfl) M.z_range (da_cons (de_callB (cr_Max rfl) (cd_max at_.K) (by rfl) M.z_max boot_max (dab_cons (db_of (de_int)) (dab_cons (db_of (de_opK (r := rAdd) at_.K op_Add od_Add (db_of (de_op op_sub od_Sub (db_var 2 (pv 2)) (db_of (de_ix at_.K (db_var 1 (pv 1)) (db_of (de_int)) (fun _ _ => rfl))))) (db_of (de_int)))) (dab_nil)))) (da_cons (de_opK (r := rAdd) at_.K op_Add od_Add (db_var 2 (pv 2)) (db_of (de_int))) (da_nil))))) (fun _ _ _ _ _ => dg_name 3 (by decide) (pg_name (i := 3) sc_windows_to.nd rfl (Or.inl rfl))) (fun _ _ _ _ _ => dts_nil) (fun _ _ _ _ _ => de_tup (da_cons (de_var 3 (pv 3)) (da_cons (de_var 2 (pv 2)) (da_nil)))))))))
abbrev N_longer_by : List PySem.Str := ["damages", "clause", "way", "window"]
theorem sc_longer_by : FnScope N_longer_by ["damages", "clause", "way", "window"] (defScope s_longer_by) := ⟨rfl, rfl, rfl, by decide +kernel, rfl, by decide +kernel, by decide +kernel⟩
def W_longer_by (ep : Ex → Prop) : WS := wRet (wTup (waCons (wOp fAdd (wOp fIx (wVarB 2) (wC (.int 0))) (wCall wf_brought_of ep (waCons (wVar 1) (waCons (wCall wf_sum_of ep (waCons (wVar 0) (waCons (wVar 3) (waNil)))) (waNil))))) (waCons (wOp fAdd (wOp fIx (wVarB 2) (wC (.int 1))) (wTup (waCons (wVar 3) (waNil)))) (waNil))))
def wf_longer_by : WF := fun ds q ep => W_longer_by ep { nx := fun _ => q .non, rt := q } (startE 4 ds)
theorem d_longer_by (M : Mod K mg base T) : FnE P w K mg base T 2 "longer_by" s_longer_by ["damages", "clause", "way", "window"] wf_longer_by := fnE_ok M.d_longer_by sc_longer_by W_longer_by (fun f cdv A outer s E G hr hK at_ => by
  unfold W_longer_by
  exact (dss_one (ds_ret (de_tup (da_cons (de_opK (r := rAdd) at_.K op_Add od_Add (db_of (de_ix at_.K (db_var 2 (pv 2)) (db_of (de_int)) (fun _ _ => rfl))) (db_of (de_callE (k := 1) at_.K at_.T (d_brought_of M) (hr.mono (by decide)) at_.pass (da_cons (de_var 1 (pv 1)) (da_cons (de_callE (k := 1) at_.K at_.T (d_sum_of M) (hr.mono (by decide)) at_.pass (da_cons (de_var 0 (pv 0)) (da_cons (de_var 3 (pv 3)) (da_nil))) (by decide) rfl rfl (by decide +kernel) rfl rfl) (da_nil))) (by decide) rfl rfl (by decide +kernel) rfl rfl))) (da_cons (de_opK (r := rAdd) at_.K op_Add od_Add (db_of (de_ix at_.K (db_var 2 (pv 2)) (db_of (de_int)) (fun _ _ => rfl))) (db_of (de_tup (da_cons (de_var 3 (pv 3)) (da_nil))))) (da_nil)))))))
abbrev N_best_line : List PySem.Str := ["damages", "clause", "before", "found", "last", "ways", "window"]
theorem sc_best_line : FnScope N_best_line ["damages", "clause", "before"] (defScope s_best_line) := ⟨rfl, rfl, rfl, by decide +kernel, rfl, by decide +kernel, by decide +kernel⟩
def W_best_line (ep : Ex → Prop) : WS := wSeq (wAsg (wLst (waCons (wOp fIx (wVarB 2) (wC (.int 0))) (waNil))) (wgOwn 3)) (wSeq (wFor (wiRng1 (waCons (wCB fLen (waCons (wVarB 0) (waNil))) (waNil))) (wgName 4) (wSeq (wAsg (wLc (wiSeq (wCall wf_windows_to ep (waCons (wVar 0) (waCons (wVar 1) (waCons (wVar 4) (waNil)))))) (wgName 6) (wYes) (wCall wf_longer_by (fun _ => False) (waCons (wVar 0) (waCons (wVar 1) (waCons (wOp fIx (wVarB 2) (wOp fIx (wVarB 6) (wC (.int 0)))) (waCons (wVar 6) (waNil)))))) [6]) (wgOwn 5)) (wFreeze 5 (wApp 3 (wMaxK (wOp fAdd (wLst (waCons (wOp fIx (wVarB 3) (wVarB 4)) (waNil))) (wVarB 5)) (lamF (fun ep1 => wOp fIx (wVarB 0) (wC (.int 0))) 1 [])))))) (wFreeze 3 (wRet (wVar 3))))
def wf_best_line : WF := fun ds q ep => W_best_line ep { nx := fun _ => q .non, rt := q } (startE 7 ds)
theorem d_best_line (M : Mod K mg base T) : FnE P w K mg base T 3 "best_line" s_best_line ["damages", "clause", "before"] wf_best_line := by
  obtain ⟨c, Pt, F⟩ := M.d_best_line
  exact fnT_ok F sc_best_line W_best_line (fun f A outer s E G hr hK at_ => by
  unfold W_best_line
  exact (dss_cons (ds_own (i := 3) sc_best_line.nd rfl (Or.inl rfl) (df_lst (da_cons (de_ix at_.K (db_var 2 (pv 2)) (db_of (de_int)) (fun _ _ => rfl)) (da_nil)))) (dss_cons (ds_for (vs := [4]) at_.own rfl (di_range1 (by rfl) M.z_range (da_cons (de_callB call_len (cd_len at_.K) (by rfl) M.z_len boot_len (dab_cons (db_var 0 (pv 0)) (dab_nil))) (da_nil))) (dg_name 4 (by decide) (pg_name (i := 4) sc_best_line.nd rfl (Or.inl rfl))) (dss_cons (ds_setLc (own := [("window", 6)]) (i := 5) rfl sc_best_line.nd rfl rfl (sw_true rfl rfl rfl (by decide +kernel)) (blkOk_by (own := [("window", 6)]) (N := N_best_line) (sc := defScope s_best_line) (by decide +kernel)) (dib_seq at_.K (db_of (de_callE (k := 1) at_.K at_.T (d_windows_to M) (hr.mono (by decide)) at_.pass (da_cons (de_var 0 (pv 0)) (da_cons (de_var 1 (pv 1)) (da_cons (de_var 4 (pv 4)) (da_nil)))) (by decide) rfl rfl (by decide +kernel) rfl rfl))) (fun _ _ _ _ _ => dg_name 6 (by decide) (pg_name (i := 6) sc_best_line.nd rfl (Or.inl rfl))) (fun _ _ _ _ _ => dts_nil) (fun _ _ _ _ _ => de_callE (k := 2) at_.K at_.T (d_longer_by M) (hr.mono (by decide)) pass_nox (da_cons (de_var 0 (pv 0)) (da_cons (de_var 1 (pv 1)) (da_cons (de_ix at_.K (db_var 2 (pv 2)) (db_of (de_ix at_.K (db_var 6 (pv 6)) (db_of (de_int)) (fun _ _ => rfl))) (fun _ _ => rfl)) (da_cons (de_var 6 (pv 6)) (da_nil))))) (by decide) rfl rfl (by decide +kernel) rfl rfl)) (dss_freeze 5 (dss_one (ds_app (i := 3) (pv 3) (de_maxK (N := ["way"]) (ps := ["way"]) (fr := []) (js := []) (j := 0) (Wl := fun ep1 => wOp fIx (wVarB 0) (wC (.int 0))) at_.K { TB := F.TB, code := rfl, inT := (by rw [at_.T]; exact F.inT), uniq := (by rw [at_.T]; exact F.uniq), dflt := rfl, S := nscope_by (N := ["way"]) (ps := ["way"]) (fr := []) (by decide +kernel), free := freeB_ok (sc := defScope s_best_line) (by decide +kernel), frm := (by decide +kernel), js := rfl, bind := (fun _ _ _ _ _ us hl => match us, hl with | [_], _ => rfl), body := (fun f1 c1 A1 outer1 s1 E1 G1 hr1 hk1 at1 => de_ix at1.K (db_var 0 (pv 0)) (db_of (de_int)) (fun _ _ => rfl)) } rfl (hr.mono (by decide)) (by rfl) M.z_max (de_opK (r := rAdd) at_.K op_Add od_Add (db_of (de_lst (da_cons (de_ix at_.K (db_var 3 (pv 3)) (db_var 4 (pv 4)) (fun _ _ => rfl)) (da_nil)))) (db_var 5 (pv 5)))) (fun ha => pe_bm PySem.F.plainAttrs_list PySem.F.slot_list_append PySem.F.type_list_append mt_append (pv 3) ha)))))) (dss_freeze 3 (dss_one (ds_ret (de_var 3 (pv 3))))))))
abbrev N_best_by : List PySem.Str := ["damages", "clause", "found", "_"]
theorem sc_best_by : FnScope N_best_by ["damages", "clause"] (defScope s_best_by) := ⟨rfl, rfl, rfl, by decide +kernel, rfl, by decide +kernel, by decide +kernel⟩
def W_best_by (ep : Ex → Prop) : WS := wSeq (wAsg (wOp fMul2 (wLst (waCons (wTup (waCons (wC (.int 0)) (waCons (wTup (waNil)) (waNil)))) (waNil))) (wOp fAdd (wCB fLen (waCons (wVarB 0) (waNil))) (wC (.int 1)))) (wgName 2)) (wSeq (wFor (wiRng1 (waCons (wOp fIx (wVarB 1) (wC (.int 1))) (waNil))) (wgName 3) (wAsg (wCall wf_best_line ep (waCons (wVar 0) (waCons (wVar 1) (waCons (wVar 2) (waNil))))) (wgName 2))) (wRet (wOp fIx (wVarB 2) (wNeg (wC (.int 1))))))
def wf_best_by : WF := fun ds q ep => W_best_by ep { nx := fun _ => q .non, rt := q } (startE 4 ds)
theorem d_best_by (M : Mod K mg base T) : FnE P w K mg base T 4 "best_by" s_best_by ["damages", "clause"] wf_best_by := fnE_ok M.d_best_by sc_best_by W_best_by (fun f cdv A outer s E G hr hK at_ => by
  unfold W_best_by
  exact (dss_cons (ds_set (i := 2) sc_best_by.nd rfl (Or.inl rfl) (de_opK (r := rMul2) at_.K op_Mul2 od_Mul2 (db_of (de_lst (da_cons (de_tup (da_cons (de_int) (da_cons (de_tup (da_nil)) (da_nil)))) (da_nil)))) (db_of (de_opK (r := rAdd) at_.K op_Add od_Add (db_of (de_callB call_len (cd_len at_.K) (by rfl) M.z_len boot_len (dab_cons (db_var 0 (pv 0)) (dab_nil)))) (db_of (de_int)))))) (dss_cons (ds_for (vs := [3]) at_.own rfl (di_range1 (by rfl) M.z_range (da_cons (de_ix at_.K (db_var 1 (pv 1)) (db_of (de_int)) (fun _ _ => rfl)) (da_nil))) (dg_name 3 (by decide) (pg_name (i := 3) sc_best_by.nd rfl (Or.inl rfl))) (dss_one (ds_set (i := 2) sc_best_by.nd rfl (Or.inl rfl) (de_callE (k := 3) at_.K at_.T (d_best_line M) (hr.mono (by decide)) at_.pass (da_cons (de_var 0 (pv 0)) (da_cons (de_var 1 (pv 1)) (da_cons (de_var 2 (pv 2)) (da_nil)))) (by decide) rfl rfl (by decide +kernel) rfl rfl)))) (dss_one (ds_ret (de_ix at_.K (db_var 2 (pv 2)) (db_of (de_neg (de_int))) (fun _ _ => rfl)))))))
abbrev N_check_hours : List PySem.Str := ["damages", "clause", "index"]
theorem sc_check_hours : FnScope N_check_hours ["damages", "clause"] (defScope s_check_hours) := ⟨rfl, rfl, rfl, by decide +kernel, rfl, by decide +kernel, by decide +kernel⟩
def W_check_hours (ep : Ex → Prop) : WS := wSeq (wFor (wiSeq (wCall wf_wrong_in_damages ep (waCons (wVar 0) (waNil)))) (wgName 2) (wDead)) (wIfS (wNot (wTest (wCall wf_is_clause ep (waCons (wVar 1) (waNil))))) (wDead) (wNext))
def wf_check_hours : WF := fun ds q ep => W_check_hours ep { nx := fun _ => q .non, rt := q } (startE 3 ds)
theorem d_check_hours (M : Mod K mg base T) : FnE P w K mg base T 7 "check_hours" s_check_hours ["damages", "clause"] wf_check_hours := fnE_ok M.d_check_hours sc_check_hours W_check_hours (fun f cdv A outer s E G hr hK at_ => by
  unfold W_check_hours
  exact (dss_cons (ds_for (vs := [2]) at_.own rfl (di_seq at_.K (de_callE (k := 6) at_.K at_.T (d_wrong_in_damages M) (hr.mono (by decide)) at_.pass (da_cons (de_var 0 (pv 0)) (da_nil)) (by decide) rfl rfl (by decide +kernel) rfl rfl)) (dg_name 2 (by decide) (pg_name (i := 2) sc_check_hours.nd rfl (Or.inl rfl))) (dss_one (ds_dead))) (dss_one (ds_if (dt_not (dt_val (de_callE (k := 4) at_.K at_.T (d_is_clause M) (hr.mono (by decide)) at_.pass (da_cons (de_var 1 (pv 1)) (da_nil)) (by decide) rfl rfl (by decide +kernel) rfl rfl))) (dss_one (ds_dead)) (dss_nil)))))
abbrev N_most_brought : List PySem.Str := ["damages", "clause"]
theorem sc_most_brought : FnScope N_most_brought ["damages", "clause"] (defScope s_most_brought) := ⟨rfl, rfl, rfl, by decide +kernel, rfl, by decide +kernel, by decide +kernel⟩
def W_most_brought (ep : Ex → Prop) : WS := wSeq (wDrop (wCall wf_check_hours ep (waCons (wVar 0) (waCons (wVar 1) (waNil))))) (wRet (wOp fIx (wCall wf_best_by ep (waCons (wVar 0) (waCons (wVar 1) (waNil)))) (wC (.int 0))))
def wf_most_brought : WF := fun ds q ep => W_most_brought ep { nx := fun _ => q .non, rt := q } (startE 2 ds)
theorem d_most_brought (M : Mod K mg base T) : FnE P w K mg base T 8 "most_brought" s_most_brought ["damages", "clause"] wf_most_brought := fnE_ok M.d_most_brought sc_most_brought W_most_brought (fun f cdv A outer s E G hr hK at_ => by
  unfold W_most_brought
  exact (dss_cons (ds_expr (de_callE (k := 7) at_.K at_.T (d_check_hours M) (hr.mono (by decide)) at_.pass (da_cons (de_var 0 (pv 0)) (da_cons (de_var 1 (pv 1)) (da_nil))) (by decide) rfl rfl (by decide +kernel) rfl rfl)) (dss_one (ds_ret (de_ix at_.K (db_of (de_callE (k := 4) at_.K at_.T (d_best_by M) (hr.mono (by decide)) at_.pass (da_cons (de_var 0 (pv 0)) (da_cons (de_var 1 (pv 1)) (da_nil))) (by decide) rfl rfl (by decide +kernel) rfl rfl)) (db_of (de_int)) (fun _ _ => rfl))))))
abbrev N_best_choice : List PySem.Str := ["damages", "clause"]
theorem sc_best_choice : FnScope N_best_choice ["damages", "clause"] (defScope s_best_choice) := ⟨rfl, rfl, rfl, by decide +kernel, rfl, by decide +kernel, by decide +kernel⟩
def W_best_choice (ep : Ex → Prop) : WS := wSeq (wDrop (wCall wf_check_hours ep (waCons (wVar 0) (waCons (wVar 1) (waNil))))) (wRet (wOp fIx (wCall wf_best_by ep (waCons (wVar 0) (waCons (wVar 1) (waNil)))) (wC (.int 1))))
def wf_best_choice : WF := fun ds q ep => W_best_choice ep { nx := fun _ => q .non, rt := q } (startE 2 ds)
theorem d_best_choice (M : Mod K mg base T) : FnE P w K mg base T 8 "best_choice" s_best_choice ["damages", "clause"] wf_best_choice := fnE_ok M.d_best_choice sc_best_choice W_best_choice (fun f cdv A outer s E G hr hK at_ => by
  unfold W_best_choice
  exact (dss_cons (ds_expr (de_callE (k := 7) at_.K at_.T (d_check_hours M) (hr.mono (by decide)) at_.pass (da_cons (de_var 0 (pv 0)) (da_cons (de_var 1 (pv 1)) (da_nil))) (by decide) rfl rfl (by decide +kernel) rfl rfl)) (dss_one (ds_ret (de_ix at_.K (db_of (de_callE (k := 4) at_.K at_.T (d_best_by M) (hr.mono (by decide)) at_.pass (da_cons (de_var 0 (pv 0)) (da_cons (de_var 1 (pv 1)) (da_nil))) (by decide) rfl rfl (by decide +kernel) rfl rfl)) (db_of (de_int)) (fun _ _ => rfl))))))
abbrev N__law_flask : List PySem.Str := ["script", "lap", "own", "stir", "cell"]
theorem sc__law_flask : FnScope N__law_flask ["script", "lap"] (defScope s__law_flask) := ⟨rfl, rfl, rfl, by decide +kernel, rfl, by decide +kernel, by decide +kernel⟩
def W__law_flask : WS := wSeqF (wAsg (wIf (wTest (wOp fLt (wVarB 1) (wCB fLen (waCons (wVarB 0) (waNil))))) (wCB fInt (waCons (wOp fIx (wVarB 0) (wVarB 1)) (waNil))) (wC (.int 0))) (wgName 2)) (wSeqF (wAsg (wOp fAdd (wC (.int 557)) (wOp fMul2 (wC (.int 9341)) (wVarB 1))) (wgName 3)) (wSeqF (wFor (wiSeq (wOp fAdd (wSl (wVarB 0) (woNone) (woSome (wC (.int 9)))) (wLst (waCons (wVar 2) (waNil))))) (wgName 4) (wAsg (wOp fMod (wCB fInt (waCons (wOp fAdd (wOp fAdd (wOp fMul2 (wVarB 3) (wC (.int 46099))) (wOp fMod (wCB fInt (waCons (wVarB 4) (waNil))) (wC (.int 2147483269)))) (wC (.int 41))) (waNil))) (wC (.int 2147483423))) (wgName 3))) (wRet (wLst (waCons (wIf (wOr (wTest (wOp fLt (wVarB 2) (wC (.int 0)))) (wTest (wOp fGe (wVarB 2) (wOp fPow (wC (.int 10)) (wC (.int 16)))))) (wCB fAbs (waCons (wVarB 2) (waNil))) (wC (.int 0))) (waCons (wVar 3) (waCons (wC (.int 0)) (waNil))))))))
def wf__law_flask : WF := fun ds q _ => W__law_flask { nx := fun _ => False, rt := q } (startE 5 ds)
theorem d__law_flask (M : Mod K mg base T) : FnFE P w K mg base T 1 "_law_flask" s__law_flask ["script", "lap"] wf__law_flask := fnFE_ok M.d__law_flask sc__law_flask W__law_flask (fun f cdv A outer s E G hr hK at_ => by
  unfold W__law_flask
  exact (dsf_cons (ds_set (i := 2) sc__law_flask.nd rfl (Or.inl rfl) (de_if (dt_cmp op_lt od_Lt (db_var 1 (pv 1)) (db_of (de_callB call_len (cd_len at_.K) (by rfl) M.z_len boot_len (dab_cons (db_var 0 (pv 0)) (dab_nil)))) (nomark _)) (de_callTy call_int1 cd_int (by rfl) M.z_int boot_int (dab_cons (db_of (de_ix at_.K (db_var 0 (pv 0)) (db_var 1 (pv 1)) (fun _ _ => rfl))) (dab_nil))) (de_int))) (dsf_cons (ds_set (i := 3) sc__law_flask.nd rfl (Or.inl rfl) (de_opK (r := rAdd) at_.K op_Add od_Add (db_of (de_int)) (db_of (de_opK (r := rMul2) at_.K op_Mul2 od_Mul2 (db_of (de_int)) (db_var 1 (pv 1)))))) (dsf_cons (ds_for (vs := [4]) at_.own rfl (di_seq at_.K (de_opK (r := rAdd) at_.K op_Add od_Add (db_of (de_slice at_.K (db_var 0 (pv 0)) (do_none) (do_some (de_int)))) (db_of (de_lst (da_cons (de_var 2 (pv 2)) (da_nil)))))) (dg_name 4 (by decide) (pg_name (i := 4) sc__law_flask.nd rfl (Or.inl rfl))) (dss_one (ds_set (i := 3) sc__law_flask.nd rfl (Or.inl rfl) (de_op op_mod od_Mod (db_of (de_callTy call_int1 cd_int (by rfl) M.z_int boot_int (dab_cons (db_of (de_opK (r := rAdd) at_.K op_Add od_Add (db_of (de_opK (r := rAdd) at_.K op_Add od_Add (db_of (de_opK (r := rMul2) at_.K op_Mul2 od_Mul2 (db_var 3 (pv 3)) (db_of (de_int)))) (db_of (de_op op_mod od_Mod (db_of (de_callTy call_int1 cd_int (by rfl) M.z_int boot_int (dab_cons (db_var 4 (pv 4)) (dab_nil)))) (db_of (de_int)))))) (db_of (de_int)))) (dab_nil)))) (db_of (de_int)))))) (dsf_ret (df_lst (da_cons (de_if (dt_w (dw_or (dt_cmp op_lt od_Lt (db_var 2 (pv 2)) (db_of (de_int)) (nomark _)) (dw_or1 (dt_cmp op_ge od_Ge (db_var 2 (pv 2)) (db_of (de_op op_pow od_Pow (db_of (de_int)) (db_of (de_int)))) (nomark _))))) (de_callB call_abs cd_abs (by rfl) M.z_abs boot_abs (dab_cons (db_var 2 (pv 2)) (dab_nil))) (de_int)) (da_cons (de_var 3 (pv 3)) (da_cons (de_int) (da_nil))))))))))
abbrev N__law_pour : List PySem.Str := ["flask", "many", "figure"]
theorem sc__law_pour : FnScope N__law_pour ["flask", "many"] (defScope s__law_pour) := ⟨rfl, rfl, rfl, by decide +kernel, rfl, by decide +kernel, by decide +kernel⟩
def W__law_pour (ep : Ex → Prop) : WS := wSeq (wIfS (wTest (wOp fGt (wOp fIx (wVarB 0) (wC (.int 0))) (wC (.int 0)))) (wSeq (wAsg (wCB fDivmod (waCons (wOp fIx (wVarB 0) (wC (.int 0))) (waCons (wVarB 1) (waNil)))) (wgTup (wgsCons (wgBowl 0 0) (wgsCons (wgName 2) (wgsNil))))) (wRet (wVar 2))) (wNext)) (wSeq (wAsg (wOp fAdd (wOp fIx (wVarB 0) (wC (.int 2))) (wC (.int 1))) (wgBowl 0 2)) (wSeq (wAsg (wOp fMod (wCB fInt (waCons (wOp fAdd (wOp fAdd (wOp fMul2 (wOp fIx (wVarB 0) (wC (.int 1))) (wOp fAdd (wOp fMod (wCB fInt (waCons (wOp fIx (wVarB 0) (wC (.int 1))) (waNil))) (wC (.int 8009))) (wC (.int 23003)))) (wOp fMul2 (wC (.int 7013)) (wOp fIx (wVarB 0) (wC (.int 2))))) (wC (.int 59))) (waNil))) (wC (.int 2147483423))) (wgBowl 0 1)) (wRet (wOp fMod (wCB fInt (waCons (wOp fFdiv (wOp fIx (wVarB 0) (wC (.int 1))) (wC (.int 311))) (waNil))) (wVarB 1)))))
def wf__law_pour : WF := fun ds q ep => W__law_pour ep { nx := fun _ => q .non, rt := q } (startE 3 ds)
theorem d__law_pour (M : Mod K mg base T) : FnE P w K mg base T 1 "_law_pour" s__law_pour ["flask", "many"] wf__law_pour := fnE_ok M.d__law_pour sc__law_pour W__law_pour (fun f cdv A outer s E G hr hK at_ => by
  unfold W__law_pour
  exact (dss_cons (ds_if (dt_cmp op_gt od_Gt (db_of (de_ix at_.K (db_var 0 (pv 0)) (db_of (de_int)) (fun _ _ => rfl))) (db_of (de_int)) (nomark _)) (dss_cons (ds_asg1 (de_callB call_divmod cd_divmod (by rfl) M.z_divmod boot_divmod (dab_cons (db_of (de_ix at_.K (db_var 0 (pv 0)) (db_of (de_int)) (fun _ _ => rfl))) (dab_cons (db_var 1 (pv 1)) (dab_nil)))) (dg1_tup at_.K rfl (dgs1_cons (dg1_bowl (i := 0) (pv 0) (pg_sub (pv 0) pe_int set_list)) (dgs1_cons (dg1_of (vs := [2]) (dg_name 2 (by decide) (pg_name (i := 2) sc__law_pour.nd rfl (Or.inl rfl)))) (dgs1_nil))) (len_bowl (len_name (len_nil))))) (dss_one (ds_ret (de_var 2 (pv 2))))) (dss_nil)) (dss_cons (ds_asg1 (de_opK (r := rAdd) at_.K op_Add od_Add (db_of (de_ix at_.K (db_var 0 (pv 0)) (db_of (de_int)) (fun _ _ => rfl))) (db_of (de_int))) (dg1_bowl (i := 0) (pv 0) (pg_sub (pv 0) pe_int set_list))) (dss_cons (ds_asg1 (de_op op_mod od_Mod (db_of (de_callTy call_int1 cd_int (by rfl) M.z_int boot_int (dab_cons (db_of (de_opK (r := rAdd) at_.K op_Add od_Add (db_of (de_opK (r := rAdd) at_.K op_Add od_Add (db_of (de_opK (r := rMul2) at_.K op_Mul2 od_Mul2 (db_of (de_ix at_.K (db_var 0 (pv 0)) (db_of (de_int)) (fun _ _ => rfl))) (db_of (de_opK (r := rAdd) at_.K op_Add od_Add (db_of (de_op op_mod od_Mod (db_of (de_callTy call_int1 cd_int (by rfl) M.z_int boot_int (dab_cons (db_of (de_ix at_.K (db_var 0 (pv 0)) (db_of (de_int)) (fun _ _ => rfl))) (dab_nil)))) (db_of (de_int)))) (db_of (de_int)))))) (db_of (de_opK (r := rMul2) at_.K op_Mul2 od_Mul2 (db_of (de_int)) (db_of (de_ix at_.K (db_var 0 (pv 0)) (db_of (de_int)) (fun _ _ => rfl))))))) (db_of (de_int)))) (dab_nil)))) (db_of (de_int))) (dg1_bowl (i := 0) (pv 0) (pg_sub (pv 0) pe_int set_list))) (dss_one (ds_ret (de_op op_mod od_Mod (db_of (de_callTy call_int1 cd_int (by rfl) M.z_int boot_int (dab_cons (db_of (de_op op_fdiv od_Fdiv (db_of (de_ix at_.K (db_var 0 (pv 0)) (db_of (de_int)) (fun _ _ => rfl))) (db_of (de_int)))) (dab_nil)))) (db_var 1 (pv 1)))))))))
abbrev N__law_of : List PySem.Str := ["flask", "some"]
theorem sc__law_of : FnScope N__law_of ["flask", "some"] (defScope s__law_of) := ⟨rfl, rfl, rfl, by decide +kernel, rfl, by decide +kernel, by decide +kernel⟩
def W__law_of (ep : Ex → Prop) : WS := wRet (wOp fIx (wVarB 1) (wCall wf__law_pour ep (waCons (wVar 0) (waCons (wCB fLen (waCons (wVarB 1) (waNil))) (waNil)))))
def wf__law_of : WF := fun ds q ep => W__law_of ep { nx := fun _ => q .non, rt := q } (startE 2 ds)
theorem d__law_of (M : Mod K mg base T) : FnE P w K mg base T 2 "_law_of" s__law_of ["flask", "some"] wf__law_of := fnE_ok M.d__law_of sc__law_of W__law_of (fun f cdv A outer s E G hr hK at_ => by
  unfold W__law_of
  exact (dss_one (ds_ret (de_ix at_.K (db_var 1 (pv 1)) (db_of (de_callE (k := 1) at_.K at_.T (d__law_pour M) (hr.mono (by decide)) at_.pass (da_cons (de_var 0 (pv 0)) (da_cons (de_callB call_len (cd_len at_.K) (by rfl) M.z_len boot_len (dab_cons (db_var 1 (pv 1)) (dab_nil))) (da_nil))) (by decide) rfl rfl (by decide +kernel) rfl rfl)) (fun _ _ => rfl)))))
abbrev N__law_same : List PySem.Str := ["told", "due", "one", "two"]
theorem sc__law_same : FnScope N__law_same ["told", "due"] (defScope s__law_same) := ⟨rfl, rfl, rfl, by decide +kernel, rfl, by decide +kernel, by decide +kernel⟩
def W__law_same (wfs : WF) (ep : Ex → Prop) : WS := wSeq (wIfS (wOr (wTest (wCB fIsi (waCons (wVarB 1) (waCons (wC (.ty "tuple")) (waNil))))) (wTest (wCB fIsi (waCons (wVarB 1) (waCons (wC (.ty "list")) (waNil)))))) (wSeq (wIfS (wOr (wTest (wOp fNe (wCB fIsi (waCons (wVarB 0) (waCons (wC (.ty "tuple")) (waNil)))) (wCB fIsi (waCons (wVarB 1) (waCons (wC (.ty "tuple")) (waNil)))))) (wTest (wOp fNe (wCB fIsi (waCons (wVarB 0) (waCons (wC (.ty "list")) (waNil)))) (wCB fIsi (waCons (wVarB 1) (waCons (wC (.ty "list")) (waNil))))))) (wRet (wC (.bl false))) (wNext)) (wRet (wAndV (wOp fEq (wCB fLen (waCons (wVarB 0) (waNil))) (wCB fLen (waCons (wVarB 1) (waNil)))) (wCB fAll (waCons (wLc (wiZip (waCons (wVar 0) (waCons (wVar 1) (waNil)))) (wgTup (wgsCons (wgName 2) (wgsCons (wgName 3) (wgsNil)))) (wYes) (wCall wfs (fun _ => False) (waCons (wVar 2) (waCons (wVar 3) (waNil)))) [2, 3]) (waNil)))))) (wNext)) (wSeq (wIfS (wTest (wOp fIsN (wVarB 1) (wC .non))) (wRet (wOp fIsN (wVarB 0) (wC .non))) (wNext)) (wSeq (wIfS (wTest (wCB fIsi (waCons (wVarB 1) (waCons (wC (.ty "int")) (waNil))))) (wRet (wAndV (wCB fIsi (waCons (wVarB 0) (waCons (wC (.ty "int")) (waNil)))) (wAndV (wOp fEq (wCB fIsi (waCons (wVarB 0) (waCons (wC (.ty "bool")) (waNil)))) (wCB fIsi (waCons (wVarB 1) (waCons (wC (.ty "bool")) (waNil))))) (wOp fEq (wVarB 0) (wVarB 1))))) (wNext)) (wRet (wAndV (wCB fIsi (waCons (wVarB 1) (waCons (wC (.ty "str")) (waNil)))) (wAndV (wCB fIsi (waCons (wVarB 0) (waCons (wC (.ty "str")) (waNil)))) (wOp fEq (wVarB 0) (wVarB 1)))))))
theorem st__law_same (M : Mod K mg base T) {kS : Nat} {wfs : WF} (FS : FnE P w K mg base T kS "_law_same" s__law_same ["told", "due"] wfs) : FnE P w K mg base T (kS + 1) "_law_same" s__law_same ["told", "due"] (fun ds q ep => W__law_same wfs ep { nx := fun _ => q .non, rt := q } (startE 4 ds)) := fnE_ok M.d__law_same sc__law_same (W__law_same wfs) (fun f cdv A outer s E G hr hK at_ => by
  unfold W__law_same
  exact (dss_cons (ds_if (dt_w (dw_or (dt_val (de_callB call_isi (cd_isi at_.K) (by rfl) M.z_isinstance boot_isinstance (dab_cons (db_var 1 (pv 1)) (dab_cons (db_of (de_blt (by rfl) M.z_tuple boot_tuple)) (dab_nil))))) (dw_or1 (dt_val (de_callB call_isi (cd_isi at_.K) (by rfl) M.z_isinstance boot_isinstance (dab_cons (db_var 1 (pv 1)) (dab_cons (db_of (de_blt (by rfl) M.z_list boot_list)) (dab_nil)))))))) (dss_cons (ds_if (dt_w (dw_or (dt_cmpK (r := rNeD) at_.K (op_neD hr.units) od_Ne (db_of (de_callB call_isi (cd_isi at_.K) (by rfl) M.z_isinstance boot_isinstance (dab_cons (db_var 0 (pv 0)) (dab_cons (db_of (de_blt (by rfl) M.z_tuple boot_tuple)) (dab_nil))))) (db_of (de_callB call_isi (cd_isi at_.K) (by rfl) M.z_isinstance boot_isinstance (dab_cons (db_var 1 (pv 1)) (dab_cons (db_of (de_blt (by rfl) M.z_tuple boot_tuple)) (dab_nil))))) (nomark _)) (dw_or1 (dt_cmpK (r := rNeD) at_.K (op_neD hr.units) od_Ne (db_of (de_callB call_isi (cd_isi at_.K) (by rfl) M.z_isinstance boot_isinstance (dab_cons (db_var 0 (pv 0)) (dab_cons (db_of (de_blt (by rfl) M.z_list boot_list)) (dab_nil))))) (db_of (de_callB call_isi (cd_isi at_.K) (by rfl) M.z_isinstance boot_isinstance (dab_cons (db_var 1 (pv 1)) (dab_cons (db_of (de_blt (by rfl) M.z_list boot_list)) (dab_nil))))) (nomark _))))) (dss_one (ds_ret (de_bl))) (dss_nil)) (dss_one (ds_ret (de_and (de_cmpK (r := rEqD) at_.K (op_eqD hr.units) od_Eq (db_of (de_callB call_len (cd_len at_.K) (by rfl) M.z_len boot_len (dab_cons (db_var 0 (pv 0)) (dab_nil)))) (db_of (de_callB call_len (cd_len at_.K) (by rfl) M.z_len boot_len (dab_cons (db_var 1 (pv 1)) (dab_nil)))) (nomark _)) (de_one (de_callB (cr_all rfl) (cd_all at_.K) (by rfl) M.z_all boot_all (dab_cons (db_of (de_of_df (de_lc (own := [("one", 2), ("two", 3)]) rfl sc__law_same.nd (blkOk_by (own := [("one", 2), ("two", 3)]) (N := N__law_same) (sc := defScope s__law_same) (by decide +kernel)) (dib_of (di_zip at_.K (fun ha => RZ.pi_zipA (by rfl) M.z_zip ha) (da_cons (de_var 0 (pv 0)) (da_cons (de_var 1 (pv 1)) (da_nil))))) (fun _ _ _ _ _ => dg_tup at_.K rfl (dgs_cons (dg_name 2 (by decide) (pg_name (i := 2) sc__law_same.nd rfl (Or.inl rfl))) (dgs_cons (dg_name 3 (by decide) (pg_name (i := 3) sc__law_same.nd rfl (Or.inl rfl))) (dgs_nil))) (len_name (len_name (len_nil)))) (fun _ _ _ _ _ => dts_nil) (fun _ _ _ _ _ => de_callE (k := kS) at_.K at_.T (FS) hr pass_nox (da_cons (de_var 2 (pv 2)) (da_cons (de_var 3 (pv 3)) (da_nil))) (Nat.le_refl _) rfl rfl (by decide +kernel) rfl rfl)))) (dab_nil)))))))) (dss_nil)) (dss_cons (ds_if (dt_cmp op_isN od_IsN (db_var 1 (pv 1)) (db_of (de_non)) (nomark _)) (dss_one (ds_ret (de_cmp op_isN od_IsN (db_var 0 (pv 0)) (db_of (de_non)) (nomark _)))) (dss_nil)) (dss_cons (ds_if (dt_val (de_callB call_isi (cd_isi at_.K) (by rfl) M.z_isinstance boot_isinstance (dab_cons (db_var 1 (pv 1)) (dab_cons (db_of (de_blt (by rfl) M.z_int boot_int)) (dab_nil))))) (dss_one (ds_ret (de_and (de_callB call_isi (cd_isi at_.K) (by rfl) M.z_isinstance boot_isinstance (dab_cons (db_var 0 (pv 0)) (dab_cons (db_of (de_blt (by rfl) M.z_int boot_int)) (dab_nil)))) (de_and (de_cmpK (r := rEqD) at_.K (op_eqD hr.units) od_Eq (db_of (de_callB call_isi (cd_isi at_.K) (by rfl) M.z_isinstance boot_isinstance (dab_cons (db_var 0 (pv 0)) (dab_cons (db_of (de_blt (by rfl) M.z_bool boot_bool)) (dab_nil))))) (db_of (de_callB call_isi (cd_isi at_.K) (by rfl) M.z_isinstance boot_isinstance (dab_cons (db_var 1 (pv 1)) (dab_cons (db_of (de_blt (by rfl) M.z_bool boot_bool)) (dab_nil))))) (nomark _)) (de_one (de_cmpK (r := rEqD) at_.K (op_eqD hr.units) od_Eq (db_var 0 (pv 0)) (db_var 1 (pv 1)) (nomark _))))))) (dss_nil)) (dss_one (ds_ret (de_and (de_callB call_isi (cd_isi at_.K) (by rfl) M.z_isinstance boot_isinstance (dab_cons (db_var 1 (pv 1)) (dab_cons (db_of (de_blt (by rfl) M.z_str boot_str)) (dab_nil)))) (de_and (de_callB call_isi (cd_isi at_.K) (by rfl) M.z_isinstance boot_isinstance (dab_cons (db_var 0 (pv 0)) (dab_cons (db_of (de_blt (by rfl) M.z_str boot_str)) (dab_nil)))) (de_one (de_cmpK (r := rEqD) at_.K (op_eqD hr.units) od_Eq (db_var 0 (pv 0)) (db_var 1 (pv 1)) (nomark _)))))))))))
--REC _law_same
end
end HX
set_option Elab.async false
set_option linter.all false
set_option maxRecDepth 100000
set_option maxHeartbeats 400000
namespace HX
open PySem PySem.Spec PyProof.Rows L2 DL NdefX LamX
mutual
def sm : D → D → Bool
  | .tup ts, .tup es => sms ts es
  | .lst ts, .lst es => sms ts es
  | .non, .non => true
  | .int i, .int j => i == j
  | .bl b, .bl c => b == c
  | _, _ => false
def sms : List D → List D → Bool
  | [], [] => true
  | t :: ts, e :: es => sm t e && sms ts es
  | _, _ => false
end
mutual
/-- trees of None, bools, ints, tuples and lists, at most n deep -/
def okT : Nat → D → Bool
  | _, .non => true
  | _, .bl _ => true
  | _, .int _ => true
  | n + 1, .tup ds => decide (ds.length < 1000000) && okTs n ds
  | n + 1, .lst ds => decide (ds.length < 1000000) && okTs n ds
  | _, _ => false
def okTs : Nat → List D → Bool
  | _, [] => true
  | n, d :: ds => okT n d && okTs n ds
end
def wfS (n : Nat) : WF := fun ds q _ => ∃ told due, ds = [told, due] ∧ okT n told = true ∧ okT n due = true ∧ q (.bl (sm told due))
def wf__law_same : WF := fun ds q _ => ∃ told due, ds = [told, due] ∧ okT 5 told = true ∧ okT 5 due = true ∧ q (.bl (sm told due))
theorem okTs_mem : ∀ {ds : List D} {n : Nat}, okTs n ds = true → ∀ d ∈ ds, okT n d = true
  | d :: ds, n, h, e, he => by
    rw [okTs, Bool.and_eq_true] at h
    rcases List.mem_cons.mp he with rfl | he
    · exact h.1
    · exact okTs_mem h.2 e he
theorem zipD_map : ∀ as bs : List D, zipD as bs = (as.zip bs).map fun p => D.tup [p.1, p.2]
  | [], _ => by simp [zipD]
  | _ :: _, [] => by simp [zipD]
  | a :: as, b :: bs => by simp [zipD, zipD_map as bs]
theorem sms_all : ∀ as bs : List D, as.length = bs.length → ((as.zip bs).map fun p => sm p.1 p.2).all id = sms as bs
  | [], [], _ => by simp [sms]
  | a :: as, b :: bs, h => by
    have := sms_all as bs (by simpa using h)
    simp [sms] at this ⊢
    rw [← this]
  | [], _ :: _, h => by simp at h
  | _ :: _, [], h => by simp at h
theorem sms_len : ∀ as bs : List D, sms as bs = true → as.length = bs.length
  | [], [], _ => rfl
  | a :: as, b :: bs, h => by
    rw [sms, Bool.and_eq_true] at h
    rw [List.length_cons, List.length_cons, sms_len as bs h.2]
  | [], _ :: _, h => by simp [sms] at h
  | _ :: _, [], h => by simp [sms] at h
def wiq (q : List D → Prop) : List D → Prop := fun ds => match ds with
  | [.tup a, .tup b] => q (zipD a b)
  | [.lst a, .lst b] => q (zipD a b)
  | _ => False
theorem e_zip {WL : WA} {ρ : DL.Env} (q : List D → Prop) : wiZip WL ρ q = WL ρ (wiq q) := propext Iff.rfl
theorem e_wiqt (a b : List D) (q : List D → Prop) : wiq q [.tup a, .tup b] = q (zipD a b) := propext Iff.rfl
theorem e_wiql (a b : List D) (q : List D → Prop) : wiq q [.lst a, .lst b] = q (zipD a b) := propext Iff.rfl
theorem e_wipe2 {ρ : DL.Env} : wipeE ρ [2, 3] = (ρ.set 3 none).set 2 none := rfl
theorem same_list {wfs : WF} {ts es : List D} {s : List D → Prop} (hlen : (ts.length == es.length) = true → ∀ acc, acc = (ts.zip es).map (fun p => D.bl (sm p.1 p.2)) → s acc) (x : D) (y : D) (hw : ∀ t ∈ ts, ∀ e ∈ es, ∀ k : D → Prop, k (.bl (sm t e)) → wfs [t, e] k (fun _ => False)) (hn : ts.length < 1000000) (hl : (ts.length == es.length) = true) :
    wLcL (wgTup (wgsCons (wgName 2) (wgsCons (wgName 3) wgsNil))) wYes (wCall wfs (fun _ => False) (waCons (wVar 2) (waCons (wVar 3) waNil))) [some (.val x), some (.val y), none, none] (zipD ts es) [] s := by
  rw [zipD_map]
  refine lc_map (fun p : D × D => D.tup [p.1, p.2]) (fun p => D.bl (sm p.1 p.2)) (ts.zip es) [] (fun p hp k hk => ?_) ?_ (hlen hl _ (List.nil_append _))
  · simp only [e_asg, e_ret, e_drop, e_next, e_ifS, e_if, e_test, e_tq, e_and, e_or, e_not, e_andV, e_orV, e_aq1, e_aq0, e_oq1, e_oq0, e_c, e_op, e_neg, e_ngq, e_nil, e_cons, e_call, e_callK, e_cb, e_tup, e_lst, e_sl, e_oN, e_oS, e_soq, e_rev, e_rvq, e_var0, e_varS, e_varB0, e_varBo, e_varBS, e_gn, e_go, e_gt, e_gsc, e_gsn, e_fl_t, e_fl_l, e_fl_s, e_sl_t, e_isN, e_notN, e_max2, e_min2, e_int1, e_abs1, e_tupl, e_lc, e_rng1, e_r1q, e_bowl, e_wipe1, e_for, List.set_cons_succ, List.set_cons_zero, add_ii, sub_ii, mul_ii, fdiv_ii, mod_ii, pow_ii, lt_ii, le_ii, gt_ii, ge_ii, DL.eq_int, DL.ne_int, DL.eq_bl, DL.ne_bl, isi_int_int, isi_int_bool, isi_int_tuple, isi_int_list, isi_bl_int, isi_bl_bool, isi_bl_tuple, isi_bl_list, isi_non_int, isi_non_bool, isi_non_tuple, isi_non_list, isi_tup_int, isi_tup_bool, isi_tup_tuple, isi_tup_list, isi_lst_int, isi_lst_bool, isi_lst_tuple, isi_lst_list, if_true, if_false, Bool.not_true, Bool.not_false, Bool.false_eq_true, decide_true, decide_false]
    exact hw p.1 (List.of_mem_zip hp).1 p.2 (List.of_mem_zip hp).2 k hk
  · rw [List.length_zip]
    show 0 + _ < _
    omega
theorem same_end {q : D → Prop} {ts es : List D} {b : Bool} (hb : sms ts es = b) (h : q (.bl b)) (acc : List D) (e : acc = (ts.zip es).map (fun p => D.bl (sm p.1 p.2))) (hl : (ts.length == es.length) = true) : fAll [.lst acc] q := by
  subst e
  refine ⟨(ts.zip es).map fun p => sm p.1 p.2, by rw [List.map_map]; rfl, ?_⟩
  rw [sms_all ts es (beq_iff_eq.mp hl), hb]
  exact h
theorem len_cast (a b : List D) : (((a.length : Nat) : Int) == ((b.length : Nat) : Int)) = (a.length == b.length) := by
  by_cases h : a.length = b.length
  · rw [h]
    simp
  · have h2 : ¬ ((a.length : Int) = (b.length : Int)) := by omega
    rw [beq_eq_false_iff_ne.mpr h, beq_eq_false_iff_ne.mpr h2]
theorem okT_tup {n : Nat} {ds : List D} (h : okT n (.tup ds) = true) : ∃ m, n = m + 1 ∧ ds.length < 1000000 ∧ ∀ d ∈ ds, okT m d = true := by
  cases n with
  | zero => simp [okT] at h
  | succ m =>
    rw [okT, Bool.and_eq_true, decide_eq_true_eq] at h
    exact ⟨m, rfl, h.1, okTs_mem h.2⟩
theorem okT_lst {n : Nat} {ds : List D} (h : okT n (.lst ds) = true) : ∃ m, n = m + 1 ∧ ds.length < 1000000 ∧ ∀ d ∈ ds, okT m d = true := by
  cases n with
  | zero => simp [okT] at h
  | succ m =>
    rw [okT, Bool.and_eq_true, decide_eq_true_eq] at h
    exact ⟨m, rfl, h.1, okTs_mem h.2⟩
theorem same_W {q : D → Prop} {ep : Ex → Prop} {n : Nat} {wfs : WF} (hw : ∀ m, n = m + 1 → ∀ t e (k : D → Prop), okT m t = true → okT m e = true → k (.bl (sm t e)) → wfs [t, e] k (fun _ => False)) {told due : D} (ht : okT n told = true) (hd : okT n due = true) (h : q (.bl (sm told due))) :
    W__law_same wfs ep { nx := fun _ => q .non, rt := q } [some (.val told), some (.val due), none, none] := by
  unfold W__law_same
  refine seq_step fun KK hKK => ?_
  cases due with
  | non =>
    simp only [e_asg, e_ret, e_drop, e_next, e_ifS, e_if, e_test, e_tq, e_and, e_or, e_not, e_andV, e_orV, e_aq1, e_aq0, e_oq1, e_oq0, e_c, e_op, e_neg, e_ngq, e_nil, e_cons, e_call, e_callK, e_cb, e_tup, e_lst, e_sl, e_oN, e_oS, e_soq, e_rev, e_rvq, e_var0, e_varS, e_varB0, e_varBo, e_varBS, e_gn, e_go, e_gt, e_gsc, e_gsn, e_fl_t, e_fl_l, e_fl_s, e_sl_t, e_isN, e_notN, e_max2, e_min2, e_int1, e_abs1, e_tupl, e_lc, e_rng1, e_r1q, e_bowl, e_wipe1, e_for, List.set_cons_succ, List.set_cons_zero, add_ii, sub_ii, mul_ii, fdiv_ii, mod_ii, pow_ii, lt_ii, le_ii, gt_ii, ge_ii, DL.eq_int, DL.ne_int, DL.eq_bl, DL.ne_bl, isi_int_int, isi_int_bool, isi_int_tuple, isi_int_list, isi_bl_int, isi_bl_bool, isi_bl_tuple, isi_bl_list, isi_non_int, isi_non_bool, isi_non_tuple, isi_non_list, isi_tup_int, isi_tup_bool, isi_tup_tuple, isi_tup_list, isi_lst_int, isi_lst_bool, isi_lst_tuple, isi_lst_list, if_true, if_false, Bool.not_true, Bool.not_false, Bool.false_eq_true, decide_true, decide_false]
    refine hKK _ ?_
    refine seq_step fun K2 hK2 => ?_
    simp only [e_asg, e_ret, e_drop, e_next, e_ifS, e_if, e_test, e_tq, e_and, e_or, e_not, e_andV, e_orV, e_aq1, e_aq0, e_oq1, e_oq0, e_c, e_op, e_neg, e_ngq, e_nil, e_cons, e_call, e_callK, e_cb, e_tup, e_lst, e_sl, e_oN, e_oS, e_soq, e_rev, e_rvq, e_var0, e_varS, e_varB0, e_varBo, e_varBS, e_gn, e_go, e_gt, e_gsc, e_gsn, e_fl_t, e_fl_l, e_fl_s, e_sl_t, e_isN, e_notN, e_max2, e_min2, e_int1, e_abs1, e_tupl, e_lc, e_rng1, e_r1q, e_bowl, e_wipe1, e_for, List.set_cons_succ, List.set_cons_zero, add_ii, sub_ii, mul_ii, fdiv_ii, mod_ii, pow_ii, lt_ii, le_ii, gt_ii, ge_ii, DL.eq_int, DL.ne_int, DL.eq_bl, DL.ne_bl, isi_int_int, isi_int_bool, isi_int_tuple, isi_int_list, isi_bl_int, isi_bl_bool, isi_bl_tuple, isi_bl_list, isi_non_int, isi_non_bool, isi_non_tuple, isi_non_list, isi_tup_int, isi_tup_bool, isi_tup_tuple, isi_tup_list, isi_lst_int, isi_lst_bool, isi_lst_tuple, isi_lst_list, if_true, if_false, Bool.not_true, Bool.not_false, Bool.false_eq_true, decide_true, decide_false, D.isNon]
    cases told <;> first | exact h | (simp [okT] at ht; done)
  | bl b =>
    simp only [e_asg, e_ret, e_drop, e_next, e_ifS, e_if, e_test, e_tq, e_and, e_or, e_not, e_andV, e_orV, e_aq1, e_aq0, e_oq1, e_oq0, e_c, e_op, e_neg, e_ngq, e_nil, e_cons, e_call, e_callK, e_cb, e_tup, e_lst, e_sl, e_oN, e_oS, e_soq, e_rev, e_rvq, e_var0, e_varS, e_varB0, e_varBo, e_varBS, e_gn, e_go, e_gt, e_gsc, e_gsn, e_fl_t, e_fl_l, e_fl_s, e_sl_t, e_isN, e_notN, e_max2, e_min2, e_int1, e_abs1, e_tupl, e_lc, e_rng1, e_r1q, e_bowl, e_wipe1, e_for, List.set_cons_succ, List.set_cons_zero, add_ii, sub_ii, mul_ii, fdiv_ii, mod_ii, pow_ii, lt_ii, le_ii, gt_ii, ge_ii, DL.eq_int, DL.ne_int, DL.eq_bl, DL.ne_bl, isi_int_int, isi_int_bool, isi_int_tuple, isi_int_list, isi_bl_int, isi_bl_bool, isi_bl_tuple, isi_bl_list, isi_non_int, isi_non_bool, isi_non_tuple, isi_non_list, isi_tup_int, isi_tup_bool, isi_tup_tuple, isi_tup_list, isi_lst_int, isi_lst_bool, isi_lst_tuple, isi_lst_list, if_true, if_false, Bool.not_true, Bool.not_false, Bool.false_eq_true, decide_true, decide_false]
    refine hKK _ ?_
    refine seq_step fun K2 hK2 => ?_
    simp only [e_asg, e_ret, e_drop, e_next, e_ifS, e_if, e_test, e_tq, e_and, e_or, e_not, e_andV, e_orV, e_aq1, e_aq0, e_oq1, e_oq0, e_c, e_op, e_neg, e_ngq, e_nil, e_cons, e_call, e_callK, e_cb, e_tup, e_lst, e_sl, e_oN, e_oS, e_soq, e_rev, e_rvq, e_var0, e_varS, e_varB0, e_varBo, e_varBS, e_gn, e_go, e_gt, e_gsc, e_gsn, e_fl_t, e_fl_l, e_fl_s, e_sl_t, e_isN, e_notN, e_max2, e_min2, e_int1, e_abs1, e_tupl, e_lc, e_rng1, e_r1q, e_bowl, e_wipe1, e_for, List.set_cons_succ, List.set_cons_zero, add_ii, sub_ii, mul_ii, fdiv_ii, mod_ii, pow_ii, lt_ii, le_ii, gt_ii, ge_ii, DL.eq_int, DL.ne_int, DL.eq_bl, DL.ne_bl, isi_int_int, isi_int_bool, isi_int_tuple, isi_int_list, isi_bl_int, isi_bl_bool, isi_bl_tuple, isi_bl_list, isi_non_int, isi_non_bool, isi_non_tuple, isi_non_list, isi_tup_int, isi_tup_bool, isi_tup_tuple, isi_tup_list, isi_lst_int, isi_lst_bool, isi_lst_tuple, isi_lst_list, if_true, if_false, Bool.not_true, Bool.not_false, Bool.false_eq_true, decide_true, decide_false, D.isNon]
    refine hK2 _ ?_
    refine seq_step fun K3 hK3 => ?_
    simp only [e_asg, e_ret, e_drop, e_next, e_ifS, e_if, e_test, e_tq, e_and, e_or, e_not, e_andV, e_orV, e_aq1, e_aq0, e_oq1, e_oq0, e_c, e_op, e_neg, e_ngq, e_nil, e_cons, e_call, e_callK, e_cb, e_tup, e_lst, e_sl, e_oN, e_oS, e_soq, e_rev, e_rvq, e_var0, e_varS, e_varB0, e_varBo, e_varBS, e_gn, e_go, e_gt, e_gsc, e_gsn, e_fl_t, e_fl_l, e_fl_s, e_sl_t, e_isN, e_notN, e_max2, e_min2, e_int1, e_abs1, e_tupl, e_lc, e_rng1, e_r1q, e_bowl, e_wipe1, e_for, List.set_cons_succ, List.set_cons_zero, add_ii, sub_ii, mul_ii, fdiv_ii, mod_ii, pow_ii, lt_ii, le_ii, gt_ii, ge_ii, DL.eq_int, DL.ne_int, DL.eq_bl, DL.ne_bl, isi_int_int, isi_int_bool, isi_int_tuple, isi_int_list, isi_bl_int, isi_bl_bool, isi_bl_tuple, isi_bl_list, isi_non_int, isi_non_bool, isi_non_tuple, isi_non_list, isi_tup_int, isi_tup_bool, isi_tup_tuple, isi_tup_list, isi_lst_int, isi_lst_bool, isi_lst_tuple, isi_lst_list, if_true, if_false, Bool.not_true, Bool.not_false, Bool.false_eq_true, decide_true, decide_false]
    cases told <;> first | (simp [okT] at ht; done) | (simp only [e_asg, e_ret, e_drop, e_next, e_ifS, e_if, e_test, e_tq, e_and, e_or, e_not, e_andV, e_orV, e_aq1, e_aq0, e_oq1, e_oq0, e_c, e_op, e_neg, e_ngq, e_nil, e_cons, e_call, e_callK, e_cb, e_tup, e_lst, e_sl, e_oN, e_oS, e_soq, e_rev, e_rvq, e_var0, e_varS, e_varB0, e_varBo, e_varBS, e_gn, e_go, e_gt, e_gsc, e_gsn, e_fl_t, e_fl_l, e_fl_s, e_sl_t, e_isN, e_notN, e_max2, e_min2, e_int1, e_abs1, e_tupl, e_lc, e_rng1, e_r1q, e_bowl, e_wipe1, e_for, List.set_cons_succ, List.set_cons_zero, add_ii, sub_ii, mul_ii, fdiv_ii, mod_ii, pow_ii, lt_ii, le_ii, gt_ii, ge_ii, DL.eq_int, DL.ne_int, DL.eq_bl, DL.ne_bl, isi_int_int, isi_int_bool, isi_int_tuple, isi_int_list, isi_bl_int, isi_bl_bool, isi_bl_tuple, isi_bl_list, isi_non_int, isi_non_bool, isi_non_tuple, isi_non_list, isi_tup_int, isi_tup_bool, isi_tup_tuple, isi_tup_list, isi_lst_int, isi_lst_bool, isi_lst_tuple, isi_lst_list, if_true, if_false, Bool.not_true, Bool.not_false, Bool.false_eq_true, decide_true, decide_false, D.isNon, beq_self_eq_true]; exact h)
  | int i =>
    simp only [e_asg, e_ret, e_drop, e_next, e_ifS, e_if, e_test, e_tq, e_and, e_or, e_not, e_andV, e_orV, e_aq1, e_aq0, e_oq1, e_oq0, e_c, e_op, e_neg, e_ngq, e_nil, e_cons, e_call, e_callK, e_cb, e_tup, e_lst, e_sl, e_oN, e_oS, e_soq, e_rev, e_rvq, e_var0, e_varS, e_varB0, e_varBo, e_varBS, e_gn, e_go, e_gt, e_gsc, e_gsn, e_fl_t, e_fl_l, e_fl_s, e_sl_t, e_isN, e_notN, e_max2, e_min2, e_int1, e_abs1, e_tupl, e_lc, e_rng1, e_r1q, e_bowl, e_wipe1, e_for, List.set_cons_succ, List.set_cons_zero, add_ii, sub_ii, mul_ii, fdiv_ii, mod_ii, pow_ii, lt_ii, le_ii, gt_ii, ge_ii, DL.eq_int, DL.ne_int, DL.eq_bl, DL.ne_bl, isi_int_int, isi_int_bool, isi_int_tuple, isi_int_list, isi_bl_int, isi_bl_bool, isi_bl_tuple, isi_bl_list, isi_non_int, isi_non_bool, isi_non_tuple, isi_non_list, isi_tup_int, isi_tup_bool, isi_tup_tuple, isi_tup_list, isi_lst_int, isi_lst_bool, isi_lst_tuple, isi_lst_list, if_true, if_false, Bool.not_true, Bool.not_false, Bool.false_eq_true, decide_true, decide_false]
    refine hKK _ ?_
    refine seq_step fun K2 hK2 => ?_
    simp only [e_asg, e_ret, e_drop, e_next, e_ifS, e_if, e_test, e_tq, e_and, e_or, e_not, e_andV, e_orV, e_aq1, e_aq0, e_oq1, e_oq0, e_c, e_op, e_neg, e_ngq, e_nil, e_cons, e_call, e_callK, e_cb, e_tup, e_lst, e_sl, e_oN, e_oS, e_soq, e_rev, e_rvq, e_var0, e_varS, e_varB0, e_varBo, e_varBS, e_gn, e_go, e_gt, e_gsc, e_gsn, e_fl_t, e_fl_l, e_fl_s, e_sl_t, e_isN, e_notN, e_max2, e_min2, e_int1, e_abs1, e_tupl, e_lc, e_rng1, e_r1q, e_bowl, e_wipe1, e_for, List.set_cons_succ, List.set_cons_zero, add_ii, sub_ii, mul_ii, fdiv_ii, mod_ii, pow_ii, lt_ii, le_ii, gt_ii, ge_ii, DL.eq_int, DL.ne_int, DL.eq_bl, DL.ne_bl, isi_int_int, isi_int_bool, isi_int_tuple, isi_int_list, isi_bl_int, isi_bl_bool, isi_bl_tuple, isi_bl_list, isi_non_int, isi_non_bool, isi_non_tuple, isi_non_list, isi_tup_int, isi_tup_bool, isi_tup_tuple, isi_tup_list, isi_lst_int, isi_lst_bool, isi_lst_tuple, isi_lst_list, if_true, if_false, Bool.not_true, Bool.not_false, Bool.false_eq_true, decide_true, decide_false, D.isNon]
    refine hK2 _ ?_
    refine seq_step fun K3 hK3 => ?_
    simp only [e_asg, e_ret, e_drop, e_next, e_ifS, e_if, e_test, e_tq, e_and, e_or, e_not, e_andV, e_orV, e_aq1, e_aq0, e_oq1, e_oq0, e_c, e_op, e_neg, e_ngq, e_nil, e_cons, e_call, e_callK, e_cb, e_tup, e_lst, e_sl, e_oN, e_oS, e_soq, e_rev, e_rvq, e_var0, e_varS, e_varB0, e_varBo, e_varBS, e_gn, e_go, e_gt, e_gsc, e_gsn, e_fl_t, e_fl_l, e_fl_s, e_sl_t, e_isN, e_notN, e_max2, e_min2, e_int1, e_abs1, e_tupl, e_lc, e_rng1, e_r1q, e_bowl, e_wipe1, e_for, List.set_cons_succ, List.set_cons_zero, add_ii, sub_ii, mul_ii, fdiv_ii, mod_ii, pow_ii, lt_ii, le_ii, gt_ii, ge_ii, DL.eq_int, DL.ne_int, DL.eq_bl, DL.ne_bl, isi_int_int, isi_int_bool, isi_int_tuple, isi_int_list, isi_bl_int, isi_bl_bool, isi_bl_tuple, isi_bl_list, isi_non_int, isi_non_bool, isi_non_tuple, isi_non_list, isi_tup_int, isi_tup_bool, isi_tup_tuple, isi_tup_list, isi_lst_int, isi_lst_bool, isi_lst_tuple, isi_lst_list, if_true, if_false, Bool.not_true, Bool.not_false, Bool.false_eq_true, decide_true, decide_false]
    cases told <;> first | (simp [okT] at ht; done) | (simp only [e_asg, e_ret, e_drop, e_next, e_ifS, e_if, e_test, e_tq, e_and, e_or, e_not, e_andV, e_orV, e_aq1, e_aq0, e_oq1, e_oq0, e_c, e_op, e_neg, e_ngq, e_nil, e_cons, e_call, e_callK, e_cb, e_tup, e_lst, e_sl, e_oN, e_oS, e_soq, e_rev, e_rvq, e_var0, e_varS, e_varB0, e_varBo, e_varBS, e_gn, e_go, e_gt, e_gsc, e_gsn, e_fl_t, e_fl_l, e_fl_s, e_sl_t, e_isN, e_notN, e_max2, e_min2, e_int1, e_abs1, e_tupl, e_lc, e_rng1, e_r1q, e_bowl, e_wipe1, e_for, List.set_cons_succ, List.set_cons_zero, add_ii, sub_ii, mul_ii, fdiv_ii, mod_ii, pow_ii, lt_ii, le_ii, gt_ii, ge_ii, DL.eq_int, DL.ne_int, DL.eq_bl, DL.ne_bl, isi_int_int, isi_int_bool, isi_int_tuple, isi_int_list, isi_bl_int, isi_bl_bool, isi_bl_tuple, isi_bl_list, isi_non_int, isi_non_bool, isi_non_tuple, isi_non_list, isi_tup_int, isi_tup_bool, isi_tup_tuple, isi_tup_list, isi_lst_int, isi_lst_bool, isi_lst_tuple, isi_lst_list, if_true, if_false, Bool.not_true, Bool.not_false, Bool.false_eq_true, decide_true, decide_false, D.isNon, beq_self_eq_true]; exact h)
  | str x => simp [okT] at hd
  | ref a => simp [okT] at hd
  | ty n => simp [okT] at hd
  | bowl => simp [okT] at hd
  | scr ns => simp [okT] at hd
  | tup es =>
    obtain ⟨m, hm, hle, hes⟩ := okT_tup hd
    simp only [e_asg, e_ret, e_drop, e_next, e_ifS, e_if, e_test, e_tq, e_and, e_or, e_not, e_andV, e_orV, e_aq1, e_aq0, e_oq1, e_oq0, e_c, e_op, e_neg, e_ngq, e_nil, e_cons, e_call, e_callK, e_cb, e_tup, e_lst, e_sl, e_oN, e_oS, e_soq, e_rev, e_rvq, e_var0, e_varS, e_varB0, e_varBo, e_varBS, e_gn, e_go, e_gt, e_gsc, e_gsn, e_fl_t, e_fl_l, e_fl_s, e_sl_t, e_isN, e_notN, e_max2, e_min2, e_int1, e_abs1, e_tupl, e_lc, e_rng1, e_r1q, e_bowl, e_wipe1, e_for, List.set_cons_succ, List.set_cons_zero, add_ii, sub_ii, mul_ii, fdiv_ii, mod_ii, pow_ii, lt_ii, le_ii, gt_ii, ge_ii, DL.eq_int, DL.ne_int, DL.eq_bl, DL.ne_bl, isi_int_int, isi_int_bool, isi_int_tuple, isi_int_list, isi_bl_int, isi_bl_bool, isi_bl_tuple, isi_bl_list, isi_non_int, isi_non_bool, isi_non_tuple, isi_non_list, isi_tup_int, isi_tup_bool, isi_tup_tuple, isi_tup_list, isi_lst_int, isi_lst_bool, isi_lst_tuple, isi_lst_list, if_true, if_false, Bool.not_true, Bool.not_false, Bool.false_eq_true, decide_true, decide_false]
    refine seq_step fun K2 hK2 => ?_
    cases told with
    | tup ts =>
      obtain ⟨m2, hm2, hlt, hts⟩ := okT_tup ht
      obtain rfl : m2 = m := by omega
      simp only [e_asg, e_ret, e_drop, e_next, e_ifS, e_if, e_test, e_tq, e_and, e_or, e_not, e_andV, e_orV, e_aq1, e_aq0, e_oq1, e_oq0, e_c, e_op, e_neg, e_ngq, e_nil, e_cons, e_call, e_callK, e_cb, e_tup, e_lst, e_sl, e_oN, e_oS, e_soq, e_rev, e_rvq, e_var0, e_varS, e_varB0, e_varBo, e_varBS, e_gn, e_go, e_gt, e_gsc, e_gsn, e_fl_t, e_fl_l, e_fl_s, e_sl_t, e_isN, e_notN, e_max2, e_min2, e_int1, e_abs1, e_tupl, e_lc, e_rng1, e_r1q, e_bowl, e_wipe1, e_for, List.set_cons_succ, List.set_cons_zero, add_ii, sub_ii, mul_ii, fdiv_ii, mod_ii, pow_ii, lt_ii, le_ii, gt_ii, ge_ii, DL.eq_int, DL.ne_int, DL.eq_bl, DL.ne_bl, isi_int_int, isi_int_bool, isi_int_tuple, isi_int_list, isi_bl_int, isi_bl_bool, isi_bl_tuple, isi_bl_list, isi_non_int, isi_non_bool, isi_non_tuple, isi_non_list, isi_tup_int, isi_tup_bool, isi_tup_tuple, isi_tup_list, isi_lst_int, isi_lst_bool, isi_lst_tuple, isi_lst_list, if_true, if_false, Bool.not_true, Bool.not_false, Bool.false_eq_true, decide_true, decide_false]
      rw [if_neg (by decide), if_neg (by decide)]
      refine hK2 _ ?_
      simp only [e_asg, e_ret, e_drop, e_next, e_ifS, e_if, e_test, e_tq, e_and, e_or, e_not, e_andV, e_orV, e_aq1, e_aq0, e_oq1, e_oq0, e_c, e_op, e_neg, e_ngq, e_nil, e_cons, e_call, e_callK, e_cb, e_tup, e_lst, e_sl, e_oN, e_oS, e_soq, e_rev, e_rvq, e_var0, e_varS, e_varB0, e_varBo, e_varBS, e_gn, e_go, e_gt, e_gsc, e_gsn, e_fl_t, e_fl_l, e_fl_s, e_sl_t, e_isN, e_notN, e_max2, e_min2, e_int1, e_abs1, e_tupl, e_lc, e_rng1, e_r1q, e_bowl, e_wipe1, e_for, List.set_cons_succ, List.set_cons_zero, add_ii, sub_ii, mul_ii, fdiv_ii, mod_ii, pow_ii, lt_ii, le_ii, gt_ii, ge_ii, DL.eq_int, DL.ne_int, DL.eq_bl, DL.ne_bl, isi_int_int, isi_int_bool, isi_int_tuple, isi_int_list, isi_bl_int, isi_bl_bool, isi_bl_tuple, isi_bl_list, isi_non_int, isi_non_bool, isi_non_tuple, isi_non_list, isi_tup_int, isi_tup_bool, isi_tup_tuple, isi_tup_list, isi_lst_int, isi_lst_bool, isi_lst_tuple, isi_lst_list, if_true, if_false, Bool.not_true, Bool.not_false, Bool.false_eq_true, decide_true, decide_false, e_zip, e_wiqt, e_wipe2]
      rw [len_cast]
      cases hl : (ts.length == es.length) with
      | false =>
        simp only [e_asg, e_ret, e_drop, e_next, e_ifS, e_if, e_test, e_tq, e_and, e_or, e_not, e_andV, e_orV, e_aq1, e_aq0, e_oq1, e_oq0, e_c, e_op, e_neg, e_ngq, e_nil, e_cons, e_call, e_callK, e_cb, e_tup, e_lst, e_sl, e_oN, e_oS, e_soq, e_rev, e_rvq, e_var0, e_varS, e_varB0, e_varBo, e_varBS, e_gn, e_go, e_gt, e_gsc, e_gsn, e_fl_t, e_fl_l, e_fl_s, e_sl_t, e_isN, e_notN, e_max2, e_min2, e_int1, e_abs1, e_tupl, e_lc, e_rng1, e_r1q, e_bowl, e_wipe1, e_for, List.set_cons_succ, List.set_cons_zero, add_ii, sub_ii, mul_ii, fdiv_ii, mod_ii, pow_ii, lt_ii, le_ii, gt_ii, ge_ii, DL.eq_int, DL.ne_int, DL.eq_bl, DL.ne_bl, isi_int_int, isi_int_bool, isi_int_tuple, isi_int_list, isi_bl_int, isi_bl_bool, isi_bl_tuple, isi_bl_list, isi_non_int, isi_non_bool, isi_non_tuple, isi_non_list, isi_tup_int, isi_tup_bool, isi_tup_tuple, isi_tup_list, isi_lst_int, isi_lst_bool, isi_lst_tuple, isi_lst_list, if_true, if_false, Bool.not_true, Bool.not_false, Bool.false_eq_true, decide_true, decide_false]
        have : sm (.tup ts) (.tup es) = false := by
          rw [sm]
          cases e : sms ts es with
          | false => rfl
          | true =>
            rw [sms_len ts es e] at hl
            simp at hl
        rw [this] at h
        exact h
      | true =>
        simp only [e_asg, e_ret, e_drop, e_next, e_ifS, e_if, e_test, e_tq, e_and, e_or, e_not, e_andV, e_orV, e_aq1, e_aq0, e_oq1, e_oq0, e_c, e_op, e_neg, e_ngq, e_nil, e_cons, e_call, e_callK, e_cb, e_tup, e_lst, e_sl, e_oN, e_oS, e_soq, e_rev, e_rvq, e_var0, e_varS, e_varB0, e_varBo, e_varBS, e_gn, e_go, e_gt, e_gsc, e_gsn, e_fl_t, e_fl_l, e_fl_s, e_sl_t, e_isN, e_notN, e_max2, e_min2, e_int1, e_abs1, e_tupl, e_lc, e_rng1, e_r1q, e_bowl, e_wipe1, e_for, List.set_cons_succ, List.set_cons_zero, add_ii, sub_ii, mul_ii, fdiv_ii, mod_ii, pow_ii, lt_ii, le_ii, gt_ii, ge_ii, DL.eq_int, DL.ne_int, DL.eq_bl, DL.ne_bl, isi_int_int, isi_int_bool, isi_int_tuple, isi_int_list, isi_bl_int, isi_bl_bool, isi_bl_tuple, isi_bl_list, isi_non_int, isi_non_bool, isi_non_tuple, isi_non_list, isi_tup_int, isi_tup_bool, isi_tup_tuple, isi_tup_list, isi_lst_int, isi_lst_bool, isi_lst_tuple, isi_lst_list, if_true, if_false, Bool.not_true, Bool.not_false, Bool.false_eq_true, decide_true, decide_false]
        refine same_list (fun hl acc e => ?_) _ _ (fun t ht' e he k hk => hw m2 hm t e k (hts t ht') (hes e he) hk) hlt hl
        rw [sm] at h
        exact same_end rfl h acc e hl
    | lst ts =>
      simp only [e_asg, e_ret, e_drop, e_next, e_ifS, e_if, e_test, e_tq, e_and, e_or, e_not, e_andV, e_orV, e_aq1, e_aq0, e_oq1, e_oq0, e_c, e_op, e_neg, e_ngq, e_nil, e_cons, e_call, e_callK, e_cb, e_tup, e_lst, e_sl, e_oN, e_oS, e_soq, e_rev, e_rvq, e_var0, e_varS, e_varB0, e_varBo, e_varBS, e_gn, e_go, e_gt, e_gsc, e_gsn, e_fl_t, e_fl_l, e_fl_s, e_sl_t, e_isN, e_notN, e_max2, e_min2, e_int1, e_abs1, e_tupl, e_lc, e_rng1, e_r1q, e_bowl, e_wipe1, e_for, List.set_cons_succ, List.set_cons_zero, add_ii, sub_ii, mul_ii, fdiv_ii, mod_ii, pow_ii, lt_ii, le_ii, gt_ii, ge_ii, DL.eq_int, DL.ne_int, DL.eq_bl, DL.ne_bl, isi_int_int, isi_int_bool, isi_int_tuple, isi_int_list, isi_bl_int, isi_bl_bool, isi_bl_tuple, isi_bl_list, isi_non_int, isi_non_bool, isi_non_tuple, isi_non_list, isi_tup_int, isi_tup_bool, isi_tup_tuple, isi_tup_list, isi_lst_int, isi_lst_bool, isi_lst_tuple, isi_lst_list, if_true, if_false, Bool.not_true, Bool.not_false, Bool.false_eq_true, decide_true, decide_false]
      rw [if_pos (by decide)]
      simpa [sm] using h
    | non => simp only [e_asg, e_ret, e_drop, e_next, e_ifS, e_if, e_test, e_tq, e_and, e_or, e_not, e_andV, e_orV, e_aq1, e_aq0, e_oq1, e_oq0, e_c, e_op, e_neg, e_ngq, e_nil, e_cons, e_call, e_callK, e_cb, e_tup, e_lst, e_sl, e_oN, e_oS, e_soq, e_rev, e_rvq, e_var0, e_varS, e_varB0, e_varBo, e_varBS, e_gn, e_go, e_gt, e_gsc, e_gsn, e_fl_t, e_fl_l, e_fl_s, e_sl_t, e_isN, e_notN, e_max2, e_min2, e_int1, e_abs1, e_tupl, e_lc, e_rng1, e_r1q, e_bowl, e_wipe1, e_for, List.set_cons_succ, List.set_cons_zero, add_ii, sub_ii, mul_ii, fdiv_ii, mod_ii, pow_ii, lt_ii, le_ii, gt_ii, ge_ii, DL.eq_int, DL.ne_int, DL.eq_bl, DL.ne_bl, isi_int_int, isi_int_bool, isi_int_tuple, isi_int_list, isi_bl_int, isi_bl_bool, isi_bl_tuple, isi_bl_list, isi_non_int, isi_non_bool, isi_non_tuple, isi_non_list, isi_tup_int, isi_tup_bool, isi_tup_tuple, isi_tup_list, isi_lst_int, isi_lst_bool, isi_lst_tuple, isi_lst_list, if_true, if_false, Bool.not_true, Bool.not_false, Bool.false_eq_true, decide_true, decide_false]; rw [if_pos (by decide)]; simpa [sm] using h
    | bl b => simp only [e_asg, e_ret, e_drop, e_next, e_ifS, e_if, e_test, e_tq, e_and, e_or, e_not, e_andV, e_orV, e_aq1, e_aq0, e_oq1, e_oq0, e_c, e_op, e_neg, e_ngq, e_nil, e_cons, e_call, e_callK, e_cb, e_tup, e_lst, e_sl, e_oN, e_oS, e_soq, e_rev, e_rvq, e_var0, e_varS, e_varB0, e_varBo, e_varBS, e_gn, e_go, e_gt, e_gsc, e_gsn, e_fl_t, e_fl_l, e_fl_s, e_sl_t, e_isN, e_notN, e_max2, e_min2, e_int1, e_abs1, e_tupl, e_lc, e_rng1, e_r1q, e_bowl, e_wipe1, e_for, List.set_cons_succ, List.set_cons_zero, add_ii, sub_ii, mul_ii, fdiv_ii, mod_ii, pow_ii, lt_ii, le_ii, gt_ii, ge_ii, DL.eq_int, DL.ne_int, DL.eq_bl, DL.ne_bl, isi_int_int, isi_int_bool, isi_int_tuple, isi_int_list, isi_bl_int, isi_bl_bool, isi_bl_tuple, isi_bl_list, isi_non_int, isi_non_bool, isi_non_tuple, isi_non_list, isi_tup_int, isi_tup_bool, isi_tup_tuple, isi_tup_list, isi_lst_int, isi_lst_bool, isi_lst_tuple, isi_lst_list, if_true, if_false, Bool.not_true, Bool.not_false, Bool.false_eq_true, decide_true, decide_false]; rw [if_pos (by decide)]; simpa [sm] using h
    | int i => simp only [e_asg, e_ret, e_drop, e_next, e_ifS, e_if, e_test, e_tq, e_and, e_or, e_not, e_andV, e_orV, e_aq1, e_aq0, e_oq1, e_oq0, e_c, e_op, e_neg, e_ngq, e_nil, e_cons, e_call, e_callK, e_cb, e_tup, e_lst, e_sl, e_oN, e_oS, e_soq, e_rev, e_rvq, e_var0, e_varS, e_varB0, e_varBo, e_varBS, e_gn, e_go, e_gt, e_gsc, e_gsn, e_fl_t, e_fl_l, e_fl_s, e_sl_t, e_isN, e_notN, e_max2, e_min2, e_int1, e_abs1, e_tupl, e_lc, e_rng1, e_r1q, e_bowl, e_wipe1, e_for, List.set_cons_succ, List.set_cons_zero, add_ii, sub_ii, mul_ii, fdiv_ii, mod_ii, pow_ii, lt_ii, le_ii, gt_ii, ge_ii, DL.eq_int, DL.ne_int, DL.eq_bl, DL.ne_bl, isi_int_int, isi_int_bool, isi_int_tuple, isi_int_list, isi_bl_int, isi_bl_bool, isi_bl_tuple, isi_bl_list, isi_non_int, isi_non_bool, isi_non_tuple, isi_non_list, isi_tup_int, isi_tup_bool, isi_tup_tuple, isi_tup_list, isi_lst_int, isi_lst_bool, isi_lst_tuple, isi_lst_list, if_true, if_false, Bool.not_true, Bool.not_false, Bool.false_eq_true, decide_true, decide_false]; rw [if_pos (by decide)]; simpa [sm] using h
    | _ => simp [okT] at ht
  | lst es =>
    obtain ⟨m, hm, hle, hes⟩ := okT_lst hd
    simp only [e_asg, e_ret, e_drop, e_next, e_ifS, e_if, e_test, e_tq, e_and, e_or, e_not, e_andV, e_orV, e_aq1, e_aq0, e_oq1, e_oq0, e_c, e_op, e_neg, e_ngq, e_nil, e_cons, e_call, e_callK, e_cb, e_tup, e_lst, e_sl, e_oN, e_oS, e_soq, e_rev, e_rvq, e_var0, e_varS, e_varB0, e_varBo, e_varBS, e_gn, e_go, e_gt, e_gsc, e_gsn, e_fl_t, e_fl_l, e_fl_s, e_sl_t, e_isN, e_notN, e_max2, e_min2, e_int1, e_abs1, e_tupl, e_lc, e_rng1, e_r1q, e_bowl, e_wipe1, e_for, List.set_cons_succ, List.set_cons_zero, add_ii, sub_ii, mul_ii, fdiv_ii, mod_ii, pow_ii, lt_ii, le_ii, gt_ii, ge_ii, DL.eq_int, DL.ne_int, DL.eq_bl, DL.ne_bl, isi_int_int, isi_int_bool, isi_int_tuple, isi_int_list, isi_bl_int, isi_bl_bool, isi_bl_tuple, isi_bl_list, isi_non_int, isi_non_bool, isi_non_tuple, isi_non_list, isi_tup_int, isi_tup_bool, isi_tup_tuple, isi_tup_list, isi_lst_int, isi_lst_bool, isi_lst_tuple, isi_lst_list, if_true, if_false, Bool.not_true, Bool.not_false, Bool.false_eq_true, decide_true, decide_false]
    refine seq_step fun K2 hK2 => ?_
    cases told with
    | lst ts =>
      obtain ⟨m2, hm2, hlt, hts⟩ := okT_lst ht
      obtain rfl : m2 = m := by omega
      simp only [e_asg, e_ret, e_drop, e_next, e_ifS, e_if, e_test, e_tq, e_and, e_or, e_not, e_andV, e_orV, e_aq1, e_aq0, e_oq1, e_oq0, e_c, e_op, e_neg, e_ngq, e_nil, e_cons, e_call, e_callK, e_cb, e_tup, e_lst, e_sl, e_oN, e_oS, e_soq, e_rev, e_rvq, e_var0, e_varS, e_varB0, e_varBo, e_varBS, e_gn, e_go, e_gt, e_gsc, e_gsn, e_fl_t, e_fl_l, e_fl_s, e_sl_t, e_isN, e_notN, e_max2, e_min2, e_int1, e_abs1, e_tupl, e_lc, e_rng1, e_r1q, e_bowl, e_wipe1, e_for, List.set_cons_succ, List.set_cons_zero, add_ii, sub_ii, mul_ii, fdiv_ii, mod_ii, pow_ii, lt_ii, le_ii, gt_ii, ge_ii, DL.eq_int, DL.ne_int, DL.eq_bl, DL.ne_bl, isi_int_int, isi_int_bool, isi_int_tuple, isi_int_list, isi_bl_int, isi_bl_bool, isi_bl_tuple, isi_bl_list, isi_non_int, isi_non_bool, isi_non_tuple, isi_non_list, isi_tup_int, isi_tup_bool, isi_tup_tuple, isi_tup_list, isi_lst_int, isi_lst_bool, isi_lst_tuple, isi_lst_list, if_true, if_false, Bool.not_true, Bool.not_false, Bool.false_eq_true, decide_true, decide_false]
      rw [if_neg (by decide), if_neg (by decide)]
      refine hK2 _ ?_
      simp only [e_asg, e_ret, e_drop, e_next, e_ifS, e_if, e_test, e_tq, e_and, e_or, e_not, e_andV, e_orV, e_aq1, e_aq0, e_oq1, e_oq0, e_c, e_op, e_neg, e_ngq, e_nil, e_cons, e_call, e_callK, e_cb, e_tup, e_lst, e_sl, e_oN, e_oS, e_soq, e_rev, e_rvq, e_var0, e_varS, e_varB0, e_varBo, e_varBS, e_gn, e_go, e_gt, e_gsc, e_gsn, e_fl_t, e_fl_l, e_fl_s, e_sl_t, e_isN, e_notN, e_max2, e_min2, e_int1, e_abs1, e_tupl, e_lc, e_rng1, e_r1q, e_bowl, e_wipe1, e_for, List.set_cons_succ, List.set_cons_zero, add_ii, sub_ii, mul_ii, fdiv_ii, mod_ii, pow_ii, lt_ii, le_ii, gt_ii, ge_ii, DL.eq_int, DL.ne_int, DL.eq_bl, DL.ne_bl, isi_int_int, isi_int_bool, isi_int_tuple, isi_int_list, isi_bl_int, isi_bl_bool, isi_bl_tuple, isi_bl_list, isi_non_int, isi_non_bool, isi_non_tuple, isi_non_list, isi_tup_int, isi_tup_bool, isi_tup_tuple, isi_tup_list, isi_lst_int, isi_lst_bool, isi_lst_tuple, isi_lst_list, if_true, if_false, Bool.not_true, Bool.not_false, Bool.false_eq_true, decide_true, decide_false, e_zip, e_wiql, e_wipe2]
      rw [len_cast]
      cases hl : (ts.length == es.length) with
      | false =>
        simp only [e_asg, e_ret, e_drop, e_next, e_ifS, e_if, e_test, e_tq, e_and, e_or, e_not, e_andV, e_orV, e_aq1, e_aq0, e_oq1, e_oq0, e_c, e_op, e_neg, e_ngq, e_nil, e_cons, e_call, e_callK, e_cb, e_tup, e_lst, e_sl, e_oN, e_oS, e_soq, e_rev, e_rvq, e_var0, e_varS, e_varB0, e_varBo, e_varBS, e_gn, e_go, e_gt, e_gsc, e_gsn, e_fl_t, e_fl_l, e_fl_s, e_sl_t, e_isN, e_notN, e_max2, e_min2, e_int1, e_abs1, e_tupl, e_lc, e_rng1, e_r1q, e_bowl, e_wipe1, e_for, List.set_cons_succ, List.set_cons_zero, add_ii, sub_ii, mul_ii, fdiv_ii, mod_ii, pow_ii, lt_ii, le_ii, gt_ii, ge_ii, DL.eq_int, DL.ne_int, DL.eq_bl, DL.ne_bl, isi_int_int, isi_int_bool, isi_int_tuple, isi_int_list, isi_bl_int, isi_bl_bool, isi_bl_tuple, isi_bl_list, isi_non_int, isi_non_bool, isi_non_tuple, isi_non_list, isi_tup_int, isi_tup_bool, isi_tup_tuple, isi_tup_list, isi_lst_int, isi_lst_bool, isi_lst_tuple, isi_lst_list, if_true, if_false, Bool.not_true, Bool.not_false, Bool.false_eq_true, decide_true, decide_false]
        have : sm (.lst ts) (.lst es) = false := by
          rw [sm]
          cases e : sms ts es with
          | false => rfl
          | true =>
            rw [sms_len ts es e] at hl
            simp at hl
        rw [this] at h
        exact h
      | true =>
        simp only [e_asg, e_ret, e_drop, e_next, e_ifS, e_if, e_test, e_tq, e_and, e_or, e_not, e_andV, e_orV, e_aq1, e_aq0, e_oq1, e_oq0, e_c, e_op, e_neg, e_ngq, e_nil, e_cons, e_call, e_callK, e_cb, e_tup, e_lst, e_sl, e_oN, e_oS, e_soq, e_rev, e_rvq, e_var0, e_varS, e_varB0, e_varBo, e_varBS, e_gn, e_go, e_gt, e_gsc, e_gsn, e_fl_t, e_fl_l, e_fl_s, e_sl_t, e_isN, e_notN, e_max2, e_min2, e_int1, e_abs1, e_tupl, e_lc, e_rng1, e_r1q, e_bowl, e_wipe1, e_for, List.set_cons_succ, List.set_cons_zero, add_ii, sub_ii, mul_ii, fdiv_ii, mod_ii, pow_ii, lt_ii, le_ii, gt_ii, ge_ii, DL.eq_int, DL.ne_int, DL.eq_bl, DL.ne_bl, isi_int_int, isi_int_bool, isi_int_tuple, isi_int_list, isi_bl_int, isi_bl_bool, isi_bl_tuple, isi_bl_list, isi_non_int, isi_non_bool, isi_non_tuple, isi_non_list, isi_tup_int, isi_tup_bool, isi_tup_tuple, isi_tup_list, isi_lst_int, isi_lst_bool, isi_lst_tuple, isi_lst_list, if_true, if_false, Bool.not_true, Bool.not_false, Bool.false_eq_true, decide_true, decide_false]
        refine same_list (fun hl acc e => ?_) _ _ (fun t ht' e he k hk => hw m2 hm t e k (hts t ht') (hes e he) hk) hlt hl
        rw [sm] at h
        exact same_end rfl h acc e hl
    | tup ts =>
      simp only [e_asg, e_ret, e_drop, e_next, e_ifS, e_if, e_test, e_tq, e_and, e_or, e_not, e_andV, e_orV, e_aq1, e_aq0, e_oq1, e_oq0, e_c, e_op, e_neg, e_ngq, e_nil, e_cons, e_call, e_callK, e_cb, e_tup, e_lst, e_sl, e_oN, e_oS, e_soq, e_rev, e_rvq, e_var0, e_varS, e_varB0, e_varBo, e_varBS, e_gn, e_go, e_gt, e_gsc, e_gsn, e_fl_t, e_fl_l, e_fl_s, e_sl_t, e_isN, e_notN, e_max2, e_min2, e_int1, e_abs1, e_tupl, e_lc, e_rng1, e_r1q, e_bowl, e_wipe1, e_for, List.set_cons_succ, List.set_cons_zero, add_ii, sub_ii, mul_ii, fdiv_ii, mod_ii, pow_ii, lt_ii, le_ii, gt_ii, ge_ii, DL.eq_int, DL.ne_int, DL.eq_bl, DL.ne_bl, isi_int_int, isi_int_bool, isi_int_tuple, isi_int_list, isi_bl_int, isi_bl_bool, isi_bl_tuple, isi_bl_list, isi_non_int, isi_non_bool, isi_non_tuple, isi_non_list, isi_tup_int, isi_tup_bool, isi_tup_tuple, isi_tup_list, isi_lst_int, isi_lst_bool, isi_lst_tuple, isi_lst_list, if_true, if_false, Bool.not_true, Bool.not_false, Bool.false_eq_true, decide_true, decide_false]
      rw [if_pos (by decide)]
      simpa [sm] using h
    | non => simp only [e_asg, e_ret, e_drop, e_next, e_ifS, e_if, e_test, e_tq, e_and, e_or, e_not, e_andV, e_orV, e_aq1, e_aq0, e_oq1, e_oq0, e_c, e_op, e_neg, e_ngq, e_nil, e_cons, e_call, e_callK, e_cb, e_tup, e_lst, e_sl, e_oN, e_oS, e_soq, e_rev, e_rvq, e_var0, e_varS, e_varB0, e_varBo, e_varBS, e_gn, e_go, e_gt, e_gsc, e_gsn, e_fl_t, e_fl_l, e_fl_s, e_sl_t, e_isN, e_notN, e_max2, e_min2, e_int1, e_abs1, e_tupl, e_lc, e_rng1, e_r1q, e_bowl, e_wipe1, e_for, List.set_cons_succ, List.set_cons_zero, add_ii, sub_ii, mul_ii, fdiv_ii, mod_ii, pow_ii, lt_ii, le_ii, gt_ii, ge_ii, DL.eq_int, DL.ne_int, DL.eq_bl, DL.ne_bl, isi_int_int, isi_int_bool, isi_int_tuple, isi_int_list, isi_bl_int, isi_bl_bool, isi_bl_tuple, isi_bl_list, isi_non_int, isi_non_bool, isi_non_tuple, isi_non_list, isi_tup_int, isi_tup_bool, isi_tup_tuple, isi_tup_list, isi_lst_int, isi_lst_bool, isi_lst_tuple, isi_lst_list, if_true, if_false, Bool.not_true, Bool.not_false, Bool.false_eq_true, decide_true, decide_false]; rw [if_neg (by decide), if_pos (by decide)]; simpa [sm] using h
    | bl b => simp only [e_asg, e_ret, e_drop, e_next, e_ifS, e_if, e_test, e_tq, e_and, e_or, e_not, e_andV, e_orV, e_aq1, e_aq0, e_oq1, e_oq0, e_c, e_op, e_neg, e_ngq, e_nil, e_cons, e_call, e_callK, e_cb, e_tup, e_lst, e_sl, e_oN, e_oS, e_soq, e_rev, e_rvq, e_var0, e_varS, e_varB0, e_varBo, e_varBS, e_gn, e_go, e_gt, e_gsc, e_gsn, e_fl_t, e_fl_l, e_fl_s, e_sl_t, e_isN, e_notN, e_max2, e_min2, e_int1, e_abs1, e_tupl, e_lc, e_rng1, e_r1q, e_bowl, e_wipe1, e_for, List.set_cons_succ, List.set_cons_zero, add_ii, sub_ii, mul_ii, fdiv_ii, mod_ii, pow_ii, lt_ii, le_ii, gt_ii, ge_ii, DL.eq_int, DL.ne_int, DL.eq_bl, DL.ne_bl, isi_int_int, isi_int_bool, isi_int_tuple, isi_int_list, isi_bl_int, isi_bl_bool, isi_bl_tuple, isi_bl_list, isi_non_int, isi_non_bool, isi_non_tuple, isi_non_list, isi_tup_int, isi_tup_bool, isi_tup_tuple, isi_tup_list, isi_lst_int, isi_lst_bool, isi_lst_tuple, isi_lst_list, if_true, if_false, Bool.not_true, Bool.not_false, Bool.false_eq_true, decide_true, decide_false]; rw [if_neg (by decide), if_pos (by decide)]; simpa [sm] using h
    | int i => simp only [e_asg, e_ret, e_drop, e_next, e_ifS, e_if, e_test, e_tq, e_and, e_or, e_not, e_andV, e_orV, e_aq1, e_aq0, e_oq1, e_oq0, e_c, e_op, e_neg, e_ngq, e_nil, e_cons, e_call, e_callK, e_cb, e_tup, e_lst, e_sl, e_oN, e_oS, e_soq, e_rev, e_rvq, e_var0, e_varS, e_varB0, e_varBo, e_varBS, e_gn, e_go, e_gt, e_gsc, e_gsn, e_fl_t, e_fl_l, e_fl_s, e_sl_t, e_isN, e_notN, e_max2, e_min2, e_int1, e_abs1, e_tupl, e_lc, e_rng1, e_r1q, e_bowl, e_wipe1, e_for, List.set_cons_succ, List.set_cons_zero, add_ii, sub_ii, mul_ii, fdiv_ii, mod_ii, pow_ii, lt_ii, le_ii, gt_ii, ge_ii, DL.eq_int, DL.ne_int, DL.eq_bl, DL.ne_bl, isi_int_int, isi_int_bool, isi_int_tuple, isi_int_list, isi_bl_int, isi_bl_bool, isi_bl_tuple, isi_bl_list, isi_non_int, isi_non_bool, isi_non_tuple, isi_non_list, isi_tup_int, isi_tup_bool, isi_tup_tuple, isi_tup_list, isi_lst_int, isi_lst_bool, isi_lst_tuple, isi_lst_list, if_true, if_false, Bool.not_true, Bool.not_false, Bool.false_eq_true, decide_true, decide_false]; rw [if_neg (by decide), if_pos (by decide)]; simpa [sm] using h
    | _ => simp [okT] at ht
section
variable {P : Program} {w : World} {K : PySem.W.Frag} {mg : PySem.Str → Option Value} {base : Heap} {T : List (Addr × PySem.Str)}
theorem same_n (M : Mod K mg base T) : ∀ n, FnE P w K mg base T (n + 1) "_law_same" s__law_same ["told", "due"] (wfS n)
  | 0 => by
    have F0 : FnE P w K mg base T 0 "_law_same" s__law_same ["told", "due"] (fun _ _ _ => False) := by
      obtain ⟨f, fd, h1, h2, h3⟩ := M.d__law_same.ex
      exact ⟨f, fd, h1, h2, ⟨fun vs H Q E ⟨O, ds, q, ep, hl, _⟩ => hl, fun A outer s H args us vs Q E hr he hb hv ⟨O, ds, q, ep, hl, ho, ra, hw, _⟩ => hw.elim⟩, h3⟩
    refine (st__law_same M F0).imp fun ds q ep _ ⟨told, due, e, h1, h2, h3⟩ => ?_
    subst e
    exact same_W (n := 0) (fun m e => by omega) h1 h2 h3
  | n + 1 => by
    refine (st__law_same M (same_n M n)).imp fun ds q ep _ ⟨told, due, e, h1, h2, h3⟩ => ?_
    subst e
    refine same_W (n := n + 1) (fun m e t u k ht hu hk => ?_) h1 h2 h3
    obtain rfl : m = n := by omega
    exact ⟨t, u, rfl, ht, hu, hk⟩
theorem d__law_same (M : Mod K mg base T) : FnE P w K mg base T 6 "_law_same" s__law_same ["told", "due"] wf__law_same := same_n M 5
end
end HX
set_option Elab.async false
set_option linter.all false
set_option maxRecDepth 100000
set_option maxHeartbeats 0
namespace HX
open PySem PySem.Spec PyProof.Rows L2 DL NdefX LamX
section
variable {P : Program} {w : World} {K : PySem.W.Frag} {mg : PySem.Str → Option Value} {base : Heap} {T : List (Addr × PySem.Str)}
abbrev N__law_is_number : List PySem.Str := ["thing", "low", "high"]
theorem sc__law_is_number : FnScope N__law_is_number ["thing", "low", "high"] (defScope s__law_is_number) := ⟨rfl, rfl, rfl, by decide +kernel, rfl, by decide +kernel, by decide +kernel⟩
def W__law_is_number (ep : Ex → Prop) : WS := wRet (wAndV (wCB fIsi (waCons (wVarB 0) (waCons (wC (.ty "int")) (waNil)))) (wAndV (wNotV (wCB fIsi (waCons (wVarB 0) (waCons (wC (.ty "bool")) (waNil))))) (wChain fLe fLe (wVarB 1) (wVarB 0) (wVarB 2))))
def wf__law_is_number : WF := fun ds q ep => W__law_is_number ep { nx := fun _ => q .non, rt := q } (startE 3 ds)
theorem d__law_is_number (M : Mod K mg base T) : FnE P w K mg base T 1 "_law_is_number" s__law_is_number ["thing", "low", "high"] wf__law_is_number := fnE_ok M.d__law_is_number sc__law_is_number W__law_is_number (fun f cdv A outer s E G hr hK at_ => by
  unfold W__law_is_number
  exact (dss_one (ds_ret (de_and (de_callB call_isi (cd_isi at_.K) (by rfl) M.z_isinstance boot_isinstance (dab_cons (db_var 0 (pv 0)) (dab_cons (db_of (de_blt (by rfl) M.z_int boot_int)) (dab_nil)))) (de_and (de_not (de_callB call_isi (cd_isi at_.K) (by rfl) M.z_isinstance boot_isinstance (dab_cons (db_var 0 (pv 0)) (dab_cons (db_of (de_blt (by rfl) M.z_bool boot_bool)) (dab_nil))))) (de_one (de_chain op_le od_Le op_le od_Le (db_var 1 (pv 1)) (db_var 0 (pv 0)) (db_var 2 (pv 2)))))))))
abbrev N__law_layered : List PySem.Str := ["clause", "total", "top"]
theorem sc__law_layered : FnScope N__law_layered ["clause", "total"] (defScope s__law_layered) := ⟨rfl, rfl, rfl, by decide +kernel, rfl, by decide +kernel, by decide +kernel⟩
def W__law_layered (ep : Ex → Prop) : WS := wSeq (wAsg (wIf (wTest (wOp fIsN (wOp fIx (wVarB 0) (wC (.int 3))) (wC .non))) (wVar 1) (wCB fMin (waCons (wVarB 1) (waCons (wOp fIx (wVarB 0) (wC (.int 3))) (waNil))))) (wgName 2)) (wRet (wCB fMax (waCons (wC (.int 0)) (waCons (wOp fSub (wVarB 2) (wOp fIx (wVarB 0) (wC (.int 2)))) (waNil)))))
def wf__law_layered : WF := fun ds q ep => W__law_layered ep { nx := fun _ => q .non, rt := q } (startE 3 ds)
theorem d__law_layered (M : Mod K mg base T) : FnE P w K mg base T 1 "_law_layered" s__law_layered ["clause", "total"] wf__law_layered := fnE_ok M.d__law_layered sc__law_layered W__law_layered (fun f cdv A outer s E G hr hK at_ => by
  unfold W__law_layered
  exact (dss_cons (ds_set (i := 2) sc__law_layered.nd rfl (Or.inl rfl) (de_if (dt_cmp op_isN od_IsN (db_of (de_ix at_.K (db_var 0 (pv 0)) (db_of (de_int)) (fun _ _ => rfl))) (db_of (de_non)) (nomark _)) (de_var 1 (pv 1)) (de_callB (cr_Min rfl) (cd_min at_.K) (by rfl) M.z_min boot_min (dab_cons (db_var 1 (pv 1)) (dab_cons (db_of (de_ix at_.K (db_var 0 (pv 0)) (db_of (de_int)) (fun _ _ => rfl))) (dab_nil)))))) (dss_one (ds_ret (de_callB (cr_Max rfl) (cd_max at_.K) (by rfl) M.z_max boot_max (dab_cons (db_of (de_int)) (dab_cons (db_of (de_op op_sub od_Sub (db_var 2 (pv 2)) (db_of (de_ix at_.K (db_var 0 (pv 0)) (db_of (de_int)) (fun _ _ => rfl))))) (dab_nil))))))))
abbrev N__law_damages : List PySem.Str := ["flask", "most", "many", "top", "found", "hour"]
theorem sc__law_damages : FnScope N__law_damages ["flask", "most"] (defScope s__law_damages) := ⟨rfl, rfl, rfl, by decide +kernel, rfl, by decide +kernel, by decide +kernel⟩
def W__law_damages (ep : Ex → Prop) : WS := wSeq (wPar3 2 3 4 (wmVal (wOp fAdd (wC (.int 1)) (wCall wf__law_pour ep (waCons (wVar 0) (waCons (wVar 1) (waNil)))))) (wmVal (wCall wf__law_of ep (waCons (wVar 0) (waCons (wLst (waCons (wC (.int 9)) (waCons (wC (.int 3)) (waCons (wC (.int 60)) (waCons (wC (.int 9999)) (waNil)))))) (waNil))))) (wmOwn (wLst (waNil)))) (wSeq (wFor (wiRng1 (waCons (wVar 2) (waNil))) (wgName 5) (wApp 4 (wCall wf__law_of ep (waCons (wVar 0) (waCons (wLst (waCons (wC (.int 0)) (waCons (wC (.int 0)) (waCons (wCall wf__law_pour ep (waCons (wVar 0) (waCons (wOp fAdd (wVarB 3) (wC (.int 1))) (waNil)))) (waCons (wCall wf__law_pour ep (waCons (wVar 0) (waCons (wOp fAdd (wVarB 3) (wC (.int 1))) (waNil)))) (waCons (wVar 3) (waNil))))))) (waNil)))))) (wRet (wCB fTuple (waCons (wVarB 4) (waNil)))))
def wf__law_damages : WF := fun ds q ep => W__law_damages ep { nx := fun _ => q .non, rt := q } (startE 6 ds)
theorem d__law_damages (M : Mod K mg base T) : FnE P w K mg base T 3 "_law_damages" s__law_damages ["flask", "most"] wf__law_damages := fnE_ok M.d__law_damages sc__law_damages W__law_damages (fun f cdv A outer s E G hr hK at_ => by
  unfold W__law_damages
  exact (dss_cons (ds_par3 (i := 2) (j := 3) (l := 4) rfl sc__law_damages.nd rfl rfl rfl (by decide) (by decide) (by decide) rfl rfl rfl (dm_val (de_opK (r := rAdd) at_.K op_Add od_Add (db_of (de_int)) (db_of (de_callE (k := 1) at_.K at_.T (d__law_pour M) (hr.mono (by decide)) at_.pass (da_cons (de_var 0 (pv 0)) (da_cons (de_var 1 (pv 1)) (da_nil))) (by decide) rfl rfl (by decide +kernel) rfl rfl)))) (dm_val (de_callE (k := 2) at_.K at_.T (d__law_of M) (hr.mono (by decide)) at_.pass (da_cons (de_var 0 (pv 0)) (da_cons (de_lst (da_cons (de_int) (da_cons (de_int) (da_cons (de_int) (da_cons (de_int) (da_nil)))))) (da_nil))) (by decide) rfl rfl (by decide +kernel) rfl rfl)) (dm_own (df_lst (da_nil)))) (dss_cons (ds_for (vs := [5]) at_.own rfl (di_range1 (by rfl) M.z_range (da_cons (de_var 2 (pv 2)) (da_nil))) (dg_name 5 (by decide) (pg_name (i := 5) sc__law_damages.nd rfl (Or.inl rfl))) (dss_one (ds_app (i := 4) (pv 4) (de_callE (k := 2) at_.K at_.T (d__law_of M) (hr.mono (by decide)) at_.pass (da_cons (de_var 0 (pv 0)) (da_cons (de_lst (da_cons (de_int) (da_cons (de_int) (da_cons (de_callE (k := 1) at_.K at_.T (d__law_pour M) (hr.mono (by decide)) at_.pass (da_cons (de_var 0 (pv 0)) (da_cons (de_opK (r := rAdd) at_.K op_Add od_Add (db_var 3 (pv 3)) (db_of (de_int))) (da_nil))) (by decide) rfl rfl (by decide +kernel) rfl rfl) (da_cons (de_callE (k := 1) at_.K at_.T (d__law_pour M) (hr.mono (by decide)) at_.pass (da_cons (de_var 0 (pv 0)) (da_cons (de_opK (r := rAdd) at_.K op_Add od_Add (db_var 3 (pv 3)) (db_of (de_int))) (da_nil))) (by decide) rfl rfl (by decide +kernel) rfl rfl) (da_cons (de_var 3 (pv 3)) (da_nil))))))) (da_nil))) (by decide) rfl rfl (by decide +kernel) rfl rfl) (fun ha => pe_bm PySem.F.plainAttrs_list PySem.F.slot_list_append PySem.F.type_list_append mt_append (pv 4) ha)))) (dss_one (ds_ret (de_callTy call_tuple_of (cd_tuple at_.K) (by rfl) M.z_tuple boot_tuple (dab_cons (db_var 4 (pv 4)) (dab_nil))))))))
abbrev N__law_clause : List PySem.Str := ["flask", "damages", "total", "many", "hours", "low", "high"]
theorem sc__law_clause : FnScope N__law_clause ["flask", "damages"] (defScope s__law_clause) := ⟨rfl, rfl, rfl, by decide +kernel, rfl, by decide +kernel, by decide +kernel⟩
def W__law_clause (ep : Ex → Prop) : WS := wSeq (wPar2 2 3 (wmVal (wCB fSum (waCons (wVarB 1) (waNil)))) (wmVal (wCB fLen (waCons (wVarB 1) (waNil))))) (wSeq (wAsg (wCall wf__law_of ep (waCons (wVar 0) (waCons (wLst (waCons (wC (.int 1)) (waCons (wC (.int 2)) (waCons (wC (.int 3)) (waCons (wOp fAdd (wC (.int 1)) (wCall wf__law_pour ep (waCons (wVar 0) (waCons (wVar 3) (waNil))))) (waCons (wC (.int 60)) (waNil))))))) (waNil)))) (wgName 4)) (wSeq (wAsg (wCall wf__law_of ep (waCons (wVar 0) (waCons (wLst (waCons (wC (.int 0)) (waCons (wC (.int 0)) (waCons (wCB fMin (waCons (wC (.int 9998)) (waCons (wOp fFdiv (wVarB 2) (wC (.int 4))) (waNil)))) (waCons (wCall wf__law_pour ep (waCons (wVar 0) (waCons (wC (.int 9)) (waNil)))) (waCons (wCB fMin (waCons (wC (.int 9998)) (waCons (wVarB 2) (waNil)))) (waNil))))))) (waNil)))) (wgName 5)) (wSeq (wAsg (wCall wf__law_of ep (waCons (wVar 0) (waCons (wLst (waCons (wC .non) (waCons (wCB fMin (waCons (wC (.int 9999)) (waCons (wOp fAdd (wOp fAdd (wVarB 5) (wC (.int 1))) (wCall wf__law_pour ep (waCons (wVar 0) (waCons (wC (.int 20)) (waNil))))) (waNil)))) (waCons (wCB fMin (waCons (wC (.int 9999)) (waCons (wOp fAdd (wOp fAdd (wVarB 5) (wC (.int 1))) (wOp fFdiv (wVarB 2) (wC (.int 2)))) (waNil)))) (waCons (wC (.int 9999)) (waNil)))))) (waNil)))) (wgName 6)) (wRet (wTup (waCons (wVar 4) (waCons (wCall wf__law_of ep (waCons (wVar 0) (waCons (wLst (waCons (wC (.int 1)) (waCons (wC (.int 2)) (waCons (wC (.int 3)) (waCons (wC (.int 9)) (waCons (wOp fAdd (wC (.int 1)) (wCall wf__law_pour ep (waCons (wVar 0) (waCons (wC (.int 9)) (waNil))))) (waNil))))))) (waNil)))) (waCons (wVar 5) (waCons (wVar 6) (waNil))))))))))
def wf__law_clause : WF := fun ds q ep => W__law_clause ep { nx := fun _ => q .non, rt := q } (startE 7 ds)
theorem d__law_clause (M : Mod K mg base T) : FnE P w K mg base T 3 "_law_clause" s__law_clause ["flask", "damages"] wf__law_clause := fnE_ok M.d__law_clause sc__law_clause W__law_clause (fun f cdv A outer s E G hr hK at_ => by
  unfold W__law_clause
  exact (dss_cons (ds_par2 (i := 2) (j := 3) rfl sc__law_clause.nd rfl rfl (by decide) rfl rfl (dm_val (de_callB (cr_Sum rfl) (cd_sum at_.K) (by rfl) M.z_sum boot_sum (dab_cons (db_var 1 (pv 1)) (dab_nil)))) (dm_val (de_callB call_len (cd_len at_.K) (by rfl) M.z_len boot_len (dab_cons (db_var 1 (pv 1)) (dab_nil))))) (dss_cons (ds_set (i := 4) sc__law_clause.nd rfl (Or.inl rfl) (de_callE (k := 2) at_.K at_.T (d__law_of M) (hr.mono (by decide)) at_.pass (da_cons (de_var 0 (pv 0)) (da_cons (de_lst (da_cons (de_int) (da_cons (de_int) (da_cons (de_int) (da_cons (de_opK (r := rAdd) at_.K op_Add od_Add (db_of (de_int)) (db_of (de_callE (k := 1) at_.K at_.T (d__law_pour M) (hr.mono (by decide)) at_.pass (da_cons (de_var 0 (pv 0)) (da_cons (de_var 3 (pv 3)) (da_nil))) (by decide) rfl rfl (by decide +kernel) rfl rfl))) (da_cons (de_int) (da_nil))))))) (da_nil))) (by decide) rfl rfl (by decide +kernel) rfl rfl)) (dss_cons (ds_set (i := 5) sc__law_clause.nd rfl (Or.inl rfl) (de_callE (k := 2) at_.K at_.T (d__law_of M) (hr.mono (by decide)) at_.pass (da_cons (de_var 0 (pv 0)) (da_cons (de_lst (da_cons (de_int) (da_cons (de_int) (da_cons (de_callB (cr_Min rfl) (cd_min at_.K) (by rfl) M.z_min boot_min (dab_cons (db_of (de_int)) (dab_cons (db_of (de_op op_fdiv od_Fdiv (db_var 2 (pv 2)) (db_of (de_int)))) (dab_nil)))) (da_cons (de_callE (k := 1) at_.K at_.T (d__law_pour M) (hr.mono (by decide)) at_.pass (da_cons (de_var 0 (pv 0)) (da_cons (de_int) (da_nil))) (by decide) rfl rfl (by decide +kernel) rfl rfl) (da_cons (de_callB (cr_Min rfl) (cd_min at_.K) (by rfl) M.z_min boot_min (dab_cons (db_of (de_int)) (dab_cons (db_var 2 (pv 2)) (dab_nil)))) (da_nil))))))) (da_nil))) (by decide) rfl rfl (by decide +kernel) rfl rfl)) (dss_cons (ds_set (i := 6) sc__law_clause.nd rfl (Or.inl rfl) (de_callE (k := 2) at_.K at_.T (d__law_of M) (hr.mono (by decide)) at_.pass (da_cons (de_var 0 (pv 0)) (da_cons (de_lst (da_cons (de_non) (da_cons (de_callB (cr_Min rfl) (cd_min at_.K) (by rfl) M.z_min boot_min (dab_cons (db_of (de_int)) (dab_cons (db_of (de_opK (r := rAdd) at_.K op_Add od_Add (db_of (de_opK (r := rAdd) at_.K op_Add od_Add (db_var 5 (pv 5)) (db_of (de_int)))) (db_of (de_callE (k := 1) at_.K at_.T (d__law_pour M) (hr.mono (by decide)) at_.pass (da_cons (de_var 0 (pv 0)) (da_cons (de_int) (da_nil))) (by decide) rfl rfl (by decide +kernel) rfl rfl)))) (dab_nil)))) (da_cons (de_callB (cr_Min rfl) (cd_min at_.K) (by rfl) M.z_min boot_min (dab_cons (db_of (de_int)) (dab_cons (db_of (de_opK (r := rAdd) at_.K op_Add od_Add (db_of (de_opK (r := rAdd) at_.K op_Add od_Add (db_var 5 (pv 5)) (db_of (de_int)))) (db_of (de_op op_fdiv od_Fdiv (db_var 2 (pv 2)) (db_of (de_int)))))) (dab_nil)))) (da_cons (de_int) (da_nil)))))) (da_nil))) (by decide) rfl rfl (by decide +kernel) rfl rfl)) (dss_one (ds_ret (de_tup (da_cons (de_var 4 (pv 4)) (da_cons (de_callE (k := 2) at_.K at_.T (d__law_of M) (hr.mono (by decide)) at_.pass (da_cons (de_var 0 (pv 0)) (da_cons (de_lst (da_cons (de_int) (da_cons (de_int) (da_cons (de_int) (da_cons (de_int) (da_cons (de_opK (r := rAdd) at_.K op_Add od_Add (db_of (de_int)) (db_of (de_callE (k := 1) at_.K at_.T (d__law_pour M) (hr.mono (by decide)) at_.pass (da_cons (de_var 0 (pv 0)) (da_cons (de_int) (da_nil))) (by decide) rfl rfl (by decide +kernel) rfl rfl))) (da_nil))))))) (da_nil))) (by decide) rfl rfl (by decide +kernel) rfl rfl) (da_cons (de_var 5 (pv 5)) (da_cons (de_var 6 (pv 6)) (da_nil)))))))))))))
abbrev N__law_is_choice : List PySem.Str := ["damages", "clause", "thing", "ahead", "pair"]
theorem sc__law_is_choice : FnScope N__law_is_choice ["damages", "clause", "thing"] (defScope s__law_is_choice) := ⟨rfl, rfl, rfl, by decide +kernel, rfl, by decide +kernel, by decide +kernel⟩
def W__law_is_choice (ep : Ex → Prop) : WS := wSeq (wIfS (wOr (wNot (wTest (wCB fIsi (waCons (wVarB 2) (waCons (wC (.ty "tuple")) (waNil)))))) (wTest (wOp fGt (wCB fLen (waCons (wVarB 2) (waNil))) (wOp fIx (wVarB 1) (wC (.int 1)))))) (wRet (wC (.bl false))) (wNext)) (wSeq (wAsg (wC (.int 0)) (wgName 3)) (wSeq (wFor (wiSeq (wVar 2)) (wgName 4) (wSeq (wIfS (wOr (wNot (wTest (wCB fIsi (waCons (wVarB 4) (waCons (wC (.ty "tuple")) (waNil)))))) (wOr (wTest (wOp fNe (wCB fLen (waCons (wVarB 4) (waNil))) (wC (.int 2)))) (wNot (wTest (wCall wf__law_is_number ep (waCons (wOp fIx (wVarB 4) (wC (.int 0))) (waCons (wVar 3) (waCons (wOp fSub (wCB fLen (waCons (wVarB 0) (waNil))) (wC (.int 1))) (waNil))))))))) (wRet (wC (.bl false))) (wNext)) (wSeq (wIfS (wNot (wTest (wCall wf__law_is_number ep (waCons (wOp fIx (wVarB 4) (wC (.int 1))) (waCons (wOp fIx (wVarB 4) (wC (.int 0))) (waCons (wOp fSub (wCB fMin (waCons (wCB fLen (waCons (wVarB 0) (waNil))) (waCons (wOp fAdd (wOp fIx (wVarB 4) (wC (.int 0))) (wOp fIx (wVarB 1) (wC (.int 0)))) (waNil)))) (wC (.int 1))) (waNil))))))) (wRet (wC (.bl false))) (wNext)) (wAsg (wOp fAdd (wOp fIx (wVarB 4) (wC (.int 1))) (wC (.int 1))) (wgName 3))))) (wRet (wC (.bl true)))))
def wf__law_is_choice : WF := fun ds q ep => W__law_is_choice ep { nx := fun _ => q .non, rt := q } (startE 5 ds)
theorem d__law_is_choice (M : Mod K mg base T) : FnE P w K mg base T 2 "_law_is_choice" s__law_is_choice ["damages", "clause", "thing"] wf__law_is_choice := fnE_ok M.d__law_is_choice sc__law_is_choice W__law_is_choice (fun f cdv A outer s E G hr hK at_ => by
  unfold W__law_is_choice
  exact (dss_cons (ds_if (dt_w (dw_or (dt_not (dt_val (de_callB call_isi (cd_isi at_.K) (by rfl) M.z_isinstance boot_isinstance (dab_cons (db_var 2 (pv 2)) (dab_cons (db_of (de_blt (by rfl) M.z_tuple boot_tuple)) (dab_nil)))))) (dw_or1 (dt_cmp op_gt od_Gt (db_of (de_callB call_len (cd_len at_.K) (by rfl) M.z_len boot_len (dab_cons (db_var 2 (pv 2)) (dab_nil)))) (db_of (de_ix at_.K (db_var 1 (pv 1)) (db_of (de_int)) (fun _ _ => rfl))) (nomark _))))) (dss_one (ds_ret (de_bl))) (dss_nil)) (dss_cons (ds_set (i := 3) sc__law_is_choice.nd rfl (Or.inl rfl) (de_int)) (dss_cons (ds_for (vs := [4]) at_.own rfl (di_seq at_.K (de_var 2 (pv 2))) (dg_name 4 (by decide) (pg_name (i := 4) sc__law_is_choice.nd rfl (Or.inl rfl))) (dss_cons (ds_if (dt_w (dw_or (dt_not (dt_val (de_callB call_isi (cd_isi at_.K) (by rfl) M.z_isinstance boot_isinstance (dab_cons (db_var 4 (pv 4)) (dab_cons (db_of (de_blt (by rfl) M.z_tuple boot_tuple)) (dab_nil)))))) (dw_or (dt_cmpK (r := rNeD) at_.K (op_neD hr.units) od_Ne (db_of (de_callB call_len (cd_len at_.K) (by rfl) M.z_len boot_len (dab_cons (db_var 4 (pv 4)) (dab_nil)))) (db_of (de_int)) (nomark _)) (dw_or1 (dt_not (dt_val (de_callE (k := 1) at_.K at_.T (d__law_is_number M) (hr.mono (by decide)) at_.pass (da_cons (de_ix at_.K (db_var 4 (pv 4)) (db_of (de_int)) (fun _ _ => rfl)) (da_cons (de_var 3 (pv 3)) (da_cons (de_op op_sub od_Sub (db_of (de_callB call_len (cd_len at_.K) (by rfl) M.z_len boot_len (dab_cons (db_var 0 (pv 0)) (dab_nil)))) (db_of (de_int))) (da_nil)))) (by decide) rfl rfl (by decide +kernel) rfl rfl))))))) (dss_one (ds_ret (de_bl))) (dss_nil)) (dss_cons (ds_if (dt_not (dt_val (de_callE (k := 1) at_.K at_.T (d__law_is_number M) (hr.mono (by decide)) at_.pass (da_cons (de_ix at_.K (db_var 4 (pv 4)) (db_of (de_int)) (fun _ _ => rfl)) (da_cons (de_ix at_.K (db_var 4 (pv 4)) (db_of (de_int)) (fun _ _ => rfl)) (da_cons (de_op op_sub od_Sub (db_of (de_callB (cr_Min rfl) (cd_min at_.K) (by rfl) M.z_min boot_min (dab_cons (db_of (de_callB call_len (cd_len at_.K) (by rfl) M.z_len boot_len (dab_cons (db_var 0 (pv 0)) (dab_nil)))) (dab_cons (db_of (de_opK (r := rAdd) at_.K op_Add od_Add (db_of (de_ix at_.K (db_var 4 (pv 4)) (db_of (de_int)) (fun _ _ => rfl))) (db_of (de_ix at_.K (db_var 1 (pv 1)) (db_of (de_int)) (fun _ _ => rfl))))) (dab_nil))))) (db_of (de_int))) (da_nil)))) (by decide) rfl rfl (by decide +kernel) rfl rfl))) (dss_one (ds_ret (de_bl))) (dss_nil)) (dss_one (ds_set (i := 3) sc__law_is_choice.nd rfl (Or.inl rfl) (de_opK (r := rAdd) at_.K op_Add od_Add (db_of (de_ix at_.K (db_var 4 (pv 4)) (db_of (de_int)) (fun _ _ => rfl))) (db_of (de_int)))))))) (dss_one (ds_ret (de_bl)))))))
abbrev N__law_brings : List PySem.Str := ["damages", "clause", "choice", "low", "high"]
theorem sc__law_brings : FnScope N__law_brings ["damages", "clause", "choice"] (defScope s__law_brings) := ⟨rfl, rfl, rfl, by decide +kernel, rfl, by decide +kernel, by decide +kernel⟩
def W__law_brings (ep : Ex → Prop) : WS := wRet (wCB fSum (waCons (wLc (wiSeq (wVarB 2)) (wgTup (wgsCons (wgName 3) (wgsCons (wgName 4) (wgsNil)))) (wYes) (wCall wf__law_layered (fun _ => False) (waCons (wVar 1) (waCons (wCB fSum (waCons (wSl (wVarB 0) (woSome (wVar 3)) (woSome (wOp fAdd (wVarB 4) (wC (.int 1))))) (waNil))) (waNil)))) [3, 4]) (waNil)))
def wf__law_brings : WF := fun ds q ep => W__law_brings ep { nx := fun _ => q .non, rt := q } (startE 5 ds)
theorem d__law_brings (M : Mod K mg base T) : FnE P w K mg base T 2 "_law_brings" s__law_brings ["damages", "clause", "choice"] wf__law_brings := fnE_ok M.d__law_brings sc__law_brings W__law_brings (fun f cdv A outer s E G hr hK at_ => by
  unfold W__law_brings
  exact (dss_one (ds_ret (de_callB (cr_Sum rfl) (cd_sum at_.K) (by rfl) M.z_sum boot_sum (dab_cons (db_of (de_of_df (de_lc (own := [("low", 3), ("high", 4)]) rfl sc__law_brings.nd (blkOk_by (own := [("low", 3), ("high", 4)]) (N := N__law_brings) (sc := defScope s__law_brings) (by decide +kernel)) (dib_seq at_.K (db_var 2 (pv 2))) (fun _ _ _ _ _ => dg_tup at_.K rfl (dgs_cons (dg_name 3 (by decide) (pg_name (i := 3) sc__law_brings.nd rfl (Or.inl rfl))) (dgs_cons (dg_name 4 (by decide) (pg_name (i := 4) sc__law_brings.nd rfl (Or.inl rfl))) (dgs_nil))) (len_name (len_name (len_nil)))) (fun _ _ _ _ _ => dts_nil) (fun _ _ _ _ _ => de_callE (k := 1) at_.K at_.T (d__law_layered M) (hr.mono (by decide)) pass_nox (da_cons (de_var 1 (pv 1)) (da_cons (de_callB (cr_Sum rfl) (cd_sum at_.K) (by rfl) M.z_sum boot_sum (dab_cons (db_of (de_slice at_.K (db_var 0 (pv 0)) (do_some (de_var 3 (pv 3))) (do_some (de_opK (r := rAdd) at_.K op_Add od_Add (db_var 4 (pv 4)) (db_of (de_int)))))) (dab_nil))) (da_nil))) (by decide) rfl rfl (by decide +kernel) rfl rfl)))) (dab_nil))))))
abbrev N__law_most : List PySem.Str := ["damages", "clause", "many", "rows", "end", "count", "best", "low", "hour"]
theorem sc__law_most : FnScope N__law_most ["damages", "clause"] (defScope s__law_most) := ⟨rfl, rfl, rfl, by decide +kernel, rfl, by decide +kernel, by decide +kernel⟩
def W__law_most (ep : Ex → Prop) : WS := wSeq (wAsg (wCB fLen (waCons (wVarB 0) (waNil))) (wgName 2)) (wSeq (wAsg (wLc (wiRng1 (waCons (wOp fAdd (wVarB 2) (wC (.int 1))) (waNil))) (wgName 8) (wYes) (wOp fRepL (wLst (waCons (wC (.int 0)) (waNil))) (wOp fAdd (wOp fIx (wVarB 1) (wC (.int 1))) (wC (.int 1)))) [8]) (wgOwn2 3)) (wSeq (wFor (wiRng2 (waCons (wC (.int 1)) (waCons (wOp fAdd (wVarB 2) (wC (.int 1))) (waNil)))) (wgName 4) (wFor (wiRng2 (waCons (wC (.int 1)) (waCons (wOp fAdd (wOp fIx (wVarB 1) (wC (.int 1))) (wC (.int 1))) (waNil)))) (wgName 5) (wSeq (wAsg (wCB fMax (waCons (wIx2 3 (wOp fSub (wVarB 4) (wC (.int 1))) (wVar 5)) (waCons (wIx2 3 (wVar 4) (wOp fSub (wVarB 5) (wC (.int 1)))) (waNil)))) (wgName 6)) (wSeq (wFor (wiRng2 (waCons (wCB fMax (waCons (wC (.int 0)) (waCons (wOp fSub (wVarB 4) (wOp fIx (wVarB 1) (wC (.int 0)))) (waNil)))) (waCons (wVar 4) (waNil)))) (wgName 7) (wAsg (wCB fMax (waCons (wVarB 6) (waCons (wOp fAdd (wIx2 3 (wVar 7) (wOp fSub (wVarB 5) (wC (.int 1)))) (wCall wf__law_layered ep (waCons (wVar 1) (waCons (wCB fSum (waCons (wSl (wVarB 0) (woSome (wVar 7)) (woSome (wVar 4))) (waNil))) (waNil))))) (waNil)))) (wgName 6))) (wPut2 3 (wVar 4) (wVar 5) (wVar 6)))))) (wRet (wIx2 3 (wVar 2) (wOp fIx (wVarB 1) (wC (.int 1)))))))
def wf__law_most : WF := fun ds q ep => W__law_most ep { nx := fun _ => q .non, rt := q } (startE 9 ds)
theorem d__law_most (M : Mod K mg base T) : FnE P w K mg base T 2 "_law_most" s__law_most ["damages", "clause"] wf__law_most := fnE_ok M.d__law_most sc__law_most W__law_most (fun f cdv A outer s E G hr hK at_ => by
  unfold W__law_most
  exact (dss_cons (ds_set (i := 2) sc__law_most.nd rfl (Or.inl rfl) (de_callB call_len (cd_len at_.K) (by rfl) M.z_len boot_len (dab_cons (db_var 0 (pv 0)) (dab_nil)))) (dss_cons (ds_setLc2D (own := [("hour", 8)]) (i := 3) rfl sc__law_most.nd rfl rfl (sw_true rfl rfl rfl (by decide +kernel)) (blkOk_by (own := [("hour", 8)]) (N := N__law_most) (sc := defScope s__law_most) (by decide +kernel)) (dib_of (di_range1 (by rfl) M.z_range (da_cons (de_opK (r := rAdd) at_.K op_Add od_Add (db_var 2 (pv 2)) (db_of (de_int))) (da_nil)))) (fun _ _ _ _ _ => dg_name 8 (by decide) (pg_name (i := 8) sc__law_most.nd rfl (Or.inl rfl))) (fun _ _ _ _ _ => dts_nil) (fun _ _ _ _ _ => df_repL (db_of (de_lst (da_cons (de_int) (da_nil)))) (db_of (de_opK (r := rAdd) at_.K op_Add od_Add (db_of (de_ix at_.K (db_var 1 (pv 1)) (db_of (de_int)) (fun _ _ => rfl))) (db_of (de_int)))))) (dss_cons (ds_for (vs := [4]) at_.own rfl (di_range2 (by rfl) M.z_range (da_cons (de_int) (da_cons (de_opK (r := rAdd) at_.K op_Add od_Add (db_var 2 (pv 2)) (db_of (de_int))) (da_nil)))) (dg_name 4 (by decide) (pg_name (i := 4) sc__law_most.nd rfl (Or.inl rfl))) (dss_one (ds_for (vs := [5]) at_.own rfl (di_range2 (by rfl) M.z_range (da_cons (de_int) (da_cons (de_opK (r := rAdd) at_.K op_Add od_Add (db_of (de_ix at_.K (db_var 1 (pv 1)) (db_of (de_int)) (fun _ _ => rfl))) (db_of (de_int))) (da_nil)))) (dg_name 5 (by decide) (pg_name (i := 5) sc__law_most.nd rfl (Or.inl rfl))) (dss_cons (ds_set (i := 6) sc__law_most.nd rfl (Or.inl rfl) (de_callB (cr_Max rfl) (cd_max at_.K) (by rfl) M.z_max boot_max (dab_cons (db_of (de_ix22 at_.K (pv 3) (de_op op_sub od_Sub (db_var 4 (pv 4)) (db_of (de_int))) (de_var 5 (pv 5)) (fun _ _ => rfl) (fun _ _ => rfl))) (dab_cons (db_of (de_ix22 at_.K (pv 3) (de_var 4 (pv 4)) (de_op op_sub od_Sub (db_var 5 (pv 5)) (db_of (de_int))) (fun _ _ => rfl) (fun _ _ => rfl))) (dab_nil))))) (dss_cons (ds_for (vs := [7]) at_.own rfl (di_range2 (by rfl) M.z_range (da_cons (de_callB (cr_Max rfl) (cd_max at_.K) (by rfl) M.z_max boot_max (dab_cons (db_of (de_int)) (dab_cons (db_of (de_op op_sub od_Sub (db_var 4 (pv 4)) (db_of (de_ix at_.K (db_var 1 (pv 1)) (db_of (de_int)) (fun _ _ => rfl))))) (dab_nil)))) (da_cons (de_var 4 (pv 4)) (da_nil)))) (dg_name 7 (by decide) (pg_name (i := 7) sc__law_most.nd rfl (Or.inl rfl))) (dss_one (ds_set (i := 6) sc__law_most.nd rfl (Or.inl rfl) (de_callB (cr_Max rfl) (cd_max at_.K) (by rfl) M.z_max boot_max (dab_cons (db_var 6 (pv 6)) (dab_cons (db_of (de_opK (r := rAdd) at_.K op_Add od_Add (db_of (de_ix22 at_.K (pv 3) (de_var 7 (pv 7)) (de_op op_sub od_Sub (db_var 5 (pv 5)) (db_of (de_int))) (fun _ _ => rfl) (fun _ _ => rfl))) (db_of (de_callE (k := 1) at_.K at_.T (d__law_layered M) (hr.mono (by decide)) at_.pass (da_cons (de_var 1 (pv 1)) (da_cons (de_callB (cr_Sum rfl) (cd_sum at_.K) (by rfl) M.z_sum boot_sum (dab_cons (db_of (de_slice at_.K (db_var 0 (pv 0)) (do_some (de_var 7 (pv 7))) (do_some (de_var 4 (pv 4))))) (dab_nil))) (da_nil))) (by decide) rfl rfl (by decide +kernel) rfl rfl)))) (dab_nil))))))) (dss_one (ds_put2 (i := 3) at_.K (pv 3) (de_var 4 (pv 4)) (de_var 5 (pv 5)) (de_var 6 (pv 6)) (fun _ _ => rfl) (fun he hb hi => ps_asg he (pg_sub hb hi set_list))))))))) (dss_one (ds_ret (de_ix22 at_.K (pv 3) (de_var 2 (pv 2)) (de_ix at_.K (db_var 1 (pv 1)) (db_of (de_int)) (fun _ _ => rfl)) (fun _ _ => rfl) (fun _ _ => rfl))))))))
abbrev N__law_is_told : List PySem.Str := ["damages", "clause", "due", "told"]
theorem sc__law_is_told : FnScope N__law_is_told ["damages", "clause", "due"] (defScope s__law_is_told) := ⟨rfl, rfl, rfl, by decide +kernel, rfl, by decide +kernel, by decide +kernel⟩
def W__law_is_told (ep : Ex → Prop) : WS := wSeq (wIfS (wNot (wTest (wCall wf__law_same ep (waCons (wLst (waCons (wCall wf_most_brought ep (waCons (wVar 0) (waCons (wVar 1) (waNil)))) (waCons (wCallK wf_most_brought ep [1, 0] waNil (waCons (wVar 1) (waCons (wVar 0) (waNil)))) (waNil)))) (waCons (wLst (waCons (wVar 2) (waCons (wVar 2) (waNil)))) (waNil)))))) (wRet (wC (.bl false))) (wNext)) (wSeq (wAsg (wCallK wf_best_choice ep [1, 0] waNil (waCons (wVar 1) (waCons (wVar 0) (waNil)))) (wgName 3)) (wRet (wAndV (wCall wf__law_is_choice ep (waCons (wVar 0) (waCons (wVar 1) (waCons (wVar 3) (waNil))))) (wOp fEq (wCall wf__law_brings ep (waCons (wVar 0) (waCons (wVar 1) (waCons (wVar 3) (waNil))))) (wVarB 2)))))
def wf__law_is_told : WF := fun ds q ep => W__law_is_told ep { nx := fun _ => q .non, rt := q } (startE 4 ds)
theorem d__law_is_told (M : Mod K mg base T) : FnE P w K mg base T 9 "_law_is_told" s__law_is_told ["damages", "clause", "due"] wf__law_is_told := fnE_ok M.d__law_is_told sc__law_is_told W__law_is_told (fun f cdv A outer s E G hr hK at_ => by
  unfold W__law_is_told
  exact (dss_cons (ds_if (dt_not (dt_val (de_callE (k := 6) at_.K at_.T (d__law_same M) (hr.mono (by decide)) at_.pass (da_cons (de_lst (da_cons (de_callE (k := 8) at_.K at_.T (d_most_brought M) (hr.mono (by decide)) at_.pass (da_cons (de_var 0 (pv 0)) (da_cons (de_var 1 (pv 1)) (da_nil))) (by decide) rfl rfl (by decide +kernel) rfl rfl) (da_cons (de_callKE (ks := ["clause", "damages"]) (pm := [1, 0]) (k := 8) at_.K at_.T (d_most_brought M) (hr.mono (by decide)) at_.pass (dk_cons (de_var 1 (pv 1)) (dk_cons (de_var 0 (pv 0)) (dk_nil))) (by decide) (fun _ _ _ _ _ _ ws h2 => match ws, h2 with | [_, _], _ => rfl) rfl rfl rfl rfl rfl rfl (by decide +kernel) rfl) (da_nil)))) (da_cons (de_lst (da_cons (de_var 2 (pv 2)) (da_cons (de_var 2 (pv 2)) (da_nil)))) (da_nil))) (by decide) rfl rfl (by decide +kernel) rfl rfl))) (dss_one (ds_ret (de_bl))) (dss_nil)) (dss_cons (ds_set (i := 3) sc__law_is_told.nd rfl (Or.inl rfl) (de_callKE (ks := ["clause", "damages"]) (pm := [1, 0]) (k := 8) at_.K at_.T (d_best_choice M) (hr.mono (by decide)) at_.pass (dk_cons (de_var 1 (pv 1)) (dk_cons (de_var 0 (pv 0)) (dk_nil))) (by decide) (fun _ _ _ _ _ _ ws h2 => match ws, h2 with | [_, _], _ => rfl) rfl rfl rfl rfl rfl rfl (by decide +kernel) rfl)) (dss_one (ds_ret (de_and (de_callE (k := 2) at_.K at_.T (d__law_is_choice M) (hr.mono (by decide)) at_.pass (da_cons (de_var 0 (pv 0)) (da_cons (de_var 1 (pv 1)) (da_cons (de_var 3 (pv 3)) (da_nil)))) (by decide) rfl rfl (by decide +kernel) rfl rfl) (de_one (de_cmpK (r := rEqD) at_.K (op_eqD hr.units) od_Eq (db_of (de_callE (k := 2) at_.K at_.T (d__law_brings M) (hr.mono (by decide)) at_.pass (da_cons (de_var 0 (pv 0)) (da_cons (de_var 1 (pv 1)) (da_cons (de_var 3 (pv 3)) (da_nil)))) (by decide) rfl rfl (by decide +kernel) rfl rfl)) (db_var 2 (pv 2)) (nomark _)))))))))
abbrev N__law_blocks_right : List PySem.Str := ["flask", "hours", "count", "sums", "damages", "lap", "block", "low", "clause", "whole", "best", "hour", "each"]
theorem sc__law_blocks_right : FnScope N__law_blocks_right ["flask"] (defScope s__law_blocks_right) := ⟨rfl, rfl, rfl, by decide +kernel, rfl, by decide +kernel, by decide +kernel⟩
def W__law_blocks_right (ep : Ex → Prop) : WS := wSeq (wPar4 1 2 3 4 (wmVal (wOp fAdd (wC (.int 1)) (wCall wf__law_pour ep (waCons (wVar 0) (waCons (wC (.int 6)) (waNil)))))) (wmVal (wOp fAdd (wC (.int 1)) (wCall wf__law_pour ep (waCons (wVar 0) (waCons (wC (.int 6)) (waNil)))))) (wmOwn (wLst (waNil))) (wmVal (wLst (waNil)))) (wSeq (wFor (wiRng1 (waCons (wOp fAdd (wC (.int 1)) (wCall wf__law_pour ep (waCons (wVar 0) (waCons (wC (.int 6)) (waNil))))) (waNil))) (wgName 5) (wSeq (wAsg (wLc (wiRng1 (waCons (wVar 1) (waNil))) (wgName 11) (wYes) (wOp fAdd (wC (.int 1)) (wCall wf__law_pour (fun _ => False) (waCons (wVar 0) (waCons (wC (.int 900)) (waNil))))) [11]) (wgOwn 6)) (wFreeze 6 (wSeq (wApp 3 (wCB fSum (waCons (wVarB 6) (waNil)))) (wAsg (wOp fAdd (wOp fAdd (wVarB 4) (wVarB 6)) (wOp fMul2 (wLst (waCons (wC (.int 0)) (waNil))) (wVarB 1))) (wgName 4)))))) (wSeq (wAsg (wCall wf__law_of ep (waCons (wVar 0) (waCons (wLst (waCons (wC (.int 0)) (waCons (wC (.int 1)) (waCons (wCall wf__law_pour ep (waCons (wVar 0) (waCons (wC (.int 500)) (waNil)))) (waNil))))) (waNil)))) (wgName 7)) (wSeq (wAsg (wTup (waCons (wVar 1) (waCons (wVar 2) (waCons (wVar 7) (waCons (wCall wf__law_of ep (waCons (wVar 0) (waCons (wLst (waCons (wC .non) (waCons (wC (.int 9999)) (waNil)))) (waNil)))) (waNil)))))) (wgName 8)) (wSeq (wIfS (wOr (wTest (wOp fGt (wCB fLen (waCons (wVarB 4) (waNil))) (wC (.int 60)))) (wTest (wOp fLt (wVarB 2) (wCB fLen (waCons (wVarB 3) (waNil)))))) (wPar2 4 3 (wmVal (wSl (wVarB 4) (woNone) (woSome (wOp fMul2 (wOp fMul2 (wC (.int 2)) (wVarB 1)) (wOp fFdiv (wC (.int 60)) (wOp fMul2 (wC (.int 2)) (wVarB 1))))))) (wmVal (wSl (wVarB 3) (woNone) (woSome (wOp fFdiv (wC (.int 60)) (wOp fMul2 (wC (.int 2)) (wVarB 1))))))) (wNext)) (wSeq (wAsg (wCB fSum (waCons (wLc (wiSeq (wVarB 3)) (wgName 12) (wYes) (wCB fMax (waCons (wC (.int 0)) (waCons (wOp fSub (wVarB 12) (wVarB 7)) (waNil)))) [12]) (waNil))) (wgName 9)) (wSeq (wAsg (wCall wf__law_most ep (waCons (wCB fTuple (waCons (wVarB 4) (waNil))) (waCons (wVar 8) (waNil)))) (wgName 10)) (wSeq (wIfS (wOr (wAnd (wTest (wOp fGe (wVarB 2) (wCB fLen (waCons (wVarB 3) (waNil))))) (wAnd (wTest (wOp fEq (wVarB 7) (wC (.int 0)))) (wTest (wOp fNe (wVarB 10) (wVarB 9))))) (wTest (wOp fGt (wVarB 10) (wCB fSum (waCons (wVarB 4) (waNil)))))) (wRet (wC (.bl false))) (wNext)) (wRet (wCall wf__law_is_told ep (waCons (wCB fTuple (waCons (wVarB 4) (waNil))) (waCons (wVar 8) (waCons (wVar 10) (waNil)))))))))))))
def wf__law_blocks_right : WF := fun ds q ep => W__law_blocks_right ep { nx := fun _ => q .non, rt := q } (startE 13 ds)
theorem d__law_blocks_right (M : Mod K mg base T) : FnE P w K mg base T 10 "_law_blocks_right" s__law_blocks_right ["flask"] wf__law_blocks_right := fnE_ok M.d__law_blocks_right sc__law_blocks_right W__law_blocks_right (fun f cdv A outer s E G hr hK at_ => by
  unfold W__law_blocks_right
  exact (dss_cons (ds_par4 rfl (dm_val (de_opK (r := rAdd) at_.K op_Add od_Add (db_of (de_int)) (db_of (de_callE (k := 1) at_.K at_.T (d__law_pour M) (hr.mono (by decide)) at_.pass (da_cons (de_var 0 (pv 0)) (da_cons (de_int) (da_nil))) (by decide) rfl rfl (by decide +kernel) rfl rfl)))) (dm_val (de_opK (r := rAdd) at_.K op_Add od_Add (db_of (de_int)) (db_of (de_callE (k := 1) at_.K at_.T (d__law_pour M) (hr.mono (by decide)) at_.pass (da_cons (de_var 0 (pv 0)) (da_cons (de_int) (da_nil))) (by decide) rfl rfl (by decide +kernel) rfl rfl)))) (dm_own (df_lst (da_nil))) (dm_val (de_lst (da_nil))) (pg_name (i := 1) sc__law_blocks_right.nd rfl (Or.inl rfl)) (pg_name (i := 2) sc__law_blocks_right.nd rfl (Or.inl rfl)) (pg_name (i := 3) sc__law_blocks_right.nd rfl (Or.inl rfl)) (pg_name (i := 4) sc__law_blocks_right.nd rfl (Or.inl rfl))) (dss_cons (ds_for (vs := [5]) at_.own rfl (di_range1 (by rfl) M.z_range (da_cons (de_opK (r := rAdd) at_.K op_Add od_Add (db_of (de_int)) (db_of (de_callE (k := 1) at_.K at_.T (d__law_pour M) (hr.mono (by decide)) at_.pass (da_cons (de_var 0 (pv 0)) (da_cons (de_int) (da_nil))) (by decide) rfl rfl (by decide +kernel) rfl rfl))) (da_nil))) (dg_name 5 (by decide) (pg_name (i := 5) sc__law_blocks_right.nd rfl (Or.inl rfl))) (dss_cons (ds_setLc (own := [("hour", 11)]) (i := 6) rfl sc__law_blocks_right.nd rfl rfl (sw_true rfl rfl rfl (by decide +kernel)) (blkOk_by (own := [("hour", 11)]) (N := N__law_blocks_right) (sc := defScope s__law_blocks_right) (by decide +kernel)) (dib_of (di_range1 (by rfl) M.z_range (da_cons (de_var 1 (pv 1)) (da_nil)))) (fun _ _ _ _ _ => dg_name 11 (by decide) (pg_name (i := 11) sc__law_blocks_right.nd rfl (Or.inl rfl))) (fun _ _ _ _ _ => dts_nil) (fun _ _ _ _ _ => de_opK (r := rAdd) at_.K op_Add od_Add (db_of (de_int)) (db_of (de_callE (k := 1) at_.K at_.T (d__law_pour M) (hr.mono (by decide)) pass_nox (da_cons (de_var 0 (pv 0)) (da_cons (de_int) (da_nil))) (by decide) rfl rfl (by decide +kernel) rfl rfl)))) (dss_freeze 6 (dss_cons (ds_app (i := 3) (pv 3) (de_callB (cr_Sum rfl) (cd_sum at_.K) (by rfl) M.z_sum boot_sum (dab_cons (db_var 6 (pv 6)) (dab_nil))) (fun ha => pe_bm PySem.F.plainAttrs_list PySem.F.slot_list_append PySem.F.type_list_append mt_append (pv 3) ha)) (dss_one (ds_set (i := 4) sc__law_blocks_right.nd rfl (Or.inl rfl) (de_opK (r := rAdd) at_.K op_Add od_Add (db_of (de_opK (r := rAdd) at_.K op_Add od_Add (db_var 4 (pv 4)) (db_var 6 (pv 6)))) (db_of (de_opK (r := rMul2) at_.K op_Mul2 od_Mul2 (db_of (de_lst (da_cons (de_int) (da_nil)))) (db_var 1 (pv 1))))))))))) (dss_cons (ds_set (i := 7) sc__law_blocks_right.nd rfl (Or.inr rfl) (de_callE (k := 2) at_.K at_.T (d__law_of M) (hr.mono (by decide)) at_.pass (da_cons (de_var 0 (pv 0)) (da_cons (de_lst (da_cons (de_int) (da_cons (de_int) (da_cons (de_callE (k := 1) at_.K at_.T (d__law_pour M) (hr.mono (by decide)) at_.pass (da_cons (de_var 0 (pv 0)) (da_cons (de_int) (da_nil))) (by decide) rfl rfl (by decide +kernel) rfl rfl) (da_nil))))) (da_nil))) (by decide) rfl rfl (by decide +kernel) rfl rfl)) (dss_cons (ds_set (i := 8) sc__law_blocks_right.nd rfl (Or.inl rfl) (de_tup (da_cons (de_var 1 (pv 1)) (da_cons (de_var 2 (pv 2)) (da_cons (de_var 7 (pv 7)) (da_cons (de_callE (k := 2) at_.K at_.T (d__law_of M) (hr.mono (by decide)) at_.pass (da_cons (de_var 0 (pv 0)) (da_cons (de_lst (da_cons (de_non) (da_cons (de_int) (da_nil)))) (da_nil))) (by decide) rfl rfl (by decide +kernel) rfl rfl) (da_nil))))))) (dss_cons (ds_if (dt_w (dw_or (dt_cmp op_gt od_Gt (db_of (de_callB call_len (cd_len at_.K) (by rfl) M.z_len boot_len (dab_cons (db_var 4 (pv 4)) (dab_nil)))) (db_of (de_int)) (nomark _)) (dw_or1 (dt_cmp op_lt od_Lt (db_var 2 (pv 2)) (db_of (de_callB call_len (cd_len at_.K) (by rfl) M.z_len boot_len (dab_cons (db_var 3 (pv 3)) (dab_nil)))) (nomark _))))) (dss_one (ds_par2 (i := 4) (j := 3) rfl sc__law_blocks_right.nd rfl rfl (by decide) rfl rfl (dm_val (de_slice at_.K (db_var 4 (pv 4)) (do_none) (do_some (de_opK (r := rMul2) at_.K op_Mul2 od_Mul2 (db_of (de_opK (r := rMul2) at_.K op_Mul2 od_Mul2 (db_of (de_int)) (db_var 1 (pv 1)))) (db_of (de_op op_fdiv od_Fdiv (db_of (de_int)) (db_of (de_opK (r := rMul2) at_.K op_Mul2 od_Mul2 (db_of (de_int)) (db_var 1 (pv 1)))))))))) (dm_val (de_slice at_.K (db_var 3 (pv 3)) (do_none) (do_some (de_op op_fdiv od_Fdiv (db_of (de_int)) (db_of (de_opK (r := rMul2) at_.K op_Mul2 od_Mul2 (db_of (de_int)) (db_var 1 (pv 1)))))))))) (dss_nil)) (dss_cons (ds_set (i := 9) sc__law_blocks_right.nd rfl (Or.inl rfl) (de_callB (cr_Sum rfl) (cd_sum at_.K) (by rfl) M.z_sum boot_sum (dab_cons (db_of (de_of_df (de_lc (own := [("each", 12)]) rfl sc__law_blocks_right.nd (blkOk_by (own := [("each", 12)]) (N := N__law_blocks_right) (sc := defScope s__law_blocks_right) (by decide +kernel)) (dib_seq at_.K (db_var 3 (pv 3))) (fun _ _ _ _ _ => dg_name 12 (by decide) (pg_name (i := 12) sc__law_blocks_right.nd rfl (Or.inl rfl))) (fun _ _ _ _ _ => dts_nil) (fun _ _ _ _ _ => de_callB (cr_Max rfl) (cd_max at_.K) (by rfl) M.z_max boot_max (dab_cons (db_of (de_int)) (dab_cons (db_of (de_op op_sub od_Sub (db_var 12 (pv 12)) (db_var 7 (pv 7)))) (dab_nil))))))) (dab_nil)))) (dss_cons (ds_set (i := 10) sc__law_blocks_right.nd rfl (Or.inl rfl) (de_callE (k := 2) at_.K at_.T (d__law_most M) (hr.mono (by decide)) at_.pass (da_cons (de_callTy call_tuple_of (cd_tuple at_.K) (by rfl) M.z_tuple boot_tuple (dab_cons (db_var 4 (pv 4)) (dab_nil))) (da_cons (de_var 8 (pv 8)) (da_nil))) (by decide) rfl rfl (by decide +kernel) rfl rfl)) (dss_cons (ds_if (dt_w (dw_or (dt_w (dw_and (dt_cmp op_ge od_Ge (db_var 2 (pv 2)) (db_of (de_callB call_len (cd_len at_.K) (by rfl) M.z_len boot_len (dab_cons (db_var 3 (pv 3)) (dab_nil)))) (nomark _)) (dw_and (dt_cmpK (r := rEqD) at_.K (op_eqD hr.units) od_Eq (db_var 7 (pv 7)) (db_of (de_int)) (nomark _)) (dw_and1 (dt_cmpK (r := rNeD) at_.K (op_neD hr.units) od_Ne (db_var 10 (pv 10)) (db_var 9 (pv 9)) (nomark _)))))) (dw_or1 (dt_cmp op_gt od_Gt (db_var 10 (pv 10)) (db_of (de_callB (cr_Sum rfl) (cd_sum at_.K) (by rfl) M.z_sum boot_sum (dab_cons (db_var 4 (pv 4)) (dab_nil)))) (nomark _))))) (dss_one (ds_ret (de_bl))) (dss_nil)) (dss_one (ds_ret (de_callE (k := 9) at_.K at_.T (d__law_is_told M) (hr.mono (by decide)) at_.pass (da_cons (de_callTy call_tuple_of (cd_tuple at_.K) (by rfl) M.z_tuple boot_tuple (dab_cons (db_var 4 (pv 4)) (dab_nil))) (da_cons (de_var 8 (pv 8)) (da_cons (de_var 10 (pv 10)) (da_nil)))) (by decide) rfl rfl (by decide +kernel) rfl rfl))))))))))))
abbrev N__law_right : List PySem.Str := ["flask", "lap", "damages", "clause", "due", "more", "high", "hour"]
theorem sc__law_right : FnScope N__law_right ["flask"] (defScope s__law_right) := ⟨rfl, rfl, rfl, by decide +kernel, rfl, by decide +kernel, by decide +kernel⟩
def W__law_right (ep : Ex → Prop) : WS := wSeq (wFor (wiRng1 (waCons (wC (.int 2)) (waNil))) (wgName 1) (wSeq (wAsg (wCall wf__law_damages ep (waCons (wVar 0) (waCons (wC (.int 60)) (waNil)))) (wgName 2)) (wSeq (wAsg (wCall wf__law_clause ep (waCons (wVar 0) (waCons (wVar 2) (waNil)))) (wgName 3)) (wSeq (wAsg (wCall wf__law_most ep (waCons (wVar 2) (waCons (wVar 3) (waNil)))) (wgName 4)) (wSeq (wIfS (wOr (wTest (wOp fGt (wVarB 4) (wCB fSum (waCons (wVarB 2) (waNil))))) (wNot (wTest (wCall wf__law_is_told ep (waCons (wVar 2) (waCons (wVar 3) (waCons (wVar 4) (waNil)))))))) (wRet (wC (.bl false))) (wNext)) (wSeq (wAsg (wTup (waCons (wCB fMin (waCons (wC (.int 60)) (waCons (wOp fAdd (wOp fIx (wVarB 3) (wC (.int 0))) (wCall wf__law_pour ep (waCons (wVar 0) (waCons (wC (.int 4)) (waNil))))) (waNil)))) (waCons (wCB fMin (waCons (wC (.int 9)) (waCons (wOp fAdd (wOp fIx (wVarB 3) (wC (.int 1))) (wCall wf__law_pour ep (waCons (wVar 0) (waCons (wC (.int 3)) (waNil))))) (waNil)))) (waCons (wCB fMax (waCons (wC (.int 0)) (waCons (wOp fSub (wOp fIx (wVarB 3) (wC (.int 2))) (wCall wf__law_pour ep (waCons (wVar 0) (waCons (wC (.int 9)) (waNil))))) (waNil)))) (waCons (wOp fIx (wVarB 3) (wC (.int 3))) (waNil)))))) (wgName 5)) (wSeq (wAsg (wIf (wTest (wOp fIsN (wOp fIx (wVarB 3) (wC (.int 3))) (wC .non))) (wC .non) (wCall wf__law_of ep (waCons (wVar 0) (waCons (wLst (waCons (wC .non) (waCons (wCB fMin (waCons (wC (.int 9999)) (waCons (wOp fAdd (wOp fIx (wVarB 3) (wC (.int 3))) (wCall wf__law_pour ep (waCons (wVar 0) (waCons (wC (.int 50)) (waNil))))) (waNil)))) (waNil)))) (waNil))))) (wgName 6)) (wIfS (wTest (wOp fLt (wCall wf_most_brought ep (waCons (wVar 2) (waCons (wOp fAdd (wSl (wVarB 5) (woNone) (woSome (wC (.int 3)))) (wTup (waCons (wVar 6) (waNil)))) (waNil)))) (wVarB 4))) (wRet (wC (.bl false))) (wNext))))))))) (wSeq (wAsg (wCB fTuple (waCons (wLc (wiRng1 (waCons (wOp fAdd (wC (.int 3)) (wCall wf__law_pour ep (waCons (wVar 0) (waCons (wC (.int 9)) (waNil))))) (waNil))) (wgName 7) (wYes) (wOp fAdd (wC (.int 1)) (wCall wf__law_pour (fun _ => False) (waCons (wVar 0) (waCons (wC (.int 90)) (waNil))))) [7]) (waNil))) (wgName 2)) (wSeq (wAsg (wTup (waCons (wC (.int 60)) (waCons (wOp fAdd (wC (.int 2)) (wCall wf__law_pour ep (waCons (wVar 0) (waCons (wC (.int 2)) (waNil))))) (waCons (wCall wf__law_of ep (waCons (wVar 0) (waCons (wLst (waCons (wC (.int 0)) (waCons (wC (.int 0)) (waCons (wC (.int 5)) (waNil))))) (waNil)))) (waCons (wOp fAdd (wC (.int 6)) (wOp fFdiv (wCB fSum (waCons (wVarB 2) (waNil))) (wCall wf__law_of ep (waCons (wVar 0) (waCons (wLst (waCons (wC (.int 2)) (waCons (wC (.int 3)) (waCons (wC (.int 4)) (waNil))))) (waNil)))))) (waNil)))))) (wgName 3)) (wRet (wAndV (wCall wf__law_is_told ep (waCons (wVar 2) (waCons (wVar 3) (waCons (wCall wf__law_most ep (waCons (wVar 2) (waCons (wVar 3) (waNil)))) (waNil))))) (wCall wf__law_blocks_right ep (waCons (wVar 0) (waNil)))))))
def wf__law_right : WF := fun ds q ep => W__law_right ep { nx := fun _ => q .non, rt := q } (startE 8 ds)
theorem d__law_right (M : Mod K mg base T) : FnE P w K mg base T 11 "_law_right" s__law_right ["flask"] wf__law_right := fnE_ok M.d__law_right sc__law_right W__law_right (fun f cdv A outer s E G hr hK at_ => by
  unfold W__law_right
  exact (dss_cons (ds_for (vs := [1]) at_.own rfl (di_range1 (by rfl) M.z_range (da_cons (de_int) (da_nil))) (dg_name 1 (by decide) (pg_name (i := 1) sc__law_right.nd rfl (Or.inl rfl))) (dss_cons (ds_set (i := 2) sc__law_right.nd rfl (Or.inl rfl) (de_callE (k := 3) at_.K at_.T (d__law_damages M) (hr.mono (by decide)) at_.pass (da_cons (de_var 0 (pv 0)) (da_cons (de_int) (da_nil))) (by decide) rfl rfl (by decide +kernel) rfl rfl)) (dss_cons (ds_set (i := 3) sc__law_right.nd rfl (Or.inl rfl) (de_callE (k := 3) at_.K at_.T (d__law_clause M) (hr.mono (by decide)) at_.pass (da_cons (de_var 0 (pv 0)) (da_cons (de_var 2 (pv 2)) (da_nil))) (by decide) rfl rfl (by decide +kernel) rfl rfl)) (dss_cons (ds_set (i := 4) sc__law_right.nd rfl (Or.inl rfl) (de_callE (k := 2) at_.K at_.T (d__law_most M) (hr.mono (by decide)) at_.pass (da_cons (de_var 2 (pv 2)) (da_cons (de_var 3 (pv 3)) (da_nil))) (by decide) rfl rfl (by decide +kernel) rfl rfl)) (dss_cons (ds_if (dt_w (dw_or (dt_cmp op_gt od_Gt (db_var 4 (pv 4)) (db_of (de_callB (cr_Sum rfl) (cd_sum at_.K) (by rfl) M.z_sum boot_sum (dab_cons (db_var 2 (pv 2)) (dab_nil)))) (nomark _)) (dw_or1 (dt_not (dt_val (de_callE (k := 9) at_.K at_.T (d__law_is_told M) (hr.mono (by decide)) at_.pass (da_cons (de_var 2 (pv 2)) (da_cons (de_var 3 (pv 3)) (da_cons (de_var 4 (pv 4)) (da_nil)))) (by decide) rfl rfl (by decide +kernel) rfl rfl)))))) (dss_one (ds_ret (de_bl))) (dss_nil)) (dss_cons (ds_set (i := 5) sc__law_right.nd rfl (Or.inl rfl) (de_tup (da_cons (de_callB (cr_Min rfl) (cd_min at_.K) (by rfl) M.z_min boot_min (dab_cons (db_of (de_int)) (dab_cons (db_of (de_opK (r := rAdd) at_.K op_Add od_Add (db_of (de_ix at_.K (db_var 3 (pv 3)) (db_of (de_int)) (fun _ _ => rfl))) (db_of (de_callE (k := 1) at_.K at_.T (d__law_pour M) (hr.mono (by decide)) at_.pass (da_cons (de_var 0 (pv 0)) (da_cons (de_int) (da_nil))) (by decide) rfl rfl (by decide +kernel) rfl rfl)))) (dab_nil)))) (da_cons (de_callB (cr_Min rfl) (cd_min at_.K) (by rfl) M.z_min boot_min (dab_cons (db_of (de_int)) (dab_cons (db_of (de_opK (r := rAdd) at_.K op_Add od_Add (db_of (de_ix at_.K (db_var 3 (pv 3)) (db_of (de_int)) (fun _ _ => rfl))) (db_of (de_callE (k := 1) at_.K at_.T (d__law_pour M) (hr.mono (by decide)) at_.pass (da_cons (de_var 0 (pv 0)) (da_cons (de_int) (da_nil))) (by decide) rfl rfl (by decide +kernel) rfl rfl)))) (dab_nil)))) (da_cons (de_callB (cr_Max rfl) (cd_max at_.K) (by rfl) M.z_max boot_max (dab_cons (db_of (de_int)) (dab_cons (db_of (de_op op_sub od_Sub (db_of (de_ix at_.K (db_var 3 (pv 3)) (db_of (de_int)) (fun _ _ => rfl))) (db_of (de_callE (k := 1) at_.K at_.T (d__law_pour M) (hr.mono (by decide)) at_.pass (da_cons (de_var 0 (pv 0)) (da_cons (de_int) (da_nil))) (by decide) rfl rfl (by decide +kernel) rfl rfl)))) (dab_nil)))) (da_cons (de_ix at_.K (db_var 3 (pv 3)) (db_of (de_int)) (fun _ _ => rfl)) (da_nil))))))) (dss_cons (ds_set (i := 6) sc__law_right.nd rfl (Or.inl rfl) (de_if (dt_cmp op_isN od_IsN (db_of (de_ix at_.K (db_var 3 (pv 3)) (db_of (de_int)) (fun _ _ => rfl))) (db_of (de_non)) (nomark _)) (de_non) (de_callE (k := 2) at_.K at_.T (d__law_of M) (hr.mono (by decide)) at_.pass (da_cons (de_var 0 (pv 0)) (da_cons (de_lst (da_cons (de_non) (da_cons (de_callB (cr_Min rfl) (cd_min at_.K) (by rfl) M.z_min boot_min (dab_cons (db_of (de_int)) (dab_cons (db_of (de_opK (r := rAdd) at_.K op_Add od_Add (db_of (de_ix at_.K (db_var 3 (pv 3)) (db_of (de_int)) (fun _ _ => rfl))) (db_of (de_callE (k := 1) at_.K at_.T (d__law_pour M) (hr.mono (by decide)) at_.pass (da_cons (de_var 0 (pv 0)) (da_cons (de_int) (da_nil))) (by decide) rfl rfl (by decide +kernel) rfl rfl)))) (dab_nil)))) (da_nil)))) (da_nil))) (by decide) rfl rfl (by decide +kernel) rfl rfl))) (dss_one (ds_if (dt_cmp op_lt od_Lt (db_of (de_callE (k := 8) at_.K at_.T (d_most_brought M) (hr.mono (by decide)) at_.pass (da_cons (de_var 2 (pv 2)) (da_cons (de_opK (r := rAdd) at_.K op_Add od_Add (db_of (de_slice at_.K (db_var 5 (pv 5)) (do_none) (do_some (de_int)))) (db_of (de_tup (da_cons (de_var 6 (pv 6)) (da_nil))))) (da_nil))) (by decide) rfl rfl (by decide +kernel) rfl rfl)) (db_var 4 (pv 4)) (nomark _)) (dss_one (ds_ret (de_bl))) (dss_nil)))))))))) (dss_cons (ds_set (i := 2) sc__law_right.nd rfl (Or.inl rfl) (de_callTy call_tuple_of (cd_tuple at_.K) (by rfl) M.z_tuple boot_tuple (dab_cons (db_of (de_of_df (de_lc (own := [("hour", 7)]) rfl sc__law_right.nd (blkOk_by (own := [("hour", 7)]) (N := N__law_right) (sc := defScope s__law_right) (by decide +kernel)) (dib_of (di_range1 (by rfl) M.z_range (da_cons (de_opK (r := rAdd) at_.K op_Add od_Add (db_of (de_int)) (db_of (de_callE (k := 1) at_.K at_.T (d__law_pour M) (hr.mono (by decide)) at_.pass (da_cons (de_var 0 (pv 0)) (da_cons (de_int) (da_nil))) (by decide) rfl rfl (by decide +kernel) rfl rfl))) (da_nil)))) (fun _ _ _ _ _ => dg_name 7 (by decide) (pg_name (i := 7) sc__law_right.nd rfl (Or.inl rfl))) (fun _ _ _ _ _ => dts_nil) (fun _ _ _ _ _ => de_opK (r := rAdd) at_.K op_Add od_Add (db_of (de_int)) (db_of (de_callE (k := 1) at_.K at_.T (d__law_pour M) (hr.mono (by decide)) pass_nox (da_cons (de_var 0 (pv 0)) (da_cons (de_int) (da_nil))) (by decide) rfl rfl (by decide +kernel) rfl rfl)))))) (dab_nil)))) (dss_cons (ds_set (i := 3) sc__law_right.nd rfl (Or.inl rfl) (de_tup (da_cons (de_int) (da_cons (de_opK (r := rAdd) at_.K op_Add od_Add (db_of (de_int)) (db_of (de_callE (k := 1) at_.K at_.T (d__law_pour M) (hr.mono (by decide)) at_.pass (da_cons (de_var 0 (pv 0)) (da_cons (de_int) (da_nil))) (by decide) rfl rfl (by decide +kernel) rfl rfl))) (da_cons (de_callE (k := 2) at_.K at_.T (d__law_of M) (hr.mono (by decide)) at_.pass (da_cons (de_var 0 (pv 0)) (da_cons (de_lst (da_cons (de_int) (da_cons (de_int) (da_cons (de_int) (da_nil))))) (da_nil))) (by decide) rfl rfl (by decide +kernel) rfl rfl) (da_cons (de_opK (r := rAdd) at_.K op_Add od_Add (db_of (de_int)) (db_of (de_op op_fdiv od_Fdiv (db_of (de_callB (cr_Sum rfl) (cd_sum at_.K) (by rfl) M.z_sum boot_sum (dab_cons (db_var 2 (pv 2)) (dab_nil)))) (db_of (de_callE (k := 2) at_.K at_.T (d__law_of M) (hr.mono (by decide)) at_.pass (da_cons (de_var 0 (pv 0)) (da_cons (de_lst (da_cons (de_int) (da_cons (de_int) (da_cons (de_int) (da_nil))))) (da_nil))) (by decide) rfl rfl (by decide +kernel) rfl rfl))))) (da_nil))))))) (dss_one (ds_ret (de_and (de_callE (k := 9) at_.K at_.T (d__law_is_told M) (hr.mono (by decide)) at_.pass (da_cons (de_var 2 (pv 2)) (da_cons (de_var 3 (pv 3)) (da_cons (de_callE (k := 2) at_.K at_.T (d__law_most M) (hr.mono (by decide)) at_.pass (da_cons (de_var 2 (pv 2)) (da_cons (de_var 3 (pv 3)) (da_nil))) (by decide) rfl rfl (by decide +kernel) rfl rfl) (da_nil)))) (by decide) rfl rfl (by decide +kernel) rfl rfl) (de_one (de_callE (k := 10) at_.K at_.T (d__law_blocks_right M) (hr.mono (by decide)) at_.pass (da_cons (de_var 0 (pv 0)) (da_nil)) (by decide) rfl rfl (by decide +kernel) rfl rfl)))))))))
abbrev N_law : List PySem.Str := ["script", "lap"]
theorem sc_law : FnScope N_law ["script"] (defScope s_law) := ⟨rfl, rfl, rfl, by decide +kernel, rfl, by decide +kernel, by decide +kernel⟩
def W_law (ep : Ex → Prop) : WS := wRet (wCB fAll (waCons (wLc (wiRng1 (waCons (wCB fMax (waCons (wC (.int 1)) (waCons (wCB fMin (waCons (wCB fLen (waCons (wVarB 0) (waNil))) (waCons (wC (.int 3)) (waNil)))) (waNil)))) (waNil))) (wgName 1) (wYes) (wBowlCall wf__law_flask wf__law_right (waCons (wVar 0) (waCons (wVar 1) (waNil)))) [1]) (waNil)))
def wf_law : WF := fun ds q ep => W_law ep { nx := fun _ => q .non, rt := q } (startE 2 ds)
theorem d_law (M : Mod K mg base T) : FnE P w K mg base T 12 "law" s_law ["script"] wf_law := fnE_ok M.d_law sc_law W_law (fun f cdv A outer s E G hr hK at_ => by
  unfold W_law
  exact (dss_one (ds_ret (de_callB (cr_all rfl) (cd_all at_.K) (by rfl) M.z_all boot_all (dab_cons (db_of (de_of_df (de_lc (own := [("lap", 1)]) rfl sc_law.nd (blkOk_by (own := [("lap", 1)]) (N := N_law) (sc := defScope s_law) (by decide +kernel)) (dib_of (di_range1 (by rfl) M.z_range (da_cons (de_callB (cr_Max rfl) (cd_max at_.K) (by rfl) M.z_max boot_max (dab_cons (db_of (de_int)) (dab_cons (db_of (de_callB (cr_Min rfl) (cd_min at_.K) (by rfl) M.z_min boot_min (dab_cons (db_of (de_callB call_len (cd_len at_.K) (by rfl) M.z_len boot_len (dab_cons (db_var 0 (pv 0)) (dab_nil)))) (dab_cons (db_of (de_int)) (dab_nil))))) (dab_nil)))) (da_nil)))) (fun _ _ _ _ _ => dg_name 1 (by decide) (pg_name (i := 1) sc_law.nd rfl (Or.inl rfl))) (fun _ _ _ _ _ => dts_nil) (fun _ _ _ _ _ => de_bowlCallE at_.K at_.T (d__law_flask M) (d__law_right M) (hr.mono (by decide)) (hr.mono (by decide)) pass_nox (da_cons (de_var 0 (pv 0)) (da_cons (de_var 1 (pv 1)) (da_nil))) rfl rfl rfl rfl (by decide +kernel) rfl rfl (by decide +kernel) rfl rfl)))) (dab_nil))))))
end
end HX
set_option Elab.async false
set_option linter.all false
set_option maxRecDepth 100000
set_option maxHeartbeats 4000000
namespace HX
open PySem PySem.Spec PyProof.Rows L2 DL
/-! ### the data -/
abbrev Win := Nat × Nat
structure Cl where
  h : Int
  c : Int
  l : Int
  hi : Option Int
def hiD : Option Int → D
  | none => .non
  | some v => .int v
def Cl.d (c : Cl) : D := .tup [.int c.h, .int c.c, .int c.l, hiD c.hi]
def dmg (ds : List Int) : D := .tup (ds.map .int)
def winD (w : Win) : D := .tup [.int w.1, .int w.2]
abbrev Way := Int × List Win
def wayD (x : Way) : D := .tup [.int x.1, .tup (x.2.map winD)]
def worth (c : Cl) (a : Int) : Int := maxI ((match c.hi with | none => a | some h => minI a h) - c.l) 0
def sumW (ds : List Int) (w : Win) : Int := ((ds.drop w.1).take (w.2 + 1 - w.1)).sum
def longer (ds : List Int) (c : Cl) (x : Way) (w : Win) : Way := (x.1 + worth c (sumW ds w), x.2 ++ [w])
def wins (h : Nat) (last : Nat) : List Win := (List.range (last + 1 - (last + 1 - h))).map fun i => (last + 1 - h + i, last)

section
variable {q : D → Prop} {ep : Ex → Prop} {c : Cl} {ds : List Int}
theorem p_is_whole (i : Int) (h : q (.bl true)) : wf_is_whole [.int i] q ep := by
  simp [wSeq, wNext, wIfS, wRet, wDrop, wAsg, wgName, wgOwn, wgTup, wgsCons, wgsNil, wFreeze, wApp, wPut, wPar2, wPar3, wmVal, wmOwn, wC, wVar, wVarB, wOp, waNil, waCons, wAnd, wOr, wNot, wTest, wAndV, wOrV, wNotV, wIf, wTup, wLst, wChain, wSl, woNone, woSome, wCall, wCallK, pick, wCB, wNeg, wFor, wForL, wiRng1, wiRng2, wiSeq, wiEnum, wiZip, wLc, wYes, wRevT, wDead, startE, wipeE, fAbs, fInt, fTuple, fList, fSl, D.isNon, fDivmod, wgBowl, wf_is_whole, W_is_whole, h]
theorem p_is_between (i a b : Int) (h : q (.bl (decide (a ≤ i) && decide (i ≤ b)))) : wf_is_between [.int i, .int a, .int b] q ep := by
  simp [wSeq, wNext, wIfS, wRet, wDrop, wAsg, wgName, wgOwn, wgTup, wgsCons, wgsNil, wFreeze, wApp, wPut, wPar2, wPar3, wmVal, wmOwn, wC, wVar, wVarB, wOp, waNil, waCons, wAnd, wOr, wNot, wTest, wAndV, wOrV, wNotV, wIf, wTup, wLst, wChain, wSl, woNone, woSome, wCall, wCallK, pick, wCB, wNeg, wFor, wForL, wiRng1, wiRng2, wiSeq, wiEnum, wiZip, wLc, wYes, wRevT, wDead, startE, wipeE, fAbs, fInt, fTuple, fList, fSl, D.isNon, fDivmod, wgBowl, wf_is_between, W_is_between]
  refine p_is_whole _ ?_
  by_cases h1 : a ≤ i
  · rw [decide_eq_true h1] at h ⊢
    exact h
  · rw [decide_eq_false h1] at h ⊢
    exact h
theorem p_is_up_to (i b : Int) (h : q (.bl (decide (0 ≤ i) && decide (i ≤ b)))) : wf_is_up_to [.int i, .int b] q ep := by
  simp [wSeq, wNext, wIfS, wRet, wDrop, wAsg, wgName, wgOwn, wgTup, wgsCons, wgsNil, wFreeze, wApp, wPut, wPar2, wPar3, wmVal, wmOwn, wC, wVar, wVarB, wOp, waNil, waCons, wAnd, wOr, wNot, wTest, wAndV, wOrV, wNotV, wIf, wTup, wLst, wChain, wSl, woNone, woSome, wCall, wCallK, pick, wCB, wNeg, wFor, wForL, wiRng1, wiRng2, wiSeq, wiEnum, wiZip, wLc, wYes, wRevT, wDead, startE, wipeE, fAbs, fInt, fTuple, fList, fSl, D.isNon, fDivmod, wgBowl, wf_is_up_to, W_is_up_to]
  exact p_is_between _ _ _ h
theorem p_is_tuple_of (xs : List D) (n : Int) (h : q (.bl ((xs.length : Int) == n))) : wf_is_tuple_of [.tup xs, .int n] q ep := by
  simp [wSeq, wNext, wIfS, wRet, wDrop, wAsg, wgName, wgOwn, wgTup, wgsCons, wgsNil, wFreeze, wApp, wPut, wPar2, wPar3, wmVal, wmOwn, wC, wVar, wVarB, wOp, waNil, waCons, wAnd, wOr, wNot, wTest, wAndV, wOrV, wNotV, wIf, wTup, wLst, wChain, wSl, woNone, woSome, wCall, wCallK, pick, wCB, wNeg, wFor, wForL, wiRng1, wiRng2, wiSeq, wiEnum, wiZip, wLc, wYes, wRevT, wDead, startE, wipeE, fAbs, fInt, fTuple, fList, fSl, D.isNon, fDivmod, wgBowl, wf_is_tuple_of, W_is_tuple_of]
  exact h
theorem cut4_2 (a b c d : D) : cut [a, b, c, d] (some 2) none = [c, d] := rfl
theorem cut4_to2 (a b c d : D) : cut [a, b, c, d] none (some 2) = [a, b] := rfl
theorem isNon_hiD (o : Option Int) : (hiD o).isNon = o.isNone := by cases o <;> rfl
theorem p_brought_of (a : Int) (h : q (.int (worth c a))) : wf_brought_of [c.d, .int a] q ep := by
  obtain ⟨ch, cc, cl, hi⟩ := c
  cases hi with
  | none =>
    simp [wSeq, wNext, wIfS, wRet, wDrop, wAsg, wgName, wgOwn, wgTup, wgsCons, wgsNil, wFreeze, wApp, wPut, wPar2, wPar3, wmVal, wmOwn, wC, wVar, wVarB, wOp, waNil, waCons, wAnd, wOr, wNot, wTest, wAndV, wOrV, wNotV, wIf, wTup, wLst, wChain, wSl, woNone, woSome, wCall, wCallK, pick, wCB, wNeg, wFor, wForL, wiRng1, wiRng2, wiSeq, wiEnum, wiZip, wLc, wYes, wRevT, wDead, startE, wipeE, fAbs, fInt, fTuple, fList, fSl, D.isNon, fDivmod, wgBowl, wf_brought_of, W_brought_of, Cl.d, hiD, cut4_2]
    simpa [worth, fMax] using h
  | some v =>
    simp [wSeq, wNext, wIfS, wRet, wDrop, wAsg, wgName, wgOwn, wgTup, wgsCons, wgsNil, wFreeze, wApp, wPut, wPar2, wPar3, wmVal, wmOwn, wC, wVar, wVarB, wOp, waNil, waCons, wAnd, wOr, wNot, wTest, wAndV, wOrV, wNotV, wIf, wTup, wLst, wChain, wSl, woNone, woSome, wCall, wCallK, pick, wCB, wNeg, wFor, wForL, wiRng1, wiRng2, wiSeq, wiEnum, wiZip, wLc, wYes, wRevT, wDead, startE, wipeE, fAbs, fInt, fTuple, fList, fSl, D.isNon, fDivmod, wgBowl, wf_brought_of, W_brought_of, Cl.d, hiD, cut4_2]
    simpa [worth, fMax, fMin] using h
theorem sub_map (ds : List Int) (a b : Nat) : ((ds.map D.int).drop a).take b = ((ds.drop a).take b).map D.int := by
  rw [List.map_take, List.map_drop]
theorem p_sum_of (w : Win) (h : q (.int (sumW ds w))) : wf_sum_of [dmg ds, winD w] q ep := by
  obtain ⟨a, b⟩ := w
  simp [wSeq, wNext, wIfS, wRet, wDrop, wAsg, wgName, wgOwn, wgTup, wgsCons, wgsNil, wFreeze, wApp, wPut, wPar2, wPar3, wmVal, wmOwn, wC, wVar, wVarB, wOp, waNil, waCons, wAnd, wOr, wNot, wTest, wAndV, wOrV, wNotV, wIf, wTup, wLst, wChain, wSl, woNone, woSome, wCall, wCallK, pick, wCB, wNeg, wFor, wForL, wiRng1, wiRng2, wiSeq, wiEnum, wiZip, wLc, wYes, wRevT, wDead, startE, wipeE, fAbs, fInt, fTuple, fList, fSl, D.isNon, fDivmod, wgBowl, wf_sum_of, W_sum_of, dmg, winD, fIx, atI, ixN]
  rw [show ((b : Int) + 1) = ((b + 1 : Nat) : Int) by omega, cut_nat, sub_map]
  exact ⟨_, rfl, h⟩
theorem p_longer_by (x : Way) (w : Win) (hn : x.2.length < 1000000) (h : q (wayD (longer ds c x w))) : wf_longer_by [dmg ds, c.d, wayD x, winD w] q ep := by
  simp [wSeq, wNext, wIfS, wRet, wDrop, wAsg, wgName, wgOwn, wgTup, wgsCons, wgsNil, wFreeze, wApp, wPut, wPar2, wPar3, wmVal, wmOwn, wC, wVar, wVarB, wOp, waNil, waCons, wAnd, wOr, wNot, wTest, wAndV, wOrV, wNotV, wIf, wTup, wLst, wChain, wSl, woNone, woSome, wCall, wCallK, pick, wCB, wNeg, wFor, wForL, wiRng1, wiRng2, wiSeq, wiEnum, wiZip, wLc, wYes, wRevT, wDead, startE, wipeE, fAbs, fInt, fTuple, fList, fSl, D.isNon, fDivmod, wgBowl, wf_longer_by, W_longer_by, wayD, fIx, atI, ixN]
  refine p_sum_of _ ?_
  refine p_brought_of _ ?_
  simp [fAdd, sizeLine_eq]
  refine ⟨by omega, ?_⟩
  simpa [wayD, longer] using h

/-! ### the rows -/
theorem rangeD_nat (n : Nat) : rangeD 0 (n : Int) = (List.range n).map fun i : Nat => D.int (i : Int) := by
  unfold rangeD
  rw [show ((n : Int) - 0).toNat = n by omega]
  refine List.map_congr_left fun i _ => ?_
  rw [Int.zero_add]
theorem p_windows_to (last : Nat) (hh : 1 ≤ c.h) (hl : last < 10000) (h : q (.lst ((wins c.h.toNat last).map winD))) : wf_windows_to [dmg ds, c.d, .int (last : Int)] q ep := by
  simp [wSeq, wNext, wIfS, wRet, wDrop, wAsg, wgName, wgOwn, wgTup, wgsCons, wgsNil, wFreeze, wApp, wPut, wPar2, wPar3, wmVal, wmOwn, wC, wVar, wVarB, wOp, waNil, waCons, wAnd, wOr, wNot, wTest, wAndV, wOrV, wNotV, wIf, wTup, wLst, wChain, wSl, woNone, woSome, wCall, wCallK, pick, wCB, wNeg, wFor, wForL, wiRng1, wiRng2, wiSeq, wiEnum, wiZip, wLc, wYes, wRevT, wDead, startE, wipeE, fAbs, fInt, fTuple, fList, fSl, D.isNon, fDivmod, wgBowl, wf_windows_to, W_windows_to, Cl.d, fIx, atI, ixN, fMax]
  have e1 : maxI 0 ((last : Int) - c.h + 1) = ((last + 1 - c.h.toNat : Nat) : Int) := by
    unfold maxI
    split <;> omega
  rw [e1]
  have e2 : rangeD ((last + 1 - c.h.toNat : Nat) : Int) ((last : Int) + 1) = (List.range (last + 1 - (last + 1 - c.h.toNat))).map fun i : Nat => D.int (((last + 1 - c.h.toNat) + i : Nat) : Int) := by
    unfold rangeD
    rw [show ((last : Int) + 1 - ((last + 1 - c.h.toNat : Nat) : Int)).toNat = last + 1 - (last + 1 - c.h.toNat) by omega]
    refine List.map_congr_left fun i _ => ?_
    exact congrArg D.int (by omega)
  rw [e2]
  refine ⟨⟨by omega, by omega, by omega, by omega⟩, ?_⟩
  refine lc_map (fun i : Nat => D.int (((last + 1 - c.h.toNat) + i : Nat) : Int)) (fun i => winD (last + 1 - c.h.toNat + i, last)) (List.range (last + 1 - (last + 1 - c.h.toNat))) [] (fun i _ k hk => ?_) (by rw [List.length_range]; show 0 + _ < _; omega) ?_
  · simp [wSeq, wNext, wIfS, wRet, wDrop, wAsg, wgName, wgOwn, wgTup, wgsCons, wgsNil, wFreeze, wApp, wPut, wPar2, wPar3, wmVal, wmOwn, wC, wVar, wVarB, wOp, waNil, waCons, wAnd, wOr, wNot, wTest, wAndV, wOrV, wNotV, wIf, wTup, wLst, wChain, wSl, woNone, woSome, wCall, wCallK, pick, wCB, wNeg, wFor, wForL, wiRng1, wiRng2, wiSeq, wiEnum, wiZip, wLc, wYes, wRevT, wDead, startE, wipeE, fAbs, fInt, fTuple, fList, fSl, D.isNon, fDivmod, wgBowl, sizeLine_eq]
    exact hk
  · simp [wins, List.map_map] at h ⊢
    exact h
end
end HX
set_option Elab.async false
set_option linter.all false
set_option maxRecDepth 100000
set_option maxHeartbeats 400000
namespace HX
open PySem PySem.Spec PyProof.Rows L2 DL
section
variable {q : D → Prop} {ep : Ex → Prop} {c : Cl} {ds : List Int}
/-- the first with the greatest value -/
def keyBest : Way → List Way → Way
  | b, [] => b
  | b, d :: ds => if b.1 < d.1 then keyBest d ds else keyBest b ds
def dflt : Way := (0, [])
def getW (l : List Way) (i : Nat) : Way := (l[i]?).getD dflt
def stepW (ds : List Int) (c : Cl) (before found : List Way) (last : Nat) : Way := keyBest (getW found last) ((wins c.h.toNat last).map fun w => longer ds c (getW before w.1) w)
def lineW (ds : List Int) (c : Cl) (before : List Way) : Nat → List Way
  | 0 => [getW before 0]
  | n + 1 => lineW ds c before n ++ [stepW ds c before (lineW ds c before n) n]
def bestW (ds : List Int) (c : Cl) : Nat → List Way
  | 0 => List.replicate (ds.length + 1) dflt
  | k + 1 => lineW ds c (bestW ds c k) ds.length
theorem lineW_length (ds : List Int) (c : Cl) (before : List Way) : ∀ n, (lineW ds c before n).length = n + 1
  | 0 => rfl
  | n + 1 => by
    show (lineW ds c before n ++ [_]).length = n + 1 + 1
    rw [List.length_append, lineW_length ds c before n, List.length_singleton]
theorem bestW_length (ds : List Int) (c : Cl) : ∀ k, (bestW ds c k).length = ds.length + 1
  | 0 => List.length_replicate
  | k + 1 => lineW_length ds c _ _
def keyL : WF := lamF (fun ep1 => wOp fIx (wVarB 0) (wC (.int 0))) 1 [] []
theorem keyL_way (x : Way) (k : D → Prop) (e : Ex → Prop) (h : k (.int x.1)) : keyL [wayD x] k e := by
  simp [wSeq, wNext, wIfS, wRet, wDrop, wAsg, wgName, wgOwn, wgTup, wgsCons, wgsNil, wFreeze, wApp, wPut, wPar2, wPar3, wmVal, wmOwn, wC, wVar, wVarB, wOp, waNil, waCons, wAnd, wOr, wNot, wTest, wAndV, wOrV, wNotV, wIf, wTup, wLst, wChain, wSl, woNone, woSome, wCall, wCallK, pick, wCB, wNeg, wFor, wForL, wiRng1, wiRng2, wiSeq, wiEnum, wiZip, wLc, wYes, wRevT, wDead, startE, wipeE, fAbs, fInt, fTuple, fList, fSl, D.isNon, fDivmod, wgBowl, keyL, lamF, startL, capE, wayD, fIx, atI, ixN]
  exact h
theorem key_rest (ws : List Way) : ∀ (b : Way), q (wayD (keyBest b ws)) → wKeyL keyL q (ws.map wayD) (wayD b) b.1 := by
  induction ws with
  | nil => intro b h; exact h
  | cons w ws ih =>
    intro b h
    refine keyL_way w _ _ ?_
    show if b.1 < w.1 then wKeyL keyL q (ws.map wayD) (wayD w) w.1 else wKeyL keyL q (ws.map wayD) (wayD b) b.1
    unfold keyBest at h
    by_cases hb : b.1 < w.1
    · rw [if_pos hb] at h ⊢
      exact ih w h
    · rw [if_neg hb] at h ⊢
      exact ih b h
theorem key_all (b : Way) (ws : List Way) (h : q (wayD (keyBest b ws))) : wKey keyL q (wayD b :: ws.map wayD) := keyL_way b _ _ (key_rest ws b h)
theorem getW_get (l : List Way) (i : Nat) (h : i < l.length) : l[i]? = some (getW l i) := by
  unfold getW
  rw [List.getElem?_eq_getElem h]
  rfl
@[simp] theorem len_dmg (q : D → Prop) : fLen [dmg ds] q = q (.int ds.length) := by
  unfold dmg
  rw [len_tup, List.length_map]
theorem wins_lt {h last : Nat} {w : Win} (hw : w ∈ wins h last) : w.1 ≤ last ∧ w.2 = last := by
  unfold wins at hw
  obtain ⟨i, hi, rfl⟩ := List.mem_map.mp hw
  have := List.mem_range.mp hi
  refine ⟨?_, rfl⟩
  show last + 1 - h + i ≤ last
  omega
theorem wins_len (h last : Nat) : (wins h last).length ≤ last + 1 := by
  unfold wins
  rw [List.length_map, List.length_range]
  omega
def small (x : Way) : Prop := x.2.length < 1000000
theorem p_best_line (before : List Way) (hb : before.length = ds.length + 1) (hs : ∀ x ∈ before, small x) (hh : 1 ≤ c.h) (hn : ds.length < 10000) (h : q (.lst ((lineW ds c before ds.length).map wayD))) : wf_best_line [dmg ds, c.d, .lst (before.map wayD)] q ep := by
  have b0 : before[0]? = some (getW before 0) := getW_get before 0 (by omega)
  have b0' : (before.map wayD)[0]? = some (wayD (getW before 0)) := by rw [List.getElem?_map, b0]; rfl
  unfold wf_best_line W_best_line
  simp [wSeq, wNext, wIfS, wRet, wDrop, wAsg, wgName, wgOwn, wgTup, wgsCons, wgsNil, wFreeze, wApp, wPut, wPar2, wPar3, wmVal, wmOwn, wC, wVar, wVarB, wOp, waNil, waCons, wAnd, wOr, wNot, wTest, wAndV, wOrV, wNotV, wIf, wTup, wLst, wChain, wSl, woNone, woSome, wCall, wCallK, pick, wCB, wNeg, wFor, wForL, wiRng1, wiRng2, wiSeq, wiEnum, wiZip, wLc, wYes, wRevT, wDead, startE, wipeE, fAbs, fInt, fTuple, fList, fSl, D.isNon, fDivmod, wgBowl, fIx, sizeLine_eq]
  refine ⟨wayD (getW before 0), by rw [show (0 : Int) = ((0 : Nat) : Int) from rfl, atI_ix]; exact b0', ?_⟩
  refine ⟨by omega, ?_⟩
  rw [rangeD_nat]
  refine for_run (fun i ρ => ∃ a b, ρ = [some (.val (dmg ds)), some (.val c.d), some (.val (.lst (before.map wayD))), some (.own ((lineW ds c before i).map wayD)), a, b, none]) _ 0 _ ?_ ?_ ?_
  · exact ⟨none, none, rfl⟩
  · rintro i d ρ K hd ⟨a, b, rfl⟩ hK
    have hd2 := (List.getElem?_eq_some_iff.mp hd).1
    have hi : i < ds.length := by simpa using hd2
    obtain rfl : d = .int (i : Int) := by
      rw [List.getElem?_map, List.getElem?_range hi] at hd
      exact (Option.some.inj hd).symm
    rw [Nat.zero_add] at hK ⊢
    refine seq_step fun KK hKK => ?_
    simp only [wAsg, wgName, wgOwn, wgTup, wgsCons, wgsNil, wLc, wiSeq, wiRng1, wiRng2, wiEnum, wiZip, wCall, wCallK, wCB, wC, wVar, wVarB, wOp, wNeg, waCons, waNil, wLst, wTup, wSl, woNone, woSome, wIfS, wIf, wOr, wAnd, wNot, wTest, wAndV, wOrV, wNotV, wChain, wRet, wNext, wDrop, wPar2, wPar3, wmVal, wmOwn, wFreeze, wApp, wRevT, wipeE, List.set_cons_succ, List.set_cons_zero, List.getElem?_cons_zero, List.getElem?_cons_succ, len_tup, len_lst, len_scr, add_ii, sub_ii, mul_ii, fdiv_ii, mod_ii, lt_ii, le_ii, gt_ii, ge_ii, isN_n, notN_n, DL.eq_int, DL.ne_int, DL.eq_bl, DL.ne_bl, isi_int_int, isi_int_bool, isi_int_tuple, isi_int_list, isi_bl_int, isi_bl_bool, isi_bl_tuple, isi_bl_list, isi_non_int, isi_non_bool, isi_non_tuple, isi_non_list, isi_tup_int, isi_tup_bool, isi_tup_tuple, isi_tup_list, isi_lst_int, isi_lst_bool, isi_lst_tuple, isi_lst_list, if_true, if_false, Bool.not_true, Bool.not_false, Bool.false_eq_true, decide_true, decide_false, sizeLine_eq]
    refine p_windows_to i hh (by omega) ?_
    simp only [wAsg, wgName, wgOwn, wgTup, wgsCons, wgsNil, wLc, wiSeq, wiRng1, wiRng2, wiEnum, wiZip, wCall, wCallK, wCB, wC, wVar, wVarB, wOp, wNeg, waCons, waNil, wLst, wTup, wSl, woNone, woSome, wIfS, wIf, wOr, wAnd, wNot, wTest, wAndV, wOrV, wNotV, wChain, wRet, wNext, wDrop, wPar2, wPar3, wmVal, wmOwn, wFreeze, wApp, wRevT, wipeE, List.set_cons_succ, List.set_cons_zero, List.getElem?_cons_zero, List.getElem?_cons_succ, len_tup, len_lst, len_scr, add_ii, sub_ii, mul_ii, fdiv_ii, mod_ii, lt_ii, le_ii, gt_ii, ge_ii, isN_n, notN_n, DL.eq_int, DL.ne_int, DL.eq_bl, DL.ne_bl, isi_int_int, isi_int_bool, isi_int_tuple, isi_int_list, isi_bl_int, isi_bl_bool, isi_bl_tuple, isi_bl_list, isi_non_int, isi_non_bool, isi_non_tuple, isi_non_list, isi_tup_int, isi_tup_bool, isi_tup_tuple, isi_tup_list, isi_lst_int, isi_lst_bool, isi_lst_tuple, isi_lst_list, if_true, if_false, Bool.not_true, Bool.not_false, Bool.false_eq_true, decide_true, decide_false, sizeLine_eq]
    refine lc_map winD (fun w => wayD (longer ds c (getW before w.1) w)) (wins c.h.toNat i) [] (fun w hw k hk => ?_) (by have := wins_len c.h.toNat i; show 0 + _ < _; omega) ?_
    · obtain ⟨w1, w2⟩ := wins_lt hw
      have hw1 := getW_get before w.1 (by omega)
      have hs1 : small (getW before w.1) := hs _ (List.mem_of_getElem? hw1)
      simp only [wAsg, wgName, wgOwn, wgTup, wgsCons, wgsNil, wLc, wiSeq, wiRng1, wiRng2, wiEnum, wiZip, wCall, wCallK, wCB, wC, wVar, wVarB, wOp, wNeg, waCons, waNil, wLst, wTup, wSl, woNone, woSome, wIfS, wIf, wOr, wAnd, wNot, wTest, wAndV, wOrV, wNotV, wChain, wRet, wNext, wDrop, wPar2, wPar3, wmVal, wmOwn, wFreeze, wApp, wRevT, wipeE, List.set_cons_succ, List.set_cons_zero, List.getElem?_cons_zero, List.getElem?_cons_succ, len_tup, len_lst, len_scr, add_ii, sub_ii, mul_ii, fdiv_ii, mod_ii, lt_ii, le_ii, gt_ii, ge_ii, isN_n, notN_n, DL.eq_int, DL.ne_int, DL.eq_bl, DL.ne_bl, isi_int_int, isi_int_bool, isi_int_tuple, isi_int_list, isi_bl_int, isi_bl_bool, isi_bl_tuple, isi_bl_list, isi_non_int, isi_non_bool, isi_non_tuple, isi_non_list, isi_tup_int, isi_tup_bool, isi_tup_tuple, isi_tup_list, isi_lst_int, isi_lst_bool, isi_lst_tuple, isi_lst_list, if_true, if_false, Bool.not_true, Bool.not_false, Bool.false_eq_true, decide_true, decide_false, sizeLine_eq]
      refine ⟨.int w.1, rfl, wayD (getW before w.1), ?_, ?_⟩
      · rw [atI_ix, List.getElem?_map, hw1]
        rfl
      · exact p_longer_by _ _ hs1 hk
    · refine hKK _ ?_
      have hf := getW_get (lineW ds c before i) i (by rw [lineW_length]; omega)
      simp only [wAsg, wgName, wgOwn, wgTup, wgsCons, wgsNil, wLc, wiSeq, wiRng1, wiRng2, wiEnum, wiZip, wCall, wCallK, wCB, wC, wVar, wVarB, wOp, wNeg, waCons, waNil, wLst, wTup, wSl, woNone, woSome, wIfS, wIf, wOr, wAnd, wNot, wTest, wAndV, wOrV, wNotV, wChain, wRet, wNext, wDrop, wPar2, wPar3, wmVal, wmOwn, wFreeze, wApp, wRevT, wipeE, List.set_cons_succ, List.set_cons_zero, List.getElem?_cons_zero, List.getElem?_cons_succ, len_tup, len_lst, len_scr, add_ii, sub_ii, mul_ii, fdiv_ii, mod_ii, lt_ii, le_ii, gt_ii, ge_ii, isN_n, notN_n, DL.eq_int, DL.ne_int, DL.eq_bl, DL.ne_bl, isi_int_int, isi_int_bool, isi_int_tuple, isi_int_list, isi_bl_int, isi_bl_bool, isi_bl_tuple, isi_bl_list, isi_non_int, isi_non_bool, isi_non_tuple, isi_non_list, isi_tup_int, isi_tup_bool, isi_tup_tuple, isi_tup_list, isi_lst_int, isi_lst_bool, isi_lst_tuple, isi_lst_list, if_true, if_false, Bool.not_true, Bool.not_false, Bool.false_eq_true, decide_true, decide_false, sizeLine_eq, wMaxK]
      refine ⟨wayD (getW (lineW ds c before i) i), ?_, ?_⟩
      · rw [atI_ix, List.getElem?_map, hf]
        rfl
      · have hl : (wins c.h.toNat i).length ≤ i + 1 := wins_len _ _
        show 1 ≤ 16777216 ∧ (1 + ((wins c.h.toNat i).map fun w => wayD (longer ds c (getW before w.1) w)).length ≤ sizeLine ∧ wKey keyL (fun d => (((lineW ds c before i).map wayD).length < 16777216 ∧ _)) (wayD (getW (lineW ds c before i) i) :: ((wins c.h.toNat i).map fun w => wayD (longer ds c (getW before w.1) w))))
        refine ⟨by omega, by rw [List.length_map, sizeLine_eq]; omega, ?_⟩
        rw [show ((wins c.h.toNat i).map fun w => wayD (longer ds c (getW before w.1) w)) = ((wins c.h.toNat i).map fun w => longer ds c (getW before w.1) w).map wayD by rw [List.map_map]; rfl]
        refine key_all _ _ ⟨by rw [List.length_map, lineW_length]; omega, ?_⟩
        have e : (lineW ds c before (i + 1)).map wayD = (lineW ds c before i).map wayD ++ [wayD (stepW ds c before (lineW ds c before i) i)] := by
          show (lineW ds c before i ++ [stepW ds c before (lineW ds c before i) i]).map wayD = _
          rw [List.map_append]
          rfl
        rw [e] at hK
        exact hK _ ⟨_, _, rfl⟩
  · rintro ρ ⟨a, b, rfl⟩
    rw [Nat.zero_add, List.length_map, List.length_range]
    simp only [wAsg, wgName, wgOwn, wgTup, wgsCons, wgsNil, wLc, wiSeq, wiRng1, wiRng2, wiEnum, wiZip, wCall, wCallK, wCB, wC, wVar, wVarB, wOp, wNeg, waCons, waNil, wLst, wTup, wSl, woNone, woSome, wIfS, wIf, wOr, wAnd, wNot, wTest, wAndV, wOrV, wNotV, wChain, wRet, wNext, wDrop, wPar2, wPar3, wmVal, wmOwn, wFreeze, wApp, wRevT, wipeE, List.set_cons_succ, List.set_cons_zero, List.getElem?_cons_zero, List.getElem?_cons_succ, len_tup, len_lst, len_scr, add_ii, sub_ii, mul_ii, fdiv_ii, mod_ii, lt_ii, le_ii, gt_ii, ge_ii, isN_n, notN_n, DL.eq_int, DL.ne_int, DL.eq_bl, DL.ne_bl, isi_int_int, isi_int_bool, isi_int_tuple, isi_int_list, isi_bl_int, isi_bl_bool, isi_bl_tuple, isi_bl_list, isi_non_int, isi_non_bool, isi_non_tuple, isi_non_list, isi_tup_int, isi_tup_bool, isi_tup_tuple, isi_tup_list, isi_lst_int, isi_lst_bool, isi_lst_tuple, isi_lst_list, if_true, if_false, Bool.not_true, Bool.not_false, Bool.false_eq_true, decide_true, decide_false, sizeLine_eq]
    exact h
end
end HX
set_option Elab.async false
set_option linter.all false
set_option maxRecDepth 100000
set_option maxHeartbeats 400000
namespace HX
open PySem PySem.Spec PyProof.Rows L2 DL
section
variable {q : D → Prop} {ep : Ex → Prop} {c : Cl} {ds : List Int}
theorem keyBest_mem : ∀ (ws : List Way) (b : Way), keyBest b ws = b ∨ keyBest b ws ∈ ws
  | [], b => .inl rfl
  | w :: ws, b => by
    unfold keyBest
    split
    · rcases keyBest_mem ws w with h | h
      · exact .inr (by rw [h]; exact List.mem_cons_self)
      · exact .inr (List.mem_cons_of_mem _ h)
    · rcases keyBest_mem ws b with h | h
      · exact .inl h
      · exact .inr (List.mem_cons_of_mem _ h)
theorem getW_le {l : List Way} {m : Nat} (h : ∀ x ∈ l, x.2.length ≤ m) (i : Nat) : (getW l i).2.length ≤ m := by
  unfold getW
  cases e : l[i]? with
  | none => exact Nat.zero_le _
  | some x => exact h x (List.mem_of_getElem? e)
theorem lineW_le {before : List Way} {m : Nat} (h : ∀ x ∈ before, x.2.length ≤ m) : ∀ (n : Nat), ∀ x ∈ lineW ds c before n, x.2.length ≤ m + 1
  | 0, x, hx => by
    rw [List.mem_singleton.mp hx]
    exact Nat.le_succ_of_le (getW_le h 0)
  | n + 1, x, hx => by
    rcases List.mem_append.mp hx with hx | hx
    · exact lineW_le h n x hx
    · rw [List.mem_singleton.mp hx]
      unfold stepW
      rcases keyBest_mem ((wins c.h.toNat n).map fun w => longer ds c (getW before w.1) w) (getW (lineW ds c before n) n) with e | e
      · rw [e]
        exact getW_le (lineW_le h n) n
      · obtain ⟨w, _, e2⟩ := List.mem_map.mp e
        rw [← e2]
        show ((getW before w.1).2 ++ [w]).length ≤ m + 1
        rw [List.length_append, List.length_singleton]
        have := getW_le h w.1
        omega
theorem bestW_le : ∀ (k : Nat), ∀ x ∈ bestW ds c k, x.2.length ≤ k
  | 0, x, hx => by
    rw [(List.mem_replicate.mp hx).2]
    exact Nat.le_refl _
  | k + 1, x, hx => lineW_le (bestW_le k) _ x hx
/-- what the best choice is -/
def best (ds : List Int) (c : Cl) : Way := getW (bestW ds c c.c.toNat) ds.length
theorem flat_one (n : Nat) (x : D) : (List.replicate n [x]).flatten = List.replicate n x := by
  induction n with
  | zero => rfl
  | succ n ih => rw [List.replicate_succ, List.flatten_cons, ih, List.replicate_succ]; rfl
theorem atI_end {α : Type} (xs : List α) (n : Nat) (h : xs.length = n + 1) : atI xs (-1) = xs[n]? := by
  unfold atI ixN
  rw [if_neg (by omega), if_pos (by omega)]
  show xs[_]? = xs[n]?
  rw [show ((-1 : Int) + (xs.length : Nat)).toNat = n by omega]
theorem map_rep (n : Nat) : (List.replicate n dflt).map wayD = List.replicate n (D.tup [.int 0, .tup []]) := by
  rw [List.map_replicate]
  rfl
theorem p_best_by (hh : 1 ≤ c.h) (hc : 0 ≤ c.c ∧ c.c ≤ 100) (hn : ds.length < 10000) (h : q (wayD (best ds c))) : wf_best_by [dmg ds, c.d] q ep := by
  unfold wf_best_by W_best_by
  show wSeq _ _ _ [some (.val (dmg ds)), some (.val c.d), none, none]
  refine seq_step fun KK hKK => ?_
  simp only [wAsg, wgName, wgOwn, wgTup, wgsCons, wgsNil, wLc, wiSeq, wiRng1, wiRng2, wiEnum, wiZip, wCall, wCallK, wCB, wC, wVar, wVarB, wOp, wNeg, waCons, waNil, wLst, wTup, wSl, woNone, woSome, wIfS, wIf, wOr, wAnd, wNot, wTest, wAndV, wOrV, wNotV, wChain, wRet, wNext, wDrop, wPar2, wPar3, wmVal, wmOwn, wFreeze, wApp, wRevT, wipeE, List.set_cons_succ, List.set_cons_zero, List.getElem?_cons_zero, List.getElem?_cons_succ, len_tup, len_lst, len_scr, add_ii, sub_ii, mul_ii, fdiv_ii, mod_ii, lt_ii, le_ii, gt_ii, ge_ii, isN_n, notN_n, DL.eq_int, DL.ne_int, DL.eq_bl, DL.ne_bl, isi_int_int, isi_int_bool, isi_int_tuple, isi_int_list, isi_bl_int, isi_bl_bool, isi_bl_tuple, isi_bl_list, isi_non_int, isi_non_bool, isi_non_tuple, isi_non_list, isi_tup_int, isi_tup_bool, isi_tup_tuple, isi_tup_list, isi_lst_int, isi_lst_bool, isi_lst_tuple, isi_lst_list, if_true, if_false, Bool.not_true, Bool.not_false, Bool.false_eq_true, decide_true, decide_false, sizeLine_eq, len_dmg]
  refine ⟨Nat.zero_le _, by show 2 ≤ 16777216; omega, by show 1 ≤ 16777216; omega, ?_⟩
  show (-(2 ^ 63) ≤ ((ds.length : Int) + 1) ∧ ((ds.length : Int) + 1) < 2 ^ 63 ∧ 1 * ((ds.length : Int) + 1).toNat ≤ sizeLine) ∧ KK [_, _, some (.val (.lst (List.replicate ((ds.length : Int) + 1).toNat [D.tup [.int 0, .tup []]]).flatten)), _]
  rw [show ((ds.length : Int) + 1).toNat = ds.length + 1 by omega, flat_one, ← map_rep]
  refine ⟨⟨by omega, by omega, by rw [sizeLine_eq]; omega⟩, ?_⟩
  refine hKK _ ?_
  refine seq_step fun KK2 hKK2 => ?_
  have h1 : atI [D.int c.h, .int c.c, .int c.l, hiD c.hi] 1 = some (.int c.c) := rfl
  unfold wFor wiRng1
  simp only [wAsg, wgName, wgOwn, wgTup, wgsCons, wgsNil, wLc, wiSeq, wiRng1, wiRng2, wiEnum, wiZip, wCall, wCallK, wCB, wC, wVar, wVarB, wOp, wNeg, waCons, waNil, wLst, wTup, wSl, woNone, woSome, wIfS, wIf, wOr, wAnd, wNot, wTest, wAndV, wOrV, wNotV, wChain, wRet, wNext, wDrop, wPar2, wPar3, wmVal, wmOwn, wFreeze, wApp, wRevT, wipeE, List.set_cons_succ, List.set_cons_zero, List.getElem?_cons_zero, List.getElem?_cons_succ, len_tup, len_lst, len_scr, add_ii, sub_ii, mul_ii, fdiv_ii, mod_ii, lt_ii, le_ii, gt_ii, ge_ii, isN_n, notN_n, DL.eq_int, DL.ne_int, DL.eq_bl, DL.ne_bl, isi_int_int, isi_int_bool, isi_int_tuple, isi_int_list, isi_bl_int, isi_bl_bool, isi_bl_tuple, isi_bl_list, isi_non_int, isi_non_bool, isi_non_tuple, isi_non_list, isi_tup_int, isi_tup_bool, isi_tup_tuple, isi_tup_list, isi_lst_int, isi_lst_bool, isi_lst_tuple, isi_lst_list, if_true, if_false, Bool.not_true, Bool.not_false, Bool.false_eq_true, decide_true, decide_false, sizeLine_eq]
  refine ⟨_, h1, ?_⟩
  obtain ⟨m, hm⟩ : ∃ m : Nat, c.c = (m : Int) := ⟨c.c.toNat, by omega⟩
  have hm2 : c.c.toNat = m := by omega
  rw [hm]
  refine ⟨by omega, ?_⟩
  rw [rangeD_nat]
  refine for_run (fun i ρ => ∃ a, ρ = [some (.val (dmg ds)), some (.val c.d), some (.val (.lst ((bestW ds c i).map wayD))), a]) _ 0 _ ⟨none, rfl⟩ ?_ ?_
  · rintro i d ρ K hd ⟨a, rfl⟩ hK
    have hd2 := (List.getElem?_eq_some_iff.mp hd).1
    have hi : i < m := by simpa using hd2
    simp only [wAsg, wgName, wgOwn, wgTup, wgsCons, wgsNil, wLc, wiSeq, wiRng1, wiRng2, wiEnum, wiZip, wCall, wCallK, wCB, wC, wVar, wVarB, wOp, wNeg, waCons, waNil, wLst, wTup, wSl, woNone, woSome, wIfS, wIf, wOr, wAnd, wNot, wTest, wAndV, wOrV, wNotV, wChain, wRet, wNext, wDrop, wPar2, wPar3, wmVal, wmOwn, wFreeze, wApp, wRevT, wipeE, List.set_cons_succ, List.set_cons_zero, List.getElem?_cons_zero, List.getElem?_cons_succ, len_tup, len_lst, len_scr, add_ii, sub_ii, mul_ii, fdiv_ii, mod_ii, lt_ii, le_ii, gt_ii, ge_ii, isN_n, notN_n, DL.eq_int, DL.ne_int, DL.eq_bl, DL.ne_bl, isi_int_int, isi_int_bool, isi_int_tuple, isi_int_list, isi_bl_int, isi_bl_bool, isi_bl_tuple, isi_bl_list, isi_non_int, isi_non_bool, isi_non_tuple, isi_non_list, isi_tup_int, isi_tup_bool, isi_tup_tuple, isi_tup_list, isi_lst_int, isi_lst_bool, isi_lst_tuple, isi_lst_list, if_true, if_false, Bool.not_true, Bool.not_false, Bool.false_eq_true, decide_true, decide_false, sizeLine_eq]
    rw [Nat.zero_add] at hK ⊢
    refine p_best_line (bestW ds c i) (bestW_length ds c i) (fun x hx => ?_) hh hn ?_
    · have := bestW_le i x hx
      show x.2.length < 1000000
      omega
    · exact hK _ ⟨_, rfl⟩
  · rintro ρ ⟨a, rfl⟩
    rw [Nat.zero_add, List.length_map, List.length_range]
    refine hKK2 _ ?_
    simp only [wAsg, wgName, wgOwn, wgTup, wgsCons, wgsNil, wLc, wiSeq, wiRng1, wiRng2, wiEnum, wiZip, wCall, wCallK, wCB, wC, wVar, wVarB, wOp, wNeg, waCons, waNil, wLst, wTup, wSl, woNone, woSome, wIfS, wIf, wOr, wAnd, wNot, wTest, wAndV, wOrV, wNotV, wChain, wRet, wNext, wDrop, wPar2, wPar3, wmVal, wmOwn, wFreeze, wApp, wRevT, wipeE, List.set_cons_succ, List.set_cons_zero, List.getElem?_cons_zero, List.getElem?_cons_succ, len_tup, len_lst, len_scr, add_ii, sub_ii, mul_ii, fdiv_ii, mod_ii, lt_ii, le_ii, gt_ii, ge_ii, isN_n, notN_n, DL.eq_int, DL.ne_int, DL.eq_bl, DL.ne_bl, isi_int_int, isi_int_bool, isi_int_tuple, isi_int_list, isi_bl_int, isi_bl_bool, isi_bl_tuple, isi_bl_list, isi_non_int, isi_non_bool, isi_non_tuple, isi_non_list, isi_tup_int, isi_tup_bool, isi_tup_tuple, isi_tup_list, isi_lst_int, isi_lst_bool, isi_lst_tuple, isi_lst_list, if_true, if_false, Bool.not_true, Bool.not_false, Bool.false_eq_true, decide_true, decide_false, sizeLine_eq]
    have hg := getW_get (bestW ds c m) ds.length (by rw [bestW_length]; omega)
    refine ⟨wayD (getW (bestW ds c m) ds.length), ?_, ?_⟩
    · rw [atI_end _ ds.length (by rw [List.length_map, bestW_length]), List.getElem?_map, hg]
      rfl
    · unfold best at h
      rw [hm2] at h
      exact h
/-! ### the checks -/
theorem enumD_get2 : ∀ (xs : List D) (n i : Nat) (d : D), (enumD n xs)[i]? = some d → ∃ x, xs[i]? = some x ∧ d = .tup [.int ((n + i : Nat) : Int), x] := fun xs n i d h => enumD_get h
theorem p_wrong_in {wl : WF} {xs : List D} {least most : Int} (h1 : least ≤ xs.length) (h2 : (xs.length : Int) ≤ most) (hw : ∀ (i : Nat) (x : D) (k : D → Prop), xs[i]? = some x → k (.bl true) → wl [.tup (xs.take i), x] k ep) (h : q (.lst [])) : wf_wrong_in wl [.tup xs, .int least, .int most] q ep := by
  intro fa
  unfold W_wrong_in
  show wSeq _ _ _ [some (.val (.tup xs)), some (.val (.int least)), some (.val (.int most)), some (.val (.ref fa)), none, none]
  refine seq_step fun KK hKK => ?_
  simp only [wAsg, wgName, wgOwn, wgTup, wgsCons, wgsNil, wLc, wiSeq, wiRng1, wiRng2, wiEnum, wiZip, wCall, wCallK, wCB, wC, wVar, wVarB, wOp, wNeg, waCons, waNil, wLst, wTup, wSl, woNone, woSome, wIfS, wIf, wOr, wAnd, wNot, wTest, wAndV, wOrV, wNotV, wChain, wRet, wNext, wDrop, wPar2, wPar3, wmVal, wmOwn, wFreeze, wApp, wRevT, wipeE, List.set_cons_succ, List.set_cons_zero, List.getElem?_cons_zero, List.getElem?_cons_succ, len_tup, len_lst, len_scr, add_ii, sub_ii, mul_ii, fdiv_ii, mod_ii, lt_ii, le_ii, gt_ii, ge_ii, isN_n, notN_n, DL.eq_int, DL.ne_int, DL.eq_bl, DL.ne_bl, isi_int_int, isi_int_bool, isi_int_tuple, isi_int_list, isi_bl_int, isi_bl_bool, isi_bl_tuple, isi_bl_list, isi_non_int, isi_non_bool, isi_non_tuple, isi_non_list, isi_tup_int, isi_tup_bool, isi_tup_tuple, isi_tup_list, isi_lst_int, isi_lst_bool, isi_lst_tuple, isi_lst_list, if_true, if_false, Bool.not_true, Bool.not_false, Bool.false_eq_true, decide_true, decide_false, sizeLine_eq]
  rw [decide_eq_false (by omega)]
  simp only [wAsg, wgName, wgOwn, wgTup, wgsCons, wgsNil, wLc, wiSeq, wiRng1, wiRng2, wiEnum, wiZip, wCall, wCallK, wCB, wC, wVar, wVarB, wOp, wNeg, waCons, waNil, wLst, wTup, wSl, woNone, woSome, wIfS, wIf, wOr, wAnd, wNot, wTest, wAndV, wOrV, wNotV, wChain, wRet, wNext, wDrop, wPar2, wPar3, wmVal, wmOwn, wFreeze, wApp, wRevT, wipeE, List.set_cons_succ, List.set_cons_zero, List.getElem?_cons_zero, List.getElem?_cons_succ, len_tup, len_lst, len_scr, add_ii, sub_ii, mul_ii, fdiv_ii, mod_ii, lt_ii, le_ii, gt_ii, ge_ii, isN_n, notN_n, DL.eq_int, DL.ne_int, DL.eq_bl, DL.ne_bl, isi_int_int, isi_int_bool, isi_int_tuple, isi_int_list, isi_bl_int, isi_bl_bool, isi_bl_tuple, isi_bl_list, isi_non_int, isi_non_bool, isi_non_tuple, isi_non_list, isi_tup_int, isi_tup_bool, isi_tup_tuple, isi_tup_list, isi_lst_int, isi_lst_bool, isi_lst_tuple, isi_lst_list, if_true, if_false, Bool.not_true, Bool.not_false, Bool.false_eq_true, decide_true, decide_false, sizeLine_eq]
  refine hKK _ ?_
  refine seq_step fun KK2 hKK2 => ?_
  unfold wFor
  simp only [wAsg, wgName, wgOwn, wgTup, wgsCons, wgsNil, wLc, wiSeq, wiRng1, wiRng2, wiEnum, wiZip, wCall, wCallK, wCB, wC, wVar, wVarB, wOp, wNeg, waCons, waNil, wLst, wTup, wSl, woNone, woSome, wIfS, wIf, wOr, wAnd, wNot, wTest, wAndV, wOrV, wNotV, wChain, wRet, wNext, wDrop, wPar2, wPar3, wmVal, wmOwn, wFreeze, wApp, wRevT, wipeE, List.set_cons_succ, List.set_cons_zero, List.getElem?_cons_zero, List.getElem?_cons_succ, len_tup, len_lst, len_scr, add_ii, sub_ii, mul_ii, fdiv_ii, mod_ii, lt_ii, le_ii, gt_ii, ge_ii, isN_n, notN_n, DL.eq_int, DL.ne_int, DL.eq_bl, DL.ne_bl, isi_int_int, isi_int_bool, isi_int_tuple, isi_int_list, isi_bl_int, isi_bl_bool, isi_bl_tuple, isi_bl_list, isi_non_int, isi_non_bool, isi_non_tuple, isi_non_list, isi_tup_int, isi_tup_bool, isi_tup_tuple, isi_tup_list, isi_lst_int, isi_lst_bool, isi_lst_tuple, isi_lst_list, if_true, if_false, Bool.not_true, Bool.not_false, Bool.false_eq_true, decide_true, decide_false, sizeLine_eq]
  refine for_run (fun i ρ => ∃ a b, ρ = [some (.val (.tup xs)), some (.val (.int least)), some (.val (.int most)), some (.val (.ref fa)), a, b]) _ 0 _ ⟨none, none, rfl⟩ ?_ ?_
  · rintro i d ρ K hd ⟨a, b, rfl⟩ hK
    obtain ⟨x, hx, rfl⟩ := enumD_get2 _ _ _ _ hd
    have hi : i < xs.length := (List.getElem?_eq_some_iff.mp hx).1
    simp only [wAsg, wgName, wgOwn, wgTup, wgsCons, wgsNil, wLc, wiSeq, wiRng1, wiRng2, wiEnum, wiZip, wCall, wCallK, wCB, wC, wVar, wVarB, wOp, wNeg, waCons, waNil, wLst, wTup, wSl, woNone, woSome, wIfS, wIf, wOr, wAnd, wNot, wTest, wAndV, wOrV, wNotV, wChain, wRet, wNext, wDrop, wPar2, wPar3, wmVal, wmOwn, wFreeze, wApp, wRevT, wipeE, List.set_cons_succ, List.set_cons_zero, List.getElem?_cons_zero, List.getElem?_cons_succ, len_tup, len_lst, len_scr, add_ii, sub_ii, mul_ii, fdiv_ii, mod_ii, lt_ii, le_ii, gt_ii, ge_ii, isN_n, notN_n, DL.eq_int, DL.ne_int, DL.eq_bl, DL.ne_bl, isi_int_int, isi_int_bool, isi_int_tuple, isi_int_list, isi_bl_int, isi_bl_bool, isi_bl_tuple, isi_bl_list, isi_non_int, isi_non_bool, isi_non_tuple, isi_non_list, isi_tup_int, isi_tup_bool, isi_tup_tuple, isi_tup_list, isi_lst_int, isi_lst_bool, isi_lst_tuple, isi_lst_list, if_true, if_false, Bool.not_true, Bool.not_false, Bool.false_eq_true, decide_true, decide_false, sizeLine_eq]
    have e1 : (((0 + i : Nat) : Int) == most) = false := by
      rw [beq_eq_false_iff_ne]
      omega
    rw [e1]
    simp only [wAsg, wgName, wgOwn, wgTup, wgsCons, wgsNil, wLc, wiSeq, wiRng1, wiRng2, wiEnum, wiZip, wCall, wCallK, wCB, wC, wVar, wVarB, wOp, wNeg, waCons, waNil, wLst, wTup, wSl, woNone, woSome, wIfS, wIf, wOr, wAnd, wNot, wTest, wAndV, wOrV, wNotV, wChain, wRet, wNext, wDrop, wPar2, wPar3, wmVal, wmOwn, wFreeze, wApp, wRevT, wipeE, List.set_cons_succ, List.set_cons_zero, List.getElem?_cons_zero, List.getElem?_cons_succ, len_tup, len_lst, len_scr, add_ii, sub_ii, mul_ii, fdiv_ii, mod_ii, lt_ii, le_ii, gt_ii, ge_ii, isN_n, notN_n, DL.eq_int, DL.ne_int, DL.eq_bl, DL.ne_bl, isi_int_int, isi_int_bool, isi_int_tuple, isi_int_list, isi_bl_int, isi_bl_bool, isi_bl_tuple, isi_bl_list, isi_non_int, isi_non_bool, isi_non_tuple, isi_non_list, isi_tup_int, isi_tup_bool, isi_tup_tuple, isi_tup_list, isi_lst_int, isi_lst_bool, isi_lst_tuple, isi_lst_list, if_true, if_false, Bool.not_true, Bool.not_false, Bool.false_eq_true, decide_true, decide_false, sizeLine_eq]
    refine ⟨rfl, ?_⟩
    simp only [wAsg, wgName, wgOwn, wgTup, wgsCons, wgsNil, wLc, wiSeq, wiRng1, wiRng2, wiEnum, wiZip, wCall, wCallK, wCB, wC, wVar, wVarB, wOp, wNeg, waCons, waNil, wLst, wTup, wSl, woNone, woSome, wIfS, wIf, wOr, wAnd, wNot, wTest, wAndV, wOrV, wNotV, wChain, wRet, wNext, wDrop, wPar2, wPar3, wmVal, wmOwn, wFreeze, wApp, wRevT, wipeE, List.set_cons_succ, List.set_cons_zero, List.getElem?_cons_zero, List.getElem?_cons_succ, len_tup, len_lst, len_scr, fSl_tup, fSl_lst, fSl_scr, add_ii, sub_ii, mul_ii, fdiv_ii, mod_ii, lt_ii, le_ii, gt_ii, ge_ii, isN_n, notN_n, DL.eq_int, DL.ne_int, DL.eq_bl, DL.ne_bl, isi_int_int, isi_int_bool, isi_int_tuple, isi_int_list, isi_bl_int, isi_bl_bool, isi_bl_tuple, isi_bl_list, isi_non_int, isi_non_bool, isi_non_tuple, isi_non_list, isi_tup_int, isi_tup_bool, isi_tup_tuple, isi_tup_list, isi_lst_int, isi_lst_bool, isi_lst_tuple, isi_lst_list, if_true, if_false, Bool.not_true, Bool.not_false, Bool.false_eq_true, decide_true, decide_false, sizeLine_eq]
    rw [cut_to, Nat.zero_add]
    refine hw i x _ hx ?_
    simp only [wAsg, wgName, wgOwn, wgTup, wgsCons, wgsNil, wLc, wiSeq, wiRng1, wiRng2, wiEnum, wiZip, wCall, wCallK, wCB, wC, wVar, wVarB, wOp, wNeg, waCons, waNil, wLst, wTup, wSl, woNone, woSome, wIfS, wIf, wOr, wAnd, wNot, wTest, wAndV, wOrV, wNotV, wChain, wRet, wNext, wDrop, wPar2, wPar3, wmVal, wmOwn, wFreeze, wApp, wRevT, wipeE, List.set_cons_succ, List.set_cons_zero, List.getElem?_cons_zero, List.getElem?_cons_succ, len_tup, len_lst, len_scr, fSl_tup, fSl_lst, fSl_scr, add_ii, sub_ii, mul_ii, fdiv_ii, mod_ii, lt_ii, le_ii, gt_ii, ge_ii, isN_n, notN_n, DL.eq_int, DL.ne_int, DL.eq_bl, DL.ne_bl, isi_int_int, isi_int_bool, isi_int_tuple, isi_int_list, isi_bl_int, isi_bl_bool, isi_bl_tuple, isi_bl_list, isi_non_int, isi_non_bool, isi_non_tuple, isi_non_list, isi_tup_int, isi_tup_bool, isi_tup_tuple, isi_tup_list, isi_lst_int, isi_lst_bool, isi_lst_tuple, isi_lst_list, if_true, if_false, Bool.not_true, Bool.not_false, Bool.false_eq_true, decide_true, decide_false, sizeLine_eq]
    exact hK _ ⟨_, _, rfl⟩
  · rintro ρ ⟨a, b, rfl⟩
    refine hKK2 _ ?_
    exact ⟨Nat.zero_le _, h⟩
end
end HX
set_option Elab.async false
set_option linter.all false
set_option maxRecDepth 100000
set_option maxHeartbeats 400000
namespace HX
open PySem PySem.Spec PyProof.Rows L2 DL
structure OkC (c : Cl) : Prop where
  oh : 1 ≤ c.h ∧ c.h ≤ 60
  oc : 1 ≤ c.c ∧ c.c ≤ 9
  ol : 0 ≤ c.l ∧ c.l ≤ 9999
  ohi : ∀ v, c.hi = some v → c.l + 1 ≤ v ∧ v ≤ 9999
structure OkDm (ds : List Int) : Prop where
  len : 1 ≤ ds.length ∧ ds.length ≤ 60
  all : ∀ a ∈ ds, 0 ≤ a ∧ a ≤ 9999
section
variable {q : D → Prop} {ep : Ex → Prop} {c : Cl} {ds : List Int}
theorem bb {a b : Int} {x y : Int} (h1 : a ≤ x) (h2 : y ≤ b) : (decide (a ≤ x) && decide (y ≤ b)) = true := by
  rw [decide_eq_true h1, decide_eq_true h2]
  rfl
theorem p_wrong_in_damages (ok : OkDm ds) (h : q (.lst [])) : wf_wrong_in_damages [dmg ds] q ep := by
  unfold wf_wrong_in_damages W_wrong_in_damages
  show wRet _ _ [some (.val (dmg ds))]
  simp only [wAsg, wgName, wgOwn, wgTup, wgsCons, wgsNil, wLc, wiSeq, wiRng1, wiRng2, wiEnum, wiZip, wCall, wCallK, wCB, wC, wVar, wVarB, wOp, wNeg, waCons, waNil, wLst, wTup, wSl, woNone, woSome, wIfS, wIf, wOr, wAnd, wNot, wTest, wAndV, wOrV, wNotV, wChain, wRet, wNext, wDrop, wPar2, wPar3, wmVal, wmOwn, wFreeze, wApp, wRevT, wipeE, List.set_cons_succ, List.set_cons_zero, List.getElem?_cons_zero, List.getElem?_cons_succ, len_tup, len_lst, len_scr, fSl_tup, fSl_lst, fSl_scr, add_ii, sub_ii, mul_ii, fdiv_ii, mod_ii, lt_ii, le_ii, gt_ii, ge_ii, isN_n, notN_n, DL.eq_int, DL.ne_int, DL.eq_bl, DL.ne_bl, isi_int_int, isi_int_bool, isi_int_tuple, isi_int_list, isi_bl_int, isi_bl_bool, isi_bl_tuple, isi_bl_list, isi_non_int, isi_non_bool, isi_non_tuple, isi_non_list, isi_tup_int, isi_tup_bool, isi_tup_tuple, isi_tup_list, isi_lst_int, isi_lst_bool, isi_lst_tuple, isi_lst_list, if_true, if_false, Bool.not_true, Bool.not_false, Bool.false_eq_true, decide_true, decide_false, sizeLine_eq, wCallHO]
  have h1 := ok.len
  refine p_wrong_in (by rw [List.length_map]; omega) (by rw [List.length_map]; omega) (fun i x k hx hk => ?_) h
  rw [List.getElem?_map] at hx
  cases e : ds[i]? with
  | none => rw [e] at hx; cases hx
  | some a =>
    rw [e] at hx
    cases hx
    have := ok.all a (List.mem_of_getElem? e)
    show wf_is_up_to [.int a, .int 9999] k ep
    refine p_is_up_to _ _ ?_
    rw [bb this.1 this.2]
    exact hk
theorem ix4 (a b c d : D) : atI [a, b, c, d] 0 = some a ∧ atI [a, b, c, d] 1 = some b ∧ atI [a, b, c, d] 2 = some c ∧ atI [a, b, c, d] 3 = some d := ⟨rfl, rfl, rfl, rfl⟩
theorem p_is_clause (ok : OkC c) (h : q (.bl true)) : wf_is_clause [c.d] q ep := by
  unfold wf_is_clause W_is_clause
  show wSeq _ _ _ [some (.val c.d)]
  refine seq_step fun KK hKK => ?_
  simp only [wAsg, wgName, wgOwn, wgTup, wgsCons, wgsNil, wLc, wiSeq, wiRng1, wiRng2, wiEnum, wiZip, wCall, wCallK, wCB, wC, wVar, wVarB, wOp, wNeg, waCons, waNil, wLst, wTup, wSl, woNone, woSome, wIfS, wIf, wOr, wAnd, wNot, wTest, wAndV, wOrV, wNotV, wChain, wRet, wNext, wDrop, wPar2, wPar3, wmVal, wmOwn, wFreeze, wApp, wRevT, wipeE, List.set_cons_succ, List.set_cons_zero, List.getElem?_cons_zero, List.getElem?_cons_succ, len_tup, len_lst, len_scr, fSl_tup, fSl_lst, fSl_scr, add_ii, sub_ii, mul_ii, fdiv_ii, mod_ii, lt_ii, le_ii, gt_ii, ge_ii, isN_n, notN_n, DL.eq_int, DL.ne_int, DL.eq_bl, DL.ne_bl, isi_int_int, isi_int_bool, isi_int_tuple, isi_int_list, isi_bl_int, isi_bl_bool, isi_bl_tuple, isi_bl_list, isi_non_int, isi_non_bool, isi_non_tuple, isi_non_list, isi_tup_int, isi_tup_bool, isi_tup_tuple, isi_tup_list, isi_lst_int, isi_lst_bool, isi_lst_tuple, isi_lst_list, if_true, if_false, Bool.not_true, Bool.not_false, Bool.false_eq_true, decide_true, decide_false, sizeLine_eq]
  refine p_is_tuple_of _ _ ?_
  show (fun b : Bool => _) true
  simp only [wAsg, wgName, wgOwn, wgTup, wgsCons, wgsNil, wLc, wiSeq, wiRng1, wiRng2, wiEnum, wiZip, wCall, wCallK, wCB, wC, wVar, wVarB, wOp, wNeg, waCons, waNil, wLst, wTup, wSl, woNone, woSome, wIfS, wIf, wOr, wAnd, wNot, wTest, wAndV, wOrV, wNotV, wChain, wRet, wNext, wDrop, wPar2, wPar3, wmVal, wmOwn, wFreeze, wApp, wRevT, wipeE, List.set_cons_succ, List.set_cons_zero, List.getElem?_cons_zero, List.getElem?_cons_succ, len_tup, len_lst, len_scr, fSl_tup, fSl_lst, fSl_scr, add_ii, sub_ii, mul_ii, fdiv_ii, mod_ii, lt_ii, le_ii, gt_ii, ge_ii, isN_n, notN_n, DL.eq_int, DL.ne_int, DL.eq_bl, DL.ne_bl, isi_int_int, isi_int_bool, isi_int_tuple, isi_int_list, isi_bl_int, isi_bl_bool, isi_bl_tuple, isi_bl_list, isi_non_int, isi_non_bool, isi_non_tuple, isi_non_list, isi_tup_int, isi_tup_bool, isi_tup_tuple, isi_tup_list, isi_lst_int, isi_lst_bool, isi_lst_tuple, isi_lst_list, if_true, if_false, Bool.not_true, Bool.not_false, Bool.false_eq_true, decide_true, decide_false, sizeLine_eq]
  refine ⟨.int c.h, rfl, ?_⟩
  refine p_is_between _ _ _ ?_
  rw [bb ok.oh.1 ok.oh.2]
  simp only [wAsg, wgName, wgOwn, wgTup, wgsCons, wgsNil, wLc, wiSeq, wiRng1, wiRng2, wiEnum, wiZip, wCall, wCallK, wCB, wC, wVar, wVarB, wOp, wNeg, waCons, waNil, wLst, wTup, wSl, woNone, woSome, wIfS, wIf, wOr, wAnd, wNot, wTest, wAndV, wOrV, wNotV, wChain, wRet, wNext, wDrop, wPar2, wPar3, wmVal, wmOwn, wFreeze, wApp, wRevT, wipeE, List.set_cons_succ, List.set_cons_zero, List.getElem?_cons_zero, List.getElem?_cons_succ, len_tup, len_lst, len_scr, fSl_tup, fSl_lst, fSl_scr, add_ii, sub_ii, mul_ii, fdiv_ii, mod_ii, lt_ii, le_ii, gt_ii, ge_ii, isN_n, notN_n, DL.eq_int, DL.ne_int, DL.eq_bl, DL.ne_bl, isi_int_int, isi_int_bool, isi_int_tuple, isi_int_list, isi_bl_int, isi_bl_bool, isi_bl_tuple, isi_bl_list, isi_non_int, isi_non_bool, isi_non_tuple, isi_non_list, isi_tup_int, isi_tup_bool, isi_tup_tuple, isi_tup_list, isi_lst_int, isi_lst_bool, isi_lst_tuple, isi_lst_list, if_true, if_false, Bool.not_true, Bool.not_false, Bool.false_eq_true, decide_true, decide_false, sizeLine_eq]
  refine ⟨.int c.c, rfl, ?_⟩
  refine p_is_between _ _ _ ?_
  rw [bb ok.oc.1 ok.oc.2]
  simp only [wAsg, wgName, wgOwn, wgTup, wgsCons, wgsNil, wLc, wiSeq, wiRng1, wiRng2, wiEnum, wiZip, wCall, wCallK, wCB, wC, wVar, wVarB, wOp, wNeg, waCons, waNil, wLst, wTup, wSl, woNone, woSome, wIfS, wIf, wOr, wAnd, wNot, wTest, wAndV, wOrV, wNotV, wChain, wRet, wNext, wDrop, wPar2, wPar3, wmVal, wmOwn, wFreeze, wApp, wRevT, wipeE, List.set_cons_succ, List.set_cons_zero, List.getElem?_cons_zero, List.getElem?_cons_succ, len_tup, len_lst, len_scr, fSl_tup, fSl_lst, fSl_scr, add_ii, sub_ii, mul_ii, fdiv_ii, mod_ii, lt_ii, le_ii, gt_ii, ge_ii, isN_n, notN_n, DL.eq_int, DL.ne_int, DL.eq_bl, DL.ne_bl, isi_int_int, isi_int_bool, isi_int_tuple, isi_int_list, isi_bl_int, isi_bl_bool, isi_bl_tuple, isi_bl_list, isi_non_int, isi_non_bool, isi_non_tuple, isi_non_list, isi_tup_int, isi_tup_bool, isi_tup_tuple, isi_tup_list, isi_lst_int, isi_lst_bool, isi_lst_tuple, isi_lst_list, if_true, if_false, Bool.not_true, Bool.not_false, Bool.false_eq_true, decide_true, decide_false, sizeLine_eq]
  refine hKK _ ?_
  refine seq_step fun KK2 hKK2 => ?_
  simp only [wAsg, wgName, wgOwn, wgTup, wgsCons, wgsNil, wLc, wiSeq, wiRng1, wiRng2, wiEnum, wiZip, wCall, wCallK, wCB, wC, wVar, wVarB, wOp, wNeg, waCons, waNil, wLst, wTup, wSl, woNone, woSome, wIfS, wIf, wOr, wAnd, wNot, wTest, wAndV, wOrV, wNotV, wChain, wRet, wNext, wDrop, wPar2, wPar3, wmVal, wmOwn, wFreeze, wApp, wRevT, wipeE, List.set_cons_succ, List.set_cons_zero, List.getElem?_cons_zero, List.getElem?_cons_succ, len_tup, len_lst, len_scr, fSl_tup, fSl_lst, fSl_scr, add_ii, sub_ii, mul_ii, fdiv_ii, mod_ii, lt_ii, le_ii, gt_ii, ge_ii, isN_n, notN_n, DL.eq_int, DL.ne_int, DL.eq_bl, DL.ne_bl, isi_int_int, isi_int_bool, isi_int_tuple, isi_int_list, isi_bl_int, isi_bl_bool, isi_bl_tuple, isi_bl_list, isi_non_int, isi_non_bool, isi_non_tuple, isi_non_list, isi_tup_int, isi_tup_bool, isi_tup_tuple, isi_tup_list, isi_lst_int, isi_lst_bool, isi_lst_tuple, isi_lst_list, if_true, if_false, Bool.not_true, Bool.not_false, Bool.false_eq_true, decide_true, decide_false, sizeLine_eq]
  refine ⟨.int c.l, rfl, ?_⟩
  refine p_is_up_to _ _ ?_
  rw [bb ok.ol.1 ok.ol.2]
  simp only [wAsg, wgName, wgOwn, wgTup, wgsCons, wgsNil, wLc, wiSeq, wiRng1, wiRng2, wiEnum, wiZip, wCall, wCallK, wCB, wC, wVar, wVarB, wOp, wNeg, waCons, waNil, wLst, wTup, wSl, woNone, woSome, wIfS, wIf, wOr, wAnd, wNot, wTest, wAndV, wOrV, wNotV, wChain, wRet, wNext, wDrop, wPar2, wPar3, wmVal, wmOwn, wFreeze, wApp, wRevT, wipeE, List.set_cons_succ, List.set_cons_zero, List.getElem?_cons_zero, List.getElem?_cons_succ, len_tup, len_lst, len_scr, fSl_tup, fSl_lst, fSl_scr, add_ii, sub_ii, mul_ii, fdiv_ii, mod_ii, lt_ii, le_ii, gt_ii, ge_ii, isN_n, notN_n, DL.eq_int, DL.ne_int, DL.eq_bl, DL.ne_bl, isi_int_int, isi_int_bool, isi_int_tuple, isi_int_list, isi_bl_int, isi_bl_bool, isi_bl_tuple, isi_bl_list, isi_non_int, isi_non_bool, isi_non_tuple, isi_non_list, isi_tup_int, isi_tup_bool, isi_tup_tuple, isi_tup_list, isi_lst_int, isi_lst_bool, isi_lst_tuple, isi_lst_list, if_true, if_false, Bool.not_true, Bool.not_false, Bool.false_eq_true, decide_true, decide_false, sizeLine_eq]
  refine hKK2 _ ?_
  simp only [wAsg, wgName, wgOwn, wgTup, wgsCons, wgsNil, wLc, wiSeq, wiRng1, wiRng2, wiEnum, wiZip, wCall, wCallK, wCB, wC, wVar, wVarB, wOp, wNeg, waCons, waNil, wLst, wTup, wSl, woNone, woSome, wIfS, wIf, wOr, wAnd, wNot, wTest, wAndV, wOrV, wNotV, wChain, wRet, wNext, wDrop, wPar2, wPar3, wmVal, wmOwn, wFreeze, wApp, wRevT, wipeE, List.set_cons_succ, List.set_cons_zero, List.getElem?_cons_zero, List.getElem?_cons_succ, len_tup, len_lst, len_scr, fSl_tup, fSl_lst, fSl_scr, add_ii, sub_ii, mul_ii, fdiv_ii, mod_ii, lt_ii, le_ii, gt_ii, ge_ii, isN_n, notN_n, DL.eq_int, DL.ne_int, DL.eq_bl, DL.ne_bl, isi_int_int, isi_int_bool, isi_int_tuple, isi_int_list, isi_bl_int, isi_bl_bool, isi_bl_tuple, isi_bl_list, isi_non_int, isi_non_bool, isi_non_tuple, isi_non_list, isi_tup_int, isi_tup_bool, isi_tup_tuple, isi_tup_list, isi_lst_int, isi_lst_bool, isi_lst_tuple, isi_lst_list, if_true, if_false, Bool.not_true, Bool.not_false, Bool.false_eq_true, decide_true, decide_false, sizeLine_eq]
  refine ⟨hiD c.hi, rfl, ?_⟩
  obtain ⟨ch, cc, cl, hi⟩ := c
  cases hi with
  | none =>
    show q (.bl true)
    exact h
  | some v =>
    simp only [wAsg, wgName, wgOwn, wgTup, wgsCons, wgsNil, wLc, wiSeq, wiRng1, wiRng2, wiEnum, wiZip, wCall, wCallK, wCB, wC, wVar, wVarB, wOp, wNeg, waCons, waNil, wLst, wTup, wSl, woNone, woSome, wIfS, wIf, wOr, wAnd, wNot, wTest, wAndV, wOrV, wNotV, wChain, wRet, wNext, wDrop, wPar2, wPar3, wmVal, wmOwn, wFreeze, wApp, wRevT, wipeE, List.set_cons_succ, List.set_cons_zero, List.getElem?_cons_zero, List.getElem?_cons_succ, len_tup, len_lst, len_scr, fSl_tup, fSl_lst, fSl_scr, add_ii, sub_ii, mul_ii, fdiv_ii, mod_ii, lt_ii, le_ii, gt_ii, ge_ii, isN_n, notN_n, DL.eq_int, DL.ne_int, DL.eq_bl, DL.ne_bl, isi_int_int, isi_int_bool, isi_int_tuple, isi_int_list, isi_bl_int, isi_bl_bool, isi_bl_tuple, isi_bl_list, isi_non_int, isi_non_bool, isi_non_tuple, isi_non_list, isi_tup_int, isi_tup_bool, isi_tup_tuple, isi_tup_list, isi_lst_int, isi_lst_bool, isi_lst_tuple, isi_lst_list, if_true, if_false, Bool.not_true, Bool.not_false, Bool.false_eq_true, decide_true, decide_false, sizeLine_eq, hiD, D.isNon]
    refine ⟨.int v, rfl, ?_⟩
    refine ⟨.int cl, rfl, ?_⟩
    have := ok.ohi v rfl
    refine p_is_between _ _ _ ?_
    rw [bb this.1 this.2]
    exact h
theorem p_check_hours (okd : OkDm ds) (ok : OkC c) (h : q .non) : wf_check_hours [dmg ds, c.d] q ep := by
  unfold wf_check_hours W_check_hours
  show wSeq _ _ _ [some (.val (dmg ds)), some (.val c.d), none]
  refine seq_step fun KK hKK => ?_
  unfold wFor
  simp only [wAsg, wgName, wgOwn, wgTup, wgsCons, wgsNil, wLc, wiSeq, wiRng1, wiRng2, wiEnum, wiZip, wCall, wCallK, wCB, wC, wVar, wVarB, wOp, wNeg, waCons, waNil, wLst, wTup, wSl, woNone, woSome, wIfS, wIf, wOr, wAnd, wNot, wTest, wAndV, wOrV, wNotV, wChain, wRet, wNext, wDrop, wPar2, wPar3, wmVal, wmOwn, wFreeze, wApp, wRevT, wipeE, List.set_cons_succ, List.set_cons_zero, List.getElem?_cons_zero, List.getElem?_cons_succ, len_tup, len_lst, len_scr, fSl_tup, fSl_lst, fSl_scr, add_ii, sub_ii, mul_ii, fdiv_ii, mod_ii, lt_ii, le_ii, gt_ii, ge_ii, isN_n, notN_n, DL.eq_int, DL.ne_int, DL.eq_bl, DL.ne_bl, isi_int_int, isi_int_bool, isi_int_tuple, isi_int_list, isi_bl_int, isi_bl_bool, isi_bl_tuple, isi_bl_list, isi_non_int, isi_non_bool, isi_non_tuple, isi_non_list, isi_tup_int, isi_tup_bool, isi_tup_tuple, isi_tup_list, isi_lst_int, isi_lst_bool, isi_lst_tuple, isi_lst_list, if_true, if_false, Bool.not_true, Bool.not_false, Bool.false_eq_true, decide_true, decide_false, sizeLine_eq]
  refine p_wrong_in_damages okd ?_
  show KK _
  refine hKK _ ?_
  simp only [wAsg, wgName, wgOwn, wgTup, wgsCons, wgsNil, wLc, wiSeq, wiRng1, wiRng2, wiEnum, wiZip, wCall, wCallK, wCB, wC, wVar, wVarB, wOp, wNeg, waCons, waNil, wLst, wTup, wSl, woNone, woSome, wIfS, wIf, wOr, wAnd, wNot, wTest, wAndV, wOrV, wNotV, wChain, wRet, wNext, wDrop, wPar2, wPar3, wmVal, wmOwn, wFreeze, wApp, wRevT, wipeE, List.set_cons_succ, List.set_cons_zero, List.getElem?_cons_zero, List.getElem?_cons_succ, len_tup, len_lst, len_scr, fSl_tup, fSl_lst, fSl_scr, add_ii, sub_ii, mul_ii, fdiv_ii, mod_ii, lt_ii, le_ii, gt_ii, ge_ii, isN_n, notN_n, DL.eq_int, DL.ne_int, DL.eq_bl, DL.ne_bl, isi_int_int, isi_int_bool, isi_int_tuple, isi_int_list, isi_bl_int, isi_bl_bool, isi_bl_tuple, isi_bl_list, isi_non_int, isi_non_bool, isi_non_tuple, isi_non_list, isi_tup_int, isi_tup_bool, isi_tup_tuple, isi_tup_list, isi_lst_int, isi_lst_bool, isi_lst_tuple, isi_lst_list, if_true, if_false, Bool.not_true, Bool.not_false, Bool.false_eq_true, decide_true, decide_false, sizeLine_eq]
  refine p_is_clause ok ?_
  simp only [wAsg, wgName, wgOwn, wgTup, wgsCons, wgsNil, wLc, wiSeq, wiRng1, wiRng2, wiEnum, wiZip, wCall, wCallK, wCB, wC, wVar, wVarB, wOp, wNeg, waCons, waNil, wLst, wTup, wSl, woNone, woSome, wIfS, wIf, wOr, wAnd, wNot, wTest, wAndV, wOrV, wNotV, wChain, wRet, wNext, wDrop, wPar2, wPar3, wmVal, wmOwn, wFreeze, wApp, wRevT, wipeE, List.set_cons_succ, List.set_cons_zero, List.getElem?_cons_zero, List.getElem?_cons_succ, len_tup, len_lst, len_scr, fSl_tup, fSl_lst, fSl_scr, add_ii, sub_ii, mul_ii, fdiv_ii, mod_ii, lt_ii, le_ii, gt_ii, ge_ii, isN_n, notN_n, DL.eq_int, DL.ne_int, DL.eq_bl, DL.ne_bl, isi_int_int, isi_int_bool, isi_int_tuple, isi_int_list, isi_bl_int, isi_bl_bool, isi_bl_tuple, isi_bl_list, isi_non_int, isi_non_bool, isi_non_tuple, isi_non_list, isi_tup_int, isi_tup_bool, isi_tup_tuple, isi_tup_list, isi_lst_int, isi_lst_bool, isi_lst_tuple, isi_lst_list, if_true, if_false, Bool.not_true, Bool.not_false, Bool.false_eq_true, decide_true, decide_false, sizeLine_eq]
  exact h
theorem p_most_brought (okd : OkDm ds) (ok : OkC c) (h : q (.int (best ds c).1)) : wf_most_brought [dmg ds, c.d] q ep := by
  unfold wf_most_brought W_most_brought
  show wSeq _ _ _ [some (.val (dmg ds)), some (.val c.d)]
  refine seq_step fun KK hKK => ?_
  simp only [wAsg, wgName, wgOwn, wgTup, wgsCons, wgsNil, wLc, wiSeq, wiRng1, wiRng2, wiEnum, wiZip, wCall, wCallK, wCB, wC, wVar, wVarB, wOp, wNeg, waCons, waNil, wLst, wTup, wSl, woNone, woSome, wIfS, wIf, wOr, wAnd, wNot, wTest, wAndV, wOrV, wNotV, wChain, wRet, wNext, wDrop, wPar2, wPar3, wmVal, wmOwn, wFreeze, wApp, wRevT, wipeE, List.set_cons_succ, List.set_cons_zero, List.getElem?_cons_zero, List.getElem?_cons_succ, len_tup, len_lst, len_scr, fSl_tup, fSl_lst, fSl_scr, add_ii, sub_ii, mul_ii, fdiv_ii, mod_ii, lt_ii, le_ii, gt_ii, ge_ii, isN_n, notN_n, DL.eq_int, DL.ne_int, DL.eq_bl, DL.ne_bl, isi_int_int, isi_int_bool, isi_int_tuple, isi_int_list, isi_bl_int, isi_bl_bool, isi_bl_tuple, isi_bl_list, isi_non_int, isi_non_bool, isi_non_tuple, isi_non_list, isi_tup_int, isi_tup_bool, isi_tup_tuple, isi_tup_list, isi_lst_int, isi_lst_bool, isi_lst_tuple, isi_lst_list, if_true, if_false, Bool.not_true, Bool.not_false, Bool.false_eq_true, decide_true, decide_false, sizeLine_eq]
  refine p_check_hours okd ok ?_
  refine hKK _ ?_
  simp only [wAsg, wgName, wgOwn, wgTup, wgsCons, wgsNil, wLc, wiSeq, wiRng1, wiRng2, wiEnum, wiZip, wCall, wCallK, wCB, wC, wVar, wVarB, wOp, wNeg, waCons, waNil, wLst, wTup, wSl, woNone, woSome, wIfS, wIf, wOr, wAnd, wNot, wTest, wAndV, wOrV, wNotV, wChain, wRet, wNext, wDrop, wPar2, wPar3, wmVal, wmOwn, wFreeze, wApp, wRevT, wipeE, List.set_cons_succ, List.set_cons_zero, List.getElem?_cons_zero, List.getElem?_cons_succ, len_tup, len_lst, len_scr, fSl_tup, fSl_lst, fSl_scr, add_ii, sub_ii, mul_ii, fdiv_ii, mod_ii, lt_ii, le_ii, gt_ii, ge_ii, isN_n, notN_n, DL.eq_int, DL.ne_int, DL.eq_bl, DL.ne_bl, isi_int_int, isi_int_bool, isi_int_tuple, isi_int_list, isi_bl_int, isi_bl_bool, isi_bl_tuple, isi_bl_list, isi_non_int, isi_non_bool, isi_non_tuple, isi_non_list, isi_tup_int, isi_tup_bool, isi_tup_tuple, isi_tup_list, isi_lst_int, isi_lst_bool, isi_lst_tuple, isi_lst_list, if_true, if_false, Bool.not_true, Bool.not_false, Bool.false_eq_true, decide_true, decide_false, sizeLine_eq]
  have := okd.len
  have := ok.oc
  refine p_best_by ok.oh.1 (by omega) (by omega) ?_
  exact ⟨_, rfl, h⟩
theorem p_best_choice (okd : OkDm ds) (ok : OkC c) (h : q (.tup ((best ds c).2.map winD))) : wf_best_choice [dmg ds, c.d] q ep := by
  unfold wf_best_choice W_best_choice
  show wSeq _ _ _ [some (.val (dmg ds)), some (.val c.d)]
  refine seq_step fun KK hKK => ?_
  simp only [wAsg, wgName, wgOwn, wgTup, wgsCons, wgsNil, wLc, wiSeq, wiRng1, wiRng2, wiEnum, wiZip, wCall, wCallK, wCB, wC, wVar, wVarB, wOp, wNeg, waCons, waNil, wLst, wTup, wSl, woNone, woSome, wIfS, wIf, wOr, wAnd, wNot, wTest, wAndV, wOrV, wNotV, wChain, wRet, wNext, wDrop, wPar2, wPar3, wmVal, wmOwn, wFreeze, wApp, wRevT, wipeE, List.set_cons_succ, List.set_cons_zero, List.getElem?_cons_zero, List.getElem?_cons_succ, len_tup, len_lst, len_scr, fSl_tup, fSl_lst, fSl_scr, add_ii, sub_ii, mul_ii, fdiv_ii, mod_ii, lt_ii, le_ii, gt_ii, ge_ii, isN_n, notN_n, DL.eq_int, DL.ne_int, DL.eq_bl, DL.ne_bl, isi_int_int, isi_int_bool, isi_int_tuple, isi_int_list, isi_bl_int, isi_bl_bool, isi_bl_tuple, isi_bl_list, isi_non_int, isi_non_bool, isi_non_tuple, isi_non_list, isi_tup_int, isi_tup_bool, isi_tup_tuple, isi_tup_list, isi_lst_int, isi_lst_bool, isi_lst_tuple, isi_lst_list, if_true, if_false, Bool.not_true, Bool.not_false, Bool.false_eq_true, decide_true, decide_false, sizeLine_eq]
  refine p_check_hours okd ok ?_
  refine hKK _ ?_
  simp only [wAsg, wgName, wgOwn, wgTup, wgsCons, wgsNil, wLc, wiSeq, wiRng1, wiRng2, wiEnum, wiZip, wCall, wCallK, wCB, wC, wVar, wVarB, wOp, wNeg, waCons, waNil, wLst, wTup, wSl, woNone, woSome, wIfS, wIf, wOr, wAnd, wNot, wTest, wAndV, wOrV, wNotV, wChain, wRet, wNext, wDrop, wPar2, wPar3, wmVal, wmOwn, wFreeze, wApp, wRevT, wipeE, List.set_cons_succ, List.set_cons_zero, List.getElem?_cons_zero, List.getElem?_cons_succ, len_tup, len_lst, len_scr, fSl_tup, fSl_lst, fSl_scr, add_ii, sub_ii, mul_ii, fdiv_ii, mod_ii, lt_ii, le_ii, gt_ii, ge_ii, isN_n, notN_n, DL.eq_int, DL.ne_int, DL.eq_bl, DL.ne_bl, isi_int_int, isi_int_bool, isi_int_tuple, isi_int_list, isi_bl_int, isi_bl_bool, isi_bl_tuple, isi_bl_list, isi_non_int, isi_non_bool, isi_non_tuple, isi_non_list, isi_tup_int, isi_tup_bool, isi_tup_tuple, isi_tup_list, isi_lst_int, isi_lst_bool, isi_lst_tuple, isi_lst_list, if_true, if_false, Bool.not_true, Bool.not_false, Bool.false_eq_true, decide_true, decide_false, sizeLine_eq]
  have := okd.len
  have := ok.oc
  refine p_best_by ok.oh.1 (by omega) (by omega) ?_
  exact ⟨_, rfl, h⟩
/-- a window of n hours, at most h long -/
def okW (n : Nat) (h : Int) (w : Win) : Prop := w.1 ≤ w.2 ∧ w.2 < n ∧ (w.2 : Int) - w.1 < h
end
end HX
set_option Elab.async false
set_option linter.all false
set_option maxRecDepth 100000
set_option maxHeartbeats 400000
namespace HX
open PySem PySem.Spec PyProof.Rows L2 DL
structure OkCh (ds : List Int) (c : Cl) (ws : List Win) : Prop where
  len : (ws.length : Int) ≤ c.c
  win : ∀ w ∈ ws, okW ds.length c.h w
  row : ws.Pairwise fun a b => a.2 < b.1
section
variable {q : D → Prop} {ep : Ex → Prop} {c : Cl} {ds : List Int}
theorem pds_wins : ∀ ws : List Win, D.pds (ws.map winD) = ws.map fun w => PyData.tuple [.int w.1, .int w.2]
  | [] => by simp [D.pds]
  | w :: ws => by
    rw [List.map_cons, D.pds, pds_wins ws, List.map_cons]
    simp [winD, D.pd, D.pds]
theorem pures_wins : ∀ ws : List Win, D.pures (ws.map winD) = true
  | [] => by simp [D.pures]
  | w :: ws => by
    rw [List.map_cons, D.pures, pures_wins ws]
    simp [winD, D.pure, D.pures]
theorem lay_wins : ∀ ws : List Win, PyData.canLayAll0 (ws.map fun w => PyData.tuple [.int w.1, .int w.2]) = true
  | [] => by simp [PyData.canLayAll0]
  | w :: ws => by
    rw [List.map_cons, PyData.canLayAll0, lay_wins ws]
    simp [PyData.canLay0, PyData.canLayAll0]
theorem depth_wins : ∀ ws : List Win, PyData.depthAll (ws.map fun w => PyData.tuple [.int w.1, .int w.2]) ≤ 5
  | [] => by simp [PyData.depthAll]
  | w :: ws => by
    have := depth_wins ws
    rw [List.map_cons, PyData.depthAll]
    simp [PyData.depth, PyData.depthAll]
    omega
theorem eqOk_wins (ws : List Win) : (D.tup (ws.map winD)).eqOk = true := by
  have h1 := lay_wins ws
  have h2 := depth_wins ws
  have h3 := pures_wins ws
  simp [D.eqOk, D.pure, D.pd, SeqAt.shaped, pds_wins, PyData.canLay0, PyData.depth, h1, h3]
  omega
theorem eq_wins_nil (ws : List Win) (h : q (.bl ws.isEmpty)) : fEq (.tup (ws.map winD)) (.tup []) q := by
  refine ⟨⟨eqOk_wins ws, eqOk_wins []⟩, ?_⟩
  have e : (D.tup (ws.map winD)).eqv (.tup []) = ws.isEmpty := by
    unfold D.eqv
    simp only [D.pd, pds_wins, D.pds]
    cases ws with
    | nil => simp [PyData.eqv, PyData.eqvAll]
    | cons w ws => simp [PyData.eqv, PyData.eqvAll]
  rw [e]
  exact h
theorem eq_nil_nil (h : q (.bl true)) : fEq (.lst []) (.lst []) q := by
  refine ⟨⟨?_, ?_⟩, ?_⟩
  · simp [D.eqOk, D.pure, D.pures, D.pd, D.pds, SeqAt.shaped, PyData.canLay0, PyData.canLayAll0, PyData.depth, PyData.depthAll]
  · simp [D.eqOk, D.pure, D.pures, D.pd, D.pds, SeqAt.shaped, PyData.canLay0, PyData.canLayAll0, PyData.depth, PyData.depthAll]
  · have e : (D.lst []).eqv (.lst []) = true := by simp [D.eqv, D.pd, D.pds, PyData.eqv, PyData.eqvAll]
    rw [e]
    exact h
end
end HX
set_option Elab.async false
set_option linter.all false
set_option maxRecDepth 100000
set_option maxHeartbeats 400000
namespace HX
open PySem PySem.Spec PyProof.Rows L2 DL
section
variable {q : D → Prop} {ep : Ex → Prop} {c : Cl} {ds : List Int}
theorem cmul_r {i j : Int} (h1 : 0 ≤ j) (h2 : j ≤ 100000) : CMul i j := .inr ⟨by omega, by omega⟩
theorem cmul_l {i j : Int} (h1 : 0 ≤ i) (h2 : i ≤ 100000) : CMul i j := .inl ⟨by omega, by omega⟩
theorem fIx_bowl (i : Int) (h0 : 0 ≤ i) (h3 : i < 3) (h : ∀ n : Int, q (.int n)) : fIx .bowl (.int i) q := ⟨h0, h3, h⟩
theorem p_law_pour (many : Int) (h0 : 0 < many) (h1 : many < 1000000) (h : ∀ r : Int, 0 ≤ r → r < many → q (.int r)) : wf__law_pour [.bowl, .int many] q ep := by
  unfold wf__law_pour W__law_pour
  show wSeq _ _ _ [some (.val .bowl), some (.val (.int many)), none]
  refine seq_step fun KK hKK => ?_
  simp only [wAsg, wgName, wgOwn, wgTup, wgsCons, wgsNil, wLc, wiSeq, wiRng1, wiRng2, wiEnum, wiZip, wCall, wCallK, wCB, wC, wVar, wVarB, wOp, wNeg, waCons, waNil, wLst, wTup, wSl, woNone, woSome, wIfS, wIf, wOr, wAnd, wNot, wTest, wAndV, wOrV, wNotV, wChain, wRet, wNext, wDrop, wPar2, wPar3, wmVal, wmOwn, wFreeze, wApp, wRevT, wipeE, List.set_cons_succ, List.set_cons_zero, List.getElem?_cons_zero, List.getElem?_cons_succ, len_tup, len_lst, len_scr, fSl_tup, fSl_lst, fSl_scr, add_ii, sub_ii, mul_ii, fdiv_ii, mod_ii, lt_ii, le_ii, gt_ii, ge_ii, isN_n, notN_n, DL.eq_int, DL.ne_int, DL.eq_bl, DL.ne_bl, isi_int_int, isi_int_bool, isi_int_tuple, isi_int_list, isi_bl_int, isi_bl_bool, isi_bl_tuple, isi_bl_list, isi_non_int, isi_non_bool, isi_non_tuple, isi_non_list, isi_tup_int, isi_tup_bool, isi_tup_tuple, isi_tup_list, isi_lst_int, isi_lst_bool, isi_lst_tuple, isi_lst_list, if_true, if_false, Bool.not_true, Bool.not_false, Bool.false_eq_true, decide_true, decide_false, sizeLine_eq]
  refine fIx_bowl _ (by omega) (by omega) fun n => ?_
  simp only [wAsg, wgName, wgOwn, wgTup, wgsCons, wgsNil, wLc, wiSeq, wiRng1, wiRng2, wiEnum, wiZip, wCall, wCallK, wCB, wC, wVar, wVarB, wOp, wNeg, waCons, waNil, wLst, wTup, wSl, woNone, woSome, wIfS, wIf, wOr, wAnd, wNot, wTest, wAndV, wOrV, wNotV, wChain, wRet, wNext, wDrop, wPar2, wPar3, wmVal, wmOwn, wFreeze, wApp, wRevT, wipeE, List.set_cons_succ, List.set_cons_zero, List.getElem?_cons_zero, List.getElem?_cons_succ, len_tup, len_lst, len_scr, fSl_tup, fSl_lst, fSl_scr, add_ii, sub_ii, mul_ii, fdiv_ii, mod_ii, lt_ii, le_ii, gt_ii, ge_ii, isN_n, notN_n, DL.eq_int, DL.ne_int, DL.eq_bl, DL.ne_bl, isi_int_int, isi_int_bool, isi_int_tuple, isi_int_list, isi_bl_int, isi_bl_bool, isi_bl_tuple, isi_bl_list, isi_non_int, isi_non_bool, isi_non_tuple, isi_non_list, isi_tup_int, isi_tup_bool, isi_tup_tuple, isi_tup_list, isi_lst_int, isi_lst_bool, isi_lst_tuple, isi_lst_list, if_true, if_false, Bool.not_true, Bool.not_false, Bool.false_eq_true, decide_true, decide_false, sizeLine_eq]
  by_cases hn : 0 < n
  · rw [decide_eq_true hn]
    simp only [wAsg, wgName, wgOwn, wgTup, wgsCons, wgsNil, wLc, wiSeq, wiRng1, wiRng2, wiEnum, wiZip, wCall, wCallK, wCB, wC, wVar, wVarB, wOp, wNeg, waCons, waNil, wLst, wTup, wSl, woNone, woSome, wIfS, wIf, wOr, wAnd, wNot, wTest, wAndV, wOrV, wNotV, wChain, wRet, wNext, wDrop, wPar2, wPar3, wmVal, wmOwn, wFreeze, wApp, wRevT, wipeE, List.set_cons_succ, List.set_cons_zero, List.getElem?_cons_zero, List.getElem?_cons_succ, len_tup, len_lst, len_scr, fSl_tup, fSl_lst, fSl_scr, add_ii, sub_ii, mul_ii, fdiv_ii, mod_ii, lt_ii, le_ii, gt_ii, ge_ii, isN_n, notN_n, DL.eq_int, DL.ne_int, DL.eq_bl, DL.ne_bl, isi_int_int, isi_int_bool, isi_int_tuple, isi_int_list, isi_bl_int, isi_bl_bool, isi_bl_tuple, isi_bl_list, isi_non_int, isi_non_bool, isi_non_tuple, isi_non_list, isi_tup_int, isi_tup_bool, isi_tup_tuple, isi_tup_list, isi_lst_int, isi_lst_bool, isi_lst_tuple, isi_lst_list, if_true, if_false, Bool.not_true, Bool.not_false, Bool.false_eq_true, decide_true, decide_false, sizeLine_eq]
    refine seq_step fun KK2 hKK2 => ?_
    simp only [wAsg, wgName, wgOwn, wgTup, wgsCons, wgsNil, wLc, wiSeq, wiRng1, wiRng2, wiEnum, wiZip, wCall, wCallK, wCB, wC, wVar, wVarB, wOp, wNeg, waCons, waNil, wLst, wTup, wSl, woNone, woSome, wIfS, wIf, wOr, wAnd, wNot, wTest, wAndV, wOrV, wNotV, wChain, wRet, wNext, wDrop, wPar2, wPar3, wmVal, wmOwn, wFreeze, wApp, wRevT, wipeE, List.set_cons_succ, List.set_cons_zero, List.getElem?_cons_zero, List.getElem?_cons_succ, len_tup, len_lst, len_scr, fSl_tup, fSl_lst, fSl_scr, add_ii, sub_ii, mul_ii, fdiv_ii, mod_ii, lt_ii, le_ii, gt_ii, ge_ii, isN_n, notN_n, DL.eq_int, DL.ne_int, DL.eq_bl, DL.ne_bl, isi_int_int, isi_int_bool, isi_int_tuple, isi_int_list, isi_bl_int, isi_bl_bool, isi_bl_tuple, isi_bl_list, isi_non_int, isi_non_bool, isi_non_tuple, isi_non_list, isi_tup_int, isi_tup_bool, isi_tup_tuple, isi_tup_list, isi_lst_int, isi_lst_bool, isi_lst_tuple, isi_lst_list, if_true, if_false, Bool.not_true, Bool.not_false, Bool.false_eq_true, decide_true, decide_false, sizeLine_eq]
    refine fIx_bowl _ (by omega) (by omega) fun m => ?_
    refine ⟨⟨h0, by omega⟩, rfl, by omega, by omega, ⟨_, rfl⟩, ?_⟩
    refine hKK2 _ ?_
    simp only [wAsg, wgName, wgOwn, wgTup, wgsCons, wgsNil, wLc, wiSeq, wiRng1, wiRng2, wiEnum, wiZip, wCall, wCallK, wCB, wC, wVar, wVarB, wOp, wNeg, waCons, waNil, wLst, wTup, wSl, woNone, woSome, wIfS, wIf, wOr, wAnd, wNot, wTest, wAndV, wOrV, wNotV, wChain, wRet, wNext, wDrop, wPar2, wPar3, wmVal, wmOwn, wFreeze, wApp, wRevT, wipeE, List.set_cons_succ, List.set_cons_zero, List.getElem?_cons_zero, List.getElem?_cons_succ, len_tup, len_lst, len_scr, fSl_tup, fSl_lst, fSl_scr, add_ii, sub_ii, mul_ii, fdiv_ii, mod_ii, lt_ii, le_ii, gt_ii, ge_ii, isN_n, notN_n, DL.eq_int, DL.ne_int, DL.eq_bl, DL.ne_bl, isi_int_int, isi_int_bool, isi_int_tuple, isi_int_list, isi_bl_int, isi_bl_bool, isi_bl_tuple, isi_bl_list, isi_non_int, isi_non_bool, isi_non_tuple, isi_non_list, isi_tup_int, isi_tup_bool, isi_tup_tuple, isi_tup_list, isi_lst_int, isi_lst_bool, isi_lst_tuple, isi_lst_list, if_true, if_false, Bool.not_true, Bool.not_false, Bool.false_eq_true, decide_true, decide_false, sizeLine_eq]
    exact h _ (Int.emod_nonneg _ (by omega)) (Int.emod_lt_of_pos _ h0)
  · rw [decide_eq_false hn]
    simp only [wAsg, wgName, wgOwn, wgTup, wgsCons, wgsNil, wLc, wiSeq, wiRng1, wiRng2, wiEnum, wiZip, wCall, wCallK, wCB, wC, wVar, wVarB, wOp, wNeg, waCons, waNil, wLst, wTup, wSl, woNone, woSome, wIfS, wIf, wOr, wAnd, wNot, wTest, wAndV, wOrV, wNotV, wChain, wRet, wNext, wDrop, wPar2, wPar3, wmVal, wmOwn, wFreeze, wApp, wRevT, wipeE, List.set_cons_succ, List.set_cons_zero, List.getElem?_cons_zero, List.getElem?_cons_succ, len_tup, len_lst, len_scr, fSl_tup, fSl_lst, fSl_scr, add_ii, sub_ii, mul_ii, fdiv_ii, mod_ii, lt_ii, le_ii, gt_ii, ge_ii, isN_n, notN_n, DL.eq_int, DL.ne_int, DL.eq_bl, DL.ne_bl, isi_int_int, isi_int_bool, isi_int_tuple, isi_int_list, isi_bl_int, isi_bl_bool, isi_bl_tuple, isi_bl_list, isi_non_int, isi_non_bool, isi_non_tuple, isi_non_list, isi_tup_int, isi_tup_bool, isi_tup_tuple, isi_tup_list, isi_lst_int, isi_lst_bool, isi_lst_tuple, isi_lst_list, if_true, if_false, Bool.not_true, Bool.not_false, Bool.false_eq_true, decide_true, decide_false, sizeLine_eq]
    refine hKK _ ?_
    refine seq_step fun KK2 hKK2 => ?_
    simp only [wAsg, wgName, wgOwn, wgTup, wgsCons, wgsNil, wLc, wiSeq, wiRng1, wiRng2, wiEnum, wiZip, wCall, wCallK, wCB, wC, wVar, wVarB, wOp, wNeg, waCons, waNil, wLst, wTup, wSl, woNone, woSome, wIfS, wIf, wOr, wAnd, wNot, wTest, wAndV, wOrV, wNotV, wChain, wRet, wNext, wDrop, wPar2, wPar3, wmVal, wmOwn, wFreeze, wApp, wRevT, wipeE, List.set_cons_succ, List.set_cons_zero, List.getElem?_cons_zero, List.getElem?_cons_succ, len_tup, len_lst, len_scr, fSl_tup, fSl_lst, fSl_scr, add_ii, sub_ii, mul_ii, fdiv_ii, mod_ii, lt_ii, le_ii, gt_ii, ge_ii, isN_n, notN_n, DL.eq_int, DL.ne_int, DL.eq_bl, DL.ne_bl, isi_int_int, isi_int_bool, isi_int_tuple, isi_int_list, isi_bl_int, isi_bl_bool, isi_bl_tuple, isi_bl_list, isi_non_int, isi_non_bool, isi_non_tuple, isi_non_list, isi_tup_int, isi_tup_bool, isi_tup_tuple, isi_tup_list, isi_lst_int, isi_lst_bool, isi_lst_tuple, isi_lst_list, if_true, if_false, Bool.not_true, Bool.not_false, Bool.false_eq_true, decide_true, decide_false, sizeLine_eq]
    refine fIx_bowl _ (by omega) (by omega) fun m => ?_
    simp only [wAsg, wgName, wgOwn, wgTup, wgsCons, wgsNil, wLc, wiSeq, wiRng1, wiRng2, wiEnum, wiZip, wCall, wCallK, wCB, wC, wVar, wVarB, wOp, wNeg, waCons, waNil, wLst, wTup, wSl, woNone, woSome, wIfS, wIf, wOr, wAnd, wNot, wTest, wAndV, wOrV, wNotV, wChain, wRet, wNext, wDrop, wPar2, wPar3, wmVal, wmOwn, wFreeze, wApp, wRevT, wipeE, List.set_cons_succ, List.set_cons_zero, List.getElem?_cons_zero, List.getElem?_cons_succ, len_tup, len_lst, len_scr, fSl_tup, fSl_lst, fSl_scr, add_ii, sub_ii, mul_ii, fdiv_ii, mod_ii, lt_ii, le_ii, gt_ii, ge_ii, isN_n, notN_n, DL.eq_int, DL.ne_int, DL.eq_bl, DL.ne_bl, isi_int_int, isi_int_bool, isi_int_tuple, isi_int_list, isi_bl_int, isi_bl_bool, isi_bl_tuple, isi_bl_list, isi_non_int, isi_non_bool, isi_non_tuple, isi_non_list, isi_tup_int, isi_tup_bool, isi_tup_tuple, isi_tup_list, isi_lst_int, isi_lst_bool, isi_lst_tuple, isi_lst_list, if_true, if_false, Bool.not_true, Bool.not_false, Bool.false_eq_true, decide_true, decide_false, sizeLine_eq]
    refine ⟨rfl, by omega, by omega, ⟨_, rfl⟩, ?_⟩
    refine hKK2 _ ?_
    refine seq_step fun KK3 hKK3 => ?_
    simp only [wAsg, wgName, wgOwn, wgTup, wgsCons, wgsNil, wLc, wiSeq, wiRng1, wiRng2, wiEnum, wiZip, wCall, wCallK, wCB, wC, wVar, wVarB, wOp, wNeg, waCons, waNil, wLst, wTup, wSl, woNone, woSome, wIfS, wIf, wOr, wAnd, wNot, wTest, wAndV, wOrV, wNotV, wChain, wRet, wNext, wDrop, wPar2, wPar3, wmVal, wmOwn, wFreeze, wApp, wRevT, wipeE, List.set_cons_succ, List.set_cons_zero, List.getElem?_cons_zero, List.getElem?_cons_succ, len_tup, len_lst, len_scr, fSl_tup, fSl_lst, fSl_scr, add_ii, sub_ii, mul_ii, fdiv_ii, mod_ii, lt_ii, le_ii, gt_ii, ge_ii, isN_n, notN_n, DL.eq_int, DL.ne_int, DL.eq_bl, DL.ne_bl, isi_int_int, isi_int_bool, isi_int_tuple, isi_int_list, isi_bl_int, isi_bl_bool, isi_bl_tuple, isi_bl_list, isi_non_int, isi_non_bool, isi_non_tuple, isi_non_list, isi_tup_int, isi_tup_bool, isi_tup_tuple, isi_tup_list, isi_lst_int, isi_lst_bool, isi_lst_tuple, isi_lst_list, if_true, if_false, Bool.not_true, Bool.not_false, Bool.false_eq_true, decide_true, decide_false, sizeLine_eq]
    refine fIx_bowl _ (by omega) (by omega) fun a => ?_
    refine fIx_bowl _ (by omega) (by omega) fun b => ?_
    simp only [wAsg, wgName, wgOwn, wgTup, wgsCons, wgsNil, wLc, wiSeq, wiRng1, wiRng2, wiEnum, wiZip, wCall, wCallK, wCB, wC, wVar, wVarB, wOp, wNeg, waCons, waNil, wLst, wTup, wSl, woNone, woSome, wIfS, wIf, wOr, wAnd, wNot, wTest, wAndV, wOrV, wNotV, wChain, wRet, wNext, wDrop, wPar2, wPar3, wmVal, wmOwn, wFreeze, wApp, wRevT, wipeE, List.set_cons_succ, List.set_cons_zero, List.getElem?_cons_zero, List.getElem?_cons_succ, len_tup, len_lst, len_scr, fSl_tup, fSl_lst, fSl_scr, add_ii, sub_ii, mul_ii, fdiv_ii, mod_ii, lt_ii, le_ii, gt_ii, ge_ii, isN_n, notN_n, DL.eq_int, DL.ne_int, DL.eq_bl, DL.ne_bl, isi_int_int, isi_int_bool, isi_int_tuple, isi_int_list, isi_bl_int, isi_bl_bool, isi_bl_tuple, isi_bl_list, isi_non_int, isi_non_bool, isi_non_tuple, isi_non_list, isi_tup_int, isi_tup_bool, isi_tup_tuple, isi_tup_list, isi_lst_int, isi_lst_bool, isi_lst_tuple, isi_lst_list, if_true, if_false, Bool.not_true, Bool.not_false, Bool.false_eq_true, decide_true, decide_false, sizeLine_eq, fInt]
    refine ⟨by omega, cmul_r (by omega) (by omega), ?_⟩
    refine fIx_bowl _ (by omega) (by omega) fun d => ?_
    simp only [wAsg, wgName, wgOwn, wgTup, wgsCons, wgsNil, wLc, wiSeq, wiRng1, wiRng2, wiEnum, wiZip, wCall, wCallK, wCB, wC, wVar, wVarB, wOp, wNeg, waCons, waNil, wLst, wTup, wSl, woNone, woSome, wIfS, wIf, wOr, wAnd, wNot, wTest, wAndV, wOrV, wNotV, wChain, wRet, wNext, wDrop, wPar2, wPar3, wmVal, wmOwn, wFreeze, wApp, wRevT, wipeE, List.set_cons_succ, List.set_cons_zero, List.getElem?_cons_zero, List.getElem?_cons_succ, len_tup, len_lst, len_scr, fSl_tup, fSl_lst, fSl_scr, add_ii, sub_ii, mul_ii, fdiv_ii, mod_ii, lt_ii, le_ii, gt_ii, ge_ii, isN_n, notN_n, DL.eq_int, DL.ne_int, DL.eq_bl, DL.ne_bl, isi_int_int, isi_int_bool, isi_int_tuple, isi_int_list, isi_bl_int, isi_bl_bool, isi_bl_tuple, isi_bl_list, isi_non_int, isi_non_bool, isi_non_tuple, isi_non_list, isi_tup_int, isi_tup_bool, isi_tup_tuple, isi_tup_list, isi_lst_int, isi_lst_bool, isi_lst_tuple, isi_lst_list, if_true, if_false, Bool.not_true, Bool.not_false, Bool.false_eq_true, decide_true, decide_false, sizeLine_eq, fInt]
    refine ⟨cmul_l (by omega) (by omega), by omega, rfl, by omega, by omega, ⟨_, rfl⟩, ?_⟩
    refine hKK3 _ ?_
    simp only [wAsg, wgName, wgOwn, wgTup, wgsCons, wgsNil, wLc, wiSeq, wiRng1, wiRng2, wiEnum, wiZip, wCall, wCallK, wCB, wC, wVar, wVarB, wOp, wNeg, waCons, waNil, wLst, wTup, wSl, woNone, woSome, wIfS, wIf, wOr, wAnd, wNot, wTest, wAndV, wOrV, wNotV, wChain, wRet, wNext, wDrop, wPar2, wPar3, wmVal, wmOwn, wFreeze, wApp, wRevT, wipeE, List.set_cons_succ, List.set_cons_zero, List.getElem?_cons_zero, List.getElem?_cons_succ, len_tup, len_lst, len_scr, fSl_tup, fSl_lst, fSl_scr, add_ii, sub_ii, mul_ii, fdiv_ii, mod_ii, lt_ii, le_ii, gt_ii, ge_ii, isN_n, notN_n, DL.eq_int, DL.ne_int, DL.eq_bl, DL.ne_bl, isi_int_int, isi_int_bool, isi_int_tuple, isi_int_list, isi_bl_int, isi_bl_bool, isi_bl_tuple, isi_bl_list, isi_non_int, isi_non_bool, isi_non_tuple, isi_non_list, isi_tup_int, isi_tup_bool, isi_tup_tuple, isi_tup_list, isi_lst_int, isi_lst_bool, isi_lst_tuple, isi_lst_list, if_true, if_false, Bool.not_true, Bool.not_false, Bool.false_eq_true, decide_true, decide_false, sizeLine_eq]
    refine fIx_bowl _ (by omega) (by omega) fun e => ?_
    simp only [wAsg, wgName, wgOwn, wgTup, wgsCons, wgsNil, wLc, wiSeq, wiRng1, wiRng2, wiEnum, wiZip, wCall, wCallK, wCB, wC, wVar, wVarB, wOp, wNeg, waCons, waNil, wLst, wTup, wSl, woNone, woSome, wIfS, wIf, wOr, wAnd, wNot, wTest, wAndV, wOrV, wNotV, wChain, wRet, wNext, wDrop, wPar2, wPar3, wmVal, wmOwn, wFreeze, wApp, wRevT, wipeE, List.set_cons_succ, List.set_cons_zero, List.getElem?_cons_zero, List.getElem?_cons_succ, len_tup, len_lst, len_scr, fSl_tup, fSl_lst, fSl_scr, add_ii, sub_ii, mul_ii, fdiv_ii, mod_ii, lt_ii, le_ii, gt_ii, ge_ii, isN_n, notN_n, DL.eq_int, DL.ne_int, DL.eq_bl, DL.ne_bl, isi_int_int, isi_int_bool, isi_int_tuple, isi_int_list, isi_bl_int, isi_bl_bool, isi_bl_tuple, isi_bl_list, isi_non_int, isi_non_bool, isi_non_tuple, isi_non_list, isi_tup_int, isi_tup_bool, isi_tup_tuple, isi_tup_list, isi_lst_int, isi_lst_bool, isi_lst_tuple, isi_lst_list, if_true, if_false, Bool.not_true, Bool.not_false, Bool.false_eq_true, decide_true, decide_false, sizeLine_eq, fInt]
    refine ⟨⟨by omega, by omega⟩, h0, ?_⟩
    exact h _ (Int.emod_nonneg _ (by omega)) (Int.emod_lt_of_pos _ h0)
theorem p_law_of (xs : List D) (h0 : xs ≠ []) (h1 : xs.length < 1000000) (h : ∀ x ∈ xs, q x) : wf__law_of [.bowl, .lst xs] q ep := by
  unfold wf__law_of W__law_of
  show wRet _ _ [some (.val .bowl), some (.val (.lst xs))]
  simp only [wAsg, wgName, wgOwn, wgTup, wgsCons, wgsNil, wLc, wiSeq, wiRng1, wiRng2, wiEnum, wiZip, wCall, wCallK, wCB, wC, wVar, wVarB, wOp, wNeg, waCons, waNil, wLst, wTup, wSl, woNone, woSome, wIfS, wIf, wOr, wAnd, wNot, wTest, wAndV, wOrV, wNotV, wChain, wRet, wNext, wDrop, wPar2, wPar3, wmVal, wmOwn, wFreeze, wApp, wRevT, wipeE, List.set_cons_succ, List.set_cons_zero, List.getElem?_cons_zero, List.getElem?_cons_succ, len_tup, len_lst, len_scr, fSl_tup, fSl_lst, fSl_scr, add_ii, sub_ii, mul_ii, fdiv_ii, mod_ii, lt_ii, le_ii, gt_ii, ge_ii, isN_n, notN_n, DL.eq_int, DL.ne_int, DL.eq_bl, DL.ne_bl, isi_int_int, isi_int_bool, isi_int_tuple, isi_int_list, isi_bl_int, isi_bl_bool, isi_bl_tuple, isi_bl_list, isi_non_int, isi_non_bool, isi_non_tuple, isi_non_list, isi_tup_int, isi_tup_bool, isi_tup_tuple, isi_tup_list, isi_lst_int, isi_lst_bool, isi_lst_tuple, isi_lst_list, if_true, if_false, Bool.not_true, Bool.not_false, Bool.false_eq_true, decide_true, decide_false, sizeLine_eq]
  have hp : 0 < xs.length := List.length_pos_iff.mpr h0
  refine p_law_pour _ (by omega) (by omega) fun r hr1 hr2 => ?_
  obtain ⟨n, rfl⟩ : ∃ n : Nat, r = (n : Int) := ⟨r.toNat, by omega⟩
  refine ⟨xs[n]'(by omega), by rw [atI_ix, List.getElem?_eq_getElem], h _ (List.getElem_mem _)⟩
end
end HX
set_option Elab.async false
set_option linter.all false
set_option maxRecDepth 100000
set_option maxHeartbeats 400000
namespace HX
open PySem PySem.Spec PyProof.Rows L2 DL
section
variable {q : D → Prop} {ep : Ex → Prop} {c : Cl} {ds : List Int}
theorem mem_ints {xs : List D} {x : D} {P : D → Prop} (h : x ∈ xs) (hp : ∀ y ∈ xs, P y) : P x := hp x h
theorem p_law_damages (most : Int) (h0 : 1 ≤ most) (h1 : most ≤ 60) (h : ∀ ds : List Int, 1 ≤ ds.length → (ds.length : Int) ≤ most → (∀ a ∈ ds, 0 ≤ a ∧ a ≤ 9999) → q (dmg ds)) : wf__law_damages [.bowl, .int most] q ep := by
  unfold wf__law_damages W__law_damages
  show wSeq _ _ _ [some (.val .bowl), some (.val (.int most)), none, none, none, none]
  refine seq_step fun KK hKK => ?_
  simp only [wAsg, wgName, wgOwn, wgTup, wgsCons, wgsNil, wLc, wiSeq, wiRng1, wiRng2, wiEnum, wiZip, wCall, wCallK, wCB, wC, wVar, wVarB, wOp, wNeg, waCons, waNil, wLst, wTup, wSl, woNone, woSome, wIfS, wIf, wOr, wAnd, wNot, wTest, wAndV, wOrV, wNotV, wChain, wRet, wNext, wDrop, wPar2, wPar3, wmVal, wmOwn, wFreeze, wApp, wRevT, wipeE, List.set_cons_succ, List.set_cons_zero, List.getElem?_cons_zero, List.getElem?_cons_succ, len_tup, len_lst, len_scr, fSl_tup, fSl_lst, fSl_scr, add_ii, sub_ii, mul_ii, fdiv_ii, mod_ii, lt_ii, le_ii, gt_ii, ge_ii, isN_n, notN_n, DL.eq_int, DL.ne_int, DL.eq_bl, DL.ne_bl, isi_int_int, isi_int_bool, isi_int_tuple, isi_int_list, isi_bl_int, isi_bl_bool, isi_bl_tuple, isi_bl_list, isi_non_int, isi_non_bool, isi_non_tuple, isi_non_list, isi_tup_int, isi_tup_bool, isi_tup_tuple, isi_tup_list, isi_lst_int, isi_lst_bool, isi_lst_tuple, isi_lst_list, if_true, if_false, Bool.not_true, Bool.not_false, Bool.false_eq_true, decide_true, decide_false, sizeLine_eq]
  refine p_law_pour _ (by omega) (by omega) fun r hr1 hr2 => ?_
  simp only [wAsg, wgName, wgOwn, wgTup, wgsCons, wgsNil, wLc, wiSeq, wiRng1, wiRng2, wiEnum, wiZip, wCall, wCallK, wCB, wC, wVar, wVarB, wOp, wNeg, waCons, waNil, wLst, wTup, wSl, woNone, woSome, wIfS, wIf, wOr, wAnd, wNot, wTest, wAndV, wOrV, wNotV, wChain, wRet, wNext, wDrop, wPar2, wPar3, wmVal, wmOwn, wFreeze, wApp, wRevT, wipeE, List.set_cons_succ, List.set_cons_zero, List.getElem?_cons_zero, List.getElem?_cons_succ, len_tup, len_lst, len_scr, fSl_tup, fSl_lst, fSl_scr, add_ii, sub_ii, mul_ii, fdiv_ii, mod_ii, lt_ii, le_ii, gt_ii, ge_ii, isN_n, notN_n, DL.eq_int, DL.ne_int, DL.eq_bl, DL.ne_bl, isi_int_int, isi_int_bool, isi_int_tuple, isi_int_list, isi_bl_int, isi_bl_bool, isi_bl_tuple, isi_bl_list, isi_non_int, isi_non_bool, isi_non_tuple, isi_non_list, isi_tup_int, isi_tup_bool, isi_tup_tuple, isi_tup_list, isi_lst_int, isi_lst_bool, isi_lst_tuple, isi_lst_list, if_true, if_false, Bool.not_true, Bool.not_false, Bool.false_eq_true, decide_true, decide_false, sizeLine_eq]
  refine ⟨by show 4 ≤ 16777216; omega, ?_⟩
  refine p_law_of _ (by intro z; cases z) (by show 4 < 1000000; omega) fun x hx => ?_
  obtain ⟨top, rfl, ht⟩ : ∃ top : Int, x = .int top ∧ 0 ≤ top ∧ top ≤ 9999 := by
    simp only [List.mem_cons, List.not_mem_nil, or_false] at hx
    rcases hx with rfl | rfl | rfl | rfl
    · exact ⟨9, rfl, by omega, by omega⟩
    · exact ⟨3, rfl, by omega, by omega⟩
    · exact ⟨60, rfl, by omega, by omega⟩
    · exact ⟨9999, rfl, by omega, by omega⟩
  refine ⟨Nat.zero_le _, ?_⟩
  show KK [some (.val .bowl), some (.val (.int most)), some (.val (.int (1 + r))), some (.val (.int top)), some (.own []), none]
  refine hKK _ ?_
  obtain ⟨n, hn⟩ : ∃ n : Nat, 1 + r = (n : Int) := ⟨(1 + r).toNat, by omega⟩
  rw [hn]
  refine seq_step fun KK2 hKK2 => ?_
  unfold wFor
  simp only [wAsg, wgName, wgOwn, wgTup, wgsCons, wgsNil, wLc, wiSeq, wiRng1, wiRng2, wiEnum, wiZip, wCall, wCallK, wCB, wC, wVar, wVarB, wOp, wNeg, waCons, waNil, wLst, wTup, wSl, woNone, woSome, wIfS, wIf, wOr, wAnd, wNot, wTest, wAndV, wOrV, wNotV, wChain, wRet, wNext, wDrop, wPar2, wPar3, wmVal, wmOwn, wFreeze, wApp, wRevT, wipeE, List.set_cons_succ, List.set_cons_zero, List.getElem?_cons_zero, List.getElem?_cons_succ, len_tup, len_lst, len_scr, fSl_tup, fSl_lst, fSl_scr, add_ii, sub_ii, mul_ii, fdiv_ii, mod_ii, lt_ii, le_ii, gt_ii, ge_ii, isN_n, notN_n, DL.eq_int, DL.ne_int, DL.eq_bl, DL.ne_bl, isi_int_int, isi_int_bool, isi_int_tuple, isi_int_list, isi_bl_int, isi_bl_bool, isi_bl_tuple, isi_bl_list, isi_non_int, isi_non_bool, isi_non_tuple, isi_non_list, isi_tup_int, isi_tup_bool, isi_tup_tuple, isi_tup_list, isi_lst_int, isi_lst_bool, isi_lst_tuple, isi_lst_list, if_true, if_false, Bool.not_true, Bool.not_false, Bool.false_eq_true, decide_true, decide_false, sizeLine_eq]
  refine ⟨by omega, ?_⟩
  rw [rangeD_nat]
  refine for_run (fun i ρ => ∃ a, ∃ ds : List Int, ds.length = i ∧ (∀ a ∈ ds, 0 ≤ a ∧ a ≤ 9999) ∧ ρ = [some (.val .bowl), some (.val (.int most)), some (.val (.int (n : Int))), some (.val (.int top)), some (.own (ds.map .int)), a]) _ 0 _ ⟨none, [], rfl, (fun a ha => by cases ha), rfl⟩ ?_ ?_
  · rintro i d ρ K hd ⟨a, ds, hl, hds, rfl⟩ hK
    have hd2 := (List.getElem?_eq_some_iff.mp hd).1
    have hi : i < n := by simpa using hd2
    simp only [wAsg, wgName, wgOwn, wgTup, wgsCons, wgsNil, wLc, wiSeq, wiRng1, wiRng2, wiEnum, wiZip, wCall, wCallK, wCB, wC, wVar, wVarB, wOp, wNeg, waCons, waNil, wLst, wTup, wSl, woNone, woSome, wIfS, wIf, wOr, wAnd, wNot, wTest, wAndV, wOrV, wNotV, wChain, wRet, wNext, wDrop, wPar2, wPar3, wmVal, wmOwn, wFreeze, wApp, wRevT, wipeE, List.set_cons_succ, List.set_cons_zero, List.getElem?_cons_zero, List.getElem?_cons_succ, len_tup, len_lst, len_scr, fSl_tup, fSl_lst, fSl_scr, add_ii, sub_ii, mul_ii, fdiv_ii, mod_ii, lt_ii, le_ii, gt_ii, ge_ii, isN_n, notN_n, DL.eq_int, DL.ne_int, DL.eq_bl, DL.ne_bl, isi_int_int, isi_int_bool, isi_int_tuple, isi_int_list, isi_bl_int, isi_bl_bool, isi_bl_tuple, isi_bl_list, isi_non_int, isi_non_bool, isi_non_tuple, isi_non_list, isi_tup_int, isi_tup_bool, isi_tup_tuple, isi_tup_list, isi_lst_int, isi_lst_bool, isi_lst_tuple, isi_lst_list, if_true, if_false, Bool.not_true, Bool.not_false, Bool.false_eq_true, decide_true, decide_false, sizeLine_eq]
    refine p_law_pour _ (by omega) (by omega) fun r1 h1a h1b => ?_
    skip
    refine p_law_pour _ (by omega) (by omega) fun r2 h2a h2b => ?_
    refine ⟨by show 5 ≤ 16777216; omega, ?_⟩
    refine p_law_of _ (by intro z; cases z) (by show 5 < 1000000; omega) fun x hx => ?_
    obtain ⟨v, rfl, hv⟩ : ∃ v : Int, x = .int v ∧ 0 ≤ v ∧ v ≤ 9999 := by
      simp only [List.mem_cons, List.not_mem_nil, or_false] at hx
      rcases hx with rfl | rfl | rfl | rfl | rfl
      · exact ⟨0, rfl, by omega, by omega⟩
      · exact ⟨0, rfl, by omega, by omega⟩
      · exact ⟨r1, rfl, by omega, by omega⟩
      · exact ⟨r2, rfl, by omega, by omega⟩
      · exact ⟨top, rfl, by omega, by omega⟩
    refine ⟨by rw [List.length_map]; omega, ?_⟩
    refine hK _ ⟨_, ds ++ [v], by rw [List.length_append, hl, List.length_singleton], fun b hb => ?_, by rw [List.map_append]; rfl⟩
    rcases List.mem_append.mp hb with hb | hb
    · exact hds b hb
    · rw [List.mem_singleton.mp hb]
      exact hv
  · rintro ρ ⟨a, ds, hl, hds, rfl⟩
    rw [Nat.zero_add, List.length_map, List.length_range] at hl
    refine hKK2 _ ?_
    simp only [wAsg, wgName, wgOwn, wgTup, wgsCons, wgsNil, wLc, wiSeq, wiRng1, wiRng2, wiEnum, wiZip, wCall, wCallK, wCB, wC, wVar, wVarB, wOp, wNeg, waCons, waNil, wLst, wTup, wSl, woNone, woSome, wIfS, wIf, wOr, wAnd, wNot, wTest, wAndV, wOrV, wNotV, wChain, wRet, wNext, wDrop, wPar2, wPar3, wmVal, wmOwn, wFreeze, wApp, wRevT, wipeE, List.set_cons_succ, List.set_cons_zero, List.getElem?_cons_zero, List.getElem?_cons_succ, len_tup, len_lst, len_scr, fSl_tup, fSl_lst, fSl_scr, add_ii, sub_ii, mul_ii, fdiv_ii, mod_ii, lt_ii, le_ii, gt_ii, ge_ii, isN_n, notN_n, DL.eq_int, DL.ne_int, DL.eq_bl, DL.ne_bl, isi_int_int, isi_int_bool, isi_int_tuple, isi_int_list, isi_bl_int, isi_bl_bool, isi_bl_tuple, isi_bl_list, isi_non_int, isi_non_bool, isi_non_tuple, isi_non_list, isi_tup_int, isi_tup_bool, isi_tup_tuple, isi_tup_list, isi_lst_int, isi_lst_bool, isi_lst_tuple, isi_lst_list, if_true, if_false, Bool.not_true, Bool.not_false, Bool.false_eq_true, decide_true, decide_false, sizeLine_eq, fTuple]
    exact h ds (by omega) (by omega) hds
theorem maxI_eq (i j : Int) : maxI i j = max i j := by
  unfold maxI
  split <;> omega
theorem minI_eq (i j : Int) : minI i j = min i j := by
  unfold minI
  split <;> omega
theorem sum_nn : ∀ {ds : List Int}, (∀ a ∈ ds, 0 ≤ a) → 0 ≤ ds.sum
  | [], _ => Int.le_refl _
  | a :: ds, h => by
    rw [List.sum_cons]
    have := h a List.mem_cons_self
    have := sum_nn fun b hb => h b (List.mem_cons_of_mem _ hb)
    omega
theorem p_law_clause (hl : 1 ≤ ds.length ∧ ds.length ≤ 60) (hd : ∀ a ∈ ds, 0 ≤ a) (h : ∀ c : Cl, OkC c → q c.d) : wf__law_clause [.bowl, dmg ds] q ep := by
  have hs := sum_nn hd
  generalize hS : ds.sum = S at hs
  unfold wf__law_clause W__law_clause
  show wSeq _ _ _ [some (.val .bowl), some (.val (dmg ds)), none, none, none, none, none]
  refine seq_step fun KK hKK => ?_
  simp only [wAsg, wgName, wgOwn, wgTup, wgsCons, wgsNil, wLc, wiSeq, wiRng1, wiRng2, wiEnum, wiZip, wCall, wCallK, wCB, wC, wVar, wVarB, wOp, wNeg, waCons, waNil, wLst, wTup, wSl, woNone, woSome, wIfS, wIf, wOr, wAnd, wNot, wTest, wAndV, wOrV, wNotV, wChain, wRet, wNext, wDrop, wPar2, wPar3, wmVal, wmOwn, wFreeze, wApp, wRevT, wipeE, List.set_cons_succ, List.set_cons_zero, List.getElem?_cons_zero, List.getElem?_cons_succ, len_tup, len_lst, len_scr, fSl_tup, fSl_lst, fSl_scr, add_ii, sub_ii, mul_ii, fdiv_ii, mod_ii, lt_ii, le_ii, gt_ii, ge_ii, isN_n, notN_n, DL.eq_int, DL.ne_int, DL.eq_bl, DL.ne_bl, isi_int_int, isi_int_bool, isi_int_tuple, isi_int_list, isi_bl_int, isi_bl_bool, isi_bl_tuple, isi_bl_list, isi_non_int, isi_non_bool, isi_non_tuple, isi_non_list, isi_tup_int, isi_tup_bool, isi_tup_tuple, isi_tup_list, isi_lst_int, isi_lst_bool, isi_lst_tuple, isi_lst_list, if_true, if_false, Bool.not_true, Bool.not_false, Bool.false_eq_true, decide_true, decide_false, sizeLine_eq, len_dmg]
  refine ⟨ds, rfl, ?_⟩
  rw [hS]
  refine hKK _ ?_
  refine seq_step fun KK2 hKK2 => ?_
  simp only [wAsg, wgName, wgOwn, wgTup, wgsCons, wgsNil, wLc, wiSeq, wiRng1, wiRng2, wiEnum, wiZip, wCall, wCallK, wCB, wC, wVar, wVarB, wOp, wNeg, waCons, waNil, wLst, wTup, wSl, woNone, woSome, wIfS, wIf, wOr, wAnd, wNot, wTest, wAndV, wOrV, wNotV, wChain, wRet, wNext, wDrop, wPar2, wPar3, wmVal, wmOwn, wFreeze, wApp, wRevT, wipeE, List.set_cons_succ, List.set_cons_zero, List.getElem?_cons_zero, List.getElem?_cons_succ, len_tup, len_lst, len_scr, fSl_tup, fSl_lst, fSl_scr, add_ii, sub_ii, mul_ii, fdiv_ii, mod_ii, lt_ii, le_ii, gt_ii, ge_ii, isN_n, notN_n, DL.eq_int, DL.ne_int, DL.eq_bl, DL.ne_bl, isi_int_int, isi_int_bool, isi_int_tuple, isi_int_list, isi_bl_int, isi_bl_bool, isi_bl_tuple, isi_bl_list, isi_non_int, isi_non_bool, isi_non_tuple, isi_non_list, isi_tup_int, isi_tup_bool, isi_tup_tuple, isi_tup_list, isi_lst_int, isi_lst_bool, isi_lst_tuple, isi_lst_list, if_true, if_false, Bool.not_true, Bool.not_false, Bool.false_eq_true, decide_true, decide_false, sizeLine_eq]
  refine p_law_pour _ (by omega) (by omega) fun r hr1 hr2 => ?_
  simp only [wAsg, wgName, wgOwn, wgTup, wgsCons, wgsNil, wLc, wiSeq, wiRng1, wiRng2, wiEnum, wiZip, wCall, wCallK, wCB, wC, wVar, wVarB, wOp, wNeg, waCons, waNil, wLst, wTup, wSl, woNone, woSome, wIfS, wIf, wOr, wAnd, wNot, wTest, wAndV, wOrV, wNotV, wChain, wRet, wNext, wDrop, wPar2, wPar3, wmVal, wmOwn, wFreeze, wApp, wRevT, wipeE, List.set_cons_succ, List.set_cons_zero, List.getElem?_cons_zero, List.getElem?_cons_succ, len_tup, len_lst, len_scr, fSl_tup, fSl_lst, fSl_scr, add_ii, sub_ii, mul_ii, fdiv_ii, mod_ii, lt_ii, le_ii, gt_ii, ge_ii, isN_n, notN_n, DL.eq_int, DL.ne_int, DL.eq_bl, DL.ne_bl, isi_int_int, isi_int_bool, isi_int_tuple, isi_int_list, isi_bl_int, isi_bl_bool, isi_bl_tuple, isi_bl_list, isi_non_int, isi_non_bool, isi_non_tuple, isi_non_list, isi_tup_int, isi_tup_bool, isi_tup_tuple, isi_tup_list, isi_lst_int, isi_lst_bool, isi_lst_tuple, isi_lst_list, if_true, if_false, Bool.not_true, Bool.not_false, Bool.false_eq_true, decide_true, decide_false, sizeLine_eq]
  refine ⟨by show 5 ≤ 16777216; omega, ?_⟩
  refine p_law_of _ (by intro z; cases z) (by show 5 < 1000000; omega) fun x hx => ?_
  obtain ⟨hours, rfl, hh⟩ : ∃ v : Int, x = .int v ∧ 1 ≤ v ∧ v ≤ 60 := by
    simp only [List.mem_cons, List.not_mem_nil, or_false] at hx
    rcases hx with rfl | rfl | rfl | rfl | rfl
    · exact ⟨1, rfl, by omega, by omega⟩
    · exact ⟨2, rfl, by omega, by omega⟩
    · exact ⟨3, rfl, by omega, by omega⟩
    · exact ⟨1 + r, rfl, by omega, by omega⟩
    · exact ⟨60, rfl, by omega, by omega⟩
  refine hKK2 _ ?_
  refine seq_step fun KK3 hKK3 => ?_
  simp only [wAsg, wgName, wgOwn, wgTup, wgsCons, wgsNil, wLc, wiSeq, wiRng1, wiRng2, wiEnum, wiZip, wCall, wCallK, wCB, wC, wVar, wVarB, wOp, wNeg, waCons, waNil, wLst, wTup, wSl, woNone, woSome, wIfS, wIf, wOr, wAnd, wNot, wTest, wAndV, wOrV, wNotV, wChain, wRet, wNext, wDrop, wPar2, wPar3, wmVal, wmOwn, wFreeze, wApp, wRevT, wipeE, List.set_cons_succ, List.set_cons_zero, List.getElem?_cons_zero, List.getElem?_cons_succ, len_tup, len_lst, len_scr, fSl_tup, fSl_lst, fSl_scr, add_ii, sub_ii, mul_ii, fdiv_ii, mod_ii, lt_ii, le_ii, gt_ii, ge_ii, isN_n, notN_n, DL.eq_int, DL.ne_int, DL.eq_bl, DL.ne_bl, isi_int_int, isi_int_bool, isi_int_tuple, isi_int_list, isi_bl_int, isi_bl_bool, isi_bl_tuple, isi_bl_list, isi_non_int, isi_non_bool, isi_non_tuple, isi_non_list, isi_tup_int, isi_tup_bool, isi_tup_tuple, isi_tup_list, isi_lst_int, isi_lst_bool, isi_lst_tuple, isi_lst_list, if_true, if_false, Bool.not_true, Bool.not_false, Bool.false_eq_true, decide_true, decide_false, sizeLine_eq, fMin]
  refine ⟨⟨by omega, by omega⟩, ?_⟩
  refine p_law_pour _ (by omega) (by omega) fun r2 hr3 hr4 => ?_
  skip
  refine ⟨by show 5 ≤ 16777216; omega, ?_⟩
  refine p_law_of _ (by intro z; cases z) (by show 5 < 1000000; omega) fun x hx => ?_
  obtain ⟨low, rfl, hlo⟩ : ∃ v : Int, x = .int v ∧ 0 ≤ v ∧ v ≤ 9998 := by
    simp only [List.mem_cons, List.not_mem_nil, or_false, minI_eq] at hx
    rcases hx with rfl | rfl | rfl | rfl | rfl
    · exact ⟨0, rfl, by omega, by omega⟩
    · exact ⟨0, rfl, by omega, by omega⟩
    · exact ⟨_, rfl, by omega, by omega⟩
    · exact ⟨r2, rfl, by omega, by omega⟩
    · exact ⟨_, rfl, by omega, by omega⟩
  refine hKK3 _ ?_
  refine seq_step fun KK4 hKK4 => ?_
  simp only [wAsg, wgName, wgOwn, wgTup, wgsCons, wgsNil, wLc, wiSeq, wiRng1, wiRng2, wiEnum, wiZip, wCall, wCallK, wCB, wC, wVar, wVarB, wOp, wNeg, waCons, waNil, wLst, wTup, wSl, woNone, woSome, wIfS, wIf, wOr, wAnd, wNot, wTest, wAndV, wOrV, wNotV, wChain, wRet, wNext, wDrop, wPar2, wPar3, wmVal, wmOwn, wFreeze, wApp, wRevT, wipeE, List.set_cons_succ, List.set_cons_zero, List.getElem?_cons_zero, List.getElem?_cons_succ, len_tup, len_lst, len_scr, fSl_tup, fSl_lst, fSl_scr, add_ii, sub_ii, mul_ii, fdiv_ii, mod_ii, lt_ii, le_ii, gt_ii, ge_ii, isN_n, notN_n, DL.eq_int, DL.ne_int, DL.eq_bl, DL.ne_bl, isi_int_int, isi_int_bool, isi_int_tuple, isi_int_list, isi_bl_int, isi_bl_bool, isi_bl_tuple, isi_bl_list, isi_non_int, isi_non_bool, isi_non_tuple, isi_non_list, isi_tup_int, isi_tup_bool, isi_tup_tuple, isi_tup_list, isi_lst_int, isi_lst_bool, isi_lst_tuple, isi_lst_list, if_true, if_false, Bool.not_true, Bool.not_false, Bool.false_eq_true, decide_true, decide_false, sizeLine_eq, fMin]
  refine p_law_pour _ (by omega) (by omega) fun r3 hr5 hr6 => ?_
  simp only [wAsg, wgName, wgOwn, wgTup, wgsCons, wgsNil, wLc, wiSeq, wiRng1, wiRng2, wiEnum, wiZip, wCall, wCallK, wCB, wC, wVar, wVarB, wOp, wNeg, waCons, waNil, wLst, wTup, wSl, woNone, woSome, wIfS, wIf, wOr, wAnd, wNot, wTest, wAndV, wOrV, wNotV, wChain, wRet, wNext, wDrop, wPar2, wPar3, wmVal, wmOwn, wFreeze, wApp, wRevT, wipeE, List.set_cons_succ, List.set_cons_zero, List.getElem?_cons_zero, List.getElem?_cons_succ, len_tup, len_lst, len_scr, fSl_tup, fSl_lst, fSl_scr, add_ii, sub_ii, mul_ii, fdiv_ii, mod_ii, lt_ii, le_ii, gt_ii, ge_ii, isN_n, notN_n, DL.eq_int, DL.ne_int, DL.eq_bl, DL.ne_bl, isi_int_int, isi_int_bool, isi_int_tuple, isi_int_list, isi_bl_int, isi_bl_bool, isi_bl_tuple, isi_bl_list, isi_non_int, isi_non_bool, isi_non_tuple, isi_non_list, isi_tup_int, isi_tup_bool, isi_tup_tuple, isi_tup_list, isi_lst_int, isi_lst_bool, isi_lst_tuple, isi_lst_list, if_true, if_false, Bool.not_true, Bool.not_false, Bool.false_eq_true, decide_true, decide_false, sizeLine_eq, fMin]
  refine ⟨⟨by omega, by omega⟩, by show 4 ≤ 16777216; omega, ?_⟩
  refine p_law_of _ (by intro z; cases z) (by show 4 < 1000000; omega) fun x hx => ?_
  obtain ⟨hi, rfl, hhi⟩ : ∃ v : Option Int, x = hiD v ∧ ∀ u, v = some u → low + 1 ≤ u ∧ u ≤ 9999 := by
    simp only [List.mem_cons, List.not_mem_nil, or_false, minI_eq] at hx
    rcases hx with rfl | rfl | rfl | rfl
    · exact ⟨none, rfl, fun u e => by cases e⟩
    · exact ⟨some _, rfl, fun u e => by cases e; omega⟩
    · exact ⟨some _, rfl, fun u e => by cases e; omega⟩
    · exact ⟨some _, rfl, fun u e => by cases e; omega⟩
  refine hKK4 _ ?_
  simp only [wAsg, wgName, wgOwn, wgTup, wgsCons, wgsNil, wLc, wiSeq, wiRng1, wiRng2, wiEnum, wiZip, wCall, wCallK, wCB, wC, wVar, wVarB, wOp, wNeg, waCons, waNil, wLst, wTup, wSl, woNone, woSome, wIfS, wIf, wOr, wAnd, wNot, wTest, wAndV, wOrV, wNotV, wChain, wRet, wNext, wDrop, wPar2, wPar3, wmVal, wmOwn, wFreeze, wApp, wRevT, wipeE, List.set_cons_succ, List.set_cons_zero, List.getElem?_cons_zero, List.getElem?_cons_succ, len_tup, len_lst, len_scr, fSl_tup, fSl_lst, fSl_scr, add_ii, sub_ii, mul_ii, fdiv_ii, mod_ii, lt_ii, le_ii, gt_ii, ge_ii, isN_n, notN_n, DL.eq_int, DL.ne_int, DL.eq_bl, DL.ne_bl, isi_int_int, isi_int_bool, isi_int_tuple, isi_int_list, isi_bl_int, isi_bl_bool, isi_bl_tuple, isi_bl_list, isi_non_int, isi_non_bool, isi_non_tuple, isi_non_list, isi_tup_int, isi_tup_bool, isi_tup_tuple, isi_tup_list, isi_lst_int, isi_lst_bool, isi_lst_tuple, isi_lst_list, if_true, if_false, Bool.not_true, Bool.not_false, Bool.false_eq_true, decide_true, decide_false, sizeLine_eq]
  refine p_law_pour _ (by omega) (by omega) fun r4 hr7 hr8 => ?_
  refine ⟨by show 5 ≤ 16777216; omega, ?_⟩
  refine p_law_of _ (by intro z; cases z) (by show 5 < 1000000; omega) fun x hx => ?_
  obtain ⟨cnt, rfl, hcn⟩ : ∃ v : Int, x = .int v ∧ 1 ≤ v ∧ v ≤ 9 := by
    simp only [List.mem_cons, List.not_mem_nil, or_false] at hx
    rcases hx with rfl | rfl | rfl | rfl | rfl
    · exact ⟨1, rfl, by omega, by omega⟩
    · exact ⟨2, rfl, by omega, by omega⟩
    · exact ⟨3, rfl, by omega, by omega⟩
    · exact ⟨9, rfl, by omega, by omega⟩
    · exact ⟨1 + r4, rfl, by omega, by omega⟩
  refine ⟨by show 4 ≤ 16777216; omega, ?_⟩
  exact h ⟨hours, cnt, low, hi⟩ ⟨hh, hcn, by show 0 ≤ low ∧ low ≤ 9999; omega, hhi⟩
end
end HX
set_option Elab.async false
set_option linter.all false
set_option maxRecDepth 100000
set_option maxHeartbeats 400000
namespace HX
open PySem PySem.Spec PyProof.Rows L2 DL
/-- a clause that covers no less -/
structure MoreC (c d : Cl) : Prop where
  mh : c.h ≤ d.h
  mc : c.c ≤ d.c
  ml : d.l ≤ c.l
  mhi : ∀ v, d.hi = some v → ∃ u, c.hi = some u ∧ u ≤ v
/-- the choice told is one, and it brings what is told -/
def Sound (ds : List Int) (c : Cl) : Prop := OkCh ds c (best ds c).2 ∧ ((best ds c).2.map fun w => worth c (sumW ds w)).sum = (best ds c).1
end HX
set_option Elab.async false
set_option linter.all false
set_option maxRecDepth 100000
set_option maxHeartbeats 400000
/-! draws among more things; draws in a comprehension -/
namespace HX
open PySem PySem.Spec PyProof.Rows L2 DL
section
variable {q : D → Prop} {ep : Ex → Prop}
theorem p_law_pour2 (many : Int) (h0 : 0 < many) (h1 : many < 16777216) (h : ∀ r : Int, 0 ≤ r → r < many → q (.int r)) : wf__law_pour [.bowl, .int many] q ep := by
  unfold wf__law_pour W__law_pour
  show wSeq _ _ _ [some (.val .bowl), some (.val (.int many)), none]
  refine seq_step fun KK hKK => ?_
  simp only [wAsg, wgName, wgOwn, wgTup, wgsCons, wgsNil, wLc, wiSeq, wiRng1, wiRng2, wiEnum, wiZip, wCall, wCallK, wCB, wC, wVar, wVarB, wOp, wNeg, waCons, waNil, wLst, wTup, wSl, woNone, woSome, wIfS, wIf, wOr, wAnd, wNot, wTest, wAndV, wOrV, wNotV, wChain, wRet, wNext, wDrop, wPar2, wPar3, wmVal, wmOwn, wFreeze, wApp, wRevT, wipeE, List.set_cons_succ, List.set_cons_zero, List.getElem?_cons_zero, List.getElem?_cons_succ, len_tup, len_lst, len_scr, fSl_tup, fSl_lst, fSl_scr, add_ii, sub_ii, mul_ii, fdiv_ii, mod_ii, lt_ii, le_ii, gt_ii, ge_ii, isN_n, notN_n, DL.eq_int, DL.ne_int, DL.eq_bl, DL.ne_bl, isi_int_int, isi_int_bool, isi_int_tuple, isi_int_list, isi_bl_int, isi_bl_bool, isi_bl_tuple, isi_bl_list, isi_non_int, isi_non_bool, isi_non_tuple, isi_non_list, isi_tup_int, isi_tup_bool, isi_tup_tuple, isi_tup_list, isi_lst_int, isi_lst_bool, isi_lst_tuple, isi_lst_list, if_true, if_false, Bool.not_true, Bool.not_false, Bool.false_eq_true, decide_true, decide_false, sizeLine_eq]
  refine fIx_bowl _ (by omega) (by omega) fun n => ?_
  simp only [wAsg, wgName, wgOwn, wgTup, wgsCons, wgsNil, wLc, wiSeq, wiRng1, wiRng2, wiEnum, wiZip, wCall, wCallK, wCB, wC, wVar, wVarB, wOp, wNeg, waCons, waNil, wLst, wTup, wSl, woNone, woSome, wIfS, wIf, wOr, wAnd, wNot, wTest, wAndV, wOrV, wNotV, wChain, wRet, wNext, wDrop, wPar2, wPar3, wmVal, wmOwn, wFreeze, wApp, wRevT, wipeE, List.set_cons_succ, List.set_cons_zero, List.getElem?_cons_zero, List.getElem?_cons_succ, len_tup, len_lst, len_scr, fSl_tup, fSl_lst, fSl_scr, add_ii, sub_ii, mul_ii, fdiv_ii, mod_ii, lt_ii, le_ii, gt_ii, ge_ii, isN_n, notN_n, DL.eq_int, DL.ne_int, DL.eq_bl, DL.ne_bl, isi_int_int, isi_int_bool, isi_int_tuple, isi_int_list, isi_bl_int, isi_bl_bool, isi_bl_tuple, isi_bl_list, isi_non_int, isi_non_bool, isi_non_tuple, isi_non_list, isi_tup_int, isi_tup_bool, isi_tup_tuple, isi_tup_list, isi_lst_int, isi_lst_bool, isi_lst_tuple, isi_lst_list, if_true, if_false, Bool.not_true, Bool.not_false, Bool.false_eq_true, decide_true, decide_false, sizeLine_eq]
  by_cases hn : 0 < n
  · rw [decide_eq_true hn]
    simp only [wAsg, wgName, wgOwn, wgTup, wgsCons, wgsNil, wLc, wiSeq, wiRng1, wiRng2, wiEnum, wiZip, wCall, wCallK, wCB, wC, wVar, wVarB, wOp, wNeg, waCons, waNil, wLst, wTup, wSl, woNone, woSome, wIfS, wIf, wOr, wAnd, wNot, wTest, wAndV, wOrV, wNotV, wChain, wRet, wNext, wDrop, wPar2, wPar3, wmVal, wmOwn, wFreeze, wApp, wRevT, wipeE, List.set_cons_succ, List.set_cons_zero, List.getElem?_cons_zero, List.getElem?_cons_succ, len_tup, len_lst, len_scr, fSl_tup, fSl_lst, fSl_scr, add_ii, sub_ii, mul_ii, fdiv_ii, mod_ii, lt_ii, le_ii, gt_ii, ge_ii, isN_n, notN_n, DL.eq_int, DL.ne_int, DL.eq_bl, DL.ne_bl, isi_int_int, isi_int_bool, isi_int_tuple, isi_int_list, isi_bl_int, isi_bl_bool, isi_bl_tuple, isi_bl_list, isi_non_int, isi_non_bool, isi_non_tuple, isi_non_list, isi_tup_int, isi_tup_bool, isi_tup_tuple, isi_tup_list, isi_lst_int, isi_lst_bool, isi_lst_tuple, isi_lst_list, if_true, if_false, Bool.not_true, Bool.not_false, Bool.false_eq_true, decide_true, decide_false, sizeLine_eq]
    refine seq_step fun KK2 hKK2 => ?_
    simp only [wAsg, wgName, wgOwn, wgTup, wgsCons, wgsNil, wLc, wiSeq, wiRng1, wiRng2, wiEnum, wiZip, wCall, wCallK, wCB, wC, wVar, wVarB, wOp, wNeg, waCons, waNil, wLst, wTup, wSl, woNone, woSome, wIfS, wIf, wOr, wAnd, wNot, wTest, wAndV, wOrV, wNotV, wChain, wRet, wNext, wDrop, wPar2, wPar3, wmVal, wmOwn, wFreeze, wApp, wRevT, wipeE, List.set_cons_succ, List.set_cons_zero, List.getElem?_cons_zero, List.getElem?_cons_succ, len_tup, len_lst, len_scr, fSl_tup, fSl_lst, fSl_scr, add_ii, sub_ii, mul_ii, fdiv_ii, mod_ii, lt_ii, le_ii, gt_ii, ge_ii, isN_n, notN_n, DL.eq_int, DL.ne_int, DL.eq_bl, DL.ne_bl, isi_int_int, isi_int_bool, isi_int_tuple, isi_int_list, isi_bl_int, isi_bl_bool, isi_bl_tuple, isi_bl_list, isi_non_int, isi_non_bool, isi_non_tuple, isi_non_list, isi_tup_int, isi_tup_bool, isi_tup_tuple, isi_tup_list, isi_lst_int, isi_lst_bool, isi_lst_tuple, isi_lst_list, if_true, if_false, Bool.not_true, Bool.not_false, Bool.false_eq_true, decide_true, decide_false, sizeLine_eq]
    refine fIx_bowl _ (by omega) (by omega) fun m => ?_
    refine ⟨⟨h0, by omega⟩, rfl, by omega, by omega, ⟨_, rfl⟩, ?_⟩
    refine hKK2 _ ?_
    simp only [wAsg, wgName, wgOwn, wgTup, wgsCons, wgsNil, wLc, wiSeq, wiRng1, wiRng2, wiEnum, wiZip, wCall, wCallK, wCB, wC, wVar, wVarB, wOp, wNeg, waCons, waNil, wLst, wTup, wSl, woNone, woSome, wIfS, wIf, wOr, wAnd, wNot, wTest, wAndV, wOrV, wNotV, wChain, wRet, wNext, wDrop, wPar2, wPar3, wmVal, wmOwn, wFreeze, wApp, wRevT, wipeE, List.set_cons_succ, List.set_cons_zero, List.getElem?_cons_zero, List.getElem?_cons_succ, len_tup, len_lst, len_scr, fSl_tup, fSl_lst, fSl_scr, add_ii, sub_ii, mul_ii, fdiv_ii, mod_ii, lt_ii, le_ii, gt_ii, ge_ii, isN_n, notN_n, DL.eq_int, DL.ne_int, DL.eq_bl, DL.ne_bl, isi_int_int, isi_int_bool, isi_int_tuple, isi_int_list, isi_bl_int, isi_bl_bool, isi_bl_tuple, isi_bl_list, isi_non_int, isi_non_bool, isi_non_tuple, isi_non_list, isi_tup_int, isi_tup_bool, isi_tup_tuple, isi_tup_list, isi_lst_int, isi_lst_bool, isi_lst_tuple, isi_lst_list, if_true, if_false, Bool.not_true, Bool.not_false, Bool.false_eq_true, decide_true, decide_false, sizeLine_eq]
    exact h _ (Int.emod_nonneg _ (by omega)) (Int.emod_lt_of_pos _ h0)
  · rw [decide_eq_false hn]
    simp only [wAsg, wgName, wgOwn, wgTup, wgsCons, wgsNil, wLc, wiSeq, wiRng1, wiRng2, wiEnum, wiZip, wCall, wCallK, wCB, wC, wVar, wVarB, wOp, wNeg, waCons, waNil, wLst, wTup, wSl, woNone, woSome, wIfS, wIf, wOr, wAnd, wNot, wTest, wAndV, wOrV, wNotV, wChain, wRet, wNext, wDrop, wPar2, wPar3, wmVal, wmOwn, wFreeze, wApp, wRevT, wipeE, List.set_cons_succ, List.set_cons_zero, List.getElem?_cons_zero, List.getElem?_cons_succ, len_tup, len_lst, len_scr, fSl_tup, fSl_lst, fSl_scr, add_ii, sub_ii, mul_ii, fdiv_ii, mod_ii, lt_ii, le_ii, gt_ii, ge_ii, isN_n, notN_n, DL.eq_int, DL.ne_int, DL.eq_bl, DL.ne_bl, isi_int_int, isi_int_bool, isi_int_tuple, isi_int_list, isi_bl_int, isi_bl_bool, isi_bl_tuple, isi_bl_list, isi_non_int, isi_non_bool, isi_non_tuple, isi_non_list, isi_tup_int, isi_tup_bool, isi_tup_tuple, isi_tup_list, isi_lst_int, isi_lst_bool, isi_lst_tuple, isi_lst_list, if_true, if_false, Bool.not_true, Bool.not_false, Bool.false_eq_true, decide_true, decide_false, sizeLine_eq]
    refine hKK _ ?_
    refine seq_step fun KK2 hKK2 => ?_
    simp only [wAsg, wgName, wgOwn, wgTup, wgsCons, wgsNil, wLc, wiSeq, wiRng1, wiRng2, wiEnum, wiZip, wCall, wCallK, wCB, wC, wVar, wVarB, wOp, wNeg, waCons, waNil, wLst, wTup, wSl, woNone, woSome, wIfS, wIf, wOr, wAnd, wNot, wTest, wAndV, wOrV, wNotV, wChain, wRet, wNext, wDrop, wPar2, wPar3, wmVal, wmOwn, wFreeze, wApp, wRevT, wipeE, List.set_cons_succ, List.set_cons_zero, List.getElem?_cons_zero, List.getElem?_cons_succ, len_tup, len_lst, len_scr, fSl_tup, fSl_lst, fSl_scr, add_ii, sub_ii, mul_ii, fdiv_ii, mod_ii, lt_ii, le_ii, gt_ii, ge_ii, isN_n, notN_n, DL.eq_int, DL.ne_int, DL.eq_bl, DL.ne_bl, isi_int_int, isi_int_bool, isi_int_tuple, isi_int_list, isi_bl_int, isi_bl_bool, isi_bl_tuple, isi_bl_list, isi_non_int, isi_non_bool, isi_non_tuple, isi_non_list, isi_tup_int, isi_tup_bool, isi_tup_tuple, isi_tup_list, isi_lst_int, isi_lst_bool, isi_lst_tuple, isi_lst_list, if_true, if_false, Bool.not_true, Bool.not_false, Bool.false_eq_true, decide_true, decide_false, sizeLine_eq]
    refine fIx_bowl _ (by omega) (by omega) fun m => ?_
    simp only [wAsg, wgName, wgOwn, wgTup, wgsCons, wgsNil, wLc, wiSeq, wiRng1, wiRng2, wiEnum, wiZip, wCall, wCallK, wCB, wC, wVar, wVarB, wOp, wNeg, waCons, waNil, wLst, wTup, wSl, woNone, woSome, wIfS, wIf, wOr, wAnd, wNot, wTest, wAndV, wOrV, wNotV, wChain, wRet, wNext, wDrop, wPar2, wPar3, wmVal, wmOwn, wFreeze, wApp, wRevT, wipeE, List.set_cons_succ, List.set_cons_zero, List.getElem?_cons_zero, List.getElem?_cons_succ, len_tup, len_lst, len_scr, fSl_tup, fSl_lst, fSl_scr, add_ii, sub_ii, mul_ii, fdiv_ii, mod_ii, lt_ii, le_ii, gt_ii, ge_ii, isN_n, notN_n, DL.eq_int, DL.ne_int, DL.eq_bl, DL.ne_bl, isi_int_int, isi_int_bool, isi_int_tuple, isi_int_list, isi_bl_int, isi_bl_bool, isi_bl_tuple, isi_bl_list, isi_non_int, isi_non_bool, isi_non_tuple, isi_non_list, isi_tup_int, isi_tup_bool, isi_tup_tuple, isi_tup_list, isi_lst_int, isi_lst_bool, isi_lst_tuple, isi_lst_list, if_true, if_false, Bool.not_true, Bool.not_false, Bool.false_eq_true, decide_true, decide_false, sizeLine_eq]
    refine ⟨rfl, by omega, by omega, ⟨_, rfl⟩, ?_⟩
    refine hKK2 _ ?_
    refine seq_step fun KK3 hKK3 => ?_
    simp only [wAsg, wgName, wgOwn, wgTup, wgsCons, wgsNil, wLc, wiSeq, wiRng1, wiRng2, wiEnum, wiZip, wCall, wCallK, wCB, wC, wVar, wVarB, wOp, wNeg, waCons, waNil, wLst, wTup, wSl, woNone, woSome, wIfS, wIf, wOr, wAnd, wNot, wTest, wAndV, wOrV, wNotV, wChain, wRet, wNext, wDrop, wPar2, wPar3, wmVal, wmOwn, wFreeze, wApp, wRevT, wipeE, List.set_cons_succ, List.set_cons_zero, List.getElem?_cons_zero, List.getElem?_cons_succ, len_tup, len_lst, len_scr, fSl_tup, fSl_lst, fSl_scr, add_ii, sub_ii, mul_ii, fdiv_ii, mod_ii, lt_ii, le_ii, gt_ii, ge_ii, isN_n, notN_n, DL.eq_int, DL.ne_int, DL.eq_bl, DL.ne_bl, isi_int_int, isi_int_bool, isi_int_tuple, isi_int_list, isi_bl_int, isi_bl_bool, isi_bl_tuple, isi_bl_list, isi_non_int, isi_non_bool, isi_non_tuple, isi_non_list, isi_tup_int, isi_tup_bool, isi_tup_tuple, isi_tup_list, isi_lst_int, isi_lst_bool, isi_lst_tuple, isi_lst_list, if_true, if_false, Bool.not_true, Bool.not_false, Bool.false_eq_true, decide_true, decide_false, sizeLine_eq]
    refine fIx_bowl _ (by omega) (by omega) fun a => ?_
    refine fIx_bowl _ (by omega) (by omega) fun b => ?_
    simp only [wAsg, wgName, wgOwn, wgTup, wgsCons, wgsNil, wLc, wiSeq, wiRng1, wiRng2, wiEnum, wiZip, wCall, wCallK, wCB, wC, wVar, wVarB, wOp, wNeg, waCons, waNil, wLst, wTup, wSl, woNone, woSome, wIfS, wIf, wOr, wAnd, wNot, wTest, wAndV, wOrV, wNotV, wChain, wRet, wNext, wDrop, wPar2, wPar3, wmVal, wmOwn, wFreeze, wApp, wRevT, wipeE, List.set_cons_succ, List.set_cons_zero, List.getElem?_cons_zero, List.getElem?_cons_succ, len_tup, len_lst, len_scr, fSl_tup, fSl_lst, fSl_scr, add_ii, sub_ii, mul_ii, fdiv_ii, mod_ii, lt_ii, le_ii, gt_ii, ge_ii, isN_n, notN_n, DL.eq_int, DL.ne_int, DL.eq_bl, DL.ne_bl, isi_int_int, isi_int_bool, isi_int_tuple, isi_int_list, isi_bl_int, isi_bl_bool, isi_bl_tuple, isi_bl_list, isi_non_int, isi_non_bool, isi_non_tuple, isi_non_list, isi_tup_int, isi_tup_bool, isi_tup_tuple, isi_tup_list, isi_lst_int, isi_lst_bool, isi_lst_tuple, isi_lst_list, if_true, if_false, Bool.not_true, Bool.not_false, Bool.false_eq_true, decide_true, decide_false, sizeLine_eq, fInt]
    refine ⟨by omega, cmul_r (by omega) (by omega), ?_⟩
    refine fIx_bowl _ (by omega) (by omega) fun d => ?_
    simp only [wAsg, wgName, wgOwn, wgTup, wgsCons, wgsNil, wLc, wiSeq, wiRng1, wiRng2, wiEnum, wiZip, wCall, wCallK, wCB, wC, wVar, wVarB, wOp, wNeg, waCons, waNil, wLst, wTup, wSl, woNone, woSome, wIfS, wIf, wOr, wAnd, wNot, wTest, wAndV, wOrV, wNotV, wChain, wRet, wNext, wDrop, wPar2, wPar3, wmVal, wmOwn, wFreeze, wApp, wRevT, wipeE, List.set_cons_succ, List.set_cons_zero, List.getElem?_cons_zero, List.getElem?_cons_succ, len_tup, len_lst, len_scr, fSl_tup, fSl_lst, fSl_scr, add_ii, sub_ii, mul_ii, fdiv_ii, mod_ii, lt_ii, le_ii, gt_ii, ge_ii, isN_n, notN_n, DL.eq_int, DL.ne_int, DL.eq_bl, DL.ne_bl, isi_int_int, isi_int_bool, isi_int_tuple, isi_int_list, isi_bl_int, isi_bl_bool, isi_bl_tuple, isi_bl_list, isi_non_int, isi_non_bool, isi_non_tuple, isi_non_list, isi_tup_int, isi_tup_bool, isi_tup_tuple, isi_tup_list, isi_lst_int, isi_lst_bool, isi_lst_tuple, isi_lst_list, if_true, if_false, Bool.not_true, Bool.not_false, Bool.false_eq_true, decide_true, decide_false, sizeLine_eq, fInt]
    refine ⟨cmul_l (by omega) (by omega), by omega, rfl, by omega, by omega, ⟨_, rfl⟩, ?_⟩
    refine hKK3 _ ?_
    simp only [wAsg, wgName, wgOwn, wgTup, wgsCons, wgsNil, wLc, wiSeq, wiRng1, wiRng2, wiEnum, wiZip, wCall, wCallK, wCB, wC, wVar, wVarB, wOp, wNeg, waCons, waNil, wLst, wTup, wSl, woNone, woSome, wIfS, wIf, wOr, wAnd, wNot, wTest, wAndV, wOrV, wNotV, wChain, wRet, wNext, wDrop, wPar2, wPar3, wmVal, wmOwn, wFreeze, wApp, wRevT, wipeE, List.set_cons_succ, List.set_cons_zero, List.getElem?_cons_zero, List.getElem?_cons_succ, len_tup, len_lst, len_scr, fSl_tup, fSl_lst, fSl_scr, add_ii, sub_ii, mul_ii, fdiv_ii, mod_ii, lt_ii, le_ii, gt_ii, ge_ii, isN_n, notN_n, DL.eq_int, DL.ne_int, DL.eq_bl, DL.ne_bl, isi_int_int, isi_int_bool, isi_int_tuple, isi_int_list, isi_bl_int, isi_bl_bool, isi_bl_tuple, isi_bl_list, isi_non_int, isi_non_bool, isi_non_tuple, isi_non_list, isi_tup_int, isi_tup_bool, isi_tup_tuple, isi_tup_list, isi_lst_int, isi_lst_bool, isi_lst_tuple, isi_lst_list, if_true, if_false, Bool.not_true, Bool.not_false, Bool.false_eq_true, decide_true, decide_false, sizeLine_eq]
    refine fIx_bowl _ (by omega) (by omega) fun e => ?_
    simp only [wAsg, wgName, wgOwn, wgTup, wgsCons, wgsNil, wLc, wiSeq, wiRng1, wiRng2, wiEnum, wiZip, wCall, wCallK, wCB, wC, wVar, wVarB, wOp, wNeg, waCons, waNil, wLst, wTup, wSl, woNone, woSome, wIfS, wIf, wOr, wAnd, wNot, wTest, wAndV, wOrV, wNotV, wChain, wRet, wNext, wDrop, wPar2, wPar3, wmVal, wmOwn, wFreeze, wApp, wRevT, wipeE, List.set_cons_succ, List.set_cons_zero, List.getElem?_cons_zero, List.getElem?_cons_succ, len_tup, len_lst, len_scr, fSl_tup, fSl_lst, fSl_scr, add_ii, sub_ii, mul_ii, fdiv_ii, mod_ii, lt_ii, le_ii, gt_ii, ge_ii, isN_n, notN_n, DL.eq_int, DL.ne_int, DL.eq_bl, DL.ne_bl, isi_int_int, isi_int_bool, isi_int_tuple, isi_int_list, isi_bl_int, isi_bl_bool, isi_bl_tuple, isi_bl_list, isi_non_int, isi_non_bool, isi_non_tuple, isi_non_list, isi_tup_int, isi_tup_bool, isi_tup_tuple, isi_tup_list, isi_lst_int, isi_lst_bool, isi_lst_tuple, isi_lst_list, if_true, if_false, Bool.not_true, Bool.not_false, Bool.false_eq_true, decide_true, decide_false, sizeLine_eq, fInt]
    refine ⟨⟨by omega, by omega⟩, h0, ?_⟩
    exact h _ (Int.emod_nonneg _ (by omega)) (Int.emod_lt_of_pos _ h0)
theorem p_law_of2 (xs : List D) (h0 : xs ≠ []) (h1 : xs.length < 16777216) (h : ∀ x ∈ xs, q x) : wf__law_of [.bowl, .lst xs] q ep := by
  unfold wf__law_of W__law_of
  show wRet _ _ [some (.val .bowl), some (.val (.lst xs))]
  simp only [wAsg, wgName, wgOwn, wgTup, wgsCons, wgsNil, wLc, wiSeq, wiRng1, wiRng2, wiEnum, wiZip, wCall, wCallK, wCB, wC, wVar, wVarB, wOp, wNeg, waCons, waNil, wLst, wTup, wSl, woNone, woSome, wIfS, wIf, wOr, wAnd, wNot, wTest, wAndV, wOrV, wNotV, wChain, wRet, wNext, wDrop, wPar2, wPar3, wmVal, wmOwn, wFreeze, wApp, wRevT, wipeE, List.set_cons_succ, List.set_cons_zero, List.getElem?_cons_zero, List.getElem?_cons_succ, len_tup, len_lst, len_scr, fSl_tup, fSl_lst, fSl_scr, add_ii, sub_ii, mul_ii, fdiv_ii, mod_ii, lt_ii, le_ii, gt_ii, ge_ii, isN_n, notN_n, DL.eq_int, DL.ne_int, DL.eq_bl, DL.ne_bl, isi_int_int, isi_int_bool, isi_int_tuple, isi_int_list, isi_bl_int, isi_bl_bool, isi_bl_tuple, isi_bl_list, isi_non_int, isi_non_bool, isi_non_tuple, isi_non_list, isi_tup_int, isi_tup_bool, isi_tup_tuple, isi_tup_list, isi_lst_int, isi_lst_bool, isi_lst_tuple, isi_lst_list, if_true, if_false, Bool.not_true, Bool.not_false, Bool.false_eq_true, decide_true, decide_false, sizeLine_eq]
  have hp : 0 < xs.length := List.length_pos_iff.mpr h0
  refine p_law_pour2 _ (by omega) (by omega) fun r hr1 hr2 => ?_
  obtain ⟨n, rfl⟩ : ∃ n : Nat, r = (n : Int) := ⟨r.toNat, by omega⟩
  refine ⟨xs[n]'(by omega), by rw [atI_ix, List.getElem?_eq_getElem], h _ (List.getElem_mem _)⟩

theorem rangeD_nn (a b : Nat) : rangeD (a : Int) (b : Int) = (List.range' a (b - a)).map fun i : Nat => D.int (i : Int) := by
  unfold rangeD
  rw [List.range'_eq_map_range, List.map_map, show ((b : Int) - (a : Int)).toNat = b - a by omega]
  refine List.map_congr_left fun i _ => ?_
  show D.int ((a : Int) + (i : Int)) = D.int ((a + i : Nat) : Int)
  rw [show ((a + i : Nat) : Int) = (a : Int) + (i : Int) by omega]
theorem rangeD_1 (n : Nat) : rangeD 1 ((n + 1 : Nat) : Int) = (List.range' 1 n).map fun i : Nat => D.int (i : Int) := rangeD_nn 1 (n + 1)
theorem lc_all {g : WG} {We : WE} {ρw : DL.Env} {q : List D → Prop} (P : D → Prop) : ∀ (xs acc : List D), (∀ x ∈ xs, ∀ k : D → Prop, (∀ y, P y → k y) → g x ρw fun ρ2 => We ρ2 k) → acc.length + xs.length < 16777216 →
    (∀ ys : List D, ys.length = xs.length → (∀ y ∈ ys, P y) → q (acc ++ ys)) → wLcL g wYes We ρw xs acc q
  | [], acc, _, _, h => by
    have := h [] rfl (fun y hy => nomatch hy)
    rw [List.append_nil] at this
    exact this
  | x :: xs, acc, he, hn, h => by
    have e : (fun ρ2 : DL.Env => wYes ρ2 fun b => if b = true then We ρ2 fun y => acc.length < sizeLine ∧ wLcL g wYes We ρw xs (acc ++ [y]) q else wLcL g wYes We ρw xs acc q) = fun ρ2 => We ρ2 fun y => acc.length < sizeLine ∧ wLcL g wYes We ρw xs (acc ++ [y]) q := by
      funext ρ2
      simp [wYes]
    show g x ρw fun ρ2 => wYes ρ2 fun b => if b = true then We ρ2 fun y => acc.length < sizeLine ∧ wLcL g wYes We ρw xs (acc ++ [y]) q else wLcL g wYes We ρw xs acc q
    rw [e]
    rw [List.length_cons] at hn
    refine he x List.mem_cons_self _ fun y hy => ⟨by rw [sizeLine_eq]; omega, lc_all P xs _ (fun z hz => he z (List.mem_cons_of_mem _ hz)) ?_ fun ys hl hp => ?_⟩
    · rw [List.length_append, List.length_singleton]
      omega
    · rw [List.append_assoc]
      refine h (y :: ys) (by rw [List.length_cons, List.length_cons, hl]) fun z hz => ?_
      rcases List.mem_cons.mp hz with rfl | hz
      · exact hy
      · exact hp z hz
end
end HX
set_option Elab.async false
set_option linter.all false
set_option maxRecDepth 100000
set_option maxHeartbeats 400000
/-! the plain mathematics of the choices -/
namespace HX
open PySem DL
structure Val (h k n : Nat) (ws : List Win) : Prop where
  len : ws.length ≤ k
  win : ∀ w ∈ ws, w.1 ≤ w.2 ∧ w.2 < n ∧ w.2 < w.1 + h
  row : ws.Pairwise fun a b => a.2 < b.1
def val (ds : List Int) (c : Cl) (ws : List Win) : Int := (ws.map fun w => worth c (sumW ds w)).sum
section
variable {ds : List Int} {c : Cl} {h k n : Nat}
theorem Val.nil : Val h k n [] := ⟨Nat.zero_le _, (fun _ h => by cases h), List.Pairwise.nil⟩
theorem Val.up {m : Nat} {ws : List Win} (v : Val h k n ws) (hm : n ≤ m) : Val h k m ws := ⟨v.len, fun w hw => by have := v.win w hw; omega, v.row⟩
theorem Val.app {ws : List Win} {w : Win} (v : Val h k w.1 ws) (h1 : w.1 ≤ w.2) (h2 : w.2 < n) (h3 : w.2 < w.1 + h) : Val h (k + 1) n (ws ++ [w]) := by
  refine ⟨by rw [List.length_append, List.length_singleton]; have := v.len; omega, fun u hu => ?_, ?_⟩
  · rcases List.mem_append.mp hu with hu | hu
    · have := v.win u hu
      omega
    · rw [List.mem_singleton.mp hu]
      exact ⟨h1, h2, h3⟩
  · rw [List.pairwise_append]
    refine ⟨v.row, List.pairwise_singleton _ _, fun a ha b hb => ?_⟩
    rw [List.mem_singleton.mp hb]
    exact (v.win a ha).2.1
theorem val_app (ws : List Win) (w : Win) : val ds c (ws ++ [w]) = val ds c ws + worth c (sumW ds w) := by
  unfold val
  rw [List.map_append, List.sum_append, List.map_singleton, List.sum_singleton]
theorem keyBest_ge : ∀ (ws : List Way) (b : Way), b.1 ≤ (keyBest b ws).1 ∧ ∀ w ∈ ws, w.1 ≤ (keyBest b ws).1
  | [], b => ⟨Int.le_refl _, fun _ h => by cases h⟩
  | w :: ws, b => by
    unfold keyBest
    split
    · obtain ⟨h1, h2⟩ := keyBest_ge ws w
      exact ⟨by omega, fun u hu => (List.mem_cons.mp hu).elim (fun e => by rw [e]; exact h1) (h2 u)⟩
    · obtain ⟨h1, h2⟩ := keyBest_ge ws b
      exact ⟨h1, fun u hu => (List.mem_cons.mp hu).elim (fun e => by rw [e]; omega) (h2 u)⟩
theorem mem_wins {hh last : Nat} {w : Win} : w ∈ wins hh last ↔ w.2 = last ∧ w.1 ≤ last ∧ last < w.1 + hh := by
  unfold wins
  rw [List.mem_map]
  constructor
  · rintro ⟨i, hi, rfl⟩
    have := List.mem_range.mp hi
    exact ⟨rfl, by show last + 1 - hh + i ≤ last; omega, by show last < last + 1 - hh + i + hh; omega⟩
  · rintro ⟨h1, h2, h3⟩
    refine ⟨w.1 - (last + 1 - hh), List.mem_range.mpr (by omega), ?_⟩
    obtain ⟨a, b⟩ := w
    simp only at h1 h2 h3 ⊢
    rw [h1, show last + 1 - hh + (a - (last + 1 - hh)) = a by omega]
theorem line_at {before : List Way} : ∀ (n i : Nat), i ≤ n → getW (lineW ds c before n) i = getW (lineW ds c before i) i
  | 0, i, hi => by
    obtain rfl : i = 0 := by omega
    rfl
  | n + 1, i, hi => by
    by_cases e : i = n + 1
    · rw [e]
    · rw [← line_at n i (by omega)]
      unfold getW
      show ((lineW ds c before n ++ [_])[i]?).getD dflt = _
      rw [List.getElem?_append_left (by rw [lineW_length]; omega)]
theorem line_step {before : List Way} (i : Nat) : getW (lineW ds c before (i + 1)) (i + 1) = keyBest (getW (lineW ds c before i) i) ((wins c.h.toNat i).map fun w => longer ds c (getW before w.1) w) := by
  unfold getW
  show ((lineW ds c before i ++ [stepW ds c before (lineW ds c before i) i])[i + 1]?).getD dflt = _
  rw [List.getElem?_append_right (by rw [lineW_length]; omega), lineW_length, Nat.sub_self]
  rfl
/-- what stands in the rows is a choice of that worth -/
theorem best_sound : ∀ (k i : Nat), i ≤ ds.length → Val c.h.toNat k i (getW (bestW ds c k) i).2 ∧ (getW (bestW ds c k) i).1 = val ds c (getW (bestW ds c k) i).2
  | 0, i, hi => by
    have : getW (bestW ds c 0) i = dflt := by
      unfold getW
      show ((List.replicate (ds.length + 1) dflt)[i]?).getD dflt = dflt
      rw [List.getElem?_replicate, if_pos (by omega)]
      rfl
    rw [this]
    exact ⟨Val.nil, rfl⟩
  | k + 1, i, hi => by
    have key : ∀ i, i ≤ ds.length → Val c.h.toNat (k + 1) i (getW (lineW ds c (bestW ds c k) i) i).2 ∧ (getW (lineW ds c (bestW ds c k) i) i).1 = val ds c (getW (lineW ds c (bestW ds c k) i) i).2 := by
      intro i
      induction i with
      | zero =>
        intro _
        obtain ⟨h1, h2⟩ := best_sound k 0 (Nat.zero_le _)
        show Val c.h.toNat (k + 1) 0 (getW (bestW ds c k) 0).2 ∧ _
        exact ⟨⟨Nat.le_succ_of_le h1.len, h1.win, h1.row⟩, h2⟩
      | succ i ih =>
        intro hi
        rw [line_step]
        rcases keyBest_mem ((wins c.h.toNat i).map fun w => longer ds c (getW (bestW ds c k) w.1) w) (getW (lineW ds c (bestW ds c k) i) i) with e | e
        · rw [e]
          obtain ⟨h1, h2⟩ := ih (by omega)
          exact ⟨h1.up (by omega), h2⟩
        · obtain ⟨w, hw, e2⟩ := List.mem_map.mp e
          rw [← e2]
          obtain ⟨w2, w1, w3⟩ := mem_wins.mp hw
          obtain ⟨h1, h2⟩ := best_sound k w.1 (by omega)
          refine ⟨h1.app (by omega) (by omega) (by omega), ?_⟩
          show (getW (bestW ds c k) w.1).1 + worth c (sumW ds w) = val ds c ((getW (bestW ds c k) w.1).2 ++ [w])
          rw [val_app, h2]
    show Val c.h.toNat (k + 1) i (getW (lineW ds c (bestW ds c k) ds.length) i).2 ∧ _ = val ds c (getW (lineW ds c (bestW ds c k) ds.length) i).2
    have e : getW (bestW ds c (k + 1)) i = getW (lineW ds c (bestW ds c k) i) i := line_at ds.length i hi
    rw [line_at ds.length i hi, e]
    exact key i hi
/-- .. and no choice is worth more -/
theorem best_top : ∀ (k i : Nat) (ws : List Win), i ≤ ds.length → Val c.h.toNat k i ws → val ds c ws ≤ (getW (bestW ds c k) i).1
  | 0, i, ws, hi, v => by
    have : ws = [] := List.length_eq_zero_iff.mp (by have := v.len; omega)
    subst this
    rw [(best_sound 0 i hi).2]
    have : (getW (bestW ds c 0) i).2 = [] := List.length_eq_zero_iff.mp (by have := (best_sound (c := c) 0 i hi).1.len; omega)
    rw [this]
    exact Int.le_refl _
  | k + 1, i, ws, hi, v => by
    have key : ∀ i, i ≤ ds.length → ∀ ws, Val c.h.toNat (k + 1) i ws → val ds c ws ≤ (getW (lineW ds c (bestW ds c k) i) i).1 := by
      intro i
      induction i with
      | zero =>
        intro _ ws v
        have : ws = [] := by
          cases ws with
          | nil => rfl
          | cons w ws => have := v.win w List.mem_cons_self; omega
        subst this
        exact best_top k 0 [] (Nat.zero_le _) Val.nil
      | succ i ih =>
        intro hi ws v
        rw [line_step]
        obtain ⟨g1, g2⟩ := keyBest_ge ((wins c.h.toNat i).map fun w => longer ds c (getW (bestW ds c k) w.1) w) (getW (lineW ds c (bestW ds c k) i) i)
        rcases List.eq_nil_or_concat ws with e | ⟨us, w, e⟩
        · subst e
          have := ih (by omega) [] Val.nil
          omega
        · rw [List.concat_eq_append] at e
          subst e
          have hw := v.win w (List.mem_append_right _ (List.mem_singleton.mpr rfl))
          have hp := List.pairwise_append.mp v.row
          by_cases hl : w.2 = i
          · have vu : Val c.h.toNat k w.1 us := ⟨by have := v.len; rw [List.length_append, List.length_singleton] at this; omega, fun u hu => by
              have h1 := v.win u (List.mem_append_left _ hu)
              have h2 := hp.2.2 u hu w (List.mem_singleton.mpr rfl)
              omega, hp.1⟩
            have h1 := best_top k w.1 us (by omega) vu
            have h2 := g2 _ (List.mem_map.mpr ⟨w, mem_wins.mpr ⟨hl, by omega, by omega⟩, rfl⟩)
            rw [val_app]
            have h3 : (longer ds c (getW (bestW ds c k) w.1) w).1 = (getW (bestW ds c k) w.1).1 + worth c (sumW ds w) := rfl
            omega
          · have vi : Val c.h.toNat (k + 1) i (us ++ [w]) := ⟨v.len, fun u hu => by
              have h1 := v.win u hu
              rcases List.mem_append.mp hu with hu | hu
              · have h2 := hp.2.2 u hu w (List.mem_singleton.mpr rfl)
                omega
              · rw [List.mem_singleton.mp hu] at h1 ⊢
                omega, v.row⟩
            have := ih (by omega) _ vi
            omega
    show val ds c ws ≤ (getW (lineW ds c (bestW ds c k) ds.length) i).1
    rw [line_at ds.length i hi]
    exact key i hi ws v
end
end HX
set_option Elab.async false
set_option linter.all false
set_option maxRecDepth 100000
set_option maxHeartbeats 400000
namespace HX
open PySem DL
def Pre (ds : List Int) (i : Nat) : Int := (ds.take i).sum
section
variable {ds : List Int} {c d : Cl}
theorem sumW_eq (w : Win) (h : w.1 ≤ w.2 + 1) : sumW ds w = Pre ds (w.2 + 1) - Pre ds w.1 := by
  unfold sumW Pre
  have e : ds.take (w.2 + 1) = ds.take w.1 ++ (ds.drop w.1).take (w.2 + 1 - w.1) := by
    rw [← List.take_add, show w.1 + (w.2 + 1 - w.1) = w.2 + 1 by omega]
  rw [e, List.sum_append]
  omega
theorem pre_mono (hd : ∀ a ∈ ds, 0 ≤ a) {i j : Nat} (h : i ≤ j) : Pre ds i ≤ Pre ds j := by
  have e : ds.take j = ds.take i ++ (ds.drop i).take (j - i) := by
    rw [← List.take_add, show i + (j - i) = j by omega]
  unfold Pre
  rw [e, List.sum_append]
  have := sum_nn (ds := (ds.drop i).take (j - i)) fun a ha => hd a (List.mem_of_mem_drop (List.mem_of_mem_take ha))
  omega
theorem best_ok : Val c.h.toNat c.c.toNat ds.length (best ds c).2 ∧ (best ds c).1 = val ds c (best ds c).2 := best_sound _ _ (Nat.le_refl _)
theorem best_ge {ws : List Win} (v : Val c.h.toNat c.c.toNat ds.length ws) : val ds c ws ≤ (best ds c).1 := best_top _ _ ws (Nat.le_refl _) v
theorem worth_eq (a : Int) : worth c a = max ((match c.hi with | none => a | some h => min a h) - c.l) 0 := by
  unfold worth
  rw [maxI_eq]
  cases c.hi with
  | none => rfl
  | some h => simp only [minI_eq]
theorem worth_nn (a : Int) : 0 ≤ worth c a := by
  rw [worth_eq]
  omega
theorem worth_more (m : MoreC c d) (a : Int) : worth c a ≤ worth d a := by
  rw [worth_eq, worth_eq]
  have h1 := m.ml
  cases hd : d.hi with
  | none =>
    cases hc : c.hi with
    | none => simp only; omega
    | some u => simp only; omega
  | some v =>
    obtain ⟨u, hu, huv⟩ := m.mhi v hd
    rw [hu]
    simp only
    omega
theorem sum_le {α : Type} (f g : α → Int) : ∀ (l : List α), (∀ x ∈ l, f x ≤ g x) → (l.map f).sum ≤ (l.map g).sum
  | [], _ => Int.le_refl _
  | x :: l, h => by
    rw [List.map_cons, List.map_cons, List.sum_cons, List.sum_cons]
    have h1 := h x List.mem_cons_self
    have h2 := sum_le f g l fun y hy => h y (List.mem_cons_of_mem _ hy)
    omega
theorem m_sound (okc : OkC c) : Sound ds c := by
  obtain ⟨v, e⟩ := best_ok (ds := ds) (c := c)
  have h1 := okc.oh
  have h2 := okc.oc
  refine ⟨⟨by have := v.len; omega, fun w hw => ?_, v.row⟩, e.symm⟩
  have := v.win w hw
  exact ⟨this.1, this.2.1, by omega⟩
theorem m_nn : 0 ≤ (best ds c).1 := best_ge (ws := []) Val.nil
theorem m_more (okc : OkC c) (m : MoreC c d) : (best ds c).1 ≤ (best ds d).1 := by
  obtain ⟨v, e⟩ := best_ok (ds := ds) (c := c)
  have h1 := m.mh
  have h2 := m.mc
  have v2 : Val d.h.toNat d.c.toNat ds.length (best ds c).2 := ⟨by have := v.len; omega, fun w hw => by have := v.win w hw; omega, v.row⟩
  have h3 := best_ge (ds := ds) v2
  rw [e]
  refine Int.le_trans ?_ h3
  exact sum_le _ _ _ fun w _ => worth_more m _
theorem pre_len : Pre ds ds.length = ds.sum := by
  unfold Pre
  rw [List.take_length]
/-- windows apart take no more than all -/
theorem apart_le (hd : ∀ a ∈ ds, 0 ≤ a) {h : Nat} : ∀ (ws : List Win) (m k : Nat), Val h k ds.length ws → (∀ w ∈ ws, m ≤ w.1) → m ≤ ds.length → (ws.map (sumW ds)).sum ≤ Pre ds ds.length - Pre ds m
  | [], m, k, _, _, hm => by
    have := pre_mono hd hm
    show (0 : Int) ≤ _
    omega
  | w :: ws, m, k, v, hw, hm => by
    have h1 := v.win w List.mem_cons_self
    have h2 := List.pairwise_cons.mp v.row
    have h3 := apart_le hd ws (w.2 + 1) k ⟨by have := v.len; rw [List.length_cons] at this; omega, fun u hu => v.win u (List.mem_cons_of_mem _ hu), h2.2⟩ (fun u hu => h2.1 u hu) (by omega)
    have h4 := pre_mono hd (hw w List.mem_cons_self)
    rw [List.map_cons, List.sum_cons, sumW_eq w (by omega)]
    omega
theorem m_full (okd : OkDm ds) (n : Int) (h1 : 1 ≤ n) : (best ds ⟨ds.length, n, 0, none⟩).1 = ds.sum := by
  have hd : ∀ a ∈ ds, 0 ≤ a := fun a ha => (okd.all a ha).1
  have hl := okd.len
  obtain ⟨v, e⟩ := best_ok (ds := ds) (c := ⟨ds.length, n, 0, none⟩)
  have wv : ∀ a : Int, 0 ≤ a → worth ⟨ds.length, n, 0, none⟩ a = a := fun a ha => by
    rw [worth_eq]
    simp only
    omega
  have nn : ∀ w : Win, w.1 ≤ w.2 → 0 ≤ sumW ds w := fun w hw => by
    rw [sumW_eq w (by omega)]
    have := pre_mono hd (show w.1 ≤ w.2 + 1 by omega)
    omega
  refine Int.le_antisymm ?_ ?_
  · rw [e]
    have h2 := apart_le hd _ 0 _ v (fun _ _ => Nat.zero_le _) (Nat.zero_le _)
    rw [pre_len] at h2
    have h3 : Pre ds 0 = 0 := rfl
    have h4 : val ds ⟨ds.length, n, 0, none⟩ (best ds ⟨ds.length, n, 0, none⟩).2 ≤ ((best ds ⟨ds.length, n, 0, none⟩).2.map (sumW ds)).sum :=
      sum_le _ _ _ fun w hw => by rw [wv _ (nn w (v.win w hw).1)]; exact Int.le_refl _
    omega
  · have hv : Val (ds.length : Int).toNat n.toNat ds.length [(0, ds.length - 1)] := ⟨by show 1 ≤ n.toNat; omega, fun w hw => by rw [List.mem_singleton.mp hw]; simp only; omega, List.pairwise_singleton _ _⟩
    have h2 := best_ge (ds := ds) (c := ⟨ds.length, n, 0, none⟩) hv
    have h3 : val ds ⟨ds.length, n, 0, none⟩ [(0, ds.length - 1)] = ds.sum := by
      show worth _ (sumW ds (0, ds.length - 1)) + 0 = _
      rw [wv _ (nn _ (Nat.zero_le _)), sumW_eq _ (Nat.zero_le _)]
      simp only
      rw [show ds.length - 1 + 1 = ds.length by omega, pre_len]
      have : Pre ds 0 = 0 := rfl
      omega
    omega
end
end HX
set_option Elab.async false
set_option linter.all false
set_option maxRecDepth 100000
set_option maxHeartbeats 1000000
/-! a value is the same as itself; the greatest of a list -/
namespace HX
open PySem PySem.Spec PyProof.Rows L2 DL
mutual
theorem sm_refl : ∀ (n : Nat) (d : D), okT n d = true → sm d d = true
  | n, .non, _ => by simp [sm]
  | n, .bl b, _ => by simp [sm]
  | n, .int i, _ => by simp [sm]
  | n, .str x, h => by simp [okT] at h
  | 0, .tup ds, h => by simp [okT] at h
  | n + 1, .tup ds, h => by
    simp only [okT, Bool.and_eq_true] at h
    simpa [sm] using sms_refl n ds h.2
  | 0, .lst ds, h => by simp [okT] at h
  | n + 1, .lst ds, h => by
    simp only [okT, Bool.and_eq_true] at h
    simpa [sm] using sms_refl n ds h.2
  | n, .ref a, h => by simp [okT] at h
  | n, .ty a, h => by simp [okT] at h
  | n, .bowl, h => by simp [okT] at h
  | n, .scr a, h => by simp [okT] at h
theorem sms_refl : ∀ (n : Nat) (ds : List D), okTs n ds = true → sms ds ds = true
  | n, [], _ => by simp [sms]
  | n, d :: ds, h => by
    simp only [okTs, Bool.and_eq_true] at h
    simp [sms, sm_refl n d h.1, sms_refl n ds h.2]
end
section
variable {q : D → Prop} {ep : Ex → Prop}
theorem p_same_eq (a b : D) (e : a = b) (h : okT 5 a = true) (hq : q (.bl true)) : wf__law_same [a, b] q ep := by
  subst e
  refine ⟨_, _, rfl, h, h, ?_⟩
  rw [sm_refl 5 a h]
  exact hq
theorem okT_two {x : D} (h : x = .non ∨ ∃ i : Int, x = .int i) : okT 5 (.lst [x, x]) = true := by
  rcases h with rfl | ⟨i, rfl⟩ <;> simp [okT, okTs]
/-- the greatest of a list -/
theorem max_l (ns : List Int) (m : Int) (hm : m ∈ ns) (hg : ∀ y ∈ ns, y ≤ m) (h : q (.int m)) : fMax [.lst (ns.map .int)] q := by
  refine ⟨ns, rfl, List.length_pos_of_mem hm, fun x hx hge => ?_⟩
  have : x = m := Int.le_antisymm (hg x hx) (hge m hm)
  rw [this]
  exact h
theorem ch_val {ds : List Int} {c : Cl} (okc : OkC c) {ws : List Win} : OkCh ds c ws ↔ Val c.h.toNat c.c.toNat ds.length ws := by
  have h1 := okc.oh
  have h2 := okc.oc
  constructor
  · intro v
    exact ⟨by have := v.len; omega, fun w hw => by have := v.win w hw; unfold okW at this; omega, v.row⟩
  · intro v
    exact ⟨by have := v.len; omega, fun w hw => by have := v.win w hw; unfold okW; omega, v.row⟩
end
end HX
set_option Elab.async false
set_option linter.all false
set_option maxRecDepth 100000
set_option maxHeartbeats 400000
/-! values of any kind in the places of choices -/
namespace HX
open PySem PySem.Spec PyProof.Rows L2 DL
section
variable {q : D → Prop} {ep : Ex → Prop} {c : Cl} {ds : List Int}
theorem p_is_whole_any (d : D) (hd : d.pure = true) (h : q (.bl d.isWhole)) : wf_is_whole [d] q ep := by
  unfold wf_is_whole W_is_whole
  show wRet _ _ [some (.val d)]
  cases d with
  | ty n => cases hd
  | ref a => cases hd
  | bowl => cases hd
  | scr ns => cases hd
  | _ =>
    (try simp only [e_asg, e_ret, e_drop, e_next, e_ifS, e_if, e_test, e_tq, e_and, e_or, e_not, e_andV, e_orV, e_aq1, e_aq0, e_oq1, e_oq0, e_c, e_op, e_neg, e_ngq, e_nil, e_cons, e_call, e_callK, e_cb, e_tup, e_lst, e_sl, e_oN, e_oS, e_soq, e_rev, e_rvq, e_var0, e_varS, e_varB0, e_varBo, e_varBS, e_gn, e_go, e_gt, e_gsc, e_gsn, e_fl_t, e_fl_l, e_fl_s, e_sl_t, e_isN, e_notN, e_max2, e_min2, e_int1, e_abs1, e_tupl, e_lc, e_rng1, e_r1q, e_bowl, e_wipe1, e_for, List.set_cons_succ, List.set_cons_zero, add_ii, sub_ii, mul_ii, fdiv_ii, mod_ii, pow_ii, lt_ii, le_ii, gt_ii, ge_ii, DL.eq_int, DL.ne_int, DL.eq_bl, DL.ne_bl, isi_int_int, isi_int_bool, isi_int_tuple, isi_int_list, isi_bl_int, isi_bl_bool, isi_bl_tuple, isi_bl_list, isi_non_int, isi_non_bool, isi_non_tuple, isi_non_list, isi_tup_int, isi_tup_bool, isi_tup_tuple, isi_tup_list, isi_lst_int, isi_lst_bool, isi_lst_tuple, isi_lst_list, if_true, if_false, Bool.not_true, Bool.not_false, Bool.false_eq_true, decide_true, decide_false, e_chain, ix_t0, ix_t1, ix_t2, ix_t3, ix_l0, ix_l1, ix_last, ixl_last, e_wseqN, e_wsq_t, e_wsq_l, e_enum, e_enq_t, e_enq_l, e_rng2, e_r2q, add_tt, add_ll, cat_ll, list_t, list_l, tuple_t, sl_l, e_wipeL, e_wipeN, isi_str_int, isi_str_bool, isi_str_tuple, isi_str_list, isi_str_str, e_par2, e_par3, e_mval, e_mown, e_owq, e_frz, e_appM, e_callHO, e_maxK, e_mkq, List.getElem?_cons_zero, List.getElem?_cons_succ, e_notV, e_nvq, e_lc2, e_deN, e_deV, e_deO, e_de0, e_put, nn_non, nn_int, nn_bl, nn_str, nn_tup, nn_lst, e_par4, e_ix2, e_put2, e_go2])
    exact h
theorem p_is_between_any (d : D) (a b : Int) (hd : d.pure = true) (h : q (.bl (d.btw a b))) : wf_is_between [d, .int a, .int b] q ep := by
  unfold wf_is_between W_is_between
  show wRet _ _ [some (.val d), some (.val (.int a)), some (.val (.int b))]
  (try simp only [e_asg, e_ret, e_drop, e_next, e_ifS, e_if, e_test, e_tq, e_and, e_or, e_not, e_andV, e_orV, e_aq1, e_aq0, e_oq1, e_oq0, e_c, e_op, e_neg, e_ngq, e_nil, e_cons, e_call, e_callK, e_cb, e_tup, e_lst, e_sl, e_oN, e_oS, e_soq, e_rev, e_rvq, e_var0, e_varS, e_varB0, e_varBo, e_varBS, e_gn, e_go, e_gt, e_gsc, e_gsn, e_fl_t, e_fl_l, e_fl_s, e_sl_t, e_isN, e_notN, e_max2, e_min2, e_int1, e_abs1, e_tupl, e_lc, e_rng1, e_r1q, e_bowl, e_wipe1, e_for, List.set_cons_succ, List.set_cons_zero, add_ii, sub_ii, mul_ii, fdiv_ii, mod_ii, pow_ii, lt_ii, le_ii, gt_ii, ge_ii, DL.eq_int, DL.ne_int, DL.eq_bl, DL.ne_bl, isi_int_int, isi_int_bool, isi_int_tuple, isi_int_list, isi_bl_int, isi_bl_bool, isi_bl_tuple, isi_bl_list, isi_non_int, isi_non_bool, isi_non_tuple, isi_non_list, isi_tup_int, isi_tup_bool, isi_tup_tuple, isi_tup_list, isi_lst_int, isi_lst_bool, isi_lst_tuple, isi_lst_list, if_true, if_false, Bool.not_true, Bool.not_false, Bool.false_eq_true, decide_true, decide_false, e_chain, ix_t0, ix_t1, ix_t2, ix_t3, ix_l0, ix_l1, ix_last, ixl_last, e_wseqN, e_wsq_t, e_wsq_l, e_enum, e_enq_t, e_enq_l, e_rng2, e_r2q, add_tt, add_ll, cat_ll, list_t, list_l, tuple_t, sl_l, e_wipeL, e_wipeN, isi_str_int, isi_str_bool, isi_str_tuple, isi_str_list, isi_str_str, e_par2, e_par3, e_mval, e_mown, e_owq, e_frz, e_appM, e_callHO, e_maxK, e_mkq, List.getElem?_cons_zero, List.getElem?_cons_succ, e_notV, e_nvq, e_lc2, e_deN, e_deV, e_deO, e_de0, e_put, nn_non, nn_int, nn_bl, nn_str, nn_tup, nn_lst, e_par4, e_ix2, e_put2, e_go2])
  refine p_is_whole_any d hd ?_
  cases d with
  | int i =>
    show aq _ _ (.bl true)
    (try simp only [e_asg, e_ret, e_drop, e_next, e_ifS, e_if, e_test, e_tq, e_and, e_or, e_not, e_andV, e_orV, e_aq1, e_aq0, e_oq1, e_oq0, e_c, e_op, e_neg, e_ngq, e_nil, e_cons, e_call, e_callK, e_cb, e_tup, e_lst, e_sl, e_oN, e_oS, e_soq, e_rev, e_rvq, e_var0, e_varS, e_varB0, e_varBo, e_varBS, e_gn, e_go, e_gt, e_gsc, e_gsn, e_fl_t, e_fl_l, e_fl_s, e_sl_t, e_isN, e_notN, e_max2, e_min2, e_int1, e_abs1, e_tupl, e_lc, e_rng1, e_r1q, e_bowl, e_wipe1, e_for, List.set_cons_succ, List.set_cons_zero, add_ii, sub_ii, mul_ii, fdiv_ii, mod_ii, pow_ii, lt_ii, le_ii, gt_ii, ge_ii, DL.eq_int, DL.ne_int, DL.eq_bl, DL.ne_bl, isi_int_int, isi_int_bool, isi_int_tuple, isi_int_list, isi_bl_int, isi_bl_bool, isi_bl_tuple, isi_bl_list, isi_non_int, isi_non_bool, isi_non_tuple, isi_non_list, isi_tup_int, isi_tup_bool, isi_tup_tuple, isi_tup_list, isi_lst_int, isi_lst_bool, isi_lst_tuple, isi_lst_list, if_true, if_false, Bool.not_true, Bool.not_false, Bool.false_eq_true, decide_true, decide_false, e_chain, ix_t0, ix_t1, ix_t2, ix_t3, ix_l0, ix_l1, ix_last, ixl_last, e_wseqN, e_wsq_t, e_wsq_l, e_enum, e_enq_t, e_enq_l, e_rng2, e_r2q, add_tt, add_ll, cat_ll, list_t, list_l, tuple_t, sl_l, e_wipeL, e_wipeN, isi_str_int, isi_str_bool, isi_str_tuple, isi_str_list, isi_str_str, e_par2, e_par3, e_mval, e_mown, e_owq, e_frz, e_appM, e_callHO, e_maxK, e_mkq, List.getElem?_cons_zero, List.getElem?_cons_succ, e_notV, e_nvq, e_lc2, e_deN, e_deV, e_deO, e_de0, e_put, nn_non, nn_int, nn_bl, nn_str, nn_tup, nn_lst, e_par4, e_ix2, e_put2, e_go2])
    rw [D.btw_int] at h
    cases e : decide (a ≤ i) with
    | true => rw [e] at h; simp only [e_asg, e_ret, e_drop, e_next, e_ifS, e_if, e_test, e_tq, e_and, e_or, e_not, e_andV, e_orV, e_aq1, e_aq0, e_oq1, e_oq0, e_c, e_op, e_neg, e_ngq, e_nil, e_cons, e_call, e_callK, e_cb, e_tup, e_lst, e_sl, e_oN, e_oS, e_soq, e_rev, e_rvq, e_var0, e_varS, e_varB0, e_varBo, e_varBS, e_gn, e_go, e_gt, e_gsc, e_gsn, e_fl_t, e_fl_l, e_fl_s, e_sl_t, e_isN, e_notN, e_max2, e_min2, e_int1, e_abs1, e_tupl, e_lc, e_rng1, e_r1q, e_bowl, e_wipe1, e_for, List.set_cons_succ, List.set_cons_zero, add_ii, sub_ii, mul_ii, fdiv_ii, mod_ii, pow_ii, lt_ii, le_ii, gt_ii, ge_ii, DL.eq_int, DL.ne_int, DL.eq_bl, DL.ne_bl, isi_int_int, isi_int_bool, isi_int_tuple, isi_int_list, isi_bl_int, isi_bl_bool, isi_bl_tuple, isi_bl_list, isi_non_int, isi_non_bool, isi_non_tuple, isi_non_list, isi_tup_int, isi_tup_bool, isi_tup_tuple, isi_tup_list, isi_lst_int, isi_lst_bool, isi_lst_tuple, isi_lst_list, if_true, if_false, Bool.not_true, Bool.not_false, Bool.false_eq_true, decide_true, decide_false, e_chain, ix_t0, ix_t1, ix_t2, ix_t3, ix_l0, ix_l1, ix_last, ixl_last, e_wseqN, e_wsq_t, e_wsq_l, e_enum, e_enq_t, e_enq_l, e_rng2, e_r2q, add_tt, add_ll, cat_ll, list_t, list_l, tuple_t, sl_l, e_wipeL, e_wipeN, isi_str_int, isi_str_bool, isi_str_tuple, isi_str_list, isi_str_str, e_par2, e_par3, e_mval, e_mown, e_owq, e_frz, e_appM, e_callHO, e_maxK, e_mkq, List.getElem?_cons_zero, List.getElem?_cons_succ, e_notV, e_nvq, e_lc2, e_deN, e_deV, e_deO, e_de0, e_put, nn_non, nn_int, nn_bl, nn_str, nn_tup, nn_lst, e_par4, e_ix2, e_put2, e_go2]; exact h
    | false => rw [e] at h; simp only [e_asg, e_ret, e_drop, e_next, e_ifS, e_if, e_test, e_tq, e_and, e_or, e_not, e_andV, e_orV, e_aq1, e_aq0, e_oq1, e_oq0, e_c, e_op, e_neg, e_ngq, e_nil, e_cons, e_call, e_callK, e_cb, e_tup, e_lst, e_sl, e_oN, e_oS, e_soq, e_rev, e_rvq, e_var0, e_varS, e_varB0, e_varBo, e_varBS, e_gn, e_go, e_gt, e_gsc, e_gsn, e_fl_t, e_fl_l, e_fl_s, e_sl_t, e_isN, e_notN, e_max2, e_min2, e_int1, e_abs1, e_tupl, e_lc, e_rng1, e_r1q, e_bowl, e_wipe1, e_for, List.set_cons_succ, List.set_cons_zero, add_ii, sub_ii, mul_ii, fdiv_ii, mod_ii, pow_ii, lt_ii, le_ii, gt_ii, ge_ii, DL.eq_int, DL.ne_int, DL.eq_bl, DL.ne_bl, isi_int_int, isi_int_bool, isi_int_tuple, isi_int_list, isi_bl_int, isi_bl_bool, isi_bl_tuple, isi_bl_list, isi_non_int, isi_non_bool, isi_non_tuple, isi_non_list, isi_tup_int, isi_tup_bool, isi_tup_tuple, isi_tup_list, isi_lst_int, isi_lst_bool, isi_lst_tuple, isi_lst_list, if_true, if_false, Bool.not_true, Bool.not_false, Bool.false_eq_true, decide_true, decide_false, e_chain, ix_t0, ix_t1, ix_t2, ix_t3, ix_l0, ix_l1, ix_last, ixl_last, e_wseqN, e_wsq_t, e_wsq_l, e_enum, e_enq_t, e_enq_l, e_rng2, e_r2q, add_tt, add_ll, cat_ll, list_t, list_l, tuple_t, sl_l, e_wipeL, e_wipeN, isi_str_int, isi_str_bool, isi_str_tuple, isi_str_list, isi_str_str, e_par2, e_par3, e_mval, e_mown, e_owq, e_frz, e_appM, e_callHO, e_maxK, e_mkq, List.getElem?_cons_zero, List.getElem?_cons_succ, e_notV, e_nvq, e_lc2, e_deN, e_deV, e_deO, e_de0, e_put, nn_non, nn_int, nn_bl, nn_str, nn_tup, nn_lst, e_par4, e_ix2, e_put2, e_go2]; exact h
  | _ => exact h
theorem p_is_tuple_of_any (d : D) (n : Nat) (hd : d.pure = true) (h : q (.bl (d.tupN n))) : wf_is_tuple_of [d, .int (n : Int)] q ep := by
  unfold wf_is_tuple_of W_is_tuple_of
  show wRet _ _ [some (.val d), some (.val (.int n))]
  cases d with
  | ty n => cases hd
  | ref a => cases hd
  | bowl => cases hd
  | scr ns => cases hd
  | tup xs =>
    (try simp only [e_asg, e_ret, e_drop, e_next, e_ifS, e_if, e_test, e_tq, e_and, e_or, e_not, e_andV, e_orV, e_aq1, e_aq0, e_oq1, e_oq0, e_c, e_op, e_neg, e_ngq, e_nil, e_cons, e_call, e_callK, e_cb, e_tup, e_lst, e_sl, e_oN, e_oS, e_soq, e_rev, e_rvq, e_var0, e_varS, e_varB0, e_varBo, e_varBS, e_gn, e_go, e_gt, e_gsc, e_gsn, e_fl_t, e_fl_l, e_fl_s, e_sl_t, e_isN, e_notN, e_max2, e_min2, e_int1, e_abs1, e_tupl, e_lc, e_rng1, e_r1q, e_bowl, e_wipe1, e_for, List.set_cons_succ, List.set_cons_zero, add_ii, sub_ii, mul_ii, fdiv_ii, mod_ii, pow_ii, lt_ii, le_ii, gt_ii, ge_ii, DL.eq_int, DL.ne_int, DL.eq_bl, DL.ne_bl, isi_int_int, isi_int_bool, isi_int_tuple, isi_int_list, isi_bl_int, isi_bl_bool, isi_bl_tuple, isi_bl_list, isi_non_int, isi_non_bool, isi_non_tuple, isi_non_list, isi_tup_int, isi_tup_bool, isi_tup_tuple, isi_tup_list, isi_lst_int, isi_lst_bool, isi_lst_tuple, isi_lst_list, if_true, if_false, Bool.not_true, Bool.not_false, Bool.false_eq_true, decide_true, decide_false, e_chain, ix_t0, ix_t1, ix_t2, ix_t3, ix_l0, ix_l1, ix_last, ixl_last, e_wseqN, e_wsq_t, e_wsq_l, e_enum, e_enq_t, e_enq_l, e_rng2, e_r2q, add_tt, add_ll, cat_ll, list_t, list_l, tuple_t, sl_l, e_wipeL, e_wipeN, isi_str_int, isi_str_bool, isi_str_tuple, isi_str_list, isi_str_str, e_par2, e_par3, e_mval, e_mown, e_owq, e_frz, e_appM, e_callHO, e_maxK, e_mkq, List.getElem?_cons_zero, List.getElem?_cons_succ, e_notV, e_nvq, e_lc2, e_deN, e_deV, e_deO, e_de0, e_put, nn_non, nn_int, nn_bl, nn_str, nn_tup, nn_lst, e_par4, e_ix2, e_put2, e_go2])
    have e : ((xs.length : Int) == (n : Int)) = (xs.length == n) := by
      by_cases z : xs.length = n
      · rw [z, beq_self_eq_true, beq_self_eq_true]
      · rw [beq_eq_false_iff_ne.mpr z, beq_eq_false_iff_ne.mpr (by omega)]
    rw [e]
    exact h
  | _ =>
    (try simp only [e_asg, e_ret, e_drop, e_next, e_ifS, e_if, e_test, e_tq, e_and, e_or, e_not, e_andV, e_orV, e_aq1, e_aq0, e_oq1, e_oq0, e_c, e_op, e_neg, e_ngq, e_nil, e_cons, e_call, e_callK, e_cb, e_tup, e_lst, e_sl, e_oN, e_oS, e_soq, e_rev, e_rvq, e_var0, e_varS, e_varB0, e_varBo, e_varBS, e_gn, e_go, e_gt, e_gsc, e_gsn, e_fl_t, e_fl_l, e_fl_s, e_sl_t, e_isN, e_notN, e_max2, e_min2, e_int1, e_abs1, e_tupl, e_lc, e_rng1, e_r1q, e_bowl, e_wipe1, e_for, List.set_cons_succ, List.set_cons_zero, add_ii, sub_ii, mul_ii, fdiv_ii, mod_ii, pow_ii, lt_ii, le_ii, gt_ii, ge_ii, DL.eq_int, DL.ne_int, DL.eq_bl, DL.ne_bl, isi_int_int, isi_int_bool, isi_int_tuple, isi_int_list, isi_bl_int, isi_bl_bool, isi_bl_tuple, isi_bl_list, isi_non_int, isi_non_bool, isi_non_tuple, isi_non_list, isi_tup_int, isi_tup_bool, isi_tup_tuple, isi_tup_list, isi_lst_int, isi_lst_bool, isi_lst_tuple, isi_lst_list, if_true, if_false, Bool.not_true, Bool.not_false, Bool.false_eq_true, decide_true, decide_false, e_chain, ix_t0, ix_t1, ix_t2, ix_t3, ix_l0, ix_l1, ix_last, ixl_last, e_wseqN, e_wsq_t, e_wsq_l, e_enum, e_enq_t, e_enq_l, e_rng2, e_r2q, add_tt, add_ll, cat_ll, list_t, list_l, tuple_t, sl_l, e_wipeL, e_wipeN, isi_str_int, isi_str_bool, isi_str_tuple, isi_str_list, isi_str_str, e_par2, e_par3, e_mval, e_mown, e_owq, e_frz, e_appM, e_callHO, e_maxK, e_mkq, List.getElem?_cons_zero, List.getElem?_cons_succ, e_notV, e_nvq, e_lc2, e_deN, e_deV, e_deO, e_de0, e_put, nn_non, nn_int, nn_bl, nn_str, nn_tup, nn_lst, e_par4, e_ix2, e_put2, e_go2])
    exact h
theorem tupN2 {d : D} (h : d.tupN 2 = true) : ∃ a b, d = .tup [a, b] := by
  cases d with
  | tup xs =>
    have : xs.length = 2 := by simpa [D.tupN] using h
    match xs, this with
    | [a, b], _ => exact ⟨a, b, rfl⟩
  | _ => cases h
/-- a window among n hours, of at most h -/
def isWin (n h : Int) : D → Bool
  | .tup [.int i, .int j] => decide (0 ≤ i) && decide (i ≤ n - 1) && (decide (i ≤ j) && decide (j ≤ n - 1)) && decide (j - i < h)
  | _ => false
theorem isWin_of {n h : Int} {d : D} (e : isWin n h d = true) : ∃ w : Win, d = winD w ∧ w.1 ≤ w.2 ∧ (w.2 : Int) < n ∧ (w.2 : Int) - w.1 < h := by
  unfold isWin at e
  split at e
  · rename_i i j
    simp only [Bool.and_eq_true, decide_eq_true_eq] at e
    obtain ⟨a, ha⟩ : ∃ a : Nat, i = (a : Int) := ⟨i.toNat, by omega⟩
    obtain ⟨b, hb⟩ : ∃ b : Nat, j = (b : Int) := ⟨j.toNat, by omega⟩
    subst ha hb
    exact ⟨(a, b), rfl, by show a ≤ b; omega, by show (b : Int) < n; omega, by show (b : Int) - a < h; omega⟩
  · cases e
theorem isWin_win {n h : Int} {w : Win} (h1 : w.1 ≤ w.2) (h2 : (w.2 : Int) < n) (h3 : (w.2 : Int) - w.1 < h) : isWin n h (winD w) = true := by
  show (decide ((0 : Int) ≤ w.1) && decide ((w.1 : Int) ≤ n - 1) && (decide ((w.1 : Int) ≤ w.2) && decide ((w.2 : Int) ≤ n - 1)) && decide ((w.2 : Int) - w.1 < h)) = true
  simp only [Bool.and_eq_true, decide_eq_true_eq]
  omega
/-- the first thing that is wrong -/
def firstBad (r : List D → D → Bool) (most : Int) : List D → List D → D
  | _, [] => .lst []
  | ahead, x :: xs => if ((ahead.length : Int) == most || !(r ahead x)) = true then .lst [.int (ahead.length : Int)] else firstBad r most (ahead ++ [x]) xs
def wrongIn (r : List D → D → Bool) (least most : Int) : D → D
  | .tup xs => if (xs.length : Int) < least then .lst [.non] else firstBad r most [] xs
  | _ => .lst [.non]
theorem p_wrong_in_any {wl : WF} {d : D} {least most : Int} (r : List D → D → Bool) (hd : d.pure = true)
    (hw : ∀ (ahead : List D) (x : D) (rest : List D) (k : D → Prop), d = .tup (ahead ++ x :: rest) → (ahead.length : Int) ≠ most → (∀ pre y post, ahead = pre ++ y :: post → r pre y = true) → k (.bl (r ahead x)) → wl [.tup ahead, x] k ep)
    (h : q (wrongIn r least most d)) : wf_wrong_in wl [d, .int least, .int most] q ep := by
  intro fa
  unfold W_wrong_in
  show wSeq _ _ _ [some (.val d), some (.val (.int least)), some (.val (.int most)), some (.val (.ref fa)), none, none]
  refine seq_step fun KK hKK => ?_
  cases d with
  | ty n => cases hd
  | ref a => cases hd
  | bowl => cases hd
  | scr ns => cases hd
  | tup xs =>
    (try simp only [e_asg, e_ret, e_drop, e_next, e_ifS, e_if, e_test, e_tq, e_and, e_or, e_not, e_andV, e_orV, e_aq1, e_aq0, e_oq1, e_oq0, e_c, e_op, e_neg, e_ngq, e_nil, e_cons, e_call, e_callK, e_cb, e_tup, e_lst, e_sl, e_oN, e_oS, e_soq, e_rev, e_rvq, e_var0, e_varS, e_varB0, e_varBo, e_varBS, e_gn, e_go, e_gt, e_gsc, e_gsn, e_fl_t, e_fl_l, e_fl_s, e_sl_t, e_isN, e_notN, e_max2, e_min2, e_int1, e_abs1, e_tupl, e_lc, e_rng1, e_r1q, e_bowl, e_wipe1, e_for, List.set_cons_succ, List.set_cons_zero, add_ii, sub_ii, mul_ii, fdiv_ii, mod_ii, pow_ii, lt_ii, le_ii, gt_ii, ge_ii, DL.eq_int, DL.ne_int, DL.eq_bl, DL.ne_bl, isi_int_int, isi_int_bool, isi_int_tuple, isi_int_list, isi_bl_int, isi_bl_bool, isi_bl_tuple, isi_bl_list, isi_non_int, isi_non_bool, isi_non_tuple, isi_non_list, isi_tup_int, isi_tup_bool, isi_tup_tuple, isi_tup_list, isi_lst_int, isi_lst_bool, isi_lst_tuple, isi_lst_list, if_true, if_false, Bool.not_true, Bool.not_false, Bool.false_eq_true, decide_true, decide_false, e_chain, ix_t0, ix_t1, ix_t2, ix_t3, ix_l0, ix_l1, ix_last, ixl_last, e_wseqN, e_wsq_t, e_wsq_l, e_enum, e_enq_t, e_enq_l, e_rng2, e_r2q, add_tt, add_ll, cat_ll, list_t, list_l, tuple_t, sl_l, e_wipeL, e_wipeN, isi_str_int, isi_str_bool, isi_str_tuple, isi_str_list, isi_str_str, e_par2, e_par3, e_mval, e_mown, e_owq, e_frz, e_appM, e_callHO, e_maxK, e_mkq, List.getElem?_cons_zero, List.getElem?_cons_succ, e_notV, e_nvq, e_lc2, e_deN, e_deV, e_deO, e_de0, e_put, nn_non, nn_int, nn_bl, nn_str, nn_tup, nn_lst, e_par4, e_ix2, e_put2, e_go2])
    by_cases hl : (xs.length : Int) < least
    · rw [decide_eq_true hl]
      (try simp only [e_asg, e_ret, e_drop, e_next, e_ifS, e_if, e_test, e_tq, e_and, e_or, e_not, e_andV, e_orV, e_aq1, e_aq0, e_oq1, e_oq0, e_c, e_op, e_neg, e_ngq, e_nil, e_cons, e_call, e_callK, e_cb, e_tup, e_lst, e_sl, e_oN, e_oS, e_soq, e_rev, e_rvq, e_var0, e_varS, e_varB0, e_varBo, e_varBS, e_gn, e_go, e_gt, e_gsc, e_gsn, e_fl_t, e_fl_l, e_fl_s, e_sl_t, e_isN, e_notN, e_max2, e_min2, e_int1, e_abs1, e_tupl, e_lc, e_rng1, e_r1q, e_bowl, e_wipe1, e_for, List.set_cons_succ, List.set_cons_zero, add_ii, sub_ii, mul_ii, fdiv_ii, mod_ii, pow_ii, lt_ii, le_ii, gt_ii, ge_ii, DL.eq_int, DL.ne_int, DL.eq_bl, DL.ne_bl, isi_int_int, isi_int_bool, isi_int_tuple, isi_int_list, isi_bl_int, isi_bl_bool, isi_bl_tuple, isi_bl_list, isi_non_int, isi_non_bool, isi_non_tuple, isi_non_list, isi_tup_int, isi_tup_bool, isi_tup_tuple, isi_tup_list, isi_lst_int, isi_lst_bool, isi_lst_tuple, isi_lst_list, if_true, if_false, Bool.not_true, Bool.not_false, Bool.false_eq_true, decide_true, decide_false, e_chain, ix_t0, ix_t1, ix_t2, ix_t3, ix_l0, ix_l1, ix_last, ixl_last, e_wseqN, e_wsq_t, e_wsq_l, e_enum, e_enq_t, e_enq_l, e_rng2, e_r2q, add_tt, add_ll, cat_ll, list_t, list_l, tuple_t, sl_l, e_wipeL, e_wipeN, isi_str_int, isi_str_bool, isi_str_tuple, isi_str_list, isi_str_str, e_par2, e_par3, e_mval, e_mown, e_owq, e_frz, e_appM, e_callHO, e_maxK, e_mkq, List.getElem?_cons_zero, List.getElem?_cons_succ, e_notV, e_nvq, e_lc2, e_deN, e_deV, e_deO, e_de0, e_put, nn_non, nn_int, nn_bl, nn_str, nn_tup, nn_lst, e_par4, e_ix2, e_put2, e_go2])
      have e : wrongIn r least most (.tup xs) = .lst [.non] := if_pos hl
      rw [e] at h
      exact ⟨by show 1 ≤ 16777216; omega, h⟩
    · rw [decide_eq_false hl]
      (try simp only [e_asg, e_ret, e_drop, e_next, e_ifS, e_if, e_test, e_tq, e_and, e_or, e_not, e_andV, e_orV, e_aq1, e_aq0, e_oq1, e_oq0, e_c, e_op, e_neg, e_ngq, e_nil, e_cons, e_call, e_callK, e_cb, e_tup, e_lst, e_sl, e_oN, e_oS, e_soq, e_rev, e_rvq, e_var0, e_varS, e_varB0, e_varBo, e_varBS, e_gn, e_go, e_gt, e_gsc, e_gsn, e_fl_t, e_fl_l, e_fl_s, e_sl_t, e_isN, e_notN, e_max2, e_min2, e_int1, e_abs1, e_tupl, e_lc, e_rng1, e_r1q, e_bowl, e_wipe1, e_for, List.set_cons_succ, List.set_cons_zero, add_ii, sub_ii, mul_ii, fdiv_ii, mod_ii, pow_ii, lt_ii, le_ii, gt_ii, ge_ii, DL.eq_int, DL.ne_int, DL.eq_bl, DL.ne_bl, isi_int_int, isi_int_bool, isi_int_tuple, isi_int_list, isi_bl_int, isi_bl_bool, isi_bl_tuple, isi_bl_list, isi_non_int, isi_non_bool, isi_non_tuple, isi_non_list, isi_tup_int, isi_tup_bool, isi_tup_tuple, isi_tup_list, isi_lst_int, isi_lst_bool, isi_lst_tuple, isi_lst_list, if_true, if_false, Bool.not_true, Bool.not_false, Bool.false_eq_true, decide_true, decide_false, e_chain, ix_t0, ix_t1, ix_t2, ix_t3, ix_l0, ix_l1, ix_last, ixl_last, e_wseqN, e_wsq_t, e_wsq_l, e_enum, e_enq_t, e_enq_l, e_rng2, e_r2q, add_tt, add_ll, cat_ll, list_t, list_l, tuple_t, sl_l, e_wipeL, e_wipeN, isi_str_int, isi_str_bool, isi_str_tuple, isi_str_list, isi_str_str, e_par2, e_par3, e_mval, e_mown, e_owq, e_frz, e_appM, e_callHO, e_maxK, e_mkq, List.getElem?_cons_zero, List.getElem?_cons_succ, e_notV, e_nvq, e_lc2, e_deN, e_deV, e_deO, e_de0, e_put, nn_non, nn_int, nn_bl, nn_str, nn_tup, nn_lst, e_par4, e_ix2, e_put2, e_go2])
      have e : wrongIn r least most (.tup xs) = firstBad r most [] xs := if_neg hl
      rw [e] at h
      refine hKK _ ?_
      refine seq_step fun KK2 hKK2 => ?_
      unfold wFor
      (try simp only [e_asg, e_ret, e_drop, e_next, e_ifS, e_if, e_test, e_tq, e_and, e_or, e_not, e_andV, e_orV, e_aq1, e_aq0, e_oq1, e_oq0, e_c, e_op, e_neg, e_ngq, e_nil, e_cons, e_call, e_callK, e_cb, e_tup, e_lst, e_sl, e_oN, e_oS, e_soq, e_rev, e_rvq, e_var0, e_varS, e_varB0, e_varBo, e_varBS, e_gn, e_go, e_gt, e_gsc, e_gsn, e_fl_t, e_fl_l, e_fl_s, e_sl_t, e_isN, e_notN, e_max2, e_min2, e_int1, e_abs1, e_tupl, e_lc, e_rng1, e_r1q, e_bowl, e_wipe1, e_for, List.set_cons_succ, List.set_cons_zero, add_ii, sub_ii, mul_ii, fdiv_ii, mod_ii, pow_ii, lt_ii, le_ii, gt_ii, ge_ii, DL.eq_int, DL.ne_int, DL.eq_bl, DL.ne_bl, isi_int_int, isi_int_bool, isi_int_tuple, isi_int_list, isi_bl_int, isi_bl_bool, isi_bl_tuple, isi_bl_list, isi_non_int, isi_non_bool, isi_non_tuple, isi_non_list, isi_tup_int, isi_tup_bool, isi_tup_tuple, isi_tup_list, isi_lst_int, isi_lst_bool, isi_lst_tuple, isi_lst_list, if_true, if_false, Bool.not_true, Bool.not_false, Bool.false_eq_true, decide_true, decide_false, e_chain, ix_t0, ix_t1, ix_t2, ix_t3, ix_l0, ix_l1, ix_last, ixl_last, e_wseqN, e_wsq_t, e_wsq_l, e_enum, e_enq_t, e_enq_l, e_rng2, e_r2q, add_tt, add_ll, cat_ll, list_t, list_l, tuple_t, sl_l, e_wipeL, e_wipeN, isi_str_int, isi_str_bool, isi_str_tuple, isi_str_list, isi_str_str, e_par2, e_par3, e_mval, e_mown, e_owq, e_frz, e_appM, e_callHO, e_maxK, e_mkq, List.getElem?_cons_zero, List.getElem?_cons_succ, e_notV, e_nvq, e_lc2, e_deN, e_deV, e_deO, e_de0, e_put, nn_non, nn_int, nn_bl, nn_str, nn_tup, nn_lst, e_par4, e_ix2, e_put2, e_go2])
      refine for_run (fun i ρ => ∃ a b, ρ = [some (.val (.tup xs)), some (.val (.int least)), some (.val (.int most)), some (.val (.ref fa)), a, b] ∧ q (firstBad r most (xs.take i) (xs.drop i)) ∧ ∀ pre y post, xs.take i = pre ++ y :: post → r pre y = true) _ 0 _ ⟨none, none, rfl, h, fun pre y post z => by rw [List.take_zero] at z; exact absurd z (by simp)⟩ ?_ ?_
      · rintro i d ρ K hx0 ⟨a, b, rfl, hq, hp⟩ hK
        obtain ⟨x, hx, rfl⟩ := enumD_get2 _ _ _ _ hx0
        clear hx0
        have hi : i < xs.length := (List.getElem?_eq_some_iff.mp hx).1
        rw [Nat.zero_add] at hq hp hK ⊢
        have ht : (xs.take i).length = i := by rw [List.length_take]; omega
        have hdr : xs.drop i = x :: xs.drop (i + 1) := by
          rw [List.drop_eq_getElem_cons hi, (List.getElem?_eq_some_iff.mp hx).2]
        have hxs : xs = xs.take i ++ x :: xs.drop (i + 1) := by rw [← hdr, List.take_append_drop]
        have hts : xs.take (i + 1) = xs.take i ++ [x] := by rw [List.take_succ, hx]; rfl
        rw [hdr] at hq
        unfold firstBad at hq
        rw [ht] at hq
        (try simp only [e_asg, e_ret, e_drop, e_next, e_ifS, e_if, e_test, e_tq, e_and, e_or, e_not, e_andV, e_orV, e_aq1, e_aq0, e_oq1, e_oq0, e_c, e_op, e_neg, e_ngq, e_nil, e_cons, e_call, e_callK, e_cb, e_tup, e_lst, e_sl, e_oN, e_oS, e_soq, e_rev, e_rvq, e_var0, e_varS, e_varB0, e_varBo, e_varBS, e_gn, e_go, e_gt, e_gsc, e_gsn, e_fl_t, e_fl_l, e_fl_s, e_sl_t, e_isN, e_notN, e_max2, e_min2, e_int1, e_abs1, e_tupl, e_lc, e_rng1, e_r1q, e_bowl, e_wipe1, e_for, List.set_cons_succ, List.set_cons_zero, add_ii, sub_ii, mul_ii, fdiv_ii, mod_ii, pow_ii, lt_ii, le_ii, gt_ii, ge_ii, DL.eq_int, DL.ne_int, DL.eq_bl, DL.ne_bl, isi_int_int, isi_int_bool, isi_int_tuple, isi_int_list, isi_bl_int, isi_bl_bool, isi_bl_tuple, isi_bl_list, isi_non_int, isi_non_bool, isi_non_tuple, isi_non_list, isi_tup_int, isi_tup_bool, isi_tup_tuple, isi_tup_list, isi_lst_int, isi_lst_bool, isi_lst_tuple, isi_lst_list, if_true, if_false, Bool.not_true, Bool.not_false, Bool.false_eq_true, decide_true, decide_false, e_chain, ix_t0, ix_t1, ix_t2, ix_t3, ix_l0, ix_l1, ix_last, ixl_last, e_wseqN, e_wsq_t, e_wsq_l, e_enum, e_enq_t, e_enq_l, e_rng2, e_r2q, add_tt, add_ll, cat_ll, list_t, list_l, tuple_t, sl_l, e_wipeL, e_wipeN, isi_str_int, isi_str_bool, isi_str_tuple, isi_str_list, isi_str_str, e_par2, e_par3, e_mval, e_mown, e_owq, e_frz, e_appM, e_callHO, e_maxK, e_mkq, List.getElem?_cons_zero, List.getElem?_cons_succ, e_notV, e_nvq, e_lc2, e_deN, e_deV, e_deO, e_de0, e_put, nn_non, nn_int, nn_bl, nn_str, nn_tup, nn_lst, e_par4, e_ix2, e_put2, e_go2])
        cases em : ((i : Int) == most) with
        | true =>
          rw [em, Bool.true_or, if_pos rfl] at hq
          (try simp only [e_asg, e_ret, e_drop, e_next, e_ifS, e_if, e_test, e_tq, e_and, e_or, e_not, e_andV, e_orV, e_aq1, e_aq0, e_oq1, e_oq0, e_c, e_op, e_neg, e_ngq, e_nil, e_cons, e_call, e_callK, e_cb, e_tup, e_lst, e_sl, e_oN, e_oS, e_soq, e_rev, e_rvq, e_var0, e_varS, e_varB0, e_varBo, e_varBS, e_gn, e_go, e_gt, e_gsc, e_gsn, e_fl_t, e_fl_l, e_fl_s, e_sl_t, e_isN, e_notN, e_max2, e_min2, e_int1, e_abs1, e_tupl, e_lc, e_rng1, e_r1q, e_bowl, e_wipe1, e_for, List.set_cons_succ, List.set_cons_zero, add_ii, sub_ii, mul_ii, fdiv_ii, mod_ii, pow_ii, lt_ii, le_ii, gt_ii, ge_ii, DL.eq_int, DL.ne_int, DL.eq_bl, DL.ne_bl, isi_int_int, isi_int_bool, isi_int_tuple, isi_int_list, isi_bl_int, isi_bl_bool, isi_bl_tuple, isi_bl_list, isi_non_int, isi_non_bool, isi_non_tuple, isi_non_list, isi_tup_int, isi_tup_bool, isi_tup_tuple, isi_tup_list, isi_lst_int, isi_lst_bool, isi_lst_tuple, isi_lst_list, if_true, if_false, Bool.not_true, Bool.not_false, Bool.false_eq_true, decide_true, decide_false, e_chain, ix_t0, ix_t1, ix_t2, ix_t3, ix_l0, ix_l1, ix_last, ixl_last, e_wseqN, e_wsq_t, e_wsq_l, e_enum, e_enq_t, e_enq_l, e_rng2, e_r2q, add_tt, add_ll, cat_ll, list_t, list_l, tuple_t, sl_l, e_wipeL, e_wipeN, isi_str_int, isi_str_bool, isi_str_tuple, isi_str_list, isi_str_str, e_par2, e_par3, e_mval, e_mown, e_owq, e_frz, e_appM, e_callHO, e_maxK, e_mkq, List.getElem?_cons_zero, List.getElem?_cons_succ, e_notV, e_nvq, e_lc2, e_deN, e_deV, e_deO, e_de0, e_put, nn_non, nn_int, nn_bl, nn_str, nn_tup, nn_lst, e_par4, e_ix2, e_put2, e_go2])
          exact ⟨by show 1 ≤ 16777216; omega, hq⟩
        | false =>
          rw [em, Bool.false_or] at hq
          (try simp only [e_asg, e_ret, e_drop, e_next, e_ifS, e_if, e_test, e_tq, e_and, e_or, e_not, e_andV, e_orV, e_aq1, e_aq0, e_oq1, e_oq0, e_c, e_op, e_neg, e_ngq, e_nil, e_cons, e_call, e_callK, e_cb, e_tup, e_lst, e_sl, e_oN, e_oS, e_soq, e_rev, e_rvq, e_var0, e_varS, e_varB0, e_varBo, e_varBS, e_gn, e_go, e_gt, e_gsc, e_gsn, e_fl_t, e_fl_l, e_fl_s, e_sl_t, e_isN, e_notN, e_max2, e_min2, e_int1, e_abs1, e_tupl, e_lc, e_rng1, e_r1q, e_bowl, e_wipe1, e_for, List.set_cons_succ, List.set_cons_zero, add_ii, sub_ii, mul_ii, fdiv_ii, mod_ii, pow_ii, lt_ii, le_ii, gt_ii, ge_ii, DL.eq_int, DL.ne_int, DL.eq_bl, DL.ne_bl, isi_int_int, isi_int_bool, isi_int_tuple, isi_int_list, isi_bl_int, isi_bl_bool, isi_bl_tuple, isi_bl_list, isi_non_int, isi_non_bool, isi_non_tuple, isi_non_list, isi_tup_int, isi_tup_bool, isi_tup_tuple, isi_tup_list, isi_lst_int, isi_lst_bool, isi_lst_tuple, isi_lst_list, if_true, if_false, Bool.not_true, Bool.not_false, Bool.false_eq_true, decide_true, decide_false, e_chain, ix_t0, ix_t1, ix_t2, ix_t3, ix_l0, ix_l1, ix_last, ixl_last, e_wseqN, e_wsq_t, e_wsq_l, e_enum, e_enq_t, e_enq_l, e_rng2, e_r2q, add_tt, add_ll, cat_ll, list_t, list_l, tuple_t, sl_l, e_wipeL, e_wipeN, isi_str_int, isi_str_bool, isi_str_tuple, isi_str_list, isi_str_str, e_par2, e_par3, e_mval, e_mown, e_owq, e_frz, e_appM, e_callHO, e_maxK, e_mkq, List.getElem?_cons_zero, List.getElem?_cons_succ, e_notV, e_nvq, e_lc2, e_deN, e_deV, e_deO, e_de0, e_put, nn_non, nn_int, nn_bl, nn_str, nn_tup, nn_lst, e_par4, e_ix2, e_put2, e_go2])
          refine ⟨rfl, ?_⟩
          (try simp only [e_asg, e_ret, e_drop, e_next, e_ifS, e_if, e_test, e_tq, e_and, e_or, e_not, e_andV, e_orV, e_aq1, e_aq0, e_oq1, e_oq0, e_c, e_op, e_neg, e_ngq, e_nil, e_cons, e_call, e_callK, e_cb, e_tup, e_lst, e_sl, e_oN, e_oS, e_soq, e_rev, e_rvq, e_var0, e_varS, e_varB0, e_varBo, e_varBS, e_gn, e_go, e_gt, e_gsc, e_gsn, e_fl_t, e_fl_l, e_fl_s, e_sl_t, e_isN, e_notN, e_max2, e_min2, e_int1, e_abs1, e_tupl, e_lc, e_rng1, e_r1q, e_bowl, e_wipe1, e_for, List.set_cons_succ, List.set_cons_zero, add_ii, sub_ii, mul_ii, fdiv_ii, mod_ii, pow_ii, lt_ii, le_ii, gt_ii, ge_ii, DL.eq_int, DL.ne_int, DL.eq_bl, DL.ne_bl, isi_int_int, isi_int_bool, isi_int_tuple, isi_int_list, isi_bl_int, isi_bl_bool, isi_bl_tuple, isi_bl_list, isi_non_int, isi_non_bool, isi_non_tuple, isi_non_list, isi_tup_int, isi_tup_bool, isi_tup_tuple, isi_tup_list, isi_lst_int, isi_lst_bool, isi_lst_tuple, isi_lst_list, if_true, if_false, Bool.not_true, Bool.not_false, Bool.false_eq_true, decide_true, decide_false, e_chain, ix_t0, ix_t1, ix_t2, ix_t3, ix_l0, ix_l1, ix_last, ixl_last, e_wseqN, e_wsq_t, e_wsq_l, e_enum, e_enq_t, e_enq_l, e_rng2, e_r2q, add_tt, add_ll, cat_ll, list_t, list_l, tuple_t, sl_l, e_wipeL, e_wipeN, isi_str_int, isi_str_bool, isi_str_tuple, isi_str_list, isi_str_str, e_par2, e_par3, e_mval, e_mown, e_owq, e_frz, e_appM, e_callHO, e_maxK, e_mkq, List.getElem?_cons_zero, List.getElem?_cons_succ, e_notV, e_nvq, e_lc2, e_deN, e_deV, e_deO, e_de0, e_put, nn_non, nn_int, nn_bl, nn_str, nn_tup, nn_lst, e_par4, e_ix2, e_put2, e_go2])
          rw [cut_to]
          refine hw (xs.take i) x (xs.drop (i + 1)) _ (congrArg D.tup hxs) (by rw [ht]; exact beq_eq_false_iff_ne.mp em) hp ?_
          cases er : r (xs.take i) x with
          | false =>
            rw [er] at hq
            (try simp only [e_asg, e_ret, e_drop, e_next, e_ifS, e_if, e_test, e_tq, e_and, e_or, e_not, e_andV, e_orV, e_aq1, e_aq0, e_oq1, e_oq0, e_c, e_op, e_neg, e_ngq, e_nil, e_cons, e_call, e_callK, e_cb, e_tup, e_lst, e_sl, e_oN, e_oS, e_soq, e_rev, e_rvq, e_var0, e_varS, e_varB0, e_varBo, e_varBS, e_gn, e_go, e_gt, e_gsc, e_gsn, e_fl_t, e_fl_l, e_fl_s, e_sl_t, e_isN, e_notN, e_max2, e_min2, e_int1, e_abs1, e_tupl, e_lc, e_rng1, e_r1q, e_bowl, e_wipe1, e_for, List.set_cons_succ, List.set_cons_zero, add_ii, sub_ii, mul_ii, fdiv_ii, mod_ii, pow_ii, lt_ii, le_ii, gt_ii, ge_ii, DL.eq_int, DL.ne_int, DL.eq_bl, DL.ne_bl, isi_int_int, isi_int_bool, isi_int_tuple, isi_int_list, isi_bl_int, isi_bl_bool, isi_bl_tuple, isi_bl_list, isi_non_int, isi_non_bool, isi_non_tuple, isi_non_list, isi_tup_int, isi_tup_bool, isi_tup_tuple, isi_tup_list, isi_lst_int, isi_lst_bool, isi_lst_tuple, isi_lst_list, if_true, if_false, Bool.not_true, Bool.not_false, Bool.false_eq_true, decide_true, decide_false, e_chain, ix_t0, ix_t1, ix_t2, ix_t3, ix_l0, ix_l1, ix_last, ixl_last, e_wseqN, e_wsq_t, e_wsq_l, e_enum, e_enq_t, e_enq_l, e_rng2, e_r2q, add_tt, add_ll, cat_ll, list_t, list_l, tuple_t, sl_l, e_wipeL, e_wipeN, isi_str_int, isi_str_bool, isi_str_tuple, isi_str_list, isi_str_str, e_par2, e_par3, e_mval, e_mown, e_owq, e_frz, e_appM, e_callHO, e_maxK, e_mkq, List.getElem?_cons_zero, List.getElem?_cons_succ, e_notV, e_nvq, e_lc2, e_deN, e_deV, e_deO, e_de0, e_put, nn_non, nn_int, nn_bl, nn_str, nn_tup, nn_lst, e_par4, e_ix2, e_put2, e_go2])
            exact ⟨by show 1 ≤ 16777216; omega, hq⟩
          | true =>
            rw [er, if_neg (by simp)] at hq
            (try simp only [e_asg, e_ret, e_drop, e_next, e_ifS, e_if, e_test, e_tq, e_and, e_or, e_not, e_andV, e_orV, e_aq1, e_aq0, e_oq1, e_oq0, e_c, e_op, e_neg, e_ngq, e_nil, e_cons, e_call, e_callK, e_cb, e_tup, e_lst, e_sl, e_oN, e_oS, e_soq, e_rev, e_rvq, e_var0, e_varS, e_varB0, e_varBo, e_varBS, e_gn, e_go, e_gt, e_gsc, e_gsn, e_fl_t, e_fl_l, e_fl_s, e_sl_t, e_isN, e_notN, e_max2, e_min2, e_int1, e_abs1, e_tupl, e_lc, e_rng1, e_r1q, e_bowl, e_wipe1, e_for, List.set_cons_succ, List.set_cons_zero, add_ii, sub_ii, mul_ii, fdiv_ii, mod_ii, pow_ii, lt_ii, le_ii, gt_ii, ge_ii, DL.eq_int, DL.ne_int, DL.eq_bl, DL.ne_bl, isi_int_int, isi_int_bool, isi_int_tuple, isi_int_list, isi_bl_int, isi_bl_bool, isi_bl_tuple, isi_bl_list, isi_non_int, isi_non_bool, isi_non_tuple, isi_non_list, isi_tup_int, isi_tup_bool, isi_tup_tuple, isi_tup_list, isi_lst_int, isi_lst_bool, isi_lst_tuple, isi_lst_list, if_true, if_false, Bool.not_true, Bool.not_false, Bool.false_eq_true, decide_true, decide_false, e_chain, ix_t0, ix_t1, ix_t2, ix_t3, ix_l0, ix_l1, ix_last, ixl_last, e_wseqN, e_wsq_t, e_wsq_l, e_enum, e_enq_t, e_enq_l, e_rng2, e_r2q, add_tt, add_ll, cat_ll, list_t, list_l, tuple_t, sl_l, e_wipeL, e_wipeN, isi_str_int, isi_str_bool, isi_str_tuple, isi_str_list, isi_str_str, e_par2, e_par3, e_mval, e_mown, e_owq, e_frz, e_appM, e_callHO, e_maxK, e_mkq, List.getElem?_cons_zero, List.getElem?_cons_succ, e_notV, e_nvq, e_lc2, e_deN, e_deV, e_deO, e_de0, e_put, nn_non, nn_int, nn_bl, nn_str, nn_tup, nn_lst, e_par4, e_ix2, e_put2, e_go2])
            refine hK _ ⟨_, _, rfl, by rw [hts]; exact hq, fun pre y post z => ?_⟩
            rw [hts] at z
            rcases List.eq_nil_or_concat post with rfl | ⟨post', l, rfl⟩
            · obtain ⟨z1, z2⟩ := List.append_inj' z rfl
              cases z2
              rw [← z1]
              exact er
            · refine hp pre y post' ?_
              rw [show pre ++ y :: post'.concat l = (pre ++ y :: post') ++ [l] by simp] at z
              exact (List.append_inj' z rfl).1
      · rintro ρ ⟨a, b, rfl, hq, hp⟩
        rw [Nat.zero_add, enumD_length, List.drop_length] at hq
        refine hKK2 _ ?_
        (try simp only [e_asg, e_ret, e_drop, e_next, e_ifS, e_if, e_test, e_tq, e_and, e_or, e_not, e_andV, e_orV, e_aq1, e_aq0, e_oq1, e_oq0, e_c, e_op, e_neg, e_ngq, e_nil, e_cons, e_call, e_callK, e_cb, e_tup, e_lst, e_sl, e_oN, e_oS, e_soq, e_rev, e_rvq, e_var0, e_varS, e_varB0, e_varBo, e_varBS, e_gn, e_go, e_gt, e_gsc, e_gsn, e_fl_t, e_fl_l, e_fl_s, e_sl_t, e_isN, e_notN, e_max2, e_min2, e_int1, e_abs1, e_tupl, e_lc, e_rng1, e_r1q, e_bowl, e_wipe1, e_for, List.set_cons_succ, List.set_cons_zero, add_ii, sub_ii, mul_ii, fdiv_ii, mod_ii, pow_ii, lt_ii, le_ii, gt_ii, ge_ii, DL.eq_int, DL.ne_int, DL.eq_bl, DL.ne_bl, isi_int_int, isi_int_bool, isi_int_tuple, isi_int_list, isi_bl_int, isi_bl_bool, isi_bl_tuple, isi_bl_list, isi_non_int, isi_non_bool, isi_non_tuple, isi_non_list, isi_tup_int, isi_tup_bool, isi_tup_tuple, isi_tup_list, isi_lst_int, isi_lst_bool, isi_lst_tuple, isi_lst_list, if_true, if_false, Bool.not_true, Bool.not_false, Bool.false_eq_true, decide_true, decide_false, e_chain, ix_t0, ix_t1, ix_t2, ix_t3, ix_l0, ix_l1, ix_last, ixl_last, e_wseqN, e_wsq_t, e_wsq_l, e_enum, e_enq_t, e_enq_l, e_rng2, e_r2q, add_tt, add_ll, cat_ll, list_t, list_l, tuple_t, sl_l, e_wipeL, e_wipeN, isi_str_int, isi_str_bool, isi_str_tuple, isi_str_list, isi_str_str, e_par2, e_par3, e_mval, e_mown, e_owq, e_frz, e_appM, e_callHO, e_maxK, e_mkq, List.getElem?_cons_zero, List.getElem?_cons_succ, e_notV, e_nvq, e_lc2, e_deN, e_deV, e_deO, e_de0, e_put, nn_non, nn_int, nn_bl, nn_str, nn_tup, nn_lst, e_par4, e_ix2, e_put2, e_go2])
        exact ⟨Nat.zero_le _, hq⟩
  | _ =>
    (try simp only [e_asg, e_ret, e_drop, e_next, e_ifS, e_if, e_test, e_tq, e_and, e_or, e_not, e_andV, e_orV, e_aq1, e_aq0, e_oq1, e_oq0, e_c, e_op, e_neg, e_ngq, e_nil, e_cons, e_call, e_callK, e_cb, e_tup, e_lst, e_sl, e_oN, e_oS, e_soq, e_rev, e_rvq, e_var0, e_varS, e_varB0, e_varBo, e_varBS, e_gn, e_go, e_gt, e_gsc, e_gsn, e_fl_t, e_fl_l, e_fl_s, e_sl_t, e_isN, e_notN, e_max2, e_min2, e_int1, e_abs1, e_tupl, e_lc, e_rng1, e_r1q, e_bowl, e_wipe1, e_for, List.set_cons_succ, List.set_cons_zero, add_ii, sub_ii, mul_ii, fdiv_ii, mod_ii, pow_ii, lt_ii, le_ii, gt_ii, ge_ii, DL.eq_int, DL.ne_int, DL.eq_bl, DL.ne_bl, isi_int_int, isi_int_bool, isi_int_tuple, isi_int_list, isi_bl_int, isi_bl_bool, isi_bl_tuple, isi_bl_list, isi_non_int, isi_non_bool, isi_non_tuple, isi_non_list, isi_tup_int, isi_tup_bool, isi_tup_tuple, isi_tup_list, isi_lst_int, isi_lst_bool, isi_lst_tuple, isi_lst_list, if_true, if_false, Bool.not_true, Bool.not_false, Bool.false_eq_true, decide_true, decide_false, e_chain, ix_t0, ix_t1, ix_t2, ix_t3, ix_l0, ix_l1, ix_last, ixl_last, e_wseqN, e_wsq_t, e_wsq_l, e_enum, e_enq_t, e_enq_l, e_rng2, e_r2q, add_tt, add_ll, cat_ll, list_t, list_l, tuple_t, sl_l, e_wipeL, e_wipeN, isi_str_int, isi_str_bool, isi_str_tuple, isi_str_list, isi_str_str, e_par2, e_par3, e_mval, e_mown, e_owq, e_frz, e_appM, e_callHO, e_maxK, e_mkq, List.getElem?_cons_zero, List.getElem?_cons_succ, e_notV, e_nvq, e_lc2, e_deN, e_deV, e_deO, e_de0, e_put, nn_non, nn_int, nn_bl, nn_str, nn_tup, nn_lst, e_par4, e_ix2, e_put2, e_go2])
    exact ⟨by show 1 ≤ 16777216; omega, h⟩
end
end HX
set_option Elab.async false
set_option linter.all false
set_option maxRecDepth 100000
set_option maxHeartbeats 400000
/-! is_choice of values of any kind -/
namespace HX
open PySem PySem.Spec PyProof.Rows L2 DL
def endOf (ahead : List D) : Int := match ahead.getLast? with
  | some (.tup [_, .int j]) => j
  | _ => 0
def fstOf : D → Int
  | .tup (.int i :: _) => i
  | _ => 0
def chR (n h : Int) (ahead : List D) (x : D) : Bool := isWin n h x && (ahead.isEmpty || decide (endOf ahead < fstOf x))
def IsCh (ds : List Int) (c : Cl) (d : D) : Prop := ∃ ws : List Win, d = .tup (ws.map winD) ∧ OkCh ds c ws
theorem endOf_wins (us : List Win) (u : Win) : endOf ((us ++ [u]).map winD) = u.2 := by
  unfold endOf
  rw [List.map_append, List.map_singleton, List.getLast?_append]
  rfl
theorem pair_end {us : List Win} {w : Win} : (us ++ [w]).Pairwise (fun a b : Win => a.2 < b.1) ↔ us.Pairwise (fun a b : Win => a.2 < b.1) ∧ ∀ u ∈ us, u.2 < w.1 := by
  rw [List.pairwise_append]
  constructor
  · rintro ⟨h1, _, h2⟩
    exact ⟨h1, fun u hu => h2 u hu w (by simp)⟩
  · rintro ⟨h1, h2⟩
    exact ⟨h1, List.pairwise_singleton _ _, fun u hu v hv => by rw [List.mem_singleton.mp hv]; exact h2 u hu⟩
theorem all_wins {n : Nat} {h : Int} : ∀ (m : Nat) (ahead : List D), ahead.length = m → (∀ pre y post, ahead = pre ++ y :: post → chR n h pre y = true) →
    ∃ us : List Win, ahead = us.map winD ∧ (∀ w ∈ us, okW n h w) ∧ us.Pairwise fun a b => a.2 < b.1
  | 0, ahead, hl, _ => ⟨[], List.length_eq_zero_iff.mp hl, by simp, List.Pairwise.nil⟩
  | m + 1, ahead, hl, hp => by
    rcases List.eq_nil_or_concat ahead with rfl | ⟨pre, x, rfl⟩
    · cases hl
    rw [List.concat_eq_append] at hl hp ⊢
    obtain ⟨us, rfl, h1, h2⟩ := all_wins (h := h) (n := n) m pre (by simpa using hl) fun p y po e => hp p y (po ++ [x]) (by rw [e]; simp)
    have hx := hp _ x [] rfl
    unfold chR at hx
    rw [Bool.and_eq_true] at hx
    obtain ⟨w, rfl, w1, w2, w3⟩ := isWin_of hx.1
    refine ⟨us ++ [w], by simp, fun u hu => ?_, ?_⟩
    · rcases List.mem_append.mp hu with hu | hu
      · exact h1 u hu
      · rw [List.mem_singleton.mp hu]
        exact ⟨w1, by omega, w3⟩
    · rw [pair_end]
      refine ⟨h2, fun u hu => ?_⟩
      rcases List.eq_nil_or_concat us with rfl | ⟨vs, v, rfl⟩
      · cases hu
      rw [List.concat_eq_append] at *
      have hx2 := hx.2
      rw [endOf_wins] at hx2
      have e0 : (List.map winD (vs ++ [v])).isEmpty = false := by simp
      rw [e0, Bool.false_or, decide_eq_true_eq] at hx2
      have hv : v.2 < w.1 := by
        have : fstOf (winD w) = (w.1 : Int) := rfl
        omega
      rcases List.mem_append.mp hu with hu | hu
      · have := (pair_end.mp h2).2 u hu
        have := (h1 v (by simp)).1
        omega
      · rw [List.mem_singleton.mp hu]
        exact hv
theorem chR_wins {n : Nat} {h : Int} {us : List Win} {w : Win} (hw : okW n h w) (hp : ∀ u ∈ us, u.2 < w.1) : chR n h (us.map winD) (winD w) = true := by
  unfold chR
  rw [isWin_win hw.1 (by have := hw.2.1; omega) hw.2.2, Bool.true_and]
  rcases List.eq_nil_or_concat us with rfl | ⟨vs, v, rfl⟩
  · rfl
  rw [List.concat_eq_append] at *
  rw [endOf_wins]
  have := hp v (by simp)
  have : fstOf (winD w) = (w.1 : Int) := rfl
  rw [decide_eq_true (by omega), Bool.or_true]
theorem firstBad_or (r : List D → D → Bool) (most : Int) : ∀ (xs ahead : List D), (firstBad r most ahead xs = .lst [] ∧ ∀ pre y post, xs = pre ++ y :: post → r (ahead ++ pre) y = true ∧ ((ahead.length + pre.length : Nat) : Int) ≠ most) ∨
    (∃ i : Int, firstBad r most ahead xs = .lst [.int i]) ∧ ∃ pre y post, xs = pre ++ y :: post ∧ (r (ahead ++ pre) y = false ∨ ((ahead.length + pre.length : Nat) : Int) = most)
  | [], ahead => .inl ⟨rfl, fun pre y post e => absurd e (by simp)⟩
  | x :: xs, ahead => by
    unfold firstBad
    cases e1 : ((ahead.length : Int) == most) with
    | true =>
      exact .inr ⟨⟨_, rfl⟩, [], x, xs, rfl, .inr (by simpa using eq_of_beq e1)⟩
    | false =>
      rw [Bool.false_or]
      cases e2 : r ahead x with
      | false => exact .inr ⟨⟨_, rfl⟩, [], x, xs, rfl, .inl (by rw [List.append_nil]; exact e2)⟩
      | true =>
        rw [if_neg (by simp)]
        rcases firstBad_or r most xs (ahead ++ [x]) with ⟨h1, h2⟩ | ⟨h1, pre, y, post, h2, h3⟩
        · refine .inl ⟨h1, fun pre y post e => ?_⟩
          cases pre with
          | nil =>
            simp only [List.nil_append, List.cons.injEq] at e
            obtain ⟨rfl, _⟩ := e
            rw [List.append_nil]
            refine ⟨e2, ?_⟩
            rw [List.length_nil, Nat.add_zero]
            exact beq_eq_false_iff_ne.mp e1
          | cons z pre =>
            simp only [List.cons_append, List.cons.injEq] at e
            obtain ⟨rfl, e⟩ := e
            have := h2 pre y post e
            rw [List.append_assoc, List.length_append, List.length_singleton] at this
            refine ⟨this.1, ?_⟩
            rw [List.length_cons, show ahead.length + (pre.length + 1) = ahead.length + 1 + pre.length by omega]
            exact this.2
        · refine .inr ⟨h1, x :: pre, y, post, by rw [h2]; rfl, ?_⟩
          rw [List.append_assoc, List.length_append, List.length_singleton] at h3
          rw [List.length_cons, show ahead.length + (pre.length + 1) = ahead.length + 1 + pre.length by omega]
          exact h3
theorem wrongIn_ch {ds : List Int} {c : Cl} (hc : 0 ≤ c.c) (d : D) : (wrongIn (chR ds.length c.h) 0 c.c d = .lst [] ∧ IsCh ds c d) ∨ ((wrongIn (chR ds.length c.h) 0 c.c d = .lst [.non] ∨ ∃ i : Int, wrongIn (chR ds.length c.h) 0 c.c d = .lst [.int i]) ∧ ¬ IsCh ds c d) := by
  cases d with
  | tup xs =>
    have e : wrongIn (chR ds.length c.h) 0 c.c (.tup xs) = firstBad (chR ds.length c.h) c.c [] xs := by
      unfold wrongIn
      exact if_neg (by omega)
    rw [e]
    rcases firstBad_or (chR ds.length c.h) c.c xs [] with ⟨h1, h2⟩ | ⟨h1, pre, y, post, h2, h3⟩
    · refine .inl ⟨h1, ?_⟩
      obtain ⟨us, rfl, g1, g2⟩ := all_wins (n := ds.length) (h := c.h) _ xs rfl fun pre y post e => (h2 pre y post e).1
      refine ⟨us, rfl, ?_, g1, g2⟩
      by_cases hl : (us.length : Int) ≤ c.c
      · exact hl
      · exfalso
        have hlt : c.c.toNat < us.length := by omega
        have := (h2 ((us.take c.c.toNat).map winD) (winD us[c.c.toNat]) ((us.drop (c.c.toNat + 1)).map winD) (by
          rw [← List.map_cons, ← List.map_append, ← List.drop_eq_getElem_cons hlt, List.take_append_drop])).2
        rw [List.length_nil, List.length_map, List.length_take] at this
        omega
    · refine .inr ⟨.inr h1, fun ⟨ws, e2, ok⟩ => ?_⟩
      cases e2
      have hl : (ws.map winD).length = pre.length + (post.length + 1) := by rw [h2]; simp
      rw [List.length_map] at hl
      have hlt : pre.length < ws.length := by omega
      have e3 : ws.map winD = (ws.take pre.length).map winD ++ winD ws[pre.length] :: (ws.drop (pre.length + 1)).map winD := by
        rw [← List.map_cons, ← List.map_append, ← List.drop_eq_getElem_cons hlt, List.take_append_drop]
      rw [h2] at e3
      obtain ⟨e4, e5⟩ := List.append_inj e3 (by rw [List.length_map, List.length_take]; omega)
      rw [List.cons.injEq] at e5
      rcases h3 with h3 | h3
      · rw [List.nil_append, e4, e5.1, chR_wins (ok.win _ (List.getElem_mem hlt)) (fun u hu => ?_)] at h3
        · cases h3
        · obtain ⟨j, hj, rfl⟩ := List.getElem_of_mem hu
          rw [List.length_take] at hj
          rw [List.getElem_take]
          exact List.pairwise_iff_getElem.mp ok.row j pre.length (by omega) hlt (by omega)
      · have := ok.len
        rw [List.length_nil] at h3
        omega
  | _ => exact .inr ⟨.inl rfl, fun ⟨ws, e2, _⟩ => by cases e2⟩
section
variable {q : D → Prop} {ep : Ex → Prop} {c : Cl} {ds : List Int}
theorem sh_lst1 {d : D} (h : d = .non ∨ ∃ i : Int, d = .int i) : (D.lst [d]).eqOk = true ∧ (D.lst [d]).eqv (.lst []) = false := by
  rcases h with rfl | ⟨i, rfl⟩ <;> constructor <;> simp [D.eqOk, D.eqv, D.pure, D.pures, D.pd, D.pds, SeqAt.shaped, PyData.canLay0, PyData.canLayAll0, PyData.depth, PyData.depthAll, PyData.eqv, PyData.eqvAll]
theorem eq_one_nil {d : D} (hd : d = .non ∨ ∃ i : Int, d = .int i) (h : q (.bl false)) : fEq (.lst [d]) (.lst []) q := by
  have h0 : (D.lst []).eqOk = true := by simp [D.eqOk, D.pure, D.pures, D.pd, D.pds, SeqAt.shaped, PyData.canLay0, PyData.canLayAll0, PyData.depth, PyData.depthAll]
  refine ⟨⟨(sh_lst1 hd).1, h0⟩, ?_⟩
  rw [(sh_lst1 hd).2]
  exact h
end
end HX
set_option Elab.async false
set_option linter.all false
set_option maxRecDepth 100000
set_option maxHeartbeats 400000
namespace HX
open PySem PySem.Spec PyProof.Rows L2 DL
section
variable {q : D → Prop} {ep : Ex → Prop} {c : Cl} {ds : List Int}
theorem p_law_is_number (d : D) (a b : Int) (hd : d.pure = true) (h : q (.bl (d.btw a b))) : wf__law_is_number [d, .int a, .int b] q ep := by
  unfold wf__law_is_number W__law_is_number
  show wRet _ _ [some (.val d), some (.val (.int a)), some (.val (.int b))]
  cases d with
  | ty n => cases hd
  | ref a => cases hd
  | bowl => cases hd
  | scr ns => cases hd
  | int i =>
    (try simp only [e_asg, e_ret, e_drop, e_next, e_ifS, e_if, e_test, e_tq, e_and, e_or, e_not, e_andV, e_orV, e_aq1, e_aq0, e_oq1, e_oq0, e_c, e_op, e_neg, e_ngq, e_nil, e_cons, e_call, e_callK, e_cb, e_tup, e_lst, e_sl, e_oN, e_oS, e_soq, e_rev, e_rvq, e_var0, e_varS, e_varB0, e_varBo, e_varBS, e_gn, e_go, e_gt, e_gsc, e_gsn, e_fl_t, e_fl_l, e_fl_s, e_sl_t, e_isN, e_notN, e_max2, e_min2, e_int1, e_abs1, e_tupl, e_lc, e_rng1, e_r1q, e_bowl, e_wipe1, e_for, List.set_cons_succ, List.set_cons_zero, add_ii, sub_ii, mul_ii, fdiv_ii, mod_ii, pow_ii, lt_ii, le_ii, gt_ii, ge_ii, DL.eq_int, DL.ne_int, DL.eq_bl, DL.ne_bl, isi_int_int, isi_int_bool, isi_int_tuple, isi_int_list, isi_bl_int, isi_bl_bool, isi_bl_tuple, isi_bl_list, isi_non_int, isi_non_bool, isi_non_tuple, isi_non_list, isi_tup_int, isi_tup_bool, isi_tup_tuple, isi_tup_list, isi_lst_int, isi_lst_bool, isi_lst_tuple, isi_lst_list, if_true, if_false, Bool.not_true, Bool.not_false, Bool.false_eq_true, decide_true, decide_false, e_chain, ix_t0, ix_t1, ix_t2, ix_t3, ix_l0, ix_l1, ix_last, ixl_last, e_wseqN, e_wsq_t, e_wsq_l, e_enum, e_enq_t, e_enq_l, e_rng2, e_r2q, add_tt, add_ll, cat_ll, list_t, list_l, tuple_t, sl_l, e_wipeL, e_wipeN, isi_str_int, isi_str_bool, isi_str_tuple, isi_str_list, isi_str_str, e_par2, e_par3, e_mval, e_mown, e_owq, e_frz, e_appM, e_callHO, e_maxK, e_mkq, List.getElem?_cons_zero, List.getElem?_cons_succ, e_notV, e_nvq, e_lc2, e_deN, e_deV, e_deO, e_de0, e_put, nn_non, nn_int, nn_bl, nn_str, nn_tup, nn_lst, e_par4, e_ix2, e_put2, e_go2])
    rw [D.btw_int] at h
    cases e : decide (a ≤ i) with
    | true => rw [e] at h; simp only [e_asg, e_ret, e_drop, e_next, e_ifS, e_if, e_test, e_tq, e_and, e_or, e_not, e_andV, e_orV, e_aq1, e_aq0, e_oq1, e_oq0, e_c, e_op, e_neg, e_ngq, e_nil, e_cons, e_call, e_callK, e_cb, e_tup, e_lst, e_sl, e_oN, e_oS, e_soq, e_rev, e_rvq, e_var0, e_varS, e_varB0, e_varBo, e_varBS, e_gn, e_go, e_gt, e_gsc, e_gsn, e_fl_t, e_fl_l, e_fl_s, e_sl_t, e_isN, e_notN, e_max2, e_min2, e_int1, e_abs1, e_tupl, e_lc, e_rng1, e_r1q, e_bowl, e_wipe1, e_for, List.set_cons_succ, List.set_cons_zero, add_ii, sub_ii, mul_ii, fdiv_ii, mod_ii, pow_ii, lt_ii, le_ii, gt_ii, ge_ii, DL.eq_int, DL.ne_int, DL.eq_bl, DL.ne_bl, isi_int_int, isi_int_bool, isi_int_tuple, isi_int_list, isi_bl_int, isi_bl_bool, isi_bl_tuple, isi_bl_list, isi_non_int, isi_non_bool, isi_non_tuple, isi_non_list, isi_tup_int, isi_tup_bool, isi_tup_tuple, isi_tup_list, isi_lst_int, isi_lst_bool, isi_lst_tuple, isi_lst_list, if_true, if_false, Bool.not_true, Bool.not_false, Bool.false_eq_true, decide_true, decide_false, e_chain, ix_t0, ix_t1, ix_t2, ix_t3, ix_l0, ix_l1, ix_last, ixl_last, e_wseqN, e_wsq_t, e_wsq_l, e_enum, e_enq_t, e_enq_l, e_rng2, e_r2q, add_tt, add_ll, cat_ll, list_t, list_l, tuple_t, sl_l, e_wipeL, e_wipeN, isi_str_int, isi_str_bool, isi_str_tuple, isi_str_list, isi_str_str, e_par2, e_par3, e_mval, e_mown, e_owq, e_frz, e_appM, e_callHO, e_maxK, e_mkq, List.getElem?_cons_zero, List.getElem?_cons_succ, e_notV, e_nvq, e_lc2, e_deN, e_deV, e_deO, e_de0, e_put, nn_non, nn_int, nn_bl, nn_str, nn_tup, nn_lst, e_par4, e_ix2, e_put2, e_go2]; exact h
    | false => rw [e] at h; simp only [e_asg, e_ret, e_drop, e_next, e_ifS, e_if, e_test, e_tq, e_and, e_or, e_not, e_andV, e_orV, e_aq1, e_aq0, e_oq1, e_oq0, e_c, e_op, e_neg, e_ngq, e_nil, e_cons, e_call, e_callK, e_cb, e_tup, e_lst, e_sl, e_oN, e_oS, e_soq, e_rev, e_rvq, e_var0, e_varS, e_varB0, e_varBo, e_varBS, e_gn, e_go, e_gt, e_gsc, e_gsn, e_fl_t, e_fl_l, e_fl_s, e_sl_t, e_isN, e_notN, e_max2, e_min2, e_int1, e_abs1, e_tupl, e_lc, e_rng1, e_r1q, e_bowl, e_wipe1, e_for, List.set_cons_succ, List.set_cons_zero, add_ii, sub_ii, mul_ii, fdiv_ii, mod_ii, pow_ii, lt_ii, le_ii, gt_ii, ge_ii, DL.eq_int, DL.ne_int, DL.eq_bl, DL.ne_bl, isi_int_int, isi_int_bool, isi_int_tuple, isi_int_list, isi_bl_int, isi_bl_bool, isi_bl_tuple, isi_bl_list, isi_non_int, isi_non_bool, isi_non_tuple, isi_non_list, isi_tup_int, isi_tup_bool, isi_tup_tuple, isi_tup_list, isi_lst_int, isi_lst_bool, isi_lst_tuple, isi_lst_list, if_true, if_false, Bool.not_true, Bool.not_false, Bool.false_eq_true, decide_true, decide_false, e_chain, ix_t0, ix_t1, ix_t2, ix_t3, ix_l0, ix_l1, ix_last, ixl_last, e_wseqN, e_wsq_t, e_wsq_l, e_enum, e_enq_t, e_enq_l, e_rng2, e_r2q, add_tt, add_ll, cat_ll, list_t, list_l, tuple_t, sl_l, e_wipeL, e_wipeN, isi_str_int, isi_str_bool, isi_str_tuple, isi_str_list, isi_str_str, e_par2, e_par3, e_mval, e_mown, e_owq, e_frz, e_appM, e_callHO, e_maxK, e_mkq, List.getElem?_cons_zero, List.getElem?_cons_succ, e_notV, e_nvq, e_lc2, e_deN, e_deV, e_deO, e_de0, e_put, nn_non, nn_int, nn_bl, nn_str, nn_tup, nn_lst, e_par4, e_ix2, e_put2, e_go2]; exact h
  | _ =>
    (try simp only [e_asg, e_ret, e_drop, e_next, e_ifS, e_if, e_test, e_tq, e_and, e_or, e_not, e_andV, e_orV, e_aq1, e_aq0, e_oq1, e_oq0, e_c, e_op, e_neg, e_ngq, e_nil, e_cons, e_call, e_callK, e_cb, e_tup, e_lst, e_sl, e_oN, e_oS, e_soq, e_rev, e_rvq, e_var0, e_varS, e_varB0, e_varBo, e_varBS, e_gn, e_go, e_gt, e_gsc, e_gsn, e_fl_t, e_fl_l, e_fl_s, e_sl_t, e_isN, e_notN, e_max2, e_min2, e_int1, e_abs1, e_tupl, e_lc, e_rng1, e_r1q, e_bowl, e_wipe1, e_for, List.set_cons_succ, List.set_cons_zero, add_ii, sub_ii, mul_ii, fdiv_ii, mod_ii, pow_ii, lt_ii, le_ii, gt_ii, ge_ii, DL.eq_int, DL.ne_int, DL.eq_bl, DL.ne_bl, isi_int_int, isi_int_bool, isi_int_tuple, isi_int_list, isi_bl_int, isi_bl_bool, isi_bl_tuple, isi_bl_list, isi_non_int, isi_non_bool, isi_non_tuple, isi_non_list, isi_tup_int, isi_tup_bool, isi_tup_tuple, isi_tup_list, isi_lst_int, isi_lst_bool, isi_lst_tuple, isi_lst_list, if_true, if_false, Bool.not_true, Bool.not_false, Bool.false_eq_true, decide_true, decide_false, e_chain, ix_t0, ix_t1, ix_t2, ix_t3, ix_l0, ix_l1, ix_last, ixl_last, e_wseqN, e_wsq_t, e_wsq_l, e_enum, e_enq_t, e_enq_l, e_rng2, e_r2q, add_tt, add_ll, cat_ll, list_t, list_l, tuple_t, sl_l, e_wipeL, e_wipeN, isi_str_int, isi_str_bool, isi_str_tuple, isi_str_list, isi_str_str, e_par2, e_par3, e_mval, e_mown, e_owq, e_frz, e_appM, e_callHO, e_maxK, e_mkq, List.getElem?_cons_zero, List.getElem?_cons_succ, e_notV, e_nvq, e_lc2, e_deN, e_deV, e_deO, e_de0, e_put, nn_non, nn_int, nn_bl, nn_str, nn_tup, nn_lst, e_par4, e_ix2, e_put2, e_go2])
    exact h
theorem p_law_layered (a : Int) (h : q (.int (worth c a))) : wf__law_layered [c.d, .int a] q ep := by
  obtain ⟨ch, cc, cl, hi⟩ := c
  unfold wf__law_layered W__law_layered
  have e0 : ∀ top : Int, maxI 0 (top - cl) = maxI (top - cl) 0 := fun top => by rw [maxI_eq, maxI_eq]; omega
  cases hi with
  | none =>
    show wSeq _ _ _ [some (.val (.tup [.int ch, .int cc, .int cl, .non])), some (.val (.int a)), none]
    refine seq_step fun KK hKK => ?_
    (try simp only [e_asg, e_ret, e_drop, e_next, e_ifS, e_if, e_test, e_tq, e_and, e_or, e_not, e_andV, e_orV, e_aq1, e_aq0, e_oq1, e_oq0, e_c, e_op, e_neg, e_ngq, e_nil, e_cons, e_call, e_callK, e_cb, e_tup, e_lst, e_sl, e_oN, e_oS, e_soq, e_rev, e_rvq, e_var0, e_varS, e_varB0, e_varBo, e_varBS, e_gn, e_go, e_gt, e_gsc, e_gsn, e_fl_t, e_fl_l, e_fl_s, e_sl_t, e_isN, e_notN, e_max2, e_min2, e_int1, e_abs1, e_tupl, e_lc, e_rng1, e_r1q, e_bowl, e_wipe1, e_for, List.set_cons_succ, List.set_cons_zero, add_ii, sub_ii, mul_ii, fdiv_ii, mod_ii, pow_ii, lt_ii, le_ii, gt_ii, ge_ii, DL.eq_int, DL.ne_int, DL.eq_bl, DL.ne_bl, isi_int_int, isi_int_bool, isi_int_tuple, isi_int_list, isi_bl_int, isi_bl_bool, isi_bl_tuple, isi_bl_list, isi_non_int, isi_non_bool, isi_non_tuple, isi_non_list, isi_tup_int, isi_tup_bool, isi_tup_tuple, isi_tup_list, isi_lst_int, isi_lst_bool, isi_lst_tuple, isi_lst_list, if_true, if_false, Bool.not_true, Bool.not_false, Bool.false_eq_true, decide_true, decide_false, e_chain, ix_t0, ix_t1, ix_t2, ix_t3, ix_l0, ix_l1, ix_last, ixl_last, e_wseqN, e_wsq_t, e_wsq_l, e_enum, e_enq_t, e_enq_l, e_rng2, e_r2q, add_tt, add_ll, cat_ll, list_t, list_l, tuple_t, sl_l, e_wipeL, e_wipeN, isi_str_int, isi_str_bool, isi_str_tuple, isi_str_list, isi_str_str, e_par2, e_par3, e_mval, e_mown, e_owq, e_frz, e_appM, e_callHO, e_maxK, e_mkq, List.getElem?_cons_zero, List.getElem?_cons_succ, e_notV, e_nvq, e_lc2, e_deN, e_deV, e_deO, e_de0, e_put, nn_non, nn_int, nn_bl, nn_str, nn_tup, nn_lst, e_par4, e_ix2, e_put2, e_go2])
    show KK _
    refine hKK _ ?_
    (try simp only [e_asg, e_ret, e_drop, e_next, e_ifS, e_if, e_test, e_tq, e_and, e_or, e_not, e_andV, e_orV, e_aq1, e_aq0, e_oq1, e_oq0, e_c, e_op, e_neg, e_ngq, e_nil, e_cons, e_call, e_callK, e_cb, e_tup, e_lst, e_sl, e_oN, e_oS, e_soq, e_rev, e_rvq, e_var0, e_varS, e_varB0, e_varBo, e_varBS, e_gn, e_go, e_gt, e_gsc, e_gsn, e_fl_t, e_fl_l, e_fl_s, e_sl_t, e_isN, e_notN, e_max2, e_min2, e_int1, e_abs1, e_tupl, e_lc, e_rng1, e_r1q, e_bowl, e_wipe1, e_for, List.set_cons_succ, List.set_cons_zero, add_ii, sub_ii, mul_ii, fdiv_ii, mod_ii, pow_ii, lt_ii, le_ii, gt_ii, ge_ii, DL.eq_int, DL.ne_int, DL.eq_bl, DL.ne_bl, isi_int_int, isi_int_bool, isi_int_tuple, isi_int_list, isi_bl_int, isi_bl_bool, isi_bl_tuple, isi_bl_list, isi_non_int, isi_non_bool, isi_non_tuple, isi_non_list, isi_tup_int, isi_tup_bool, isi_tup_tuple, isi_tup_list, isi_lst_int, isi_lst_bool, isi_lst_tuple, isi_lst_list, if_true, if_false, Bool.not_true, Bool.not_false, Bool.false_eq_true, decide_true, decide_false, e_chain, ix_t0, ix_t1, ix_t2, ix_t3, ix_l0, ix_l1, ix_last, ixl_last, e_wseqN, e_wsq_t, e_wsq_l, e_enum, e_enq_t, e_enq_l, e_rng2, e_r2q, add_tt, add_ll, cat_ll, list_t, list_l, tuple_t, sl_l, e_wipeL, e_wipeN, isi_str_int, isi_str_bool, isi_str_tuple, isi_str_list, isi_str_str, e_par2, e_par3, e_mval, e_mown, e_owq, e_frz, e_appM, e_callHO, e_maxK, e_mkq, List.getElem?_cons_zero, List.getElem?_cons_succ, e_notV, e_nvq, e_lc2, e_deN, e_deV, e_deO, e_de0, e_put, nn_non, nn_int, nn_bl, nn_str, nn_tup, nn_lst, e_par4, e_ix2, e_put2, e_go2])
    rw [e0]
    exact h
  | some v =>
    show wSeq _ _ _ [some (.val (.tup [.int ch, .int cc, .int cl, .int v])), some (.val (.int a)), none]
    refine seq_step fun KK hKK => ?_
    (try simp only [e_asg, e_ret, e_drop, e_next, e_ifS, e_if, e_test, e_tq, e_and, e_or, e_not, e_andV, e_orV, e_aq1, e_aq0, e_oq1, e_oq0, e_c, e_op, e_neg, e_ngq, e_nil, e_cons, e_call, e_callK, e_cb, e_tup, e_lst, e_sl, e_oN, e_oS, e_soq, e_rev, e_rvq, e_var0, e_varS, e_varB0, e_varBo, e_varBS, e_gn, e_go, e_gt, e_gsc, e_gsn, e_fl_t, e_fl_l, e_fl_s, e_sl_t, e_isN, e_notN, e_max2, e_min2, e_int1, e_abs1, e_tupl, e_lc, e_rng1, e_r1q, e_bowl, e_wipe1, e_for, List.set_cons_succ, List.set_cons_zero, add_ii, sub_ii, mul_ii, fdiv_ii, mod_ii, pow_ii, lt_ii, le_ii, gt_ii, ge_ii, DL.eq_int, DL.ne_int, DL.eq_bl, DL.ne_bl, isi_int_int, isi_int_bool, isi_int_tuple, isi_int_list, isi_bl_int, isi_bl_bool, isi_bl_tuple, isi_bl_list, isi_non_int, isi_non_bool, isi_non_tuple, isi_non_list, isi_tup_int, isi_tup_bool, isi_tup_tuple, isi_tup_list, isi_lst_int, isi_lst_bool, isi_lst_tuple, isi_lst_list, if_true, if_false, Bool.not_true, Bool.not_false, Bool.false_eq_true, decide_true, decide_false, e_chain, ix_t0, ix_t1, ix_t2, ix_t3, ix_l0, ix_l1, ix_last, ixl_last, e_wseqN, e_wsq_t, e_wsq_l, e_enum, e_enq_t, e_enq_l, e_rng2, e_r2q, add_tt, add_ll, cat_ll, list_t, list_l, tuple_t, sl_l, e_wipeL, e_wipeN, isi_str_int, isi_str_bool, isi_str_tuple, isi_str_list, isi_str_str, e_par2, e_par3, e_mval, e_mown, e_owq, e_frz, e_appM, e_callHO, e_maxK, e_mkq, List.getElem?_cons_zero, List.getElem?_cons_succ, e_notV, e_nvq, e_lc2, e_deN, e_deV, e_deO, e_de0, e_put, nn_non, nn_int, nn_bl, nn_str, nn_tup, nn_lst, e_par4, e_ix2, e_put2, e_go2])
    show KK _
    refine hKK _ ?_
    (try simp only [e_asg, e_ret, e_drop, e_next, e_ifS, e_if, e_test, e_tq, e_and, e_or, e_not, e_andV, e_orV, e_aq1, e_aq0, e_oq1, e_oq0, e_c, e_op, e_neg, e_ngq, e_nil, e_cons, e_call, e_callK, e_cb, e_tup, e_lst, e_sl, e_oN, e_oS, e_soq, e_rev, e_rvq, e_var0, e_varS, e_varB0, e_varBo, e_varBS, e_gn, e_go, e_gt, e_gsc, e_gsn, e_fl_t, e_fl_l, e_fl_s, e_sl_t, e_isN, e_notN, e_max2, e_min2, e_int1, e_abs1, e_tupl, e_lc, e_rng1, e_r1q, e_bowl, e_wipe1, e_for, List.set_cons_succ, List.set_cons_zero, add_ii, sub_ii, mul_ii, fdiv_ii, mod_ii, pow_ii, lt_ii, le_ii, gt_ii, ge_ii, DL.eq_int, DL.ne_int, DL.eq_bl, DL.ne_bl, isi_int_int, isi_int_bool, isi_int_tuple, isi_int_list, isi_bl_int, isi_bl_bool, isi_bl_tuple, isi_bl_list, isi_non_int, isi_non_bool, isi_non_tuple, isi_non_list, isi_tup_int, isi_tup_bool, isi_tup_tuple, isi_tup_list, isi_lst_int, isi_lst_bool, isi_lst_tuple, isi_lst_list, if_true, if_false, Bool.not_true, Bool.not_false, Bool.false_eq_true, decide_true, decide_false, e_chain, ix_t0, ix_t1, ix_t2, ix_t3, ix_l0, ix_l1, ix_last, ixl_last, e_wseqN, e_wsq_t, e_wsq_l, e_enum, e_enq_t, e_enq_l, e_rng2, e_r2q, add_tt, add_ll, cat_ll, list_t, list_l, tuple_t, sl_l, e_wipeL, e_wipeN, isi_str_int, isi_str_bool, isi_str_tuple, isi_str_list, isi_str_str, e_par2, e_par3, e_mval, e_mown, e_owq, e_frz, e_appM, e_callHO, e_maxK, e_mkq, List.getElem?_cons_zero, List.getElem?_cons_succ, e_notV, e_nvq, e_lc2, e_deN, e_deV, e_deO, e_de0, e_put, nn_non, nn_int, nn_bl, nn_str, nn_tup, nn_lst, e_par4, e_ix2, e_put2, e_go2])
    rw [e0]
    exact h
theorem winD_eq (w : Win) : winD w = .tup [.int w.1, .int w.2] := rfl
theorem p_law_brings (ws : List Win) (hl : ws.length < 10000000) (h : q (.int (val ds c ws))) : wf__law_brings [dmg ds, c.d, .tup (ws.map winD)] q ep := by
  unfold wf__law_brings W__law_brings
  show wRet _ _ [some (.val (dmg ds)), some (.val c.d), some (.val (.tup (ws.map winD))), none, none]
  (try simp only [e_asg, e_ret, e_drop, e_next, e_ifS, e_if, e_test, e_tq, e_and, e_or, e_not, e_andV, e_orV, e_aq1, e_aq0, e_oq1, e_oq0, e_c, e_op, e_neg, e_ngq, e_nil, e_cons, e_call, e_callK, e_cb, e_tup, e_lst, e_sl, e_oN, e_oS, e_soq, e_rev, e_rvq, e_var0, e_varS, e_varB0, e_varBo, e_varBS, e_gn, e_go, e_gt, e_gsc, e_gsn, e_fl_t, e_fl_l, e_fl_s, e_sl_t, e_isN, e_notN, e_max2, e_min2, e_int1, e_abs1, e_tupl, e_lc, e_rng1, e_r1q, e_bowl, e_wipe1, e_for, List.set_cons_succ, List.set_cons_zero, add_ii, sub_ii, mul_ii, fdiv_ii, mod_ii, pow_ii, lt_ii, le_ii, gt_ii, ge_ii, DL.eq_int, DL.ne_int, DL.eq_bl, DL.ne_bl, isi_int_int, isi_int_bool, isi_int_tuple, isi_int_list, isi_bl_int, isi_bl_bool, isi_bl_tuple, isi_bl_list, isi_non_int, isi_non_bool, isi_non_tuple, isi_non_list, isi_tup_int, isi_tup_bool, isi_tup_tuple, isi_tup_list, isi_lst_int, isi_lst_bool, isi_lst_tuple, isi_lst_list, if_true, if_false, Bool.not_true, Bool.not_false, Bool.false_eq_true, decide_true, decide_false, e_chain, ix_t0, ix_t1, ix_t2, ix_t3, ix_l0, ix_l1, ix_last, ixl_last, e_wseqN, e_wsq_t, e_wsq_l, e_enum, e_enq_t, e_enq_l, e_rng2, e_r2q, add_tt, add_ll, cat_ll, list_t, list_l, tuple_t, sl_l, e_wipeL, e_wipeN, isi_str_int, isi_str_bool, isi_str_tuple, isi_str_list, isi_str_str, e_par2, e_par3, e_mval, e_mown, e_owq, e_frz, e_appM, e_callHO, e_maxK, e_mkq, List.getElem?_cons_zero, List.getElem?_cons_succ, e_notV, e_nvq, e_lc2, e_deN, e_deV, e_deO, e_de0, e_put, nn_non, nn_int, nn_bl, nn_str, nn_tup, nn_lst, e_par4, e_ix2, e_put2, e_go2])
  refine lc_map winD (fun w => .int (worth c (sumW ds w))) ws [] (fun w _ k hk => ?_) (by simpa using by omega) ?_
  · rw [winD_eq]
    unfold dmg
    (try simp only [e_asg, e_ret, e_drop, e_next, e_ifS, e_if, e_test, e_tq, e_and, e_or, e_not, e_andV, e_orV, e_aq1, e_aq0, e_oq1, e_oq0, e_c, e_op, e_neg, e_ngq, e_nil, e_cons, e_call, e_callK, e_cb, e_tup, e_lst, e_sl, e_oN, e_oS, e_soq, e_rev, e_rvq, e_var0, e_varS, e_varB0, e_varBo, e_varBS, e_gn, e_go, e_gt, e_gsc, e_gsn, e_fl_t, e_fl_l, e_fl_s, e_sl_t, e_isN, e_notN, e_max2, e_min2, e_int1, e_abs1, e_tupl, e_lc, e_rng1, e_r1q, e_bowl, e_wipe1, e_for, List.set_cons_succ, List.set_cons_zero, add_ii, sub_ii, mul_ii, fdiv_ii, mod_ii, pow_ii, lt_ii, le_ii, gt_ii, ge_ii, DL.eq_int, DL.ne_int, DL.eq_bl, DL.ne_bl, isi_int_int, isi_int_bool, isi_int_tuple, isi_int_list, isi_bl_int, isi_bl_bool, isi_bl_tuple, isi_bl_list, isi_non_int, isi_non_bool, isi_non_tuple, isi_non_list, isi_tup_int, isi_tup_bool, isi_tup_tuple, isi_tup_list, isi_lst_int, isi_lst_bool, isi_lst_tuple, isi_lst_list, if_true, if_false, Bool.not_true, Bool.not_false, Bool.false_eq_true, decide_true, decide_false, e_chain, ix_t0, ix_t1, ix_t2, ix_t3, ix_l0, ix_l1, ix_last, ixl_last, e_wseqN, e_wsq_t, e_wsq_l, e_enum, e_enq_t, e_enq_l, e_rng2, e_r2q, add_tt, add_ll, cat_ll, list_t, list_l, tuple_t, sl_l, e_wipeL, e_wipeN, isi_str_int, isi_str_bool, isi_str_tuple, isi_str_list, isi_str_str, e_par2, e_par3, e_mval, e_mown, e_owq, e_frz, e_appM, e_callHO, e_maxK, e_mkq, List.getElem?_cons_zero, List.getElem?_cons_succ, e_notV, e_nvq, e_lc2, e_deN, e_deV, e_deO, e_de0, e_put, nn_non, nn_int, nn_bl, nn_str, nn_tup, nn_lst, e_par4, e_ix2, e_put2, e_go2])
    rw [show ((w.2 : Int) + 1) = ((w.2 + 1 : Nat) : Int) by omega, cut_nat, sub_map]
    refine sum_t _ ?_
    refine p_law_layered _ ?_
    exact hk
  · rw [List.nil_append]
    refine ⟨ws.map fun w => worth c (sumW ds w), by simp, h⟩
theorem winD_inj {u v : Win} (h : winD u = winD v) : u = v := by
  rw [winD_eq, winD_eq] at h
  injection h with h
  simp only [List.cons.injEq, D.int.injEq, and_true] at h
  exact Prod.ext (by omega) (by omega)
theorem wins_inj : ∀ {us vs : List Win}, us.map winD = vs.map winD → us = vs
  | [], [], _ => rfl
  | [], _ :: _, h => by cases h
  | _ :: _, [], h => by cases h
  | u :: us, v :: vs, h => by
    rw [List.map_cons, List.map_cons, List.cons.injEq] at h
    rw [winD_inj h.1, wins_inj h.2]
theorem ch_at {xs : List D} {us : List Win} {x : D} {i : Nat} (h1 : xs.take i = us.map winD) (hx : xs[i]? = some x) (z : IsCh ds c (.tup xs)) : ∃ w, x = winD w ∧ okW ds.length c.h w ∧ ∀ u ∈ us, u.2 < w.1 := by
  obtain ⟨ws, e, ok⟩ := z
  cases e
  rw [List.getElem?_map] at hx
  rw [← List.map_take] at h1
  have e2 := wins_inj h1
  cases ew : ws[i]? with
  | none => rw [ew] at hx; cases hx
  | some w =>
    rw [ew] at hx
    cases hx
    have hi := (List.getElem?_eq_some_iff.mp ew).1
    refine ⟨w, rfl, ok.win w (List.mem_of_getElem? ew), fun u hu => ?_⟩
    rw [← e2] at hu
    obtain ⟨j, hj, rfl⟩ := List.getElem_of_mem hu
    rw [List.length_take] at hj
    rw [List.getElem_take]
    have := List.pairwise_iff_getElem.mp ok.row j i (by omega) hi (by omega)
    rw [(List.getElem?_eq_some_iff.mp ew).2] at this
    exact this
/-- where the next window may begin -/
def nextAt (us : List Win) : Nat := match us.getLast? with
  | some w => w.2 + 1
  | none => 0
theorem nextAt_app (us : List Win) (w : Win) : nextAt (us ++ [w]) = w.2 + 1 := by
  unfold nextAt
  rw [List.getLast?_append]
  rfl
theorem next_le {n : Nat} {h : Int} {us : List Win} {w : Win} (h1 : ∀ u ∈ us, okW n h u) (h2 : us.Pairwise fun a b => a.2 < b.1) : nextAt us ≤ w.1 ↔ ∀ u ∈ us, u.2 < w.1 := by
  rcases List.eq_nil_or_concat us with rfl | ⟨vs, v, rfl⟩
  · exact ⟨fun _ u hu => (nomatch hu), fun _ => Nat.zero_le _⟩
  rw [List.concat_eq_append] at *
  rw [nextAt_app]
  constructor
  · intro z u hu
    rcases List.mem_append.mp hu with hu | hu
    · have := (pair_end.mp h2).2 u hu
      have := (h1 v (by simp)).1
      omega
    · rw [List.mem_singleton.mp hu]
      omega
  · intro z
    have := z v (by simp)
    omega
theorem p_law_is_choice (d : D) (hc : 0 ≤ c.c) (hd : d.pure = true) (h : ∀ b : Bool, (b = true ↔ IsCh ds c d) → q (.bl b)) : wf__law_is_choice [dmg ds, c.d, d] q ep := by
  unfold wf__law_is_choice W__law_is_choice
  show wSeq _ _ _ [some (.val (dmg ds)), some (.val (.tup [.int c.h, .int c.c, .int c.l, hiD c.hi])), some (.val d), none, none]
  have no : ¬ IsCh ds c d → q (.bl false) := fun z => h false ⟨fun e => (nomatch e), fun e => absurd e z⟩
  have yes : IsCh ds c d → q (.bl true) := fun z => h true ⟨fun _ => z, fun _ => rfl⟩
  refine seq_step fun KK hKK => ?_
  cases d with
  | ty n => cases hd
  | ref a => cases hd
  | bowl => cases hd
  | scr ns => cases hd
  | tup xs =>
    (try simp only [e_asg, e_ret, e_drop, e_next, e_ifS, e_if, e_test, e_tq, e_and, e_or, e_not, e_andV, e_orV, e_aq1, e_aq0, e_oq1, e_oq0, e_c, e_op, e_neg, e_ngq, e_nil, e_cons, e_call, e_callK, e_cb, e_tup, e_lst, e_sl, e_oN, e_oS, e_soq, e_rev, e_rvq, e_var0, e_varS, e_varB0, e_varBo, e_varBS, e_gn, e_go, e_gt, e_gsc, e_gsn, e_fl_t, e_fl_l, e_fl_s, e_sl_t, e_isN, e_notN, e_max2, e_min2, e_int1, e_abs1, e_tupl, e_lc, e_rng1, e_r1q, e_bowl, e_wipe1, e_for, List.set_cons_succ, List.set_cons_zero, add_ii, sub_ii, mul_ii, fdiv_ii, mod_ii, pow_ii, lt_ii, le_ii, gt_ii, ge_ii, DL.eq_int, DL.ne_int, DL.eq_bl, DL.ne_bl, isi_int_int, isi_int_bool, isi_int_tuple, isi_int_list, isi_bl_int, isi_bl_bool, isi_bl_tuple, isi_bl_list, isi_non_int, isi_non_bool, isi_non_tuple, isi_non_list, isi_tup_int, isi_tup_bool, isi_tup_tuple, isi_tup_list, isi_lst_int, isi_lst_bool, isi_lst_tuple, isi_lst_list, if_true, if_false, Bool.not_true, Bool.not_false, Bool.false_eq_true, decide_true, decide_false, e_chain, ix_t0, ix_t1, ix_t2, ix_t3, ix_l0, ix_l1, ix_last, ixl_last, e_wseqN, e_wsq_t, e_wsq_l, e_enum, e_enq_t, e_enq_l, e_rng2, e_r2q, add_tt, add_ll, cat_ll, list_t, list_l, tuple_t, sl_l, e_wipeL, e_wipeN, isi_str_int, isi_str_bool, isi_str_tuple, isi_str_list, isi_str_str, e_par2, e_par3, e_mval, e_mown, e_owq, e_frz, e_appM, e_callHO, e_maxK, e_mkq, List.getElem?_cons_zero, List.getElem?_cons_succ, e_notV, e_nvq, e_lc2, e_deN, e_deV, e_deO, e_de0, e_put, nn_non, nn_int, nn_bl, nn_str, nn_tup, nn_lst, e_par4, e_ix2, e_put2, e_go2])
    by_cases hl : c.c < (xs.length : Int)
    · rw [decide_eq_true hl]
      (try simp only [e_asg, e_ret, e_drop, e_next, e_ifS, e_if, e_test, e_tq, e_and, e_or, e_not, e_andV, e_orV, e_aq1, e_aq0, e_oq1, e_oq0, e_c, e_op, e_neg, e_ngq, e_nil, e_cons, e_call, e_callK, e_cb, e_tup, e_lst, e_sl, e_oN, e_oS, e_soq, e_rev, e_rvq, e_var0, e_varS, e_varB0, e_varBo, e_varBS, e_gn, e_go, e_gt, e_gsc, e_gsn, e_fl_t, e_fl_l, e_fl_s, e_sl_t, e_isN, e_notN, e_max2, e_min2, e_int1, e_abs1, e_tupl, e_lc, e_rng1, e_r1q, e_bowl, e_wipe1, e_for, List.set_cons_succ, List.set_cons_zero, add_ii, sub_ii, mul_ii, fdiv_ii, mod_ii, pow_ii, lt_ii, le_ii, gt_ii, ge_ii, DL.eq_int, DL.ne_int, DL.eq_bl, DL.ne_bl, isi_int_int, isi_int_bool, isi_int_tuple, isi_int_list, isi_bl_int, isi_bl_bool, isi_bl_tuple, isi_bl_list, isi_non_int, isi_non_bool, isi_non_tuple, isi_non_list, isi_tup_int, isi_tup_bool, isi_tup_tuple, isi_tup_list, isi_lst_int, isi_lst_bool, isi_lst_tuple, isi_lst_list, if_true, if_false, Bool.not_true, Bool.not_false, Bool.false_eq_true, decide_true, decide_false, e_chain, ix_t0, ix_t1, ix_t2, ix_t3, ix_l0, ix_l1, ix_last, ixl_last, e_wseqN, e_wsq_t, e_wsq_l, e_enum, e_enq_t, e_enq_l, e_rng2, e_r2q, add_tt, add_ll, cat_ll, list_t, list_l, tuple_t, sl_l, e_wipeL, e_wipeN, isi_str_int, isi_str_bool, isi_str_tuple, isi_str_list, isi_str_str, e_par2, e_par3, e_mval, e_mown, e_owq, e_frz, e_appM, e_callHO, e_maxK, e_mkq, List.getElem?_cons_zero, List.getElem?_cons_succ, e_notV, e_nvq, e_lc2, e_deN, e_deV, e_deO, e_de0, e_put, nn_non, nn_int, nn_bl, nn_str, nn_tup, nn_lst, e_par4, e_ix2, e_put2, e_go2])
      refine no fun ⟨ws, e, ok⟩ => ?_
      cases e
      have := ok.len
      rw [List.length_map] at hl
      omega
    rw [decide_eq_false hl]
    (try simp only [e_asg, e_ret, e_drop, e_next, e_ifS, e_if, e_test, e_tq, e_and, e_or, e_not, e_andV, e_orV, e_aq1, e_aq0, e_oq1, e_oq0, e_c, e_op, e_neg, e_ngq, e_nil, e_cons, e_call, e_callK, e_cb, e_tup, e_lst, e_sl, e_oN, e_oS, e_soq, e_rev, e_rvq, e_var0, e_varS, e_varB0, e_varBo, e_varBS, e_gn, e_go, e_gt, e_gsc, e_gsn, e_fl_t, e_fl_l, e_fl_s, e_sl_t, e_isN, e_notN, e_max2, e_min2, e_int1, e_abs1, e_tupl, e_lc, e_rng1, e_r1q, e_bowl, e_wipe1, e_for, List.set_cons_succ, List.set_cons_zero, add_ii, sub_ii, mul_ii, fdiv_ii, mod_ii, pow_ii, lt_ii, le_ii, gt_ii, ge_ii, DL.eq_int, DL.ne_int, DL.eq_bl, DL.ne_bl, isi_int_int, isi_int_bool, isi_int_tuple, isi_int_list, isi_bl_int, isi_bl_bool, isi_bl_tuple, isi_bl_list, isi_non_int, isi_non_bool, isi_non_tuple, isi_non_list, isi_tup_int, isi_tup_bool, isi_tup_tuple, isi_tup_list, isi_lst_int, isi_lst_bool, isi_lst_tuple, isi_lst_list, if_true, if_false, Bool.not_true, Bool.not_false, Bool.false_eq_true, decide_true, decide_false, e_chain, ix_t0, ix_t1, ix_t2, ix_t3, ix_l0, ix_l1, ix_last, ixl_last, e_wseqN, e_wsq_t, e_wsq_l, e_enum, e_enq_t, e_enq_l, e_rng2, e_r2q, add_tt, add_ll, cat_ll, list_t, list_l, tuple_t, sl_l, e_wipeL, e_wipeN, isi_str_int, isi_str_bool, isi_str_tuple, isi_str_list, isi_str_str, e_par2, e_par3, e_mval, e_mown, e_owq, e_frz, e_appM, e_callHO, e_maxK, e_mkq, List.getElem?_cons_zero, List.getElem?_cons_succ, e_notV, e_nvq, e_lc2, e_deN, e_deV, e_deO, e_de0, e_put, nn_non, nn_int, nn_bl, nn_str, nn_tup, nn_lst, e_par4, e_ix2, e_put2, e_go2])
    refine hKK _ ?_
    refine seq_step fun KK2 hKK2 => ?_
    (try simp only [e_asg, e_ret, e_drop, e_next, e_ifS, e_if, e_test, e_tq, e_and, e_or, e_not, e_andV, e_orV, e_aq1, e_aq0, e_oq1, e_oq0, e_c, e_op, e_neg, e_ngq, e_nil, e_cons, e_call, e_callK, e_cb, e_tup, e_lst, e_sl, e_oN, e_oS, e_soq, e_rev, e_rvq, e_var0, e_varS, e_varB0, e_varBo, e_varBS, e_gn, e_go, e_gt, e_gsc, e_gsn, e_fl_t, e_fl_l, e_fl_s, e_sl_t, e_isN, e_notN, e_max2, e_min2, e_int1, e_abs1, e_tupl, e_lc, e_rng1, e_r1q, e_bowl, e_wipe1, e_for, List.set_cons_succ, List.set_cons_zero, add_ii, sub_ii, mul_ii, fdiv_ii, mod_ii, pow_ii, lt_ii, le_ii, gt_ii, ge_ii, DL.eq_int, DL.ne_int, DL.eq_bl, DL.ne_bl, isi_int_int, isi_int_bool, isi_int_tuple, isi_int_list, isi_bl_int, isi_bl_bool, isi_bl_tuple, isi_bl_list, isi_non_int, isi_non_bool, isi_non_tuple, isi_non_list, isi_tup_int, isi_tup_bool, isi_tup_tuple, isi_tup_list, isi_lst_int, isi_lst_bool, isi_lst_tuple, isi_lst_list, if_true, if_false, Bool.not_true, Bool.not_false, Bool.false_eq_true, decide_true, decide_false, e_chain, ix_t0, ix_t1, ix_t2, ix_t3, ix_l0, ix_l1, ix_last, ixl_last, e_wseqN, e_wsq_t, e_wsq_l, e_enum, e_enq_t, e_enq_l, e_rng2, e_r2q, add_tt, add_ll, cat_ll, list_t, list_l, tuple_t, sl_l, e_wipeL, e_wipeN, isi_str_int, isi_str_bool, isi_str_tuple, isi_str_list, isi_str_str, e_par2, e_par3, e_mval, e_mown, e_owq, e_frz, e_appM, e_callHO, e_maxK, e_mkq, List.getElem?_cons_zero, List.getElem?_cons_succ, e_notV, e_nvq, e_lc2, e_deN, e_deV, e_deO, e_de0, e_put, nn_non, nn_int, nn_bl, nn_str, nn_tup, nn_lst, e_par4, e_ix2, e_put2, e_go2])
    refine hKK2 _ ?_
    refine seq_step fun KK3 hKK3 => ?_
    unfold wFor
    (try simp only [e_asg, e_ret, e_drop, e_next, e_ifS, e_if, e_test, e_tq, e_and, e_or, e_not, e_andV, e_orV, e_aq1, e_aq0, e_oq1, e_oq0, e_c, e_op, e_neg, e_ngq, e_nil, e_cons, e_call, e_callK, e_cb, e_tup, e_lst, e_sl, e_oN, e_oS, e_soq, e_rev, e_rvq, e_var0, e_varS, e_varB0, e_varBo, e_varBS, e_gn, e_go, e_gt, e_gsc, e_gsn, e_fl_t, e_fl_l, e_fl_s, e_sl_t, e_isN, e_notN, e_max2, e_min2, e_int1, e_abs1, e_tupl, e_lc, e_rng1, e_r1q, e_bowl, e_wipe1, e_for, List.set_cons_succ, List.set_cons_zero, add_ii, sub_ii, mul_ii, fdiv_ii, mod_ii, pow_ii, lt_ii, le_ii, gt_ii, ge_ii, DL.eq_int, DL.ne_int, DL.eq_bl, DL.ne_bl, isi_int_int, isi_int_bool, isi_int_tuple, isi_int_list, isi_bl_int, isi_bl_bool, isi_bl_tuple, isi_bl_list, isi_non_int, isi_non_bool, isi_non_tuple, isi_non_list, isi_tup_int, isi_tup_bool, isi_tup_tuple, isi_tup_list, isi_lst_int, isi_lst_bool, isi_lst_tuple, isi_lst_list, if_true, if_false, Bool.not_true, Bool.not_false, Bool.false_eq_true, decide_true, decide_false, e_chain, ix_t0, ix_t1, ix_t2, ix_t3, ix_l0, ix_l1, ix_last, ixl_last, e_wseqN, e_wsq_t, e_wsq_l, e_enum, e_enq_t, e_enq_l, e_rng2, e_r2q, add_tt, add_ll, cat_ll, list_t, list_l, tuple_t, sl_l, e_wipeL, e_wipeN, isi_str_int, isi_str_bool, isi_str_tuple, isi_str_list, isi_str_str, e_par2, e_par3, e_mval, e_mown, e_owq, e_frz, e_appM, e_callHO, e_maxK, e_mkq, List.getElem?_cons_zero, List.getElem?_cons_succ, e_notV, e_nvq, e_lc2, e_deN, e_deV, e_deO, e_de0, e_put, nn_non, nn_int, nn_bl, nn_str, nn_tup, nn_lst, e_par4, e_ix2, e_put2, e_go2])
    refine for_run (fun i ρ => ∃ a, ∃ us : List Win, ρ = [some (.val (dmg ds)), some (.val (.tup [.int c.h, .int c.c, .int c.l, hiD c.hi])), some (.val (.tup xs)), some (.val (.int (nextAt us : Nat))), a] ∧ xs.take i = us.map winD ∧ (∀ w ∈ us, okW ds.length c.h w) ∧ us.Pairwise fun a b => a.2 < b.1) _ 0 _ ⟨none, [], rfl, by simp, by simp, List.Pairwise.nil⟩ ?_ ?_
    · rintro i x ρ K hx ⟨a, us, rfl, e1, g1, g2⟩ hK
      have hi : i < xs.length := (List.getElem?_eq_some_iff.mp hx).1
      rw [Nat.zero_add] at e1 hK
      have hxp : x.pure = true := pures_mem hd x (List.mem_of_getElem? hx)
      have stop : (∀ w, x = winD w → okW ds.length c.h w → nextAt us ≤ w.1 → False) → q (.bl false) := fun z => no fun hch => by
        obtain ⟨w, e, ok, hn⟩ := ch_at e1 hx hch
        exact z w e ok ((next_le g1 g2).mpr hn)
      (try simp only [e_asg, e_ret, e_drop, e_next, e_ifS, e_if, e_test, e_tq, e_and, e_or, e_not, e_andV, e_orV, e_aq1, e_aq0, e_oq1, e_oq0, e_c, e_op, e_neg, e_ngq, e_nil, e_cons, e_call, e_callK, e_cb, e_tup, e_lst, e_sl, e_oN, e_oS, e_soq, e_rev, e_rvq, e_var0, e_varS, e_varB0, e_varBo, e_varBS, e_gn, e_go, e_gt, e_gsc, e_gsn, e_fl_t, e_fl_l, e_fl_s, e_sl_t, e_isN, e_notN, e_max2, e_min2, e_int1, e_abs1, e_tupl, e_lc, e_rng1, e_r1q, e_bowl, e_wipe1, e_for, List.set_cons_succ, List.set_cons_zero, add_ii, sub_ii, mul_ii, fdiv_ii, mod_ii, pow_ii, lt_ii, le_ii, gt_ii, ge_ii, DL.eq_int, DL.ne_int, DL.eq_bl, DL.ne_bl, isi_int_int, isi_int_bool, isi_int_tuple, isi_int_list, isi_bl_int, isi_bl_bool, isi_bl_tuple, isi_bl_list, isi_non_int, isi_non_bool, isi_non_tuple, isi_non_list, isi_tup_int, isi_tup_bool, isi_tup_tuple, isi_tup_list, isi_lst_int, isi_lst_bool, isi_lst_tuple, isi_lst_list, if_true, if_false, Bool.not_true, Bool.not_false, Bool.false_eq_true, decide_true, decide_false, e_chain, ix_t0, ix_t1, ix_t2, ix_t3, ix_l0, ix_l1, ix_last, ixl_last, e_wseqN, e_wsq_t, e_wsq_l, e_enum, e_enq_t, e_enq_l, e_rng2, e_r2q, add_tt, add_ll, cat_ll, list_t, list_l, tuple_t, sl_l, e_wipeL, e_wipeN, isi_str_int, isi_str_bool, isi_str_tuple, isi_str_list, isi_str_str, e_par2, e_par3, e_mval, e_mown, e_owq, e_frz, e_appM, e_callHO, e_maxK, e_mkq, List.getElem?_cons_zero, List.getElem?_cons_succ, e_notV, e_nvq, e_lc2, e_deN, e_deV, e_deO, e_de0, e_put, nn_non, nn_int, nn_bl, nn_str, nn_tup, nn_lst, e_par4, e_ix2, e_put2, e_go2])
      refine seq_step fun KK4 hKK4 => ?_
      cases x with
      | ty n => cases hxp
      | ref a => cases hxp
      | bowl => cases hxp
      | scr ns => cases hxp
      | tup ps =>
        (try simp only [e_asg, e_ret, e_drop, e_next, e_ifS, e_if, e_test, e_tq, e_and, e_or, e_not, e_andV, e_orV, e_aq1, e_aq0, e_oq1, e_oq0, e_c, e_op, e_neg, e_ngq, e_nil, e_cons, e_call, e_callK, e_cb, e_tup, e_lst, e_sl, e_oN, e_oS, e_soq, e_rev, e_rvq, e_var0, e_varS, e_varB0, e_varBo, e_varBS, e_gn, e_go, e_gt, e_gsc, e_gsn, e_fl_t, e_fl_l, e_fl_s, e_sl_t, e_isN, e_notN, e_max2, e_min2, e_int1, e_abs1, e_tupl, e_lc, e_rng1, e_r1q, e_bowl, e_wipe1, e_for, List.set_cons_succ, List.set_cons_zero, add_ii, sub_ii, mul_ii, fdiv_ii, mod_ii, pow_ii, lt_ii, le_ii, gt_ii, ge_ii, DL.eq_int, DL.ne_int, DL.eq_bl, DL.ne_bl, isi_int_int, isi_int_bool, isi_int_tuple, isi_int_list, isi_bl_int, isi_bl_bool, isi_bl_tuple, isi_bl_list, isi_non_int, isi_non_bool, isi_non_tuple, isi_non_list, isi_tup_int, isi_tup_bool, isi_tup_tuple, isi_tup_list, isi_lst_int, isi_lst_bool, isi_lst_tuple, isi_lst_list, if_true, if_false, Bool.not_true, Bool.not_false, Bool.false_eq_true, decide_true, decide_false, e_chain, ix_t0, ix_t1, ix_t2, ix_t3, ix_l0, ix_l1, ix_last, ixl_last, e_wseqN, e_wsq_t, e_wsq_l, e_enum, e_enq_t, e_enq_l, e_rng2, e_r2q, add_tt, add_ll, cat_ll, list_t, list_l, tuple_t, sl_l, e_wipeL, e_wipeN, isi_str_int, isi_str_bool, isi_str_tuple, isi_str_list, isi_str_str, e_par2, e_par3, e_mval, e_mown, e_owq, e_frz, e_appM, e_callHO, e_maxK, e_mkq, List.getElem?_cons_zero, List.getElem?_cons_succ, e_notV, e_nvq, e_lc2, e_deN, e_deV, e_deO, e_de0, e_put, nn_non, nn_int, nn_bl, nn_str, nn_tup, nn_lst, e_par4, e_ix2, e_put2, e_go2])
        cases e2 : ((ps.length : Int) == 2) with
        | false =>
          (try simp only [e_asg, e_ret, e_drop, e_next, e_ifS, e_if, e_test, e_tq, e_and, e_or, e_not, e_andV, e_orV, e_aq1, e_aq0, e_oq1, e_oq0, e_c, e_op, e_neg, e_ngq, e_nil, e_cons, e_call, e_callK, e_cb, e_tup, e_lst, e_sl, e_oN, e_oS, e_soq, e_rev, e_rvq, e_var0, e_varS, e_varB0, e_varBo, e_varBS, e_gn, e_go, e_gt, e_gsc, e_gsn, e_fl_t, e_fl_l, e_fl_s, e_sl_t, e_isN, e_notN, e_max2, e_min2, e_int1, e_abs1, e_tupl, e_lc, e_rng1, e_r1q, e_bowl, e_wipe1, e_for, List.set_cons_succ, List.set_cons_zero, add_ii, sub_ii, mul_ii, fdiv_ii, mod_ii, pow_ii, lt_ii, le_ii, gt_ii, ge_ii, DL.eq_int, DL.ne_int, DL.eq_bl, DL.ne_bl, isi_int_int, isi_int_bool, isi_int_tuple, isi_int_list, isi_bl_int, isi_bl_bool, isi_bl_tuple, isi_bl_list, isi_non_int, isi_non_bool, isi_non_tuple, isi_non_list, isi_tup_int, isi_tup_bool, isi_tup_tuple, isi_tup_list, isi_lst_int, isi_lst_bool, isi_lst_tuple, isi_lst_list, if_true, if_false, Bool.not_true, Bool.not_false, Bool.false_eq_true, decide_true, decide_false, e_chain, ix_t0, ix_t1, ix_t2, ix_t3, ix_l0, ix_l1, ix_last, ixl_last, e_wseqN, e_wsq_t, e_wsq_l, e_enum, e_enq_t, e_enq_l, e_rng2, e_r2q, add_tt, add_ll, cat_ll, list_t, list_l, tuple_t, sl_l, e_wipeL, e_wipeN, isi_str_int, isi_str_bool, isi_str_tuple, isi_str_list, isi_str_str, e_par2, e_par3, e_mval, e_mown, e_owq, e_frz, e_appM, e_callHO, e_maxK, e_mkq, List.getElem?_cons_zero, List.getElem?_cons_succ, e_notV, e_nvq, e_lc2, e_deN, e_deV, e_deO, e_de0, e_put, nn_non, nn_int, nn_bl, nn_str, nn_tup, nn_lst, e_par4, e_ix2, e_put2, e_go2])
          refine stop fun w e ok _ => ?_
          cases e
          cases e2
        | true =>
          have : ps.length = 2 := by have := eq_of_beq e2; omega
          obtain ⟨a1, b1, rfl⟩ : ∃ a b, ps = [a, b] := match ps, this with
            | [a, b], _ => ⟨a, b, rfl⟩
          have hpp := pures_mem (show D.pures [a1, b1] = true from hxp)
          (try simp only [len_dmg, e_asg, e_ret, e_drop, e_next, e_ifS, e_if, e_test, e_tq, e_and, e_or, e_not, e_andV, e_orV, e_aq1, e_aq0, e_oq1, e_oq0, e_c, e_op, e_neg, e_ngq, e_nil, e_cons, e_call, e_callK, e_cb, e_tup, e_lst, e_sl, e_oN, e_oS, e_soq, e_rev, e_rvq, e_var0, e_varS, e_varB0, e_varBo, e_varBS, e_gn, e_go, e_gt, e_gsc, e_gsn, e_fl_t, e_fl_l, e_fl_s, e_sl_t, e_isN, e_notN, e_max2, e_min2, e_int1, e_abs1, e_tupl, e_lc, e_rng1, e_r1q, e_bowl, e_wipe1, e_for, List.set_cons_succ, List.set_cons_zero, add_ii, sub_ii, mul_ii, fdiv_ii, mod_ii, pow_ii, lt_ii, le_ii, gt_ii, ge_ii, DL.eq_int, DL.ne_int, DL.eq_bl, DL.ne_bl, isi_int_int, isi_int_bool, isi_int_tuple, isi_int_list, isi_bl_int, isi_bl_bool, isi_bl_tuple, isi_bl_list, isi_non_int, isi_non_bool, isi_non_tuple, isi_non_list, isi_tup_int, isi_tup_bool, isi_tup_tuple, isi_tup_list, isi_lst_int, isi_lst_bool, isi_lst_tuple, isi_lst_list, if_true, if_false, Bool.not_true, Bool.not_false, Bool.false_eq_true, decide_true, decide_false, e_chain, ix_t0, ix_t1, ix_t2, ix_t3, ix_l0, ix_l1, ix_last, ixl_last, e_wseqN, e_wsq_t, e_wsq_l, e_enum, e_enq_t, e_enq_l, e_rng2, e_r2q, add_tt, add_ll, cat_ll, list_t, list_l, tuple_t, sl_l, e_wipeL, e_wipeN, isi_str_int, isi_str_bool, isi_str_tuple, isi_str_list, isi_str_str, e_par2, e_par3, e_mval, e_mown, e_owq, e_frz, e_appM, e_callHO, e_maxK, e_mkq, List.getElem?_cons_zero, List.getElem?_cons_succ, e_notV, e_nvq, e_lc2, e_deN, e_deV, e_deO, e_de0, e_put, nn_non, nn_int, nn_bl, nn_str, nn_tup, nn_lst, e_par4, e_ix2, e_put2, e_go2])
          refine p_law_is_number a1 _ _ (hpp a1 (by simp)) ?_
          cases e3 : a1.btw (nextAt us : Nat) ((ds.length : Int) - 1) with
          | false =>
            (try simp only [e_asg, e_ret, e_drop, e_next, e_ifS, e_if, e_test, e_tq, e_and, e_or, e_not, e_andV, e_orV, e_aq1, e_aq0, e_oq1, e_oq0, e_c, e_op, e_neg, e_ngq, e_nil, e_cons, e_call, e_callK, e_cb, e_tup, e_lst, e_sl, e_oN, e_oS, e_soq, e_rev, e_rvq, e_var0, e_varS, e_varB0, e_varBo, e_varBS, e_gn, e_go, e_gt, e_gsc, e_gsn, e_fl_t, e_fl_l, e_fl_s, e_sl_t, e_isN, e_notN, e_max2, e_min2, e_int1, e_abs1, e_tupl, e_lc, e_rng1, e_r1q, e_bowl, e_wipe1, e_for, List.set_cons_succ, List.set_cons_zero, add_ii, sub_ii, mul_ii, fdiv_ii, mod_ii, pow_ii, lt_ii, le_ii, gt_ii, ge_ii, DL.eq_int, DL.ne_int, DL.eq_bl, DL.ne_bl, isi_int_int, isi_int_bool, isi_int_tuple, isi_int_list, isi_bl_int, isi_bl_bool, isi_bl_tuple, isi_bl_list, isi_non_int, isi_non_bool, isi_non_tuple, isi_non_list, isi_tup_int, isi_tup_bool, isi_tup_tuple, isi_tup_list, isi_lst_int, isi_lst_bool, isi_lst_tuple, isi_lst_list, if_true, if_false, Bool.not_true, Bool.not_false, Bool.false_eq_true, decide_true, decide_false, e_chain, ix_t0, ix_t1, ix_t2, ix_t3, ix_l0, ix_l1, ix_last, ixl_last, e_wseqN, e_wsq_t, e_wsq_l, e_enum, e_enq_t, e_enq_l, e_rng2, e_r2q, add_tt, add_ll, cat_ll, list_t, list_l, tuple_t, sl_l, e_wipeL, e_wipeN, isi_str_int, isi_str_bool, isi_str_tuple, isi_str_list, isi_str_str, e_par2, e_par3, e_mval, e_mown, e_owq, e_frz, e_appM, e_callHO, e_maxK, e_mkq, List.getElem?_cons_zero, List.getElem?_cons_succ, e_notV, e_nvq, e_lc2, e_deN, e_deV, e_deO, e_de0, e_put, nn_non, nn_int, nn_bl, nn_str, nn_tup, nn_lst, e_par4, e_ix2, e_put2, e_go2])
            refine stop fun w e ok hn => ?_
            rw [winD_eq] at e
            cases e
            rw [D.btw_of (by omega) (by have := ok.1; have := ok.2.1; omega)] at e3
            cases e3
          | true =>
            obtain ⟨i1, rfl, h1, h2⟩ := D.btw_true e3
            obtain ⟨a, ha⟩ : ∃ a : Nat, i1 = (a : Int) := ⟨i1.toNat, by omega⟩
            subst ha
            (try simp only [e_asg, e_ret, e_drop, e_next, e_ifS, e_if, e_test, e_tq, e_and, e_or, e_not, e_andV, e_orV, e_aq1, e_aq0, e_oq1, e_oq0, e_c, e_op, e_neg, e_ngq, e_nil, e_cons, e_call, e_callK, e_cb, e_tup, e_lst, e_sl, e_oN, e_oS, e_soq, e_rev, e_rvq, e_var0, e_varS, e_varB0, e_varBo, e_varBS, e_gn, e_go, e_gt, e_gsc, e_gsn, e_fl_t, e_fl_l, e_fl_s, e_sl_t, e_isN, e_notN, e_max2, e_min2, e_int1, e_abs1, e_tupl, e_lc, e_rng1, e_r1q, e_bowl, e_wipe1, e_for, List.set_cons_succ, List.set_cons_zero, add_ii, sub_ii, mul_ii, fdiv_ii, mod_ii, pow_ii, lt_ii, le_ii, gt_ii, ge_ii, DL.eq_int, DL.ne_int, DL.eq_bl, DL.ne_bl, isi_int_int, isi_int_bool, isi_int_tuple, isi_int_list, isi_bl_int, isi_bl_bool, isi_bl_tuple, isi_bl_list, isi_non_int, isi_non_bool, isi_non_tuple, isi_non_list, isi_tup_int, isi_tup_bool, isi_tup_tuple, isi_tup_list, isi_lst_int, isi_lst_bool, isi_lst_tuple, isi_lst_list, if_true, if_false, Bool.not_true, Bool.not_false, Bool.false_eq_true, decide_true, decide_false, e_chain, ix_t0, ix_t1, ix_t2, ix_t3, ix_l0, ix_l1, ix_last, ixl_last, e_wseqN, e_wsq_t, e_wsq_l, e_enum, e_enq_t, e_enq_l, e_rng2, e_r2q, add_tt, add_ll, cat_ll, list_t, list_l, tuple_t, sl_l, e_wipeL, e_wipeN, isi_str_int, isi_str_bool, isi_str_tuple, isi_str_list, isi_str_str, e_par2, e_par3, e_mval, e_mown, e_owq, e_frz, e_appM, e_callHO, e_maxK, e_mkq, List.getElem?_cons_zero, List.getElem?_cons_succ, e_notV, e_nvq, e_lc2, e_deN, e_deV, e_deO, e_de0, e_put, nn_non, nn_int, nn_bl, nn_str, nn_tup, nn_lst, e_par4, e_ix2, e_put2, e_go2])
            refine hKK4 _ ?_
            refine seq_step fun KK5 hKK5 => ?_
            (try simp only [len_dmg, e_asg, e_ret, e_drop, e_next, e_ifS, e_if, e_test, e_tq, e_and, e_or, e_not, e_andV, e_orV, e_aq1, e_aq0, e_oq1, e_oq0, e_c, e_op, e_neg, e_ngq, e_nil, e_cons, e_call, e_callK, e_cb, e_tup, e_lst, e_sl, e_oN, e_oS, e_soq, e_rev, e_rvq, e_var0, e_varS, e_varB0, e_varBo, e_varBS, e_gn, e_go, e_gt, e_gsc, e_gsn, e_fl_t, e_fl_l, e_fl_s, e_sl_t, e_isN, e_notN, e_max2, e_min2, e_int1, e_abs1, e_tupl, e_lc, e_rng1, e_r1q, e_bowl, e_wipe1, e_for, List.set_cons_succ, List.set_cons_zero, add_ii, sub_ii, mul_ii, fdiv_ii, mod_ii, pow_ii, lt_ii, le_ii, gt_ii, ge_ii, DL.eq_int, DL.ne_int, DL.eq_bl, DL.ne_bl, isi_int_int, isi_int_bool, isi_int_tuple, isi_int_list, isi_bl_int, isi_bl_bool, isi_bl_tuple, isi_bl_list, isi_non_int, isi_non_bool, isi_non_tuple, isi_non_list, isi_tup_int, isi_tup_bool, isi_tup_tuple, isi_tup_list, isi_lst_int, isi_lst_bool, isi_lst_tuple, isi_lst_list, if_true, if_false, Bool.not_true, Bool.not_false, Bool.false_eq_true, decide_true, decide_false, e_chain, ix_t0, ix_t1, ix_t2, ix_t3, ix_l0, ix_l1, ix_last, ixl_last, e_wseqN, e_wsq_t, e_wsq_l, e_enum, e_enq_t, e_enq_l, e_rng2, e_r2q, add_tt, add_ll, cat_ll, list_t, list_l, tuple_t, sl_l, e_wipeL, e_wipeN, isi_str_int, isi_str_bool, isi_str_tuple, isi_str_list, isi_str_str, e_par2, e_par3, e_mval, e_mown, e_owq, e_frz, e_appM, e_callHO, e_maxK, e_mkq, List.getElem?_cons_zero, List.getElem?_cons_succ, e_notV, e_nvq, e_lc2, e_deN, e_deV, e_deO, e_de0, e_put, nn_non, nn_int, nn_bl, nn_str, nn_tup, nn_lst, e_par4, e_ix2, e_put2, e_go2])
            refine p_law_is_number b1 _ _ (hpp b1 (by simp)) ?_
            cases e4 : b1.btw (a : Int) (minI ds.length ((a : Int) + c.h) - 1) with
            | false =>
              (try simp only [e_asg, e_ret, e_drop, e_next, e_ifS, e_if, e_test, e_tq, e_and, e_or, e_not, e_andV, e_orV, e_aq1, e_aq0, e_oq1, e_oq0, e_c, e_op, e_neg, e_ngq, e_nil, e_cons, e_call, e_callK, e_cb, e_tup, e_lst, e_sl, e_oN, e_oS, e_soq, e_rev, e_rvq, e_var0, e_varS, e_varB0, e_varBo, e_varBS, e_gn, e_go, e_gt, e_gsc, e_gsn, e_fl_t, e_fl_l, e_fl_s, e_sl_t, e_isN, e_notN, e_max2, e_min2, e_int1, e_abs1, e_tupl, e_lc, e_rng1, e_r1q, e_bowl, e_wipe1, e_for, List.set_cons_succ, List.set_cons_zero, add_ii, sub_ii, mul_ii, fdiv_ii, mod_ii, pow_ii, lt_ii, le_ii, gt_ii, ge_ii, DL.eq_int, DL.ne_int, DL.eq_bl, DL.ne_bl, isi_int_int, isi_int_bool, isi_int_tuple, isi_int_list, isi_bl_int, isi_bl_bool, isi_bl_tuple, isi_bl_list, isi_non_int, isi_non_bool, isi_non_tuple, isi_non_list, isi_tup_int, isi_tup_bool, isi_tup_tuple, isi_tup_list, isi_lst_int, isi_lst_bool, isi_lst_tuple, isi_lst_list, if_true, if_false, Bool.not_true, Bool.not_false, Bool.false_eq_true, decide_true, decide_false, e_chain, ix_t0, ix_t1, ix_t2, ix_t3, ix_l0, ix_l1, ix_last, ixl_last, e_wseqN, e_wsq_t, e_wsq_l, e_enum, e_enq_t, e_enq_l, e_rng2, e_r2q, add_tt, add_ll, cat_ll, list_t, list_l, tuple_t, sl_l, e_wipeL, e_wipeN, isi_str_int, isi_str_bool, isi_str_tuple, isi_str_list, isi_str_str, e_par2, e_par3, e_mval, e_mown, e_owq, e_frz, e_appM, e_callHO, e_maxK, e_mkq, List.getElem?_cons_zero, List.getElem?_cons_succ, e_notV, e_nvq, e_lc2, e_deN, e_deV, e_deO, e_de0, e_put, nn_non, nn_int, nn_bl, nn_str, nn_tup, nn_lst, e_par4, e_ix2, e_put2, e_go2])
              refine stop fun w e ok hn => ?_
              rw [winD_eq] at e
              cases e
              rw [D.btw_of (by have := ok.1; omega) (by rw [minI_eq]; have := ok.2; omega)] at e4
              cases e4
            | true =>
              obtain ⟨j1, rfl, h3, h4⟩ := D.btw_true e4
              obtain ⟨b, hb⟩ : ∃ b : Nat, j1 = (b : Int) := ⟨j1.toNat, by omega⟩
              subst hb
              rw [minI_eq] at h4
              (try simp only [e_asg, e_ret, e_drop, e_next, e_ifS, e_if, e_test, e_tq, e_and, e_or, e_not, e_andV, e_orV, e_aq1, e_aq0, e_oq1, e_oq0, e_c, e_op, e_neg, e_ngq, e_nil, e_cons, e_call, e_callK, e_cb, e_tup, e_lst, e_sl, e_oN, e_oS, e_soq, e_rev, e_rvq, e_var0, e_varS, e_varB0, e_varBo, e_varBS, e_gn, e_go, e_gt, e_gsc, e_gsn, e_fl_t, e_fl_l, e_fl_s, e_sl_t, e_isN, e_notN, e_max2, e_min2, e_int1, e_abs1, e_tupl, e_lc, e_rng1, e_r1q, e_bowl, e_wipe1, e_for, List.set_cons_succ, List.set_cons_zero, add_ii, sub_ii, mul_ii, fdiv_ii, mod_ii, pow_ii, lt_ii, le_ii, gt_ii, ge_ii, DL.eq_int, DL.ne_int, DL.eq_bl, DL.ne_bl, isi_int_int, isi_int_bool, isi_int_tuple, isi_int_list, isi_bl_int, isi_bl_bool, isi_bl_tuple, isi_bl_list, isi_non_int, isi_non_bool, isi_non_tuple, isi_non_list, isi_tup_int, isi_tup_bool, isi_tup_tuple, isi_tup_list, isi_lst_int, isi_lst_bool, isi_lst_tuple, isi_lst_list, if_true, if_false, Bool.not_true, Bool.not_false, Bool.false_eq_true, decide_true, decide_false, e_chain, ix_t0, ix_t1, ix_t2, ix_t3, ix_l0, ix_l1, ix_last, ixl_last, e_wseqN, e_wsq_t, e_wsq_l, e_enum, e_enq_t, e_enq_l, e_rng2, e_r2q, add_tt, add_ll, cat_ll, list_t, list_l, tuple_t, sl_l, e_wipeL, e_wipeN, isi_str_int, isi_str_bool, isi_str_tuple, isi_str_list, isi_str_str, e_par2, e_par3, e_mval, e_mown, e_owq, e_frz, e_appM, e_callHO, e_maxK, e_mkq, List.getElem?_cons_zero, List.getElem?_cons_succ, e_notV, e_nvq, e_lc2, e_deN, e_deV, e_deO, e_de0, e_put, nn_non, nn_int, nn_bl, nn_str, nn_tup, nn_lst, e_par4, e_ix2, e_put2, e_go2])
              refine hKK5 _ ?_
              (try simp only [e_asg, e_ret, e_drop, e_next, e_ifS, e_if, e_test, e_tq, e_and, e_or, e_not, e_andV, e_orV, e_aq1, e_aq0, e_oq1, e_oq0, e_c, e_op, e_neg, e_ngq, e_nil, e_cons, e_call, e_callK, e_cb, e_tup, e_lst, e_sl, e_oN, e_oS, e_soq, e_rev, e_rvq, e_var0, e_varS, e_varB0, e_varBo, e_varBS, e_gn, e_go, e_gt, e_gsc, e_gsn, e_fl_t, e_fl_l, e_fl_s, e_sl_t, e_isN, e_notN, e_max2, e_min2, e_int1, e_abs1, e_tupl, e_lc, e_rng1, e_r1q, e_bowl, e_wipe1, e_for, List.set_cons_succ, List.set_cons_zero, add_ii, sub_ii, mul_ii, fdiv_ii, mod_ii, pow_ii, lt_ii, le_ii, gt_ii, ge_ii, DL.eq_int, DL.ne_int, DL.eq_bl, DL.ne_bl, isi_int_int, isi_int_bool, isi_int_tuple, isi_int_list, isi_bl_int, isi_bl_bool, isi_bl_tuple, isi_bl_list, isi_non_int, isi_non_bool, isi_non_tuple, isi_non_list, isi_tup_int, isi_tup_bool, isi_tup_tuple, isi_tup_list, isi_lst_int, isi_lst_bool, isi_lst_tuple, isi_lst_list, if_true, if_false, Bool.not_true, Bool.not_false, Bool.false_eq_true, decide_true, decide_false, e_chain, ix_t0, ix_t1, ix_t2, ix_t3, ix_l0, ix_l1, ix_last, ixl_last, e_wseqN, e_wsq_t, e_wsq_l, e_enum, e_enq_t, e_enq_l, e_rng2, e_r2q, add_tt, add_ll, cat_ll, list_t, list_l, tuple_t, sl_l, e_wipeL, e_wipeN, isi_str_int, isi_str_bool, isi_str_tuple, isi_str_list, isi_str_str, e_par2, e_par3, e_mval, e_mown, e_owq, e_frz, e_appM, e_callHO, e_maxK, e_mkq, List.getElem?_cons_zero, List.getElem?_cons_succ, e_notV, e_nvq, e_lc2, e_deN, e_deV, e_deO, e_de0, e_put, nn_non, nn_int, nn_bl, nn_str, nn_tup, nn_lst, e_par4, e_ix2, e_put2, e_go2])
              refine hK _ ⟨some (.val (.tup [.int (a : Int), .int (b : Int)])), us ++ [(a, b)], ?_, ?_, ?_, ?_⟩
              · rw [nextAt_app]
                show _ = [_, _, _, some (Slot.val (D.int ((b + 1 : Nat) : Int))), _]
                rw [show ((b + 1 : Nat) : Int) = (b : Int) + 1 by omega]
              · rw [List.take_succ, hx, e1, List.map_append]
                rfl
              · intro w hw
                rcases List.mem_append.mp hw with hw | hw
                · exact g1 w hw
                · rw [List.mem_singleton.mp hw]
                  exact ⟨by show a ≤ b; omega, by show b < ds.length; omega, by show (b : Int) - a < c.h; omega⟩
              · rw [pair_end]
                exact ⟨g2, (next_le (w := (a, b)) g1 g2).mp (by show nextAt us ≤ a; omega)⟩
      | _ =>
        (try simp only [e_asg, e_ret, e_drop, e_next, e_ifS, e_if, e_test, e_tq, e_and, e_or, e_not, e_andV, e_orV, e_aq1, e_aq0, e_oq1, e_oq0, e_c, e_op, e_neg, e_ngq, e_nil, e_cons, e_call, e_callK, e_cb, e_tup, e_lst, e_sl, e_oN, e_oS, e_soq, e_rev, e_rvq, e_var0, e_varS, e_varB0, e_varBo, e_varBS, e_gn, e_go, e_gt, e_gsc, e_gsn, e_fl_t, e_fl_l, e_fl_s, e_sl_t, e_isN, e_notN, e_max2, e_min2, e_int1, e_abs1, e_tupl, e_lc, e_rng1, e_r1q, e_bowl, e_wipe1, e_for, List.set_cons_succ, List.set_cons_zero, add_ii, sub_ii, mul_ii, fdiv_ii, mod_ii, pow_ii, lt_ii, le_ii, gt_ii, ge_ii, DL.eq_int, DL.ne_int, DL.eq_bl, DL.ne_bl, isi_int_int, isi_int_bool, isi_int_tuple, isi_int_list, isi_bl_int, isi_bl_bool, isi_bl_tuple, isi_bl_list, isi_non_int, isi_non_bool, isi_non_tuple, isi_non_list, isi_tup_int, isi_tup_bool, isi_tup_tuple, isi_tup_list, isi_lst_int, isi_lst_bool, isi_lst_tuple, isi_lst_list, if_true, if_false, Bool.not_true, Bool.not_false, Bool.false_eq_true, decide_true, decide_false, e_chain, ix_t0, ix_t1, ix_t2, ix_t3, ix_l0, ix_l1, ix_last, ixl_last, e_wseqN, e_wsq_t, e_wsq_l, e_enum, e_enq_t, e_enq_l, e_rng2, e_r2q, add_tt, add_ll, cat_ll, list_t, list_l, tuple_t, sl_l, e_wipeL, e_wipeN, isi_str_int, isi_str_bool, isi_str_tuple, isi_str_list, isi_str_str, e_par2, e_par3, e_mval, e_mown, e_owq, e_frz, e_appM, e_callHO, e_maxK, e_mkq, List.getElem?_cons_zero, List.getElem?_cons_succ, e_notV, e_nvq, e_lc2, e_deN, e_deV, e_deO, e_de0, e_put, nn_non, nn_int, nn_bl, nn_str, nn_tup, nn_lst, e_par4, e_ix2, e_put2, e_go2])
        refine stop fun w e => ?_
        cases e
    · rintro ρ ⟨a, us, rfl, e1, g1, g2⟩
      rw [Nat.zero_add, List.take_length] at e1
      refine hKK3 _ ?_
      (try simp only [e_asg, e_ret, e_drop, e_next, e_ifS, e_if, e_test, e_tq, e_and, e_or, e_not, e_andV, e_orV, e_aq1, e_aq0, e_oq1, e_oq0, e_c, e_op, e_neg, e_ngq, e_nil, e_cons, e_call, e_callK, e_cb, e_tup, e_lst, e_sl, e_oN, e_oS, e_soq, e_rev, e_rvq, e_var0, e_varS, e_varB0, e_varBo, e_varBS, e_gn, e_go, e_gt, e_gsc, e_gsn, e_fl_t, e_fl_l, e_fl_s, e_sl_t, e_isN, e_notN, e_max2, e_min2, e_int1, e_abs1, e_tupl, e_lc, e_rng1, e_r1q, e_bowl, e_wipe1, e_for, List.set_cons_succ, List.set_cons_zero, add_ii, sub_ii, mul_ii, fdiv_ii, mod_ii, pow_ii, lt_ii, le_ii, gt_ii, ge_ii, DL.eq_int, DL.ne_int, DL.eq_bl, DL.ne_bl, isi_int_int, isi_int_bool, isi_int_tuple, isi_int_list, isi_bl_int, isi_bl_bool, isi_bl_tuple, isi_bl_list, isi_non_int, isi_non_bool, isi_non_tuple, isi_non_list, isi_tup_int, isi_tup_bool, isi_tup_tuple, isi_tup_list, isi_lst_int, isi_lst_bool, isi_lst_tuple, isi_lst_list, if_true, if_false, Bool.not_true, Bool.not_false, Bool.false_eq_true, decide_true, decide_false, e_chain, ix_t0, ix_t1, ix_t2, ix_t3, ix_l0, ix_l1, ix_last, ixl_last, e_wseqN, e_wsq_t, e_wsq_l, e_enum, e_enq_t, e_enq_l, e_rng2, e_r2q, add_tt, add_ll, cat_ll, list_t, list_l, tuple_t, sl_l, e_wipeL, e_wipeN, isi_str_int, isi_str_bool, isi_str_tuple, isi_str_list, isi_str_str, e_par2, e_par3, e_mval, e_mown, e_owq, e_frz, e_appM, e_callHO, e_maxK, e_mkq, List.getElem?_cons_zero, List.getElem?_cons_succ, e_notV, e_nvq, e_lc2, e_deN, e_deV, e_deO, e_de0, e_put, nn_non, nn_int, nn_bl, nn_str, nn_tup, nn_lst, e_par4, e_ix2, e_put2, e_go2])
      refine yes ⟨us, by rw [e1], ?_, g1, g2⟩
      rw [e1, List.length_map] at hl
      omega
  | _ =>
    (try simp only [e_asg, e_ret, e_drop, e_next, e_ifS, e_if, e_test, e_tq, e_and, e_or, e_not, e_andV, e_orV, e_aq1, e_aq0, e_oq1, e_oq0, e_c, e_op, e_neg, e_ngq, e_nil, e_cons, e_call, e_callK, e_cb, e_tup, e_lst, e_sl, e_oN, e_oS, e_soq, e_rev, e_rvq, e_var0, e_varS, e_varB0, e_varBo, e_varBS, e_gn, e_go, e_gt, e_gsc, e_gsn, e_fl_t, e_fl_l, e_fl_s, e_sl_t, e_isN, e_notN, e_max2, e_min2, e_int1, e_abs1, e_tupl, e_lc, e_rng1, e_r1q, e_bowl, e_wipe1, e_for, List.set_cons_succ, List.set_cons_zero, add_ii, sub_ii, mul_ii, fdiv_ii, mod_ii, pow_ii, lt_ii, le_ii, gt_ii, ge_ii, DL.eq_int, DL.ne_int, DL.eq_bl, DL.ne_bl, isi_int_int, isi_int_bool, isi_int_tuple, isi_int_list, isi_bl_int, isi_bl_bool, isi_bl_tuple, isi_bl_list, isi_non_int, isi_non_bool, isi_non_tuple, isi_non_list, isi_tup_int, isi_tup_bool, isi_tup_tuple, isi_tup_list, isi_lst_int, isi_lst_bool, isi_lst_tuple, isi_lst_list, if_true, if_false, Bool.not_true, Bool.not_false, Bool.false_eq_true, decide_true, decide_false, e_chain, ix_t0, ix_t1, ix_t2, ix_t3, ix_l0, ix_l1, ix_last, ixl_last, e_wseqN, e_wsq_t, e_wsq_l, e_enum, e_enq_t, e_enq_l, e_rng2, e_r2q, add_tt, add_ll, cat_ll, list_t, list_l, tuple_t, sl_l, e_wipeL, e_wipeN, isi_str_int, isi_str_bool, isi_str_tuple, isi_str_list, isi_str_str, e_par2, e_par3, e_mval, e_mown, e_owq, e_frz, e_appM, e_callHO, e_maxK, e_mkq, List.getElem?_cons_zero, List.getElem?_cons_succ, e_notV, e_nvq, e_lc2, e_deN, e_deV, e_deO, e_de0, e_put, nn_non, nn_int, nn_bl, nn_str, nn_tup, nn_lst, e_par4, e_ix2, e_put2, e_go2])
    refine no fun ⟨ws, e, _⟩ => ?_
    cases e
end
end HX
set_option Elab.async false
set_option linter.all false
set_option maxRecDepth 100000
set_option maxHeartbeats 400000
/-! the law's own rows, hour by hour -/
namespace HX
open PySem PySem.Spec PyProof.Rows L2 DL
def stepM (ds : List Int) (c : Cl) (prev : Nat → Int) (e : Nat) (b : Int) (low : Nat) : Int := maxI b (prev low + worth c (sumW ds (low, e)))
def rowM (ds : List Int) (c : Cl) (prev : Nat → Int) : Nat → Int
  | 0 => 0
  | e + 1 => (List.range' (e + 1 - c.h.toNat) (e + 1 - (e + 1 - c.h.toNat))).foldl (stepM ds c prev e) (maxI (rowM ds c prev e) (prev (e + 1)))
def MM (ds : List Int) (c : Cl) : Nat → Nat → Int
  | 0 => fun _ => 0
  | k + 1 => rowM ds c (MM ds c k)
theorem MM_0 (ds : List Int) (c : Cl) : ∀ k, MM ds c k 0 = 0
  | 0 => rfl
  | _ + 1 => rfl
section
variable {ds : List Int} {c : Cl}
theorem fold_ge (prev : Nat → Int) (e : Nat) : ∀ (l : List Nat) (b : Int), b ≤ l.foldl (stepM ds c prev e) b ∧ ∀ low ∈ l, prev low + worth c (sumW ds (low, e)) ≤ l.foldl (stepM ds c prev e) b
  | [], b => ⟨Int.le_refl _, fun _ h => nomatch h⟩
  | x :: l, b => by
    obtain ⟨h1, h2⟩ := fold_ge prev e l (stepM ds c prev e b x)
    have h3 : b ≤ stepM ds c prev e b x ∧ prev x + worth c (sumW ds (x, e)) ≤ stepM ds c prev e b x := by
      unfold stepM
      rw [maxI_eq]
      omega
    rw [List.foldl_cons]
    refine ⟨by omega, fun low hl => ?_⟩
    rcases List.mem_cons.mp hl with rfl | hl
    · omega
    · exact h2 low hl
theorem fold_is (prev : Nat → Int) (e : Nat) : ∀ (l : List Nat) (b : Int), l.foldl (stepM ds c prev e) b = b ∨ ∃ low ∈ l, l.foldl (stepM ds c prev e) b = prev low + worth c (sumW ds (low, e))
  | [], b => .inl rfl
  | x :: l, b => by
    rw [List.foldl_cons]
    rcases fold_is prev e l (stepM ds c prev e b x) with h | ⟨low, hl, h⟩
    · rw [h]
      have h3 : stepM ds c prev e b x = b ∨ stepM ds c prev e b x = prev x + worth c (sumW ds (x, e)) := by
        unfold stepM
        rw [maxI_eq]
        omega
      rcases h3 with h3 | h3
      · exact .inl h3
      · exact .inr ⟨x, List.mem_cons_self, h3⟩
    · exact .inr ⟨low, List.mem_cons_of_mem _ hl, h⟩
theorem MM_sound : ∀ (k e : Nat), e ≤ ds.length → ∃ ws, Val c.h.toNat k e ws ∧ val ds c ws = MM ds c k e
  | 0, e, _ => ⟨[], ⟨Nat.le_refl _, (fun _ h => nomatch h), List.Pairwise.nil⟩, rfl⟩
  | k + 1, 0, _ => ⟨[], ⟨Nat.zero_le _, (fun _ h => nomatch h), List.Pairwise.nil⟩, rfl⟩
  | k + 1, e + 1, he => by
    have hrow : MM ds c (k + 1) (e + 1) = (List.range' (e + 1 - c.h.toNat) (e + 1 - (e + 1 - c.h.toNat))).foldl (stepM ds c (MM ds c k) e) (maxI (MM ds c (k + 1) e) (MM ds c k (e + 1))) := rfl
    rw [hrow]
    rcases fold_is (ds := ds) (c := c) (MM ds c k) e (List.range' (e + 1 - c.h.toNat) (e + 1 - (e + 1 - c.h.toNat))) (maxI (MM ds c (k + 1) e) (MM ds c k (e + 1))) with h | ⟨low, hl, h⟩
    · rw [h]
      have hm : maxI (MM ds c (k + 1) e) (MM ds c k (e + 1)) = MM ds c (k + 1) e ∨ maxI (MM ds c (k + 1) e) (MM ds c k (e + 1)) = MM ds c k (e + 1) := by
        rw [maxI_eq]
        omega
      rcases hm with hm | hm
      · rw [hm]
        obtain ⟨ws, v, e1⟩ := MM_sound (k + 1) e (by omega)
        exact ⟨ws, v.up (by omega), e1⟩
      · rw [hm]
        obtain ⟨ws, v, e1⟩ := MM_sound k (e + 1) he
        exact ⟨ws, ⟨by have := v.len; omega, v.win, v.row⟩, e1⟩
    · rw [h]
      have hlo := List.mem_range'_1.mp hl
      obtain ⟨ws, v, e1⟩ := MM_sound k low (by omega)
      refine ⟨ws ++ [(low, e)], Val.app (w := (low, e)) v (by show low ≤ e; omega) (by show e < e + 1; omega) (by show e < low + c.h.toNat; omega), ?_⟩
      rw [val_app, e1]
termination_by k e => (k, e)
theorem MM_nn : ∀ (k e : Nat), 0 ≤ MM ds c k e
  | 0, e => Int.le_refl _
  | k + 1, 0 => Int.le_refl _
  | k + 1, e + 1 => by
    have hrow : MM ds c (k + 1) (e + 1) = (List.range' (e + 1 - c.h.toNat) (e + 1 - (e + 1 - c.h.toNat))).foldl (stepM ds c (MM ds c k) e) (maxI (MM ds c (k + 1) e) (MM ds c k (e + 1))) := rfl
    rw [hrow]
    have h1 := (fold_ge (ds := ds) (c := c) (MM ds c k) e (List.range' (e + 1 - c.h.toNat) (e + 1 - (e + 1 - c.h.toNat))) (maxI (MM ds c (k + 1) e) (MM ds c k (e + 1)))).1
    have h2 := MM_nn k (e + 1)
    have : MM ds c k (e + 1) ≤ maxI (MM ds c (k + 1) e) (MM ds c k (e + 1)) := by rw [maxI_eq]; omega
    omega
termination_by k e => (k, e)
theorem MM_top : ∀ (k e : Nat) (ws : List Win), e ≤ ds.length → Val c.h.toNat k e ws → val ds c ws ≤ MM ds c k e
  | 0, e, ws, _, v => by
    rw [List.length_eq_zero_iff.mp (Nat.le_zero.mp v.len)]
    exact Int.le_refl _
  | k + 1, 0, ws, _, v => by
    cases ws with
    | nil => exact Int.le_refl _
    | cons w ws => exact absurd (v.win w List.mem_cons_self).2.1 (by omega)
  | k + 1, e + 1, ws, he, v => by
    have hrow : MM ds c (k + 1) (e + 1) = (List.range' (e + 1 - c.h.toNat) (e + 1 - (e + 1 - c.h.toNat))).foldl (stepM ds c (MM ds c k) e) (maxI (MM ds c (k + 1) e) (MM ds c k (e + 1))) := rfl
    rw [hrow]
    obtain ⟨h1, h2⟩ := fold_ge (ds := ds) (c := c) (MM ds c k) e (List.range' (e + 1 - c.h.toNat) (e + 1 - (e + 1 - c.h.toNat))) (maxI (MM ds c (k + 1) e) (MM ds c k (e + 1)))
    have hm : MM ds c (k + 1) e ≤ maxI (MM ds c (k + 1) e) (MM ds c k (e + 1)) := by rw [maxI_eq]; omega
    rcases List.eq_nil_or_concat ws with rfl | ⟨us, w, rfl⟩
    · have := MM_nn (ds := ds) (c := c) (k + 1) e
      have : val ds c [] = 0 := rfl
      omega
    rw [List.concat_eq_append] at *
    have hw := v.win w (by simp)
    have hrw := List.pairwise_append.mp v.row
    by_cases hwe : w.2 = e
    · have v2 : Val c.h.toNat k w.1 us := ⟨by have := v.len; rw [List.length_append, List.length_singleton] at this; omega, fun u hu => by
        have h3 := v.win u (by simp [hu])
        have h4 := hrw.2.2 u hu w (by simp)
        omega, hrw.1⟩
      have h5 := MM_top k w.1 us (by omega) v2
      have h6 := h2 w.1 (List.mem_range'_1.mpr (by omega))
      rw [val_app]
      have : (w.1, e) = w := Prod.ext rfl hwe.symm
      rw [this] at h6
      omega
    · have v2 : Val c.h.toNat (k + 1) e (us ++ [w]) := ⟨v.len, fun u hu => by
        have h3 := v.win u hu
        rcases List.mem_append.mp hu with hu | hu
        · have h4 := hrw.2.2 u hu w (by simp)
          omega
        · rw [List.mem_singleton.mp hu]
          omega, v.row⟩
      have h5 := MM_top (k + 1) e _ (by omega) v2
      omega
termination_by k e => (k, e)
theorem MM_best : MM ds c c.c.toNat ds.length = (best ds c).1 := by
  obtain ⟨ws, v, e⟩ := MM_sound (ds := ds) (c := c) c.c.toNat ds.length (Nat.le_refl _)
  have h1 := best_ge v
  have h2 := MM_top (ds := ds) (c := c) c.c.toNat ds.length _ (Nat.le_refl _) best_ok.1
  rw [← best_ok.2] at h2
  omega
end
/-! tables -/
def rowT (k : Nat) (f : Nat → Int) : List D := (List.range (k + 1)).map fun j => D.int (f j)
def tab (n k : Nat) (f : Nat → Nat → Int) : List (List D) := (List.range (n + 1)).map fun e => rowT k (f e)
theorem tab_ext {n k : Nat} {f g : Nat → Nat → Int} (h : ∀ e ≤ n, ∀ j ≤ k, f e j = g e j) : tab n k f = tab n k g := by
  unfold tab rowT
  refine List.map_congr_left fun e he => List.map_congr_left fun j hj => ?_
  rw [h e (by have := List.mem_range.mp he; omega) j (by have := List.mem_range.mp hj; omega)]
theorem tab_len {n k : Nat} {f : Nat → Nat → Int} : (tab n k f).length = n + 1 := by unfold tab; rw [List.length_map, List.length_range]
theorem rowT_len {k : Nat} {f : Nat → Int} : (rowT k f).length = k + 1 := by unfold rowT; rw [List.length_map, List.length_range]
theorem tab_get {n k : Nat} {f : Nat → Nat → Int} {e : Nat} (h : e ≤ n) : (tab n k f)[e]? = some (rowT k (f e)) := by
  unfold tab
  rw [List.getElem?_map, List.getElem?_range (by omega)]
  rfl
theorem rowT_get {k : Nat} {f : Nat → Int} {j : Nat} (h : j ≤ k) : (rowT k f)[j]? = some (.int (f j)) := by
  unfold rowT
  rw [List.getElem?_map, List.getElem?_range (by omega)]
  rfl
theorem tab_set {n k : Nat} {f g : Nat → Nat → Int} {e j : Nat} {v : Int} (he : e ≤ n) (hj : j ≤ k) (hv : g e j = v) (hg : ∀ a b, a ≤ n → b ≤ k → (a ≠ e ∨ b ≠ j) → g a b = f a b) : (tab n k f).set e ((rowT k (f e)).set j (.int v)) = tab n k g := by
  apply List.ext_getElem?
  intro a
  by_cases ha : a ≤ n
  · rw [tab_get ha]
    by_cases h : e = a
    · subst h
      rw [List.getElem?_set_self (by rw [tab_len]; omega)]
      congr 1
      apply List.ext_getElem?
      intro b
      by_cases hb : b ≤ k
      · rw [rowT_get hb]
        by_cases h2 : j = b
        · subst h2
          rw [List.getElem?_set_self (by rw [rowT_len]; omega), hv]
        · rw [List.getElem?_set_ne h2, rowT_get hb, hg e b ha hb (.inr fun z => h2 z.symm)]
      · rw [List.getElem?_eq_none (by rw [List.length_set, rowT_len]; omega), List.getElem?_eq_none (by rw [rowT_len]; omega)]
    · rw [List.getElem?_set_ne h, tab_get ha]
      congr 1
      unfold rowT
      refine List.map_congr_left fun b hb => ?_
      rw [hg a b ha (by have := List.mem_range.mp hb; omega) (.inl fun z => h z.symm)]
  · rw [List.getElem?_eq_none (by rw [List.length_set, tab_len]; omega), List.getElem?_eq_none (by rw [tab_len]; omega)]
/-- so far: all ends before E, and E up to before C -/
def soFar (ds : List Int) (c : Cl) (E C : Nat) (e j : Nat) : Int := if e < E ∨ (e = E ∧ j < C) then MM ds c j e else 0
section
variable {q : D → Prop} {ep : Ex → Prop} {c : Cl} {ds : List Int}
theorem ix2_tab {n k : Nat} {f : Nat → Nat → Int} {W2 : (D → Prop) → Prop} {e : Int} (a : Nat) (ha : e = (a : Int)) (h1 : a ≤ n) (h : W2 (ix1q (rowT k (f a)) q)) : ix2q (tab n k f) W2 q (.int e) := by
  subst ha
  exact ⟨_, by rw [atI_ix, tab_get h1], h⟩
theorem ix1_row {k : Nat} {f : Nat → Int} {j : Int} (b : Nat) (hb : j = (b : Int)) (h1 : b ≤ k) (h : q (.int (f b))) : ix1q (rowT k f) q (.int j) := by
  subst hb
  exact ⟨_, by rw [atI_ix, rowT_get h1], h⟩
theorem p_law_most (okd : OkDm ds) (okc : OkC c) (h : q (.int (best ds c).1)) : wf__law_most [dmg ds, c.d] q ep := by
  unfold wf__law_most W__law_most
  show wSeq _ _ _ [some (.val (dmg ds)), some (.val (.tup [.int c.h, .int c.c, .int c.l, hiD c.hi])), none, none, none, none, none, none, none]
  have hl := okd.len
  have hh := okc.oh
  have hc := okc.oc
  rw [← MM_best] at h
  obtain ⟨k, hk⟩ : ∃ k : Nat, c.c = (k : Int) := ⟨c.c.toNat, by omega⟩
  have hkt : c.c.toNat = k := by omega
  rw [hkt] at h
  obtain ⟨hn, hhn⟩ : ∃ hn : Nat, c.h = (hn : Int) := ⟨c.h.toNat, by omega⟩
  have hht : c.h.toNat = hn := by omega
  have hcd : D.tup [.int c.h, .int c.c, .int c.l, hiD c.hi] = D.tup [.int (hn : Int), .int (k : Int), .int c.l, hiD c.hi] := by rw [hk, hhn]
  refine seq_step fun KK hKK => ?_
  (try simp only [len_dmg, e_asg, e_ret, e_drop, e_next, e_ifS, e_if, e_test, e_tq, e_and, e_or, e_not, e_andV, e_orV, e_aq1, e_aq0, e_oq1, e_oq0, e_c, e_op, e_neg, e_ngq, e_nil, e_cons, e_call, e_callK, e_cb, e_tup, e_lst, e_sl, e_oN, e_oS, e_soq, e_rev, e_rvq, e_var0, e_varS, e_varB0, e_varBo, e_varBS, e_gn, e_go, e_gt, e_gsc, e_gsn, e_fl_t, e_fl_l, e_fl_s, e_sl_t, e_isN, e_notN, e_max2, e_min2, e_int1, e_abs1, e_tupl, e_lc, e_rng1, e_r1q, e_bowl, e_wipe1, e_for, List.set_cons_succ, List.set_cons_zero, add_ii, sub_ii, mul_ii, fdiv_ii, mod_ii, pow_ii, lt_ii, le_ii, gt_ii, ge_ii, DL.eq_int, DL.ne_int, DL.eq_bl, DL.ne_bl, isi_int_int, isi_int_bool, isi_int_tuple, isi_int_list, isi_bl_int, isi_bl_bool, isi_bl_tuple, isi_bl_list, isi_non_int, isi_non_bool, isi_non_tuple, isi_non_list, isi_tup_int, isi_tup_bool, isi_tup_tuple, isi_tup_list, isi_lst_int, isi_lst_bool, isi_lst_tuple, isi_lst_list, if_true, if_false, Bool.not_true, Bool.not_false, Bool.false_eq_true, decide_true, decide_false, e_chain, ix_t0, ix_t1, ix_t2, ix_t3, ix_l0, ix_l1, ix_last, ixl_last, e_wseqN, e_wsq_t, e_wsq_l, e_enum, e_enq_t, e_enq_l, e_rng2, e_r2q, add_tt, add_ll, cat_ll, list_t, list_l, tuple_t, sl_l, e_wipeL, e_wipeN, isi_str_int, isi_str_bool, isi_str_tuple, isi_str_list, isi_str_str, e_par2, e_par3, e_mval, e_mown, e_owq, e_frz, e_appM, e_callHO, e_maxK, e_mkq, List.getElem?_cons_zero, List.getElem?_cons_succ, e_notV, e_nvq, e_lc2, e_deN, e_deV, e_deO, e_de0, e_put, nn_non, nn_int, nn_bl, nn_str, nn_tup, nn_lst, e_par4, e_ix2, e_put2, e_go2])
  refine hKK _ ?_
  clear hKK
  refine seq_step fun KK2 hKK2 => ?_
  rw [hcd]
  (try simp only [e_asg, e_ret, e_drop, e_next, e_ifS, e_if, e_test, e_tq, e_and, e_or, e_not, e_andV, e_orV, e_aq1, e_aq0, e_oq1, e_oq0, e_c, e_op, e_neg, e_ngq, e_nil, e_cons, e_call, e_callK, e_cb, e_tup, e_lst, e_sl, e_oN, e_oS, e_soq, e_rev, e_rvq, e_var0, e_varS, e_varB0, e_varBo, e_varBS, e_gn, e_go, e_gt, e_gsc, e_gsn, e_fl_t, e_fl_l, e_fl_s, e_sl_t, e_isN, e_notN, e_max2, e_min2, e_int1, e_abs1, e_tupl, e_lc, e_rng1, e_r1q, e_bowl, e_wipe1, e_for, List.set_cons_succ, List.set_cons_zero, add_ii, sub_ii, mul_ii, fdiv_ii, mod_ii, pow_ii, lt_ii, le_ii, gt_ii, ge_ii, DL.eq_int, DL.ne_int, DL.eq_bl, DL.ne_bl, isi_int_int, isi_int_bool, isi_int_tuple, isi_int_list, isi_bl_int, isi_bl_bool, isi_bl_tuple, isi_bl_list, isi_non_int, isi_non_bool, isi_non_tuple, isi_non_list, isi_tup_int, isi_tup_bool, isi_tup_tuple, isi_tup_list, isi_lst_int, isi_lst_bool, isi_lst_tuple, isi_lst_list, if_true, if_false, Bool.not_true, Bool.not_false, Bool.false_eq_true, decide_true, decide_false, e_chain, ix_t0, ix_t1, ix_t2, ix_t3, ix_l0, ix_l1, ix_last, ixl_last, e_wseqN, e_wsq_t, e_wsq_l, e_enum, e_enq_t, e_enq_l, e_rng2, e_r2q, add_tt, add_ll, cat_ll, list_t, list_l, tuple_t, sl_l, e_wipeL, e_wipeN, isi_str_int, isi_str_bool, isi_str_tuple, isi_str_list, isi_str_str, e_par2, e_par3, e_mval, e_mown, e_owq, e_frz, e_appM, e_callHO, e_maxK, e_mkq, List.getElem?_cons_zero, List.getElem?_cons_succ, e_notV, e_nvq, e_lc2, e_deN, e_deV, e_deO, e_de0, e_put, nn_non, nn_int, nn_bl, nn_str, nn_tup, nn_lst, e_par4, e_ix2, e_put2, e_go2])
  refine ⟨by omega, ?_⟩
  rw [show ((ds.length : Int) + 1) = ((ds.length + 1 : Nat) : Int) by omega, rangeD_nat]
  refine lc_map (fun i : Nat => D.int (i : Int)) (fun _ => D.lst (rowT k fun _ => 0)) (List.range (ds.length + 1)) [] (fun i _ k2 hk2 => ?_) (by rw [List.length_range]; show 0 + _ < _; omega) ?_
  · (try simp only [e_asg, e_ret, e_drop, e_next, e_ifS, e_if, e_test, e_tq, e_and, e_or, e_not, e_andV, e_orV, e_aq1, e_aq0, e_oq1, e_oq0, e_c, e_op, e_neg, e_ngq, e_nil, e_cons, e_call, e_callK, e_cb, e_tup, e_lst, e_sl, e_oN, e_oS, e_soq, e_rev, e_rvq, e_var0, e_varS, e_varB0, e_varBo, e_varBS, e_gn, e_go, e_gt, e_gsc, e_gsn, e_fl_t, e_fl_l, e_fl_s, e_sl_t, e_isN, e_notN, e_max2, e_min2, e_int1, e_abs1, e_tupl, e_lc, e_rng1, e_r1q, e_bowl, e_wipe1, e_for, List.set_cons_succ, List.set_cons_zero, add_ii, sub_ii, mul_ii, fdiv_ii, mod_ii, pow_ii, lt_ii, le_ii, gt_ii, ge_ii, DL.eq_int, DL.ne_int, DL.eq_bl, DL.ne_bl, isi_int_int, isi_int_bool, isi_int_tuple, isi_int_list, isi_bl_int, isi_bl_bool, isi_bl_tuple, isi_bl_list, isi_non_int, isi_non_bool, isi_non_tuple, isi_non_list, isi_tup_int, isi_tup_bool, isi_tup_tuple, isi_tup_list, isi_lst_int, isi_lst_bool, isi_lst_tuple, isi_lst_list, if_true, if_false, Bool.not_true, Bool.not_false, Bool.false_eq_true, decide_true, decide_false, e_chain, ix_t0, ix_t1, ix_t2, ix_t3, ix_l0, ix_l1, ix_last, ixl_last, e_wseqN, e_wsq_t, e_wsq_l, e_enum, e_enq_t, e_enq_l, e_rng2, e_r2q, add_tt, add_ll, cat_ll, list_t, list_l, tuple_t, sl_l, e_wipeL, e_wipeN, isi_str_int, isi_str_bool, isi_str_tuple, isi_str_list, isi_str_str, e_par2, e_par3, e_mval, e_mown, e_owq, e_frz, e_appM, e_callHO, e_maxK, e_mkq, List.getElem?_cons_zero, List.getElem?_cons_succ, e_notV, e_nvq, e_lc2, e_deN, e_deV, e_deO, e_de0, e_put, nn_non, nn_int, nn_bl, nn_str, nn_tup, nn_lst, e_par4, e_ix2, e_put2, e_go2])
    refine ⟨by (first | exact Nat.zero_le _ | (simp only [List.length_map, List.length_append, List.length_cons, List.length_nil, List.length_reverse, List.length_take, List.length_drop, List.length_range, List.length_range', sizeLine_eq]; omega) | omega), ⟨by omega, by omega, by rw [sizeLine_eq]; show 1 * ((k : Int) + 1).toNat ≤ _; omega⟩, ?_⟩
    have e : (List.replicate ((k : Int) + 1).toNat [D.int 0]).flatten = rowT k fun _ => 0 := by
      rw [show ((k : Int) + 1).toNat = k + 1 by omega, flat_one]
      unfold rowT
      symm
      exact List.eq_replicate_iff.mpr ⟨by rw [List.length_map, List.length_range], fun b hb => by obtain ⟨_, _, rfl⟩ := List.mem_map.mp hb; rfl⟩
    rw [e]
    exact hk2
  have e0 : [] ++ (List.range (ds.length + 1)).map (fun _ => D.lst (rowT k fun _ => 0)) = (tab ds.length k (soFar ds c 1 1)).map D.lst := by
    unfold tab
    rw [List.nil_append, List.map_map]
    refine List.map_congr_left fun e he => ?_
    show D.lst _ = D.lst _
    congr 1
    unfold rowT
    refine List.map_congr_left fun j hj => ?_
    unfold soFar
    congr 1
    split
    · rename_i hcond
      rcases hcond with h1 | ⟨h1, h2⟩
      · rw [show e = 0 by omega, MM_0]
      · rw [show j = 0 by omega]
        rfl
    · rfl
  rw [e0]
  refine ⟨rfl, _, rfl, ?_⟩
  refine hKK2 _ ?_
  clear hKK2 e0
  refine seq_step fun KK3 hKK3 => ?_
  (try simp only [e_asg, e_ret, e_drop, e_next, e_ifS, e_if, e_test, e_tq, e_and, e_or, e_not, e_andV, e_orV, e_aq1, e_aq0, e_oq1, e_oq0, e_c, e_op, e_neg, e_ngq, e_nil, e_cons, e_call, e_callK, e_cb, e_tup, e_lst, e_sl, e_oN, e_oS, e_soq, e_rev, e_rvq, e_var0, e_varS, e_varB0, e_varBo, e_varBS, e_gn, e_go, e_gt, e_gsc, e_gsn, e_fl_t, e_fl_l, e_fl_s, e_sl_t, e_isN, e_notN, e_max2, e_min2, e_int1, e_abs1, e_tupl, e_lc, e_rng1, e_r1q, e_bowl, e_wipe1, e_for, List.set_cons_succ, List.set_cons_zero, add_ii, sub_ii, mul_ii, fdiv_ii, mod_ii, pow_ii, lt_ii, le_ii, gt_ii, ge_ii, DL.eq_int, DL.ne_int, DL.eq_bl, DL.ne_bl, isi_int_int, isi_int_bool, isi_int_tuple, isi_int_list, isi_bl_int, isi_bl_bool, isi_bl_tuple, isi_bl_list, isi_non_int, isi_non_bool, isi_non_tuple, isi_non_list, isi_tup_int, isi_tup_bool, isi_tup_tuple, isi_tup_list, isi_lst_int, isi_lst_bool, isi_lst_tuple, isi_lst_list, if_true, if_false, Bool.not_true, Bool.not_false, Bool.false_eq_true, decide_true, decide_false, e_chain, ix_t0, ix_t1, ix_t2, ix_t3, ix_l0, ix_l1, ix_last, ixl_last, e_wseqN, e_wsq_t, e_wsq_l, e_enum, e_enq_t, e_enq_l, e_rng2, e_r2q, add_tt, add_ll, cat_ll, list_t, list_l, tuple_t, sl_l, e_wipeL, e_wipeN, isi_str_int, isi_str_bool, isi_str_tuple, isi_str_list, isi_str_str, e_par2, e_par3, e_mval, e_mown, e_owq, e_frz, e_appM, e_callHO, e_maxK, e_mkq, List.getElem?_cons_zero, List.getElem?_cons_succ, e_notV, e_nvq, e_lc2, e_deN, e_deV, e_deO, e_de0, e_put, nn_non, nn_int, nn_bl, nn_str, nn_tup, nn_lst, e_par4, e_ix2, e_put2, e_go2])
  rw [show ((ds.length : Int) + 1) = ((ds.length + 1 : Nat) : Int) by omega]
  refine ⟨by omega, ?_⟩
  rw [rangeD_1]
  generalize hr : [D.int c.l, hiD c.hi] = r
  have hcl : D.tup (.int (hn : Int) :: .int (k : Int) :: r) = c.d := by
    rw [← hr, ← hcd]
    rfl
  refine for_run (fun i ρ => ∃ a4 a5 a6 a7 a8, ρ = [some (.val (dmg ds)), some (.val (.tup (.int (hn : Int) :: .int (k : Int) :: r))), some (.val (.int ds.length)), some (.own2 (tab ds.length k (soFar ds c (i + 1) 1))), a4, a5, a6, a7, a8]) _ 0 _ ⟨none, none, none, none, none, rfl⟩ ?_ ?_
  · rintro i d ρ K hd ⟨a4, a5, a6, a7, a8, rfl⟩ hK
    have hi : i < ds.length := by have := (List.getElem?_eq_some_iff.mp hd).1; simpa using this
    have ed : d = .int ((i + 1 : Nat) : Int) := by
      rw [List.getElem?_map, List.getElem?_range' hi] at hd
      cases hd
      show D.int ((1 + 1 * i : Nat) : Int) = _
      rw [show 1 + 1 * i = i + 1 by omega]
    subst ed
    rw [Nat.zero_add] at hK ⊢
    (try simp only [e_asg, e_ret, e_drop, e_next, e_ifS, e_if, e_test, e_tq, e_and, e_or, e_not, e_andV, e_orV, e_aq1, e_aq0, e_oq1, e_oq0, e_c, e_op, e_neg, e_ngq, e_nil, e_cons, e_call, e_callK, e_cb, e_tup, e_lst, e_sl, e_oN, e_oS, e_soq, e_rev, e_rvq, e_var0, e_varS, e_varB0, e_varBo, e_varBS, e_gn, e_go, e_gt, e_gsc, e_gsn, e_fl_t, e_fl_l, e_fl_s, e_sl_t, e_isN, e_notN, e_max2, e_min2, e_int1, e_abs1, e_tupl, e_lc, e_rng1, e_r1q, e_bowl, e_wipe1, e_for, List.set_cons_succ, List.set_cons_zero, add_ii, sub_ii, mul_ii, fdiv_ii, mod_ii, pow_ii, lt_ii, le_ii, gt_ii, ge_ii, DL.eq_int, DL.ne_int, DL.eq_bl, DL.ne_bl, isi_int_int, isi_int_bool, isi_int_tuple, isi_int_list, isi_bl_int, isi_bl_bool, isi_bl_tuple, isi_bl_list, isi_non_int, isi_non_bool, isi_non_tuple, isi_non_list, isi_tup_int, isi_tup_bool, isi_tup_tuple, isi_tup_list, isi_lst_int, isi_lst_bool, isi_lst_tuple, isi_lst_list, if_true, if_false, Bool.not_true, Bool.not_false, Bool.false_eq_true, decide_true, decide_false, e_chain, ix_t0, ix_t1, ix_t2, ix_t3, ix_l0, ix_l1, ix_last, ixl_last, e_wseqN, e_wsq_t, e_wsq_l, e_enum, e_enq_t, e_enq_l, e_rng2, e_r2q, add_tt, add_ll, cat_ll, list_t, list_l, tuple_t, sl_l, e_wipeL, e_wipeN, isi_str_int, isi_str_bool, isi_str_tuple, isi_str_list, isi_str_str, e_par2, e_par3, e_mval, e_mown, e_owq, e_frz, e_appM, e_callHO, e_maxK, e_mkq, List.getElem?_cons_zero, List.getElem?_cons_succ, e_notV, e_nvq, e_lc2, e_deN, e_deV, e_deO, e_de0, e_put, nn_non, nn_int, nn_bl, nn_str, nn_tup, nn_lst, e_par4, e_ix2, e_put2, e_go2])
    rw [show ((k : Int) + 1) = ((k + 1 : Nat) : Int) by omega]
    refine ⟨by omega, ?_⟩
    rw [rangeD_1]
    refine for_run (fun m ρ => ∃ a5 a6 a7, ρ = [some (.val (dmg ds)), some (.val (.tup (.int (hn : Int) :: .int (k : Int) :: r))), some (.val (.int ds.length)), some (.own2 (tab ds.length k (soFar ds c (i + 1) (m + 1)))), some (.val (.int ((i + 1 : Nat) : Int))), a5, a6, a7, a8]) _ 0 _ ⟨a5, a6, a7, rfl⟩ ?_ ?_
    · rintro m d ρ K2 hd2 ⟨a5, a6, a7, rfl⟩ hK2
      have hm : m < k := by have := (List.getElem?_eq_some_iff.mp hd2).1; simpa using this
      have ed : d = .int ((m + 1 : Nat) : Int) := by
        rw [List.getElem?_map, List.getElem?_range' hm] at hd2
        cases hd2
        show D.int ((1 + 1 * m : Nat) : Int) = _
        rw [show 1 + 1 * m = m + 1 by omega]
      subst ed
      rw [Nat.zero_add] at hK2 ⊢
      (try simp only [e_asg, e_ret, e_drop, e_next, e_ifS, e_if, e_test, e_tq, e_and, e_or, e_not, e_andV, e_orV, e_aq1, e_aq0, e_oq1, e_oq0, e_c, e_op, e_neg, e_ngq, e_nil, e_cons, e_call, e_callK, e_cb, e_tup, e_lst, e_sl, e_oN, e_oS, e_soq, e_rev, e_rvq, e_var0, e_varS, e_varB0, e_varBo, e_varBS, e_gn, e_go, e_gt, e_gsc, e_gsn, e_fl_t, e_fl_l, e_fl_s, e_sl_t, e_isN, e_notN, e_max2, e_min2, e_int1, e_abs1, e_tupl, e_lc, e_rng1, e_r1q, e_bowl, e_wipe1, e_for, List.set_cons_succ, List.set_cons_zero, add_ii, sub_ii, mul_ii, fdiv_ii, mod_ii, pow_ii, lt_ii, le_ii, gt_ii, ge_ii, DL.eq_int, DL.ne_int, DL.eq_bl, DL.ne_bl, isi_int_int, isi_int_bool, isi_int_tuple, isi_int_list, isi_bl_int, isi_bl_bool, isi_bl_tuple, isi_bl_list, isi_non_int, isi_non_bool, isi_non_tuple, isi_non_list, isi_tup_int, isi_tup_bool, isi_tup_tuple, isi_tup_list, isi_lst_int, isi_lst_bool, isi_lst_tuple, isi_lst_list, if_true, if_false, Bool.not_true, Bool.not_false, Bool.false_eq_true, decide_true, decide_false, e_chain, ix_t0, ix_t1, ix_t2, ix_t3, ix_l0, ix_l1, ix_last, ixl_last, e_wseqN, e_wsq_t, e_wsq_l, e_enum, e_enq_t, e_enq_l, e_rng2, e_r2q, add_tt, add_ll, cat_ll, list_t, list_l, tuple_t, sl_l, e_wipeL, e_wipeN, isi_str_int, isi_str_bool, isi_str_tuple, isi_str_list, isi_str_str, e_par2, e_par3, e_mval, e_mown, e_owq, e_frz, e_appM, e_callHO, e_maxK, e_mkq, List.getElem?_cons_zero, List.getElem?_cons_succ, e_notV, e_nvq, e_lc2, e_deN, e_deV, e_deO, e_de0, e_put, nn_non, nn_int, nn_bl, nn_str, nn_tup, nn_lst, e_par4, e_ix2, e_put2, e_go2])
      refine seq_step fun KK4 hKK4 => ?_
      (try simp only [e_asg, e_ret, e_drop, e_next, e_ifS, e_if, e_test, e_tq, e_and, e_or, e_not, e_andV, e_orV, e_aq1, e_aq0, e_oq1, e_oq0, e_c, e_op, e_neg, e_ngq, e_nil, e_cons, e_call, e_callK, e_cb, e_tup, e_lst, e_sl, e_oN, e_oS, e_soq, e_rev, e_rvq, e_var0, e_varS, e_varB0, e_varBo, e_varBS, e_gn, e_go, e_gt, e_gsc, e_gsn, e_fl_t, e_fl_l, e_fl_s, e_sl_t, e_isN, e_notN, e_max2, e_min2, e_int1, e_abs1, e_tupl, e_lc, e_rng1, e_r1q, e_bowl, e_wipe1, e_for, List.set_cons_succ, List.set_cons_zero, add_ii, sub_ii, mul_ii, fdiv_ii, mod_ii, pow_ii, lt_ii, le_ii, gt_ii, ge_ii, DL.eq_int, DL.ne_int, DL.eq_bl, DL.ne_bl, isi_int_int, isi_int_bool, isi_int_tuple, isi_int_list, isi_bl_int, isi_bl_bool, isi_bl_tuple, isi_bl_list, isi_non_int, isi_non_bool, isi_non_tuple, isi_non_list, isi_tup_int, isi_tup_bool, isi_tup_tuple, isi_tup_list, isi_lst_int, isi_lst_bool, isi_lst_tuple, isi_lst_list, if_true, if_false, Bool.not_true, Bool.not_false, Bool.false_eq_true, decide_true, decide_false, e_chain, ix_t0, ix_t1, ix_t2, ix_t3, ix_l0, ix_l1, ix_last, ixl_last, e_wseqN, e_wsq_t, e_wsq_l, e_enum, e_enq_t, e_enq_l, e_rng2, e_r2q, add_tt, add_ll, cat_ll, list_t, list_l, tuple_t, sl_l, e_wipeL, e_wipeN, isi_str_int, isi_str_bool, isi_str_tuple, isi_str_list, isi_str_str, e_par2, e_par3, e_mval, e_mown, e_owq, e_frz, e_appM, e_callHO, e_maxK, e_mkq, List.getElem?_cons_zero, List.getElem?_cons_succ, e_notV, e_nvq, e_lc2, e_deN, e_deV, e_deO, e_de0, e_put, nn_non, nn_int, nn_bl, nn_str, nn_tup, nn_lst, e_par4, e_ix2, e_put2, e_go2])
      refine ix2_tab i (by omega) (by omega) ?_
      try simp only [e_asg, e_ret, e_drop, e_next, e_ifS, e_if, e_test, e_tq, e_and, e_or, e_not, e_andV, e_orV, e_aq1, e_aq0, e_oq1, e_oq0, e_c, e_op, e_neg, e_ngq, e_nil, e_cons, e_call, e_callK, e_cb, e_tup, e_lst, e_sl, e_oN, e_oS, e_soq, e_rev, e_rvq, e_var0, e_varS, e_varB0, e_varBo, e_varBS, e_gn, e_go, e_gt, e_gsc, e_gsn, e_fl_t, e_fl_l, e_fl_s, e_sl_t, e_isN, e_notN, e_max2, e_min2, e_int1, e_abs1, e_tupl, e_lc, e_rng1, e_r1q, e_bowl, e_wipe1, e_for, List.set_cons_succ, List.set_cons_zero, add_ii, sub_ii, mul_ii, fdiv_ii, mod_ii, pow_ii, lt_ii, le_ii, gt_ii, ge_ii, DL.eq_int, DL.ne_int, DL.eq_bl, DL.ne_bl, isi_int_int, isi_int_bool, isi_int_tuple, isi_int_list, isi_bl_int, isi_bl_bool, isi_bl_tuple, isi_bl_list, isi_non_int, isi_non_bool, isi_non_tuple, isi_non_list, isi_tup_int, isi_tup_bool, isi_tup_tuple, isi_tup_list, isi_lst_int, isi_lst_bool, isi_lst_tuple, isi_lst_list, if_true, if_false, Bool.not_true, Bool.not_false, Bool.false_eq_true, decide_true, decide_false, e_chain, ix_t0, ix_t1, ix_t2, ix_t3, ix_l0, ix_l1, ix_last, ixl_last, e_wseqN, e_wsq_t, e_wsq_l, e_enum, e_enq_t, e_enq_l, e_rng2, e_r2q, add_tt, add_ll, cat_ll, list_t, list_l, tuple_t, sl_l, e_wipeL, e_wipeN, isi_str_int, isi_str_bool, isi_str_tuple, isi_str_list, isi_str_str, e_par2, e_par3, e_mval, e_mown, e_owq, e_frz, e_appM, e_callHO, e_maxK, e_mkq, List.getElem?_cons_zero, List.getElem?_cons_succ, e_notV, e_nvq, e_lc2, e_deN, e_deV, e_deO, e_de0, e_put, nn_non, nn_int, nn_bl, nn_str, nn_tup, nn_lst, e_par4, e_ix2, e_put2, e_go2]
      refine ix1_row (m + 1) rfl (by omega) ?_
      refine ix2_tab (i + 1) rfl (by omega) ?_
      try simp only [e_asg, e_ret, e_drop, e_next, e_ifS, e_if, e_test, e_tq, e_and, e_or, e_not, e_andV, e_orV, e_aq1, e_aq0, e_oq1, e_oq0, e_c, e_op, e_neg, e_ngq, e_nil, e_cons, e_call, e_callK, e_cb, e_tup, e_lst, e_sl, e_oN, e_oS, e_soq, e_rev, e_rvq, e_var0, e_varS, e_varB0, e_varBo, e_varBS, e_gn, e_go, e_gt, e_gsc, e_gsn, e_fl_t, e_fl_l, e_fl_s, e_sl_t, e_isN, e_notN, e_max2, e_min2, e_int1, e_abs1, e_tupl, e_lc, e_rng1, e_r1q, e_bowl, e_wipe1, e_for, List.set_cons_succ, List.set_cons_zero, add_ii, sub_ii, mul_ii, fdiv_ii, mod_ii, pow_ii, lt_ii, le_ii, gt_ii, ge_ii, DL.eq_int, DL.ne_int, DL.eq_bl, DL.ne_bl, isi_int_int, isi_int_bool, isi_int_tuple, isi_int_list, isi_bl_int, isi_bl_bool, isi_bl_tuple, isi_bl_list, isi_non_int, isi_non_bool, isi_non_tuple, isi_non_list, isi_tup_int, isi_tup_bool, isi_tup_tuple, isi_tup_list, isi_lst_int, isi_lst_bool, isi_lst_tuple, isi_lst_list, if_true, if_false, Bool.not_true, Bool.not_false, Bool.false_eq_true, decide_true, decide_false, e_chain, ix_t0, ix_t1, ix_t2, ix_t3, ix_l0, ix_l1, ix_last, ixl_last, e_wseqN, e_wsq_t, e_wsq_l, e_enum, e_enq_t, e_enq_l, e_rng2, e_r2q, add_tt, add_ll, cat_ll, list_t, list_l, tuple_t, sl_l, e_wipeL, e_wipeN, isi_str_int, isi_str_bool, isi_str_tuple, isi_str_list, isi_str_str, e_par2, e_par3, e_mval, e_mown, e_owq, e_frz, e_appM, e_callHO, e_maxK, e_mkq, List.getElem?_cons_zero, List.getElem?_cons_succ, e_notV, e_nvq, e_lc2, e_deN, e_deV, e_deO, e_de0, e_put, nn_non, nn_int, nn_bl, nn_str, nn_tup, nn_lst, e_par4, e_ix2, e_put2, e_go2]
      refine ix1_row m (by omega) (by omega) ?_
      (try simp only [e_asg, e_ret, e_drop, e_next, e_ifS, e_if, e_test, e_tq, e_and, e_or, e_not, e_andV, e_orV, e_aq1, e_aq0, e_oq1, e_oq0, e_c, e_op, e_neg, e_ngq, e_nil, e_cons, e_call, e_callK, e_cb, e_tup, e_lst, e_sl, e_oN, e_oS, e_soq, e_rev, e_rvq, e_var0, e_varS, e_varB0, e_varBo, e_varBS, e_gn, e_go, e_gt, e_gsc, e_gsn, e_fl_t, e_fl_l, e_fl_s, e_sl_t, e_isN, e_notN, e_max2, e_min2, e_int1, e_abs1, e_tupl, e_lc, e_rng1, e_r1q, e_bowl, e_wipe1, e_for, List.set_cons_succ, List.set_cons_zero, add_ii, sub_ii, mul_ii, fdiv_ii, mod_ii, pow_ii, lt_ii, le_ii, gt_ii, ge_ii, DL.eq_int, DL.ne_int, DL.eq_bl, DL.ne_bl, isi_int_int, isi_int_bool, isi_int_tuple, isi_int_list, isi_bl_int, isi_bl_bool, isi_bl_tuple, isi_bl_list, isi_non_int, isi_non_bool, isi_non_tuple, isi_non_list, isi_tup_int, isi_tup_bool, isi_tup_tuple, isi_tup_list, isi_lst_int, isi_lst_bool, isi_lst_tuple, isi_lst_list, if_true, if_false, Bool.not_true, Bool.not_false, Bool.false_eq_true, decide_true, decide_false, e_chain, ix_t0, ix_t1, ix_t2, ix_t3, ix_l0, ix_l1, ix_last, ixl_last, e_wseqN, e_wsq_t, e_wsq_l, e_enum, e_enq_t, e_enq_l, e_rng2, e_r2q, add_tt, add_ll, cat_ll, list_t, list_l, tuple_t, sl_l, e_wipeL, e_wipeN, isi_str_int, isi_str_bool, isi_str_tuple, isi_str_list, isi_str_str, e_par2, e_par3, e_mval, e_mown, e_owq, e_frz, e_appM, e_callHO, e_maxK, e_mkq, List.getElem?_cons_zero, List.getElem?_cons_succ, e_notV, e_nvq, e_lc2, e_deN, e_deV, e_deO, e_de0, e_put, nn_non, nn_int, nn_bl, nn_str, nn_tup, nn_lst, e_par4, e_ix2, e_put2, e_go2])
      have f1 : soFar ds c (i + 1) (m + 1) i (m + 1) = MM ds c (m + 1) i := if_pos (.inl (by omega))
      have f2 : soFar ds c (i + 1) (m + 1) (i + 1) m = MM ds c m (i + 1) := if_pos (.inr ⟨rfl, by omega⟩)
      rw [f1, f2]
      refine hKK4 _ ?_
      clear hKK4
      refine seq_step fun KK5 hKK5 => ?_
      (try simp only [e_asg, e_ret, e_drop, e_next, e_ifS, e_if, e_test, e_tq, e_and, e_or, e_not, e_andV, e_orV, e_aq1, e_aq0, e_oq1, e_oq0, e_c, e_op, e_neg, e_ngq, e_nil, e_cons, e_call, e_callK, e_cb, e_tup, e_lst, e_sl, e_oN, e_oS, e_soq, e_rev, e_rvq, e_var0, e_varS, e_varB0, e_varBo, e_varBS, e_gn, e_go, e_gt, e_gsc, e_gsn, e_fl_t, e_fl_l, e_fl_s, e_sl_t, e_isN, e_notN, e_max2, e_min2, e_int1, e_abs1, e_tupl, e_lc, e_rng1, e_r1q, e_bowl, e_wipe1, e_for, List.set_cons_succ, List.set_cons_zero, add_ii, sub_ii, mul_ii, fdiv_ii, mod_ii, pow_ii, lt_ii, le_ii, gt_ii, ge_ii, DL.eq_int, DL.ne_int, DL.eq_bl, DL.ne_bl, isi_int_int, isi_int_bool, isi_int_tuple, isi_int_list, isi_bl_int, isi_bl_bool, isi_bl_tuple, isi_bl_list, isi_non_int, isi_non_bool, isi_non_tuple, isi_non_list, isi_tup_int, isi_tup_bool, isi_tup_tuple, isi_tup_list, isi_lst_int, isi_lst_bool, isi_lst_tuple, isi_lst_list, if_true, if_false, Bool.not_true, Bool.not_false, Bool.false_eq_true, decide_true, decide_false, e_chain, ix_t0, ix_t1, ix_t2, ix_t3, ix_l0, ix_l1, ix_last, ixl_last, e_wseqN, e_wsq_t, e_wsq_l, e_enum, e_enq_t, e_enq_l, e_rng2, e_r2q, add_tt, add_ll, cat_ll, list_t, list_l, tuple_t, sl_l, e_wipeL, e_wipeN, isi_str_int, isi_str_bool, isi_str_tuple, isi_str_list, isi_str_str, e_par2, e_par3, e_mval, e_mown, e_owq, e_frz, e_appM, e_callHO, e_maxK, e_mkq, List.getElem?_cons_zero, List.getElem?_cons_succ, e_notV, e_nvq, e_lc2, e_deN, e_deV, e_deO, e_de0, e_put, nn_non, nn_int, nn_bl, nn_str, nn_tup, nn_lst, e_par4, e_ix2, e_put2, e_go2])
      have e1 : maxI 0 (((i + 1 : Nat) : Int) - (hn : Int)) = ((i + 1 - hn : Nat) : Int) := by rw [maxI_eq]; omega
      rw [e1]
      refine ⟨by omega, ?_⟩
      rw [rangeD_nn]
      refine for_run (fun t ρ => ∃ a7, ρ = [some (.val (dmg ds)), some (.val (.tup (.int (hn : Int) :: .int (k : Int) :: r))), some (.val (.int ds.length)), some (.own2 (tab ds.length k (soFar ds c (i + 1) (m + 1)))), some (.val (.int ((i + 1 : Nat) : Int))), some (.val (.int ((m + 1 : Nat) : Int))), some (.val (.int (((List.range' (i + 1 - hn) (i + 1 - (i + 1 - hn))).take t).foldl (stepM ds c (MM ds c m) i) (maxI (MM ds c (m + 1) i) (MM ds c m (i + 1)))))), a7, a8]) _ 0 _ ⟨a7, rfl⟩ ?_ ?_
      · rintro t d ρ K3 hd3 ⟨a7, rfl⟩ hK3
        have ht : t < i + 1 - (i + 1 - hn) := by have := (List.getElem?_eq_some_iff.mp hd3).1; simpa using this
        have ed : d = .int ((i + 1 - hn + t : Nat) : Int) := by
          rw [List.getElem?_map, List.getElem?_range' ht] at hd3
          cases hd3
          simp
        subst ed
        rw [Nat.zero_add] at hK3 ⊢
        have hts : (List.range' (i + 1 - hn) (i + 1 - (i + 1 - hn))).take (t + 1) = (List.range' (i + 1 - hn) (i + 1 - (i + 1 - hn))).take t ++ [i + 1 - hn + t] := by
          rw [List.take_succ, List.getElem?_range' ht]
          simp
        rw [hts, List.foldl_append] at hK3
        unfold dmg
        (try simp only [e_asg, e_ret, e_drop, e_next, e_ifS, e_if, e_test, e_tq, e_and, e_or, e_not, e_andV, e_orV, e_aq1, e_aq0, e_oq1, e_oq0, e_c, e_op, e_neg, e_ngq, e_nil, e_cons, e_call, e_callK, e_cb, e_tup, e_lst, e_sl, e_oN, e_oS, e_soq, e_rev, e_rvq, e_var0, e_varS, e_varB0, e_varBo, e_varBS, e_gn, e_go, e_gt, e_gsc, e_gsn, e_fl_t, e_fl_l, e_fl_s, e_sl_t, e_isN, e_notN, e_max2, e_min2, e_int1, e_abs1, e_tupl, e_lc, e_rng1, e_r1q, e_bowl, e_wipe1, e_for, List.set_cons_succ, List.set_cons_zero, add_ii, sub_ii, mul_ii, fdiv_ii, mod_ii, pow_ii, lt_ii, le_ii, gt_ii, ge_ii, DL.eq_int, DL.ne_int, DL.eq_bl, DL.ne_bl, isi_int_int, isi_int_bool, isi_int_tuple, isi_int_list, isi_bl_int, isi_bl_bool, isi_bl_tuple, isi_bl_list, isi_non_int, isi_non_bool, isi_non_tuple, isi_non_list, isi_tup_int, isi_tup_bool, isi_tup_tuple, isi_tup_list, isi_lst_int, isi_lst_bool, isi_lst_tuple, isi_lst_list, if_true, if_false, Bool.not_true, Bool.not_false, Bool.false_eq_true, decide_true, decide_false, e_chain, ix_t0, ix_t1, ix_t2, ix_t3, ix_l0, ix_l1, ix_last, ixl_last, e_wseqN, e_wsq_t, e_wsq_l, e_enum, e_enq_t, e_enq_l, e_rng2, e_r2q, add_tt, add_ll, cat_ll, list_t, list_l, tuple_t, sl_l, e_wipeL, e_wipeN, isi_str_int, isi_str_bool, isi_str_tuple, isi_str_list, isi_str_str, e_par2, e_par3, e_mval, e_mown, e_owq, e_frz, e_appM, e_callHO, e_maxK, e_mkq, List.getElem?_cons_zero, List.getElem?_cons_succ, e_notV, e_nvq, e_lc2, e_deN, e_deV, e_deO, e_de0, e_put, nn_non, nn_int, nn_bl, nn_str, nn_tup, nn_lst, e_par4, e_ix2, e_put2, e_go2])
        refine ix2_tab (i + 1 - hn + t) rfl (by omega) ?_
        try simp only [e_asg, e_ret, e_drop, e_next, e_ifS, e_if, e_test, e_tq, e_and, e_or, e_not, e_andV, e_orV, e_aq1, e_aq0, e_oq1, e_oq0, e_c, e_op, e_neg, e_ngq, e_nil, e_cons, e_call, e_callK, e_cb, e_tup, e_lst, e_sl, e_oN, e_oS, e_soq, e_rev, e_rvq, e_var0, e_varS, e_varB0, e_varBo, e_varBS, e_gn, e_go, e_gt, e_gsc, e_gsn, e_fl_t, e_fl_l, e_fl_s, e_sl_t, e_isN, e_notN, e_max2, e_min2, e_int1, e_abs1, e_tupl, e_lc, e_rng1, e_r1q, e_bowl, e_wipe1, e_for, List.set_cons_succ, List.set_cons_zero, add_ii, sub_ii, mul_ii, fdiv_ii, mod_ii, pow_ii, lt_ii, le_ii, gt_ii, ge_ii, DL.eq_int, DL.ne_int, DL.eq_bl, DL.ne_bl, isi_int_int, isi_int_bool, isi_int_tuple, isi_int_list, isi_bl_int, isi_bl_bool, isi_bl_tuple, isi_bl_list, isi_non_int, isi_non_bool, isi_non_tuple, isi_non_list, isi_tup_int, isi_tup_bool, isi_tup_tuple, isi_tup_list, isi_lst_int, isi_lst_bool, isi_lst_tuple, isi_lst_list, if_true, if_false, Bool.not_true, Bool.not_false, Bool.false_eq_true, decide_true, decide_false, e_chain, ix_t0, ix_t1, ix_t2, ix_t3, ix_l0, ix_l1, ix_last, ixl_last, e_wseqN, e_wsq_t, e_wsq_l, e_enum, e_enq_t, e_enq_l, e_rng2, e_r2q, add_tt, add_ll, cat_ll, list_t, list_l, tuple_t, sl_l, e_wipeL, e_wipeN, isi_str_int, isi_str_bool, isi_str_tuple, isi_str_list, isi_str_str, e_par2, e_par3, e_mval, e_mown, e_owq, e_frz, e_appM, e_callHO, e_maxK, e_mkq, List.getElem?_cons_zero, List.getElem?_cons_succ, e_notV, e_nvq, e_lc2, e_deN, e_deV, e_deO, e_de0, e_put, nn_non, nn_int, nn_bl, nn_str, nn_tup, nn_lst, e_par4, e_ix2, e_put2, e_go2]
        refine ix1_row m (by omega) (by omega) ?_
        rw [cut_nat, sub_map]
        refine sum_t _ ?_
        rw [hcl]
        refine p_law_layered _ ?_
        (try simp only [e_asg, e_ret, e_drop, e_next, e_ifS, e_if, e_test, e_tq, e_and, e_or, e_not, e_andV, e_orV, e_aq1, e_aq0, e_oq1, e_oq0, e_c, e_op, e_neg, e_ngq, e_nil, e_cons, e_call, e_callK, e_cb, e_tup, e_lst, e_sl, e_oN, e_oS, e_soq, e_rev, e_rvq, e_var0, e_varS, e_varB0, e_varBo, e_varBS, e_gn, e_go, e_gt, e_gsc, e_gsn, e_fl_t, e_fl_l, e_fl_s, e_sl_t, e_isN, e_notN, e_max2, e_min2, e_int1, e_abs1, e_tupl, e_lc, e_rng1, e_r1q, e_bowl, e_wipe1, e_for, List.set_cons_succ, List.set_cons_zero, add_ii, sub_ii, mul_ii, fdiv_ii, mod_ii, pow_ii, lt_ii, le_ii, gt_ii, ge_ii, DL.eq_int, DL.ne_int, DL.eq_bl, DL.ne_bl, isi_int_int, isi_int_bool, isi_int_tuple, isi_int_list, isi_bl_int, isi_bl_bool, isi_bl_tuple, isi_bl_list, isi_non_int, isi_non_bool, isi_non_tuple, isi_non_list, isi_tup_int, isi_tup_bool, isi_tup_tuple, isi_tup_list, isi_lst_int, isi_lst_bool, isi_lst_tuple, isi_lst_list, if_true, if_false, Bool.not_true, Bool.not_false, Bool.false_eq_true, decide_true, decide_false, e_chain, ix_t0, ix_t1, ix_t2, ix_t3, ix_l0, ix_l1, ix_last, ixl_last, e_wseqN, e_wsq_t, e_wsq_l, e_enum, e_enq_t, e_enq_l, e_rng2, e_r2q, add_tt, add_ll, cat_ll, list_t, list_l, tuple_t, sl_l, e_wipeL, e_wipeN, isi_str_int, isi_str_bool, isi_str_tuple, isi_str_list, isi_str_str, e_par2, e_par3, e_mval, e_mown, e_owq, e_frz, e_appM, e_callHO, e_maxK, e_mkq, List.getElem?_cons_zero, List.getElem?_cons_succ, e_notV, e_nvq, e_lc2, e_deN, e_deV, e_deO, e_de0, e_put, nn_non, nn_int, nn_bl, nn_str, nn_tup, nn_lst, e_par4, e_ix2, e_put2, e_go2])
        have f3 : soFar ds c (i + 1) (m + 1) (i + 1 - hn + t) m = MM ds c m (i + 1 - hn + t) := if_pos (by omega)
        rw [f3]
        exact hK3 _ ⟨_, by rw [← hcl]; rfl⟩
      · rintro ρ ⟨a7, rfl⟩
        rw [Nat.zero_add, List.length_map, List.length_range', List.take_of_length_le (by rw [List.length_range']; exact Nat.le_refl _)]
        refine hKK5 _ ?_
        clear hKK5
        have hrow : (List.range' (i + 1 - hn) (i + 1 - (i + 1 - hn))).foldl (stepM ds c (MM ds c m) i) (maxI (MM ds c (m + 1) i) (MM ds c m (i + 1))) = MM ds c (m + 1) (i + 1) := by
          show _ = rowM ds c (MM ds c m) (i + 1)
          unfold rowM
          rw [hht]
          rfl
        rw [hrow]
        (try simp only [e_asg, e_ret, e_drop, e_next, e_ifS, e_if, e_test, e_tq, e_and, e_or, e_not, e_andV, e_orV, e_aq1, e_aq0, e_oq1, e_oq0, e_c, e_op, e_neg, e_ngq, e_nil, e_cons, e_call, e_callK, e_cb, e_tup, e_lst, e_sl, e_oN, e_oS, e_soq, e_rev, e_rvq, e_var0, e_varS, e_varB0, e_varBo, e_varBS, e_gn, e_go, e_gt, e_gsc, e_gsn, e_fl_t, e_fl_l, e_fl_s, e_sl_t, e_isN, e_notN, e_max2, e_min2, e_int1, e_abs1, e_tupl, e_lc, e_rng1, e_r1q, e_bowl, e_wipe1, e_for, List.set_cons_succ, List.set_cons_zero, add_ii, sub_ii, mul_ii, fdiv_ii, mod_ii, pow_ii, lt_ii, le_ii, gt_ii, ge_ii, DL.eq_int, DL.ne_int, DL.eq_bl, DL.ne_bl, isi_int_int, isi_int_bool, isi_int_tuple, isi_int_list, isi_bl_int, isi_bl_bool, isi_bl_tuple, isi_bl_list, isi_non_int, isi_non_bool, isi_non_tuple, isi_non_list, isi_tup_int, isi_tup_bool, isi_tup_tuple, isi_tup_list, isi_lst_int, isi_lst_bool, isi_lst_tuple, isi_lst_list, if_true, if_false, Bool.not_true, Bool.not_false, Bool.false_eq_true, decide_true, decide_false, e_chain, ix_t0, ix_t1, ix_t2, ix_t3, ix_l0, ix_l1, ix_last, ixl_last, e_wseqN, e_wsq_t, e_wsq_l, e_enum, e_enq_t, e_enq_l, e_rng2, e_r2q, add_tt, add_ll, cat_ll, list_t, list_l, tuple_t, sl_l, e_wipeL, e_wipeN, isi_str_int, isi_str_bool, isi_str_tuple, isi_str_list, isi_str_str, e_par2, e_par3, e_mval, e_mown, e_owq, e_frz, e_appM, e_callHO, e_maxK, e_mkq, List.getElem?_cons_zero, List.getElem?_cons_succ, e_notV, e_nvq, e_lc2, e_deN, e_deV, e_deO, e_de0, e_put, nn_non, nn_int, nn_bl, nn_str, nn_tup, nn_lst, e_par4, e_ix2, e_put2, e_go2])
        refine ⟨i + 1, rowT k (soFar ds c (i + 1) (m + 1) (i + 1)), ?_, tab_get (by omega), m + 1, ?_, ?_⟩
        · unfold ixN
          rw [if_pos (by omega), if_pos (by rw [tab_len]; omega), Int.toNat_natCast]
        · unfold ixN
          rw [if_pos (by omega), if_pos (by rw [rowT_len]; omega), Int.toNat_natCast]
        · rw [tab_set (g := soFar ds c (i + 1) (m + 2)) (by omega) (by omega) (if_pos (.inr ⟨rfl, by omega⟩)) fun a b ha hb hab => ?_]
          · exact hK2 _ ⟨_, _, _, rfl⟩
          · unfold soFar
            have : (a < i + 1 ∨ (a = i + 1 ∧ b < m + 2)) ↔ (a < i + 1 ∨ (a = i + 1 ∧ b < m + 1)) := by omega
            simp only [this]
    · rintro ρ ⟨a5, a6, a7, rfl⟩
      rw [Nat.zero_add, List.length_map, List.length_range']
      have et : tab ds.length k (soFar ds c (i + 1) (k + 1)) = tab ds.length k (soFar ds c (i + 1 + 1) 1) := tab_ext fun e he j hj => by
        unfold soFar
        by_cases h1 : e < i + 1
        · rw [if_pos (.inl h1), if_pos (.inl (by omega))]
        by_cases h2 : e = i + 1
        · rw [if_pos (.inr ⟨h2, by omega⟩), if_pos (.inl (by omega))]
        rw [if_neg (by omega)]
        split
        · rename_i h3
          rw [show j = 0 by omega]
          rfl
        · rfl
      rw [et]
      exact hK _ ⟨_, _, _, _, _, rfl⟩
  · rintro ρ ⟨a4, a5, a6, a7, a8, rfl⟩
    rw [Nat.zero_add, List.length_map, List.length_range']
    refine hKK3 _ ?_
    (try simp only [e_asg, e_ret, e_drop, e_next, e_ifS, e_if, e_test, e_tq, e_and, e_or, e_not, e_andV, e_orV, e_aq1, e_aq0, e_oq1, e_oq0, e_c, e_op, e_neg, e_ngq, e_nil, e_cons, e_call, e_callK, e_cb, e_tup, e_lst, e_sl, e_oN, e_oS, e_soq, e_rev, e_rvq, e_var0, e_varS, e_varB0, e_varBo, e_varBS, e_gn, e_go, e_gt, e_gsc, e_gsn, e_fl_t, e_fl_l, e_fl_s, e_sl_t, e_isN, e_notN, e_max2, e_min2, e_int1, e_abs1, e_tupl, e_lc, e_rng1, e_r1q, e_bowl, e_wipe1, e_for, List.set_cons_succ, List.set_cons_zero, add_ii, sub_ii, mul_ii, fdiv_ii, mod_ii, pow_ii, lt_ii, le_ii, gt_ii, ge_ii, DL.eq_int, DL.ne_int, DL.eq_bl, DL.ne_bl, isi_int_int, isi_int_bool, isi_int_tuple, isi_int_list, isi_bl_int, isi_bl_bool, isi_bl_tuple, isi_bl_list, isi_non_int, isi_non_bool, isi_non_tuple, isi_non_list, isi_tup_int, isi_tup_bool, isi_tup_tuple, isi_tup_list, isi_lst_int, isi_lst_bool, isi_lst_tuple, isi_lst_list, if_true, if_false, Bool.not_true, Bool.not_false, Bool.false_eq_true, decide_true, decide_false, e_chain, ix_t0, ix_t1, ix_t2, ix_t3, ix_l0, ix_l1, ix_last, ixl_last, e_wseqN, e_wsq_t, e_wsq_l, e_enum, e_enq_t, e_enq_l, e_rng2, e_r2q, add_tt, add_ll, cat_ll, list_t, list_l, tuple_t, sl_l, e_wipeL, e_wipeN, isi_str_int, isi_str_bool, isi_str_tuple, isi_str_list, isi_str_str, e_par2, e_par3, e_mval, e_mown, e_owq, e_frz, e_appM, e_callHO, e_maxK, e_mkq, List.getElem?_cons_zero, List.getElem?_cons_succ, e_notV, e_nvq, e_lc2, e_deN, e_deV, e_deO, e_de0, e_put, nn_non, nn_int, nn_bl, nn_str, nn_tup, nn_lst, e_par4, e_ix2, e_put2, e_go2])
    refine ix2_tab ds.length rfl (Nat.le_refl _) ?_
    try simp only [e_asg, e_ret, e_drop, e_next, e_ifS, e_if, e_test, e_tq, e_and, e_or, e_not, e_andV, e_orV, e_aq1, e_aq0, e_oq1, e_oq0, e_c, e_op, e_neg, e_ngq, e_nil, e_cons, e_call, e_callK, e_cb, e_tup, e_lst, e_sl, e_oN, e_oS, e_soq, e_rev, e_rvq, e_var0, e_varS, e_varB0, e_varBo, e_varBS, e_gn, e_go, e_gt, e_gsc, e_gsn, e_fl_t, e_fl_l, e_fl_s, e_sl_t, e_isN, e_notN, e_max2, e_min2, e_int1, e_abs1, e_tupl, e_lc, e_rng1, e_r1q, e_bowl, e_wipe1, e_for, List.set_cons_succ, List.set_cons_zero, add_ii, sub_ii, mul_ii, fdiv_ii, mod_ii, pow_ii, lt_ii, le_ii, gt_ii, ge_ii, DL.eq_int, DL.ne_int, DL.eq_bl, DL.ne_bl, isi_int_int, isi_int_bool, isi_int_tuple, isi_int_list, isi_bl_int, isi_bl_bool, isi_bl_tuple, isi_bl_list, isi_non_int, isi_non_bool, isi_non_tuple, isi_non_list, isi_tup_int, isi_tup_bool, isi_tup_tuple, isi_tup_list, isi_lst_int, isi_lst_bool, isi_lst_tuple, isi_lst_list, if_true, if_false, Bool.not_true, Bool.not_false, Bool.false_eq_true, decide_true, decide_false, e_chain, ix_t0, ix_t1, ix_t2, ix_t3, ix_l0, ix_l1, ix_last, ixl_last, e_wseqN, e_wsq_t, e_wsq_l, e_enum, e_enq_t, e_enq_l, e_rng2, e_r2q, add_tt, add_ll, cat_ll, list_t, list_l, tuple_t, sl_l, e_wipeL, e_wipeN, isi_str_int, isi_str_bool, isi_str_tuple, isi_str_list, isi_str_str, e_par2, e_par3, e_mval, e_mown, e_owq, e_frz, e_appM, e_callHO, e_maxK, e_mkq, List.getElem?_cons_zero, List.getElem?_cons_succ, e_notV, e_nvq, e_lc2, e_deN, e_deV, e_deO, e_de0, e_put, nn_non, nn_int, nn_bl, nn_str, nn_tup, nn_lst, e_par4, e_ix2, e_put2, e_go2]
    refine ix1_row k rfl (Nat.le_refl _) ?_
    have : soFar ds c (ds.length + 1) 1 ds.length k = MM ds c k ds.length := if_pos (.inl (by omega))
    rw [this]
    exact h
end
end HX
set_option Elab.async false
set_option linter.all false
set_option maxRecDepth 100000
set_option maxHeartbeats 1000000
/-! k56: told, blocks -/
namespace HX
open PySem PySem.Spec PyProof.Rows L2 DL
section
variable {q : D → Prop} {ep : Ex → Prop} {c : Cl} {ds : List Int}
theorem p_law_is_told (okd : OkDm ds) (okc : OkC c) (h : q (.bl true)) : wf__law_is_told [dmg ds, c.d, .int (best ds c).1] q ep := by
  unfold wf__law_is_told W__law_is_told
  show wSeq _ _ _ [some (.val (dmg ds)), some (.val c.d), some (.val (.int (best ds c).1)), none]
  have hb := m_sound (ds := ds) okc
  have hc := okc.oc
  refine seq_step fun KK hKK => ?_
  (try simp only [e_asg, e_ret, e_drop, e_next, e_ifS, e_if, e_test, e_tq, e_and, e_or, e_not, e_andV, e_orV, e_aq1, e_aq0, e_oq1, e_oq0, e_c, e_op, e_neg, e_ngq, e_nil, e_cons, e_call, e_callK, e_cb, e_tup, e_lst, e_sl, e_oN, e_oS, e_soq, e_rev, e_rvq, e_var0, e_varS, e_varB0, e_varBo, e_varBS, e_gn, e_go, e_gt, e_gsc, e_gsn, e_fl_t, e_fl_l, e_fl_s, e_sl_t, e_isN, e_notN, e_max2, e_min2, e_int1, e_abs1, e_tupl, e_lc, e_rng1, e_r1q, e_bowl, e_wipe1, e_for, List.set_cons_succ, List.set_cons_zero, add_ii, sub_ii, mul_ii, fdiv_ii, mod_ii, pow_ii, lt_ii, le_ii, gt_ii, ge_ii, DL.eq_int, DL.ne_int, DL.eq_bl, DL.ne_bl, isi_int_int, isi_int_bool, isi_int_tuple, isi_int_list, isi_bl_int, isi_bl_bool, isi_bl_tuple, isi_bl_list, isi_non_int, isi_non_bool, isi_non_tuple, isi_non_list, isi_tup_int, isi_tup_bool, isi_tup_tuple, isi_tup_list, isi_lst_int, isi_lst_bool, isi_lst_tuple, isi_lst_list, if_true, if_false, Bool.not_true, Bool.not_false, Bool.false_eq_true, decide_true, decide_false, e_chain, ix_t0, ix_t1, ix_t2, ix_t3, ix_l0, ix_l1, ix_last, ixl_last, e_wseqN, e_wsq_t, e_wsq_l, e_enum, e_enq_t, e_enq_l, e_rng2, e_r2q, add_tt, add_ll, cat_ll, list_t, list_l, tuple_t, sl_l, e_wipeL, e_wipeN, isi_str_int, isi_str_bool, isi_str_tuple, isi_str_list, isi_str_str, e_par2, e_par3, e_mval, e_mown, e_owq, e_frz, e_appM, e_callHO, e_maxK, e_mkq, List.getElem?_cons_zero, List.getElem?_cons_succ, e_notV, e_nvq, e_lc2, e_deN, e_deV, e_deO, e_de0, e_put, nn_non, nn_int, nn_bl, nn_str, nn_tup, nn_lst, e_par4, e_ix2, e_put2, e_go2])
  refine p_most_brought okd okc ?_
  simp only [pick, List.map_cons, List.map_nil, List.nil_append, List.getD_cons_succ, List.getD_cons_zero]
  refine p_most_brought okd okc ?_
  repeat ((with_reducible refine And.intro ?_ ?_); (· (first | exact Nat.zero_le _ | (simp only [List.length_map, List.length_append, List.length_cons, List.length_nil, List.length_reverse, List.length_take, List.length_drop, List.length_range, List.length_range', sizeLine_eq]; omega) | omega)))
  refine p_same_eq _ _ rfl (okT_two (.inr ⟨_, rfl⟩)) ?_
  (try simp only [e_asg, e_ret, e_drop, e_next, e_ifS, e_if, e_test, e_tq, e_and, e_or, e_not, e_andV, e_orV, e_aq1, e_aq0, e_oq1, e_oq0, e_c, e_op, e_neg, e_ngq, e_nil, e_cons, e_call, e_callK, e_cb, e_tup, e_lst, e_sl, e_oN, e_oS, e_soq, e_rev, e_rvq, e_var0, e_varS, e_varB0, e_varBo, e_varBS, e_gn, e_go, e_gt, e_gsc, e_gsn, e_fl_t, e_fl_l, e_fl_s, e_sl_t, e_isN, e_notN, e_max2, e_min2, e_int1, e_abs1, e_tupl, e_lc, e_rng1, e_r1q, e_bowl, e_wipe1, e_for, List.set_cons_succ, List.set_cons_zero, add_ii, sub_ii, mul_ii, fdiv_ii, mod_ii, pow_ii, lt_ii, le_ii, gt_ii, ge_ii, DL.eq_int, DL.ne_int, DL.eq_bl, DL.ne_bl, isi_int_int, isi_int_bool, isi_int_tuple, isi_int_list, isi_bl_int, isi_bl_bool, isi_bl_tuple, isi_bl_list, isi_non_int, isi_non_bool, isi_non_tuple, isi_non_list, isi_tup_int, isi_tup_bool, isi_tup_tuple, isi_tup_list, isi_lst_int, isi_lst_bool, isi_lst_tuple, isi_lst_list, if_true, if_false, Bool.not_true, Bool.not_false, Bool.false_eq_true, decide_true, decide_false, e_chain, ix_t0, ix_t1, ix_t2, ix_t3, ix_l0, ix_l1, ix_last, ixl_last, e_wseqN, e_wsq_t, e_wsq_l, e_enum, e_enq_t, e_enq_l, e_rng2, e_r2q, add_tt, add_ll, cat_ll, list_t, list_l, tuple_t, sl_l, e_wipeL, e_wipeN, isi_str_int, isi_str_bool, isi_str_tuple, isi_str_list, isi_str_str, e_par2, e_par3, e_mval, e_mown, e_owq, e_frz, e_appM, e_callHO, e_maxK, e_mkq, List.getElem?_cons_zero, List.getElem?_cons_succ, e_notV, e_nvq, e_lc2, e_deN, e_deV, e_deO, e_de0, e_put, nn_non, nn_int, nn_bl, nn_str, nn_tup, nn_lst, e_par4, e_ix2, e_put2, e_go2])
  refine hKK _ ?_
  clear hKK
  refine seq_step fun KK2 hKK2 => ?_
  (try simp only [e_asg, e_ret, e_drop, e_next, e_ifS, e_if, e_test, e_tq, e_and, e_or, e_not, e_andV, e_orV, e_aq1, e_aq0, e_oq1, e_oq0, e_c, e_op, e_neg, e_ngq, e_nil, e_cons, e_call, e_callK, e_cb, e_tup, e_lst, e_sl, e_oN, e_oS, e_soq, e_rev, e_rvq, e_var0, e_varS, e_varB0, e_varBo, e_varBS, e_gn, e_go, e_gt, e_gsc, e_gsn, e_fl_t, e_fl_l, e_fl_s, e_sl_t, e_isN, e_notN, e_max2, e_min2, e_int1, e_abs1, e_tupl, e_lc, e_rng1, e_r1q, e_bowl, e_wipe1, e_for, List.set_cons_succ, List.set_cons_zero, add_ii, sub_ii, mul_ii, fdiv_ii, mod_ii, pow_ii, lt_ii, le_ii, gt_ii, ge_ii, DL.eq_int, DL.ne_int, DL.eq_bl, DL.ne_bl, isi_int_int, isi_int_bool, isi_int_tuple, isi_int_list, isi_bl_int, isi_bl_bool, isi_bl_tuple, isi_bl_list, isi_non_int, isi_non_bool, isi_non_tuple, isi_non_list, isi_tup_int, isi_tup_bool, isi_tup_tuple, isi_tup_list, isi_lst_int, isi_lst_bool, isi_lst_tuple, isi_lst_list, if_true, if_false, Bool.not_true, Bool.not_false, Bool.false_eq_true, decide_true, decide_false, e_chain, ix_t0, ix_t1, ix_t2, ix_t3, ix_l0, ix_l1, ix_last, ixl_last, e_wseqN, e_wsq_t, e_wsq_l, e_enum, e_enq_t, e_enq_l, e_rng2, e_r2q, add_tt, add_ll, cat_ll, list_t, list_l, tuple_t, sl_l, e_wipeL, e_wipeN, isi_str_int, isi_str_bool, isi_str_tuple, isi_str_list, isi_str_str, e_par2, e_par3, e_mval, e_mown, e_owq, e_frz, e_appM, e_callHO, e_maxK, e_mkq, List.getElem?_cons_zero, List.getElem?_cons_succ, e_notV, e_nvq, e_lc2, e_deN, e_deV, e_deO, e_de0, e_put, nn_non, nn_int, nn_bl, nn_str, nn_tup, nn_lst, e_par4, e_ix2, e_put2, e_go2])
  simp only [pick, List.map_cons, List.map_nil, List.nil_append, List.getD_cons_succ, List.getD_cons_zero]
  refine p_best_choice okd okc ?_
  refine hKK2 _ ?_
  clear hKK2
  (try simp only [e_asg, e_ret, e_drop, e_next, e_ifS, e_if, e_test, e_tq, e_and, e_or, e_not, e_andV, e_orV, e_aq1, e_aq0, e_oq1, e_oq0, e_c, e_op, e_neg, e_ngq, e_nil, e_cons, e_call, e_callK, e_cb, e_tup, e_lst, e_sl, e_oN, e_oS, e_soq, e_rev, e_rvq, e_var0, e_varS, e_varB0, e_varBo, e_varBS, e_gn, e_go, e_gt, e_gsc, e_gsn, e_fl_t, e_fl_l, e_fl_s, e_sl_t, e_isN, e_notN, e_max2, e_min2, e_int1, e_abs1, e_tupl, e_lc, e_rng1, e_r1q, e_bowl, e_wipe1, e_for, List.set_cons_succ, List.set_cons_zero, add_ii, sub_ii, mul_ii, fdiv_ii, mod_ii, pow_ii, lt_ii, le_ii, gt_ii, ge_ii, DL.eq_int, DL.ne_int, DL.eq_bl, DL.ne_bl, isi_int_int, isi_int_bool, isi_int_tuple, isi_int_list, isi_bl_int, isi_bl_bool, isi_bl_tuple, isi_bl_list, isi_non_int, isi_non_bool, isi_non_tuple, isi_non_list, isi_tup_int, isi_tup_bool, isi_tup_tuple, isi_tup_list, isi_lst_int, isi_lst_bool, isi_lst_tuple, isi_lst_list, if_true, if_false, Bool.not_true, Bool.not_false, Bool.false_eq_true, decide_true, decide_false, e_chain, ix_t0, ix_t1, ix_t2, ix_t3, ix_l0, ix_l1, ix_last, ixl_last, e_wseqN, e_wsq_t, e_wsq_l, e_enum, e_enq_t, e_enq_l, e_rng2, e_r2q, add_tt, add_ll, cat_ll, list_t, list_l, tuple_t, sl_l, e_wipeL, e_wipeN, isi_str_int, isi_str_bool, isi_str_tuple, isi_str_list, isi_str_str, e_par2, e_par3, e_mval, e_mown, e_owq, e_frz, e_appM, e_callHO, e_maxK, e_mkq, List.getElem?_cons_zero, List.getElem?_cons_succ, e_notV, e_nvq, e_lc2, e_deN, e_deV, e_deO, e_de0, e_put, nn_non, nn_int, nn_bl, nn_str, nn_tup, nn_lst, e_par4, e_ix2, e_put2, e_go2])
  refine p_law_is_choice _ (by omega) (pures_wins _) fun b hbb => ?_
  rw [hbb.mpr ⟨_, rfl, hb.1⟩]
  (try simp only [e_asg, e_ret, e_drop, e_next, e_ifS, e_if, e_test, e_tq, e_and, e_or, e_not, e_andV, e_orV, e_aq1, e_aq0, e_oq1, e_oq0, e_c, e_op, e_neg, e_ngq, e_nil, e_cons, e_call, e_callK, e_cb, e_tup, e_lst, e_sl, e_oN, e_oS, e_soq, e_rev, e_rvq, e_var0, e_varS, e_varB0, e_varBo, e_varBS, e_gn, e_go, e_gt, e_gsc, e_gsn, e_fl_t, e_fl_l, e_fl_s, e_sl_t, e_isN, e_notN, e_max2, e_min2, e_int1, e_abs1, e_tupl, e_lc, e_rng1, e_r1q, e_bowl, e_wipe1, e_for, List.set_cons_succ, List.set_cons_zero, add_ii, sub_ii, mul_ii, fdiv_ii, mod_ii, pow_ii, lt_ii, le_ii, gt_ii, ge_ii, DL.eq_int, DL.ne_int, DL.eq_bl, DL.ne_bl, isi_int_int, isi_int_bool, isi_int_tuple, isi_int_list, isi_bl_int, isi_bl_bool, isi_bl_tuple, isi_bl_list, isi_non_int, isi_non_bool, isi_non_tuple, isi_non_list, isi_tup_int, isi_tup_bool, isi_tup_tuple, isi_tup_list, isi_lst_int, isi_lst_bool, isi_lst_tuple, isi_lst_list, if_true, if_false, Bool.not_true, Bool.not_false, Bool.false_eq_true, decide_true, decide_false, e_chain, ix_t0, ix_t1, ix_t2, ix_t3, ix_l0, ix_l1, ix_last, ixl_last, e_wseqN, e_wsq_t, e_wsq_l, e_enum, e_enq_t, e_enq_l, e_rng2, e_r2q, add_tt, add_ll, cat_ll, list_t, list_l, tuple_t, sl_l, e_wipeL, e_wipeN, isi_str_int, isi_str_bool, isi_str_tuple, isi_str_list, isi_str_str, e_par2, e_par3, e_mval, e_mown, e_owq, e_frz, e_appM, e_callHO, e_maxK, e_mkq, List.getElem?_cons_zero, List.getElem?_cons_succ, e_notV, e_nvq, e_lc2, e_deN, e_deV, e_deO, e_de0, e_put, nn_non, nn_int, nn_bl, nn_str, nn_tup, nn_lst, e_par4, e_ix2, e_put2, e_go2])
  refine p_law_brings _ (by have := hb.1.len; omega) ?_
  rw [show val ds c (best ds c).2 = (best ds c).1 from hb.2]
  (try simp only [e_asg, e_ret, e_drop, e_next, e_ifS, e_if, e_test, e_tq, e_and, e_or, e_not, e_andV, e_orV, e_aq1, e_aq0, e_oq1, e_oq0, e_c, e_op, e_neg, e_ngq, e_nil, e_cons, e_call, e_callK, e_cb, e_tup, e_lst, e_sl, e_oN, e_oS, e_soq, e_rev, e_rvq, e_var0, e_varS, e_varB0, e_varBo, e_varBS, e_gn, e_go, e_gt, e_gsc, e_gsn, e_fl_t, e_fl_l, e_fl_s, e_sl_t, e_isN, e_notN, e_max2, e_min2, e_int1, e_abs1, e_tupl, e_lc, e_rng1, e_r1q, e_bowl, e_wipe1, e_for, List.set_cons_succ, List.set_cons_zero, add_ii, sub_ii, mul_ii, fdiv_ii, mod_ii, pow_ii, lt_ii, le_ii, gt_ii, ge_ii, DL.eq_int, DL.ne_int, DL.eq_bl, DL.ne_bl, isi_int_int, isi_int_bool, isi_int_tuple, isi_int_list, isi_bl_int, isi_bl_bool, isi_bl_tuple, isi_bl_list, isi_non_int, isi_non_bool, isi_non_tuple, isi_non_list, isi_tup_int, isi_tup_bool, isi_tup_tuple, isi_tup_list, isi_lst_int, isi_lst_bool, isi_lst_tuple, isi_lst_list, if_true, if_false, Bool.not_true, Bool.not_false, Bool.false_eq_true, decide_true, decide_false, e_chain, ix_t0, ix_t1, ix_t2, ix_t3, ix_l0, ix_l1, ix_last, ixl_last, e_wseqN, e_wsq_t, e_wsq_l, e_enum, e_enq_t, e_enq_l, e_rng2, e_r2q, add_tt, add_ll, cat_ll, list_t, list_l, tuple_t, sl_l, e_wipeL, e_wipeN, isi_str_int, isi_str_bool, isi_str_tuple, isi_str_list, isi_str_str, e_par2, e_par3, e_mval, e_mown, e_owq, e_frz, e_appM, e_callHO, e_maxK, e_mkq, List.getElem?_cons_zero, List.getElem?_cons_succ, e_notV, e_nvq, e_lc2, e_deN, e_deV, e_deO, e_de0, e_put, nn_non, nn_int, nn_bl, nn_str, nn_tup, nn_lst, e_par4, e_ix2, e_put2, e_go2])
  rw [beq_self_eq_true]
  exact h
theorem worth_le (okc : OkC c) {a : Int} (h : 0 ≤ a) : worth c a ≤ a := by
  rw [worth_eq]
  have := okc.ol
  cases c.hi <;> simp only <;> omega
/-- nothing brings more than all -/
theorem best_le_sum (okd : OkDm ds) (okc : OkC c) : (best ds c).1 ≤ ds.sum := by
  obtain ⟨v, e⟩ := best_ok (ds := ds) (c := c)
  have hd : ∀ a ∈ ds, 0 ≤ a := fun a ha => (okd.all a ha).1
  have h1 := apart_le hd _ 0 _ v (fun _ _ => Nat.zero_le _) (Nat.zero_le _)
  rw [pre_len] at h1
  have h0 : Pre ds 0 = 0 := by unfold Pre; rw [List.take_zero]; rfl
  have h2 : val ds c (best ds c).2 ≤ ((best ds c).2.map (sumW ds)).sum := sum_le _ _ _ fun w hw => worth_le okc (by
    have hwv := v.win w hw
    rw [sumW_eq w (by omega)]
    have := pre_mono hd (show w.1 ≤ w.2 + 1 by omega)
    omega)
  rw [e]
  omega
end
/-! blocks of damages, parted by hours without -/
def blockD (h : Nat) (bs : List (List Int)) : List Int := bs.flatMap fun b => b ++ List.replicate h 0
def blockW (h : Nat) (m : Nat) : List Win := (List.range m).map fun i => (2 * h * i, 2 * h * i + (h - 1))
theorem blockD_len {h : Nat} : ∀ {bs : List (List Int)}, (∀ b ∈ bs, b.length = h) → (blockD h bs).length = 2 * h * bs.length
  | [], _ => rfl
  | b :: bs, hb => by
    unfold blockD
    rw [List.flatMap_cons, List.length_append, List.length_append, List.length_replicate, hb b List.mem_cons_self, List.length_cons]
    have := blockD_len (bs := bs) fun x hx => hb x (List.mem_cons_of_mem _ hx)
    unfold blockD at this
    rw [this, Nat.mul_add]
    omega
theorem sum_append (a b : List Int) : (a ++ b).sum = a.sum + b.sum := by
  induction a with
  | nil => simp
  | cons x a ih => rw [List.cons_append, List.sum_cons, List.sum_cons, ih]; omega
theorem sum_zero (n : Nat) : (List.replicate n (0 : Int)).sum = 0 := by
  induction n with
  | zero => rfl
  | succ n ih => rw [List.replicate_succ, List.sum_cons, ih]; rfl
theorem blockD_sum (h : Nat) : ∀ bs : List (List Int), (blockD h bs).sum = (bs.map List.sum).sum
  | [] => rfl
  | b :: bs => by
    unfold blockD
    rw [List.flatMap_cons, sum_append, sum_append, sum_zero, List.map_cons, List.sum_cons]
    have := blockD_sum h bs
    unfold blockD at this
    rw [this]
    omega
theorem blockD_app (h : Nat) (bs : List (List Int)) (b : List Int) : blockD h (bs ++ [b]) = blockD h bs ++ (b ++ List.replicate h 0) := by
  unfold blockD
  rw [List.flatMap_append]
  simp
theorem blockD_take {h : Nat} (m : Nat) : ∀ {bs : List (List Int)}, (∀ b ∈ bs, b.length = h) → (blockD h bs).take (2 * h * m) = blockD h (bs.take m) := by
  intro bs hb
  have e : blockD h bs = blockD h (bs.take m) ++ blockD h (bs.drop m) := by
    unfold blockD
    rw [← List.flatMap_append, List.take_append_drop]
  have hl : (blockD h (bs.take m)).length = 2 * h * (bs.take m).length := blockD_len fun x hx => hb x (List.mem_of_mem_take hx)
  rw [e, List.take_append]
  rw [List.length_take] at hl
  by_cases hm : m ≤ bs.length
  · rw [Nat.min_eq_left hm] at hl
    rw [hl, Nat.sub_self, List.take_zero, List.append_nil, List.take_of_length_le (by omega)]
  · have e0 : bs.drop m = [] := List.drop_eq_nil_of_le (by omega)
    rw [e0]
    have : (blockD h (bs.take m)).length ≤ 2 * h * m := by
      rw [hl]
      exact Nat.mul_le_mul (Nat.le_refl _) (Nat.min_le_left _ _)
    rw [List.take_of_length_le this]
    simp [blockD]
theorem blockD_sumW {h : Nat} (h1 : 1 ≤ h) : ∀ {bs : List (List Int)} (i : Nat) (b : List Int), (∀ b ∈ bs, b.length = h) → bs[i]? = some b → sumW (blockD h bs) (2 * h * i, 2 * h * i + (h - 1)) = b.sum
  | [], i, b, _, hi => by simp at hi
  | x :: bs, 0, b, hb, hi => by
    simp at hi
    subst hi
    have hx := hb x List.mem_cons_self
    unfold sumW blockD
    rw [List.flatMap_cons]
    show (((x ++ List.replicate h 0 ++ _).drop (2 * h * 0)).take (2 * h * 0 + (h - 1) + 1 - 2 * h * 0)).sum = _
    rw [Nat.mul_zero, List.drop_zero, show 0 + (h - 1) + 1 - 0 = x.length by omega, List.append_assoc, List.take_left]
  | x :: bs, i + 1, b, hb, hi => by
    have hx := hb x List.mem_cons_self
    have ih := blockD_sumW h1 (bs := bs) i b (fun y hy => hb y (List.mem_cons_of_mem _ hy)) (by simpa using hi)
    rw [← ih]
    unfold sumW blockD
    rw [List.flatMap_cons]
    have e1 : 2 * h * (i + 1) = (x ++ List.replicate h (0 : Int)).length + 2 * h * i := by
      rw [List.length_append, List.length_replicate, hx, Nat.mul_add]
      omega
    show (((x ++ List.replicate h 0 ++ _).drop (2 * h * (i + 1))).take (2 * h * (i + 1) + (h - 1) + 1 - 2 * h * (i + 1))).sum = _
    rw [show 2 * h * (i + 1) + (h - 1) + 1 - 2 * h * (i + 1) = 2 * h * i + (h - 1) + 1 - 2 * h * i by omega, e1, ← List.drop_drop, List.drop_left]
theorem blocks_best {h k : Nat} {bs : List (List Int)} {hi : Option Int} (h1 : 1 ≤ h) (okd : OkDm (blockD h bs)) (okc : OkC ⟨h, k, 0, hi⟩) (hb : ∀ b ∈ bs, b.length = h) (hk : bs.length ≤ k) (hs : ∀ b ∈ bs, 0 ≤ b.sum ∧ ∀ v, hi = some v → b.sum ≤ v) :
    (best (blockD h bs) ⟨h, k, 0, hi⟩).1 = (bs.map List.sum).sum := by
  have hle := best_le_sum okd okc
  rw [blockD_sum] at hle
  have v : Val h k (blockD h bs).length (blockW h bs.length) := by
    refine ⟨by unfold blockW; rw [List.length_map, List.length_range]; exact hk, fun w hw => ?_, ?_⟩
    · unfold blockW at hw
      obtain ⟨i, hi2, rfl⟩ := List.mem_map.mp hw
      have := List.mem_range.mp hi2
      rw [blockD_len hb]
      have h3 : 2 * h * i + 2 * h ≤ 2 * h * bs.length := by
        have := Nat.mul_le_mul (Nat.le_refl (2 * h)) (show i + 1 ≤ bs.length by omega)
        rw [Nat.mul_add] at this
        omega
      refine ⟨by show 2 * h * i ≤ 2 * h * i + (h - 1); omega, by show 2 * h * i + (h - 1) < _; omega, by show 2 * h * i + (h - 1) < 2 * h * i + h; omega⟩
    · unfold blockW
      rw [List.pairwise_map]
      refine List.Pairwise.imp (fun {a b} hab => ?_) List.pairwise_lt_range
      have := Nat.mul_le_mul (Nat.le_refl (2 * h)) (show a + 1 ≤ b by omega)
      rw [Nat.mul_add] at this
      show 2 * h * a + (h - 1) < 2 * h * b
      omega
  have hge := best_ge (ds := blockD h bs) (c := ⟨(h : Int), (k : Int), 0, hi⟩) (ws := blockW h bs.length) v
  have hval : val (blockD h bs) ⟨(h : Int), (k : Int), 0, hi⟩ (blockW h bs.length) = (bs.map List.sum).sum := by
    unfold val blockW
    rw [List.map_map]
    congr 1
    apply List.ext_getElem?
    intro i
    rw [List.getElem?_map, List.getElem?_map]
    by_cases hi2 : i < bs.length
    · rw [List.getElem?_range hi2, List.getElem?_eq_getElem hi2]
      show some (worth _ (sumW (blockD h bs) (2 * h * i, 2 * h * i + (h - 1)))) = some _
      rw [blockD_sumW h1 i bs[i] hb (List.getElem?_eq_getElem hi2), worth_eq]
      have := hs bs[i] (List.getElem_mem hi2)
      cases hi with
      | none => simp only; congr 1; omega
      | some v =>
        have := this.2 v rfl
        simp only
        congr 1
        omega
    · rw [List.getElem?_eq_none (by rw [List.length_range]; omega), List.getElem?_eq_none (by omega)]
      rfl
  rw [hval] at hge
  omega
end HX
set_option Elab.async false
set_option linter.all false
set_option maxRecDepth 100000
set_option maxHeartbeats 1000000
/-! k56: the law -/
namespace HX
open PySem PySem.Spec PyProof.Rows L2 DL
theorem sum_bds {b : List Int} {lo hi : Int} (h : ∀ a ∈ b, lo ≤ a ∧ a ≤ hi) : lo * b.length ≤ b.sum ∧ b.sum ≤ hi * b.length := by
  induction b with
  | nil => simp
  | cons a b ih =>
    have h1 := h a List.mem_cons_self
    have h2 := ih fun x hx => h x (List.mem_cons_of_mem _ hx)
    rw [List.sum_cons, List.length_cons, show ((b.length + 1 : Nat) : Int) = (b.length : Int) + 1 by omega, Int.mul_add, Int.mul_add]
    omega
section
variable {q : D → Prop} {ep : Ex → Prop}
theorem ints_of {P : Int → Prop} : ∀ {ys : List D}, (∀ y ∈ ys, ∃ v : Int, y = .int v ∧ P v) → ∃ ns : List Int, ys = ns.map .int ∧ ∀ n ∈ ns, P n
  | [], _ => ⟨[], rfl, fun _ h => nomatch h⟩
  | y :: ys, h => by
    obtain ⟨v, rfl, hv⟩ := h y List.mem_cons_self
    obtain ⟨ns, rfl, hn⟩ := ints_of (ys := ys) fun z hz => h z (List.mem_cons_of_mem _ hz)
    exact ⟨v :: ns, rfl, fun n hm => (List.mem_cons.mp hm).elim (fun e => e ▸ hv) (hn n)⟩
theorem p_law_blocks_right (hq : q (.bl true)) : wf__law_blocks_right [.bowl] q ep := by
  unfold wf__law_blocks_right W__law_blocks_right
  show wSeq _ _ _ [some (.val .bowl), none, none, none, none, none, none, none, none, none, none, none, none]
  refine seq_step fun KK hKK => ?_
  (try simp only [e_asg, e_ret, e_drop, e_next, e_ifS, e_if, e_test, e_tq, e_and, e_or, e_not, e_andV, e_orV, e_aq1, e_aq0, e_oq1, e_oq0, e_c, e_op, e_neg, e_ngq, e_nil, e_cons, e_call, e_callK, e_cb, e_tup, e_lst, e_sl, e_oN, e_oS, e_soq, e_rev, e_rvq, e_var0, e_varS, e_varB0, e_varBo, e_varBS, e_gn, e_go, e_gt, e_gsc, e_gsn, e_fl_t, e_fl_l, e_fl_s, e_sl_t, e_isN, e_notN, e_max2, e_min2, e_int1, e_abs1, e_tupl, e_lc, e_rng1, e_r1q, e_bowl, e_wipe1, e_for, List.set_cons_succ, List.set_cons_zero, add_ii, sub_ii, mul_ii, fdiv_ii, mod_ii, pow_ii, lt_ii, le_ii, gt_ii, ge_ii, DL.eq_int, DL.ne_int, DL.eq_bl, DL.ne_bl, isi_int_int, isi_int_bool, isi_int_tuple, isi_int_list, isi_bl_int, isi_bl_bool, isi_bl_tuple, isi_bl_list, isi_non_int, isi_non_bool, isi_non_tuple, isi_non_list, isi_tup_int, isi_tup_bool, isi_tup_tuple, isi_tup_list, isi_lst_int, isi_lst_bool, isi_lst_tuple, isi_lst_list, if_true, if_false, Bool.not_true, Bool.not_false, Bool.false_eq_true, decide_true, decide_false, e_chain, ix_t0, ix_t1, ix_t2, ix_t3, ix_l0, ix_l1, ix_last, ixl_last, e_wseqN, e_wsq_t, e_wsq_l, e_enum, e_enq_t, e_enq_l, e_rng2, e_r2q, add_tt, add_ll, cat_ll, list_t, list_l, tuple_t, sl_l, e_wipeL, e_wipeN, isi_str_int, isi_str_bool, isi_str_tuple, isi_str_list, isi_str_str, e_par2, e_par3, e_mval, e_mown, e_owq, e_frz, e_appM, e_callHO, e_maxK, e_mkq, List.getElem?_cons_zero, List.getElem?_cons_succ, e_notV, e_nvq, e_lc2, e_deN, e_deV, e_deO, e_de0, e_put, nn_non, nn_int, nn_bl, nn_str, nn_tup, nn_lst, e_par4, e_ix2, e_put2, e_go2])
  refine p_law_pour _ (by omega) (by omega) fun r1 h1 h2 => ?_
  (try simp only [e_asg, e_ret, e_drop, e_next, e_ifS, e_if, e_test, e_tq, e_and, e_or, e_not, e_andV, e_orV, e_aq1, e_aq0, e_oq1, e_oq0, e_c, e_op, e_neg, e_ngq, e_nil, e_cons, e_call, e_callK, e_cb, e_tup, e_lst, e_sl, e_oN, e_oS, e_soq, e_rev, e_rvq, e_var0, e_varS, e_varB0, e_varBo, e_varBS, e_gn, e_go, e_gt, e_gsc, e_gsn, e_fl_t, e_fl_l, e_fl_s, e_sl_t, e_isN, e_notN, e_max2, e_min2, e_int1, e_abs1, e_tupl, e_lc, e_rng1, e_r1q, e_bowl, e_wipe1, e_for, List.set_cons_succ, List.set_cons_zero, add_ii, sub_ii, mul_ii, fdiv_ii, mod_ii, pow_ii, lt_ii, le_ii, gt_ii, ge_ii, DL.eq_int, DL.ne_int, DL.eq_bl, DL.ne_bl, isi_int_int, isi_int_bool, isi_int_tuple, isi_int_list, isi_bl_int, isi_bl_bool, isi_bl_tuple, isi_bl_list, isi_non_int, isi_non_bool, isi_non_tuple, isi_non_list, isi_tup_int, isi_tup_bool, isi_tup_tuple, isi_tup_list, isi_lst_int, isi_lst_bool, isi_lst_tuple, isi_lst_list, if_true, if_false, Bool.not_true, Bool.not_false, Bool.false_eq_true, decide_true, decide_false, e_chain, ix_t0, ix_t1, ix_t2, ix_t3, ix_l0, ix_l1, ix_last, ixl_last, e_wseqN, e_wsq_t, e_wsq_l, e_enum, e_enq_t, e_enq_l, e_rng2, e_r2q, add_tt, add_ll, cat_ll, list_t, list_l, tuple_t, sl_l, e_wipeL, e_wipeN, isi_str_int, isi_str_bool, isi_str_tuple, isi_str_list, isi_str_str, e_par2, e_par3, e_mval, e_mown, e_owq, e_frz, e_appM, e_callHO, e_maxK, e_mkq, List.getElem?_cons_zero, List.getElem?_cons_succ, e_notV, e_nvq, e_lc2, e_deN, e_deV, e_deO, e_de0, e_put, nn_non, nn_int, nn_bl, nn_str, nn_tup, nn_lst, e_par4, e_ix2, e_put2, e_go2])
  refine p_law_pour _ (by omega) (by omega) fun r2 h3 h4 => ?_
  (try simp only [e_asg, e_ret, e_drop, e_next, e_ifS, e_if, e_test, e_tq, e_and, e_or, e_not, e_andV, e_orV, e_aq1, e_aq0, e_oq1, e_oq0, e_c, e_op, e_neg, e_ngq, e_nil, e_cons, e_call, e_callK, e_cb, e_tup, e_lst, e_sl, e_oN, e_oS, e_soq, e_rev, e_rvq, e_var0, e_varS, e_varB0, e_varBo, e_varBS, e_gn, e_go, e_gt, e_gsc, e_gsn, e_fl_t, e_fl_l, e_fl_s, e_sl_t, e_isN, e_notN, e_max2, e_min2, e_int1, e_abs1, e_tupl, e_lc, e_rng1, e_r1q, e_bowl, e_wipe1, e_for, List.set_cons_succ, List.set_cons_zero, add_ii, sub_ii, mul_ii, fdiv_ii, mod_ii, pow_ii, lt_ii, le_ii, gt_ii, ge_ii, DL.eq_int, DL.ne_int, DL.eq_bl, DL.ne_bl, isi_int_int, isi_int_bool, isi_int_tuple, isi_int_list, isi_bl_int, isi_bl_bool, isi_bl_tuple, isi_bl_list, isi_non_int, isi_non_bool, isi_non_tuple, isi_non_list, isi_tup_int, isi_tup_bool, isi_tup_tuple, isi_tup_list, isi_lst_int, isi_lst_bool, isi_lst_tuple, isi_lst_list, if_true, if_false, Bool.not_true, Bool.not_false, Bool.false_eq_true, decide_true, decide_false, e_chain, ix_t0, ix_t1, ix_t2, ix_t3, ix_l0, ix_l1, ix_last, ixl_last, e_wseqN, e_wsq_t, e_wsq_l, e_enum, e_enq_t, e_enq_l, e_rng2, e_r2q, add_tt, add_ll, cat_ll, list_t, list_l, tuple_t, sl_l, e_wipeL, e_wipeN, isi_str_int, isi_str_bool, isi_str_tuple, isi_str_list, isi_str_str, e_par2, e_par3, e_mval, e_mown, e_owq, e_frz, e_appM, e_callHO, e_maxK, e_mkq, List.getElem?_cons_zero, List.getElem?_cons_succ, e_notV, e_nvq, e_lc2, e_deN, e_deV, e_deO, e_de0, e_put, nn_non, nn_int, nn_bl, nn_str, nn_tup, nn_lst, e_par4, e_ix2, e_put2, e_go2])
  repeat ((with_reducible refine And.intro ?_ ?_); (· (first | exact Nat.zero_le _ | (simp only [List.length_map, List.length_append, List.length_cons, List.length_nil, List.length_reverse, List.length_take, List.length_drop, List.length_range, List.length_range', sizeLine_eq]; omega) | omega)))
  obtain ⟨h, hh⟩ : ∃ h : Nat, 1 + r1 = (h : Int) := ⟨(1 + r1).toNat, by omega⟩
  obtain ⟨k, hk⟩ : ∃ k : Nat, 1 + r2 = (k : Int) := ⟨(1 + r2).toNat, by omega⟩
  rw [hh, hk]
  have hh1 : 1 ≤ h ∧ h ≤ 6 := by omega
  have hk1 : 1 ≤ k ∧ k ≤ 6 := by omega
  clear h1 h2 h3 h4 hh hk r1 r2
  refine hKK _ ?_
  clear hKK
  refine seq_step fun KK2 hKK2 => ?_
  (try simp only [e_asg, e_ret, e_drop, e_next, e_ifS, e_if, e_test, e_tq, e_and, e_or, e_not, e_andV, e_orV, e_aq1, e_aq0, e_oq1, e_oq0, e_c, e_op, e_neg, e_ngq, e_nil, e_cons, e_call, e_callK, e_cb, e_tup, e_lst, e_sl, e_oN, e_oS, e_soq, e_rev, e_rvq, e_var0, e_varS, e_varB0, e_varBo, e_varBS, e_gn, e_go, e_gt, e_gsc, e_gsn, e_fl_t, e_fl_l, e_fl_s, e_sl_t, e_isN, e_notN, e_max2, e_min2, e_int1, e_abs1, e_tupl, e_lc, e_rng1, e_r1q, e_bowl, e_wipe1, e_for, List.set_cons_succ, List.set_cons_zero, add_ii, sub_ii, mul_ii, fdiv_ii, mod_ii, pow_ii, lt_ii, le_ii, gt_ii, ge_ii, DL.eq_int, DL.ne_int, DL.eq_bl, DL.ne_bl, isi_int_int, isi_int_bool, isi_int_tuple, isi_int_list, isi_bl_int, isi_bl_bool, isi_bl_tuple, isi_bl_list, isi_non_int, isi_non_bool, isi_non_tuple, isi_non_list, isi_tup_int, isi_tup_bool, isi_tup_tuple, isi_tup_list, isi_lst_int, isi_lst_bool, isi_lst_tuple, isi_lst_list, if_true, if_false, Bool.not_true, Bool.not_false, Bool.false_eq_true, decide_true, decide_false, e_chain, ix_t0, ix_t1, ix_t2, ix_t3, ix_l0, ix_l1, ix_last, ixl_last, e_wseqN, e_wsq_t, e_wsq_l, e_enum, e_enq_t, e_enq_l, e_rng2, e_r2q, add_tt, add_ll, cat_ll, list_t, list_l, tuple_t, sl_l, e_wipeL, e_wipeN, isi_str_int, isi_str_bool, isi_str_tuple, isi_str_list, isi_str_str, e_par2, e_par3, e_mval, e_mown, e_owq, e_frz, e_appM, e_callHO, e_maxK, e_mkq, List.getElem?_cons_zero, List.getElem?_cons_succ, e_notV, e_nvq, e_lc2, e_deN, e_deV, e_deO, e_de0, e_put, nn_non, nn_int, nn_bl, nn_str, nn_tup, nn_lst, e_par4, e_ix2, e_put2, e_go2])
  refine p_law_pour _ (by omega) (by omega) fun r h1 h2 => ?_
  (try simp only [e_asg, e_ret, e_drop, e_next, e_ifS, e_if, e_test, e_tq, e_and, e_or, e_not, e_andV, e_orV, e_aq1, e_aq0, e_oq1, e_oq0, e_c, e_op, e_neg, e_ngq, e_nil, e_cons, e_call, e_callK, e_cb, e_tup, e_lst, e_sl, e_oN, e_oS, e_soq, e_rev, e_rvq, e_var0, e_varS, e_varB0, e_varBo, e_varBS, e_gn, e_go, e_gt, e_gsc, e_gsn, e_fl_t, e_fl_l, e_fl_s, e_sl_t, e_isN, e_notN, e_max2, e_min2, e_int1, e_abs1, e_tupl, e_lc, e_rng1, e_r1q, e_bowl, e_wipe1, e_for, List.set_cons_succ, List.set_cons_zero, add_ii, sub_ii, mul_ii, fdiv_ii, mod_ii, pow_ii, lt_ii, le_ii, gt_ii, ge_ii, DL.eq_int, DL.ne_int, DL.eq_bl, DL.ne_bl, isi_int_int, isi_int_bool, isi_int_tuple, isi_int_list, isi_bl_int, isi_bl_bool, isi_bl_tuple, isi_bl_list, isi_non_int, isi_non_bool, isi_non_tuple, isi_non_list, isi_tup_int, isi_tup_bool, isi_tup_tuple, isi_tup_list, isi_lst_int, isi_lst_bool, isi_lst_tuple, isi_lst_list, if_true, if_false, Bool.not_true, Bool.not_false, Bool.false_eq_true, decide_true, decide_false, e_chain, ix_t0, ix_t1, ix_t2, ix_t3, ix_l0, ix_l1, ix_last, ixl_last, e_wseqN, e_wsq_t, e_wsq_l, e_enum, e_enq_t, e_enq_l, e_rng2, e_r2q, add_tt, add_ll, cat_ll, list_t, list_l, tuple_t, sl_l, e_wipeL, e_wipeN, isi_str_int, isi_str_bool, isi_str_tuple, isi_str_list, isi_str_str, e_par2, e_par3, e_mval, e_mown, e_owq, e_frz, e_appM, e_callHO, e_maxK, e_mkq, List.getElem?_cons_zero, List.getElem?_cons_succ, e_notV, e_nvq, e_lc2, e_deN, e_deV, e_deO, e_de0, e_put, nn_non, nn_int, nn_bl, nn_str, nn_tup, nn_lst, e_par4, e_ix2, e_put2, e_go2])
  obtain ⟨m, hm⟩ : ∃ m : Nat, 1 + r = (m : Int) := ⟨(1 + r).toNat, by omega⟩
  have hm1 : 1 ≤ m ∧ m ≤ 6 := by omega
  rw [hm]
  clear h1 h2 hm r
  refine ⟨by omega, ?_⟩
  rw [rangeD_nat]
  refine for_run (fun i ρ => ∃ (bs : List (List Int)), ∃ a5 a6, ρ = [some (.val .bowl), some (.val (.int (h : Int))), some (.val (.int (k : Int))), some (.own ((bs.map List.sum).map .int)), some (.val (.lst ((blockD h bs).map .int))), a5, a6, none, none, none, none, none, none] ∧ bs.length = i ∧ ∀ b ∈ bs, b.length = h ∧ ∀ a ∈ b, 1 ≤ a ∧ a ≤ 900) _ 0 _ ⟨[], none, none, rfl, rfl, fun b hb => nomatch hb⟩ ?_ ?_
  · rintro i d ρ K hd ⟨bs, a5, a6, rfl, hbl, hb⟩ hK
    have hi : i < m := by have := (List.getElem?_eq_some_iff.mp hd).1; simpa using this
    rw [Nat.zero_add] at hbl hK
    have hbD := blockD_len (bs := bs) fun b hbm => (hb b hbm).1
    have hbD2 : 2 * h * bs.length ≤ 12 * 6 := Nat.mul_le_mul (by omega) (by omega)
    (try simp only [e_asg, e_ret, e_drop, e_next, e_ifS, e_if, e_test, e_tq, e_and, e_or, e_not, e_andV, e_orV, e_aq1, e_aq0, e_oq1, e_oq0, e_c, e_op, e_neg, e_ngq, e_nil, e_cons, e_call, e_callK, e_cb, e_tup, e_lst, e_sl, e_oN, e_oS, e_soq, e_rev, e_rvq, e_var0, e_varS, e_varB0, e_varBo, e_varBS, e_gn, e_go, e_gt, e_gsc, e_gsn, e_fl_t, e_fl_l, e_fl_s, e_sl_t, e_isN, e_notN, e_max2, e_min2, e_int1, e_abs1, e_tupl, e_lc, e_rng1, e_r1q, e_bowl, e_wipe1, e_for, List.set_cons_succ, List.set_cons_zero, add_ii, sub_ii, mul_ii, fdiv_ii, mod_ii, pow_ii, lt_ii, le_ii, gt_ii, ge_ii, DL.eq_int, DL.ne_int, DL.eq_bl, DL.ne_bl, isi_int_int, isi_int_bool, isi_int_tuple, isi_int_list, isi_bl_int, isi_bl_bool, isi_bl_tuple, isi_bl_list, isi_non_int, isi_non_bool, isi_non_tuple, isi_non_list, isi_tup_int, isi_tup_bool, isi_tup_tuple, isi_tup_list, isi_lst_int, isi_lst_bool, isi_lst_tuple, isi_lst_list, if_true, if_false, Bool.not_true, Bool.not_false, Bool.false_eq_true, decide_true, decide_false, e_chain, ix_t0, ix_t1, ix_t2, ix_t3, ix_l0, ix_l1, ix_last, ixl_last, e_wseqN, e_wsq_t, e_wsq_l, e_enum, e_enq_t, e_enq_l, e_rng2, e_r2q, add_tt, add_ll, cat_ll, list_t, list_l, tuple_t, sl_l, e_wipeL, e_wipeN, isi_str_int, isi_str_bool, isi_str_tuple, isi_str_list, isi_str_str, e_par2, e_par3, e_mval, e_mown, e_owq, e_frz, e_appM, e_callHO, e_maxK, e_mkq, List.getElem?_cons_zero, List.getElem?_cons_succ, e_notV, e_nvq, e_lc2, e_deN, e_deV, e_deO, e_de0, e_put, nn_non, nn_int, nn_bl, nn_str, nn_tup, nn_lst, e_par4, e_ix2, e_put2, e_go2])
    refine seq_step fun KK3 hKK3 => ?_
    (try simp only [e_asg, e_ret, e_drop, e_next, e_ifS, e_if, e_test, e_tq, e_and, e_or, e_not, e_andV, e_orV, e_aq1, e_aq0, e_oq1, e_oq0, e_c, e_op, e_neg, e_ngq, e_nil, e_cons, e_call, e_callK, e_cb, e_tup, e_lst, e_sl, e_oN, e_oS, e_soq, e_rev, e_rvq, e_var0, e_varS, e_varB0, e_varBo, e_varBS, e_gn, e_go, e_gt, e_gsc, e_gsn, e_fl_t, e_fl_l, e_fl_s, e_sl_t, e_isN, e_notN, e_max2, e_min2, e_int1, e_abs1, e_tupl, e_lc, e_rng1, e_r1q, e_bowl, e_wipe1, e_for, List.set_cons_succ, List.set_cons_zero, add_ii, sub_ii, mul_ii, fdiv_ii, mod_ii, pow_ii, lt_ii, le_ii, gt_ii, ge_ii, DL.eq_int, DL.ne_int, DL.eq_bl, DL.ne_bl, isi_int_int, isi_int_bool, isi_int_tuple, isi_int_list, isi_bl_int, isi_bl_bool, isi_bl_tuple, isi_bl_list, isi_non_int, isi_non_bool, isi_non_tuple, isi_non_list, isi_tup_int, isi_tup_bool, isi_tup_tuple, isi_tup_list, isi_lst_int, isi_lst_bool, isi_lst_tuple, isi_lst_list, if_true, if_false, Bool.not_true, Bool.not_false, Bool.false_eq_true, decide_true, decide_false, e_chain, ix_t0, ix_t1, ix_t2, ix_t3, ix_l0, ix_l1, ix_last, ixl_last, e_wseqN, e_wsq_t, e_wsq_l, e_enum, e_enq_t, e_enq_l, e_rng2, e_r2q, add_tt, add_ll, cat_ll, list_t, list_l, tuple_t, sl_l, e_wipeL, e_wipeN, isi_str_int, isi_str_bool, isi_str_tuple, isi_str_list, isi_str_str, e_par2, e_par3, e_mval, e_mown, e_owq, e_frz, e_appM, e_callHO, e_maxK, e_mkq, List.getElem?_cons_zero, List.getElem?_cons_succ, e_notV, e_nvq, e_lc2, e_deN, e_deV, e_deO, e_de0, e_put, nn_non, nn_int, nn_bl, nn_str, nn_tup, nn_lst, e_par4, e_ix2, e_put2, e_go2])
    refine ⟨by omega, ?_⟩
    rw [rangeD_nat]
    refine lc_all (fun x => ∃ v : Int, x = .int v ∧ (1 ≤ v ∧ v ≤ 900)) _ [] (fun x _ k2 hk2 => ?_) (by rw [List.length_map, List.length_range]; show 0 + _ < _; omega) fun ys hyl hys => ?_
    · (try simp only [e_asg, e_ret, e_drop, e_next, e_ifS, e_if, e_test, e_tq, e_and, e_or, e_not, e_andV, e_orV, e_aq1, e_aq0, e_oq1, e_oq0, e_c, e_op, e_neg, e_ngq, e_nil, e_cons, e_call, e_callK, e_cb, e_tup, e_lst, e_sl, e_oN, e_oS, e_soq, e_rev, e_rvq, e_var0, e_varS, e_varB0, e_varBo, e_varBS, e_gn, e_go, e_gt, e_gsc, e_gsn, e_fl_t, e_fl_l, e_fl_s, e_sl_t, e_isN, e_notN, e_max2, e_min2, e_int1, e_abs1, e_tupl, e_lc, e_rng1, e_r1q, e_bowl, e_wipe1, e_for, List.set_cons_succ, List.set_cons_zero, add_ii, sub_ii, mul_ii, fdiv_ii, mod_ii, pow_ii, lt_ii, le_ii, gt_ii, ge_ii, DL.eq_int, DL.ne_int, DL.eq_bl, DL.ne_bl, isi_int_int, isi_int_bool, isi_int_tuple, isi_int_list, isi_bl_int, isi_bl_bool, isi_bl_tuple, isi_bl_list, isi_non_int, isi_non_bool, isi_non_tuple, isi_non_list, isi_tup_int, isi_tup_bool, isi_tup_tuple, isi_tup_list, isi_lst_int, isi_lst_bool, isi_lst_tuple, isi_lst_list, if_true, if_false, Bool.not_true, Bool.not_false, Bool.false_eq_true, decide_true, decide_false, e_chain, ix_t0, ix_t1, ix_t2, ix_t3, ix_l0, ix_l1, ix_last, ixl_last, e_wseqN, e_wsq_t, e_wsq_l, e_enum, e_enq_t, e_enq_l, e_rng2, e_r2q, add_tt, add_ll, cat_ll, list_t, list_l, tuple_t, sl_l, e_wipeL, e_wipeN, isi_str_int, isi_str_bool, isi_str_tuple, isi_str_list, isi_str_str, e_par2, e_par3, e_mval, e_mown, e_owq, e_frz, e_appM, e_callHO, e_maxK, e_mkq, List.getElem?_cons_zero, List.getElem?_cons_succ, e_notV, e_nvq, e_lc2, e_deN, e_deV, e_deO, e_de0, e_put, nn_non, nn_int, nn_bl, nn_str, nn_tup, nn_lst, e_par4, e_ix2, e_put2, e_go2])
      refine p_law_pour _ (by omega) (by omega) fun r h1 h2 => ?_
      (try simp only [e_asg, e_ret, e_drop, e_next, e_ifS, e_if, e_test, e_tq, e_and, e_or, e_not, e_andV, e_orV, e_aq1, e_aq0, e_oq1, e_oq0, e_c, e_op, e_neg, e_ngq, e_nil, e_cons, e_call, e_callK, e_cb, e_tup, e_lst, e_sl, e_oN, e_oS, e_soq, e_rev, e_rvq, e_var0, e_varS, e_varB0, e_varBo, e_varBS, e_gn, e_go, e_gt, e_gsc, e_gsn, e_fl_t, e_fl_l, e_fl_s, e_sl_t, e_isN, e_notN, e_max2, e_min2, e_int1, e_abs1, e_tupl, e_lc, e_rng1, e_r1q, e_bowl, e_wipe1, e_for, List.set_cons_succ, List.set_cons_zero, add_ii, sub_ii, mul_ii, fdiv_ii, mod_ii, pow_ii, lt_ii, le_ii, gt_ii, ge_ii, DL.eq_int, DL.ne_int, DL.eq_bl, DL.ne_bl, isi_int_int, isi_int_bool, isi_int_tuple, isi_int_list, isi_bl_int, isi_bl_bool, isi_bl_tuple, isi_bl_list, isi_non_int, isi_non_bool, isi_non_tuple, isi_non_list, isi_tup_int, isi_tup_bool, isi_tup_tuple, isi_tup_list, isi_lst_int, isi_lst_bool, isi_lst_tuple, isi_lst_list, if_true, if_false, Bool.not_true, Bool.not_false, Bool.false_eq_true, decide_true, decide_false, e_chain, ix_t0, ix_t1, ix_t2, ix_t3, ix_l0, ix_l1, ix_last, ixl_last, e_wseqN, e_wsq_t, e_wsq_l, e_enum, e_enq_t, e_enq_l, e_rng2, e_r2q, add_tt, add_ll, cat_ll, list_t, list_l, tuple_t, sl_l, e_wipeL, e_wipeN, isi_str_int, isi_str_bool, isi_str_tuple, isi_str_list, isi_str_str, e_par2, e_par3, e_mval, e_mown, e_owq, e_frz, e_appM, e_callHO, e_maxK, e_mkq, List.getElem?_cons_zero, List.getElem?_cons_succ, e_notV, e_nvq, e_lc2, e_deN, e_deV, e_deO, e_de0, e_put, nn_non, nn_int, nn_bl, nn_str, nn_tup, nn_lst, e_par4, e_ix2, e_put2, e_go2])
      exact hk2 _ ⟨_, rfl, by omega, by omega⟩
    obtain ⟨b, rfl, hbb⟩ := ints_of hys
    rw [List.length_map, List.length_map, List.length_range] at hyl
    rw [List.nil_append]
    refine hKK3 _ ?_
    clear hKK3
    (try simp only [e_asg, e_ret, e_drop, e_next, e_ifS, e_if, e_test, e_tq, e_and, e_or, e_not, e_andV, e_orV, e_aq1, e_aq0, e_oq1, e_oq0, e_c, e_op, e_neg, e_ngq, e_nil, e_cons, e_call, e_callK, e_cb, e_tup, e_lst, e_sl, e_oN, e_oS, e_soq, e_rev, e_rvq, e_var0, e_varS, e_varB0, e_varBo, e_varBS, e_gn, e_go, e_gt, e_gsc, e_gsn, e_fl_t, e_fl_l, e_fl_s, e_sl_t, e_isN, e_notN, e_max2, e_min2, e_int1, e_abs1, e_tupl, e_lc, e_rng1, e_r1q, e_bowl, e_wipe1, e_for, List.set_cons_succ, List.set_cons_zero, add_ii, sub_ii, mul_ii, fdiv_ii, mod_ii, pow_ii, lt_ii, le_ii, gt_ii, ge_ii, DL.eq_int, DL.ne_int, DL.eq_bl, DL.ne_bl, isi_int_int, isi_int_bool, isi_int_tuple, isi_int_list, isi_bl_int, isi_bl_bool, isi_bl_tuple, isi_bl_list, isi_non_int, isi_non_bool, isi_non_tuple, isi_non_list, isi_tup_int, isi_tup_bool, isi_tup_tuple, isi_tup_list, isi_lst_int, isi_lst_bool, isi_lst_tuple, isi_lst_list, if_true, if_false, Bool.not_true, Bool.not_false, Bool.false_eq_true, decide_true, decide_false, e_chain, ix_t0, ix_t1, ix_t2, ix_t3, ix_l0, ix_l1, ix_last, ixl_last, e_wseqN, e_wsq_t, e_wsq_l, e_enum, e_enq_t, e_enq_l, e_rng2, e_r2q, add_tt, add_ll, cat_ll, list_t, list_l, tuple_t, sl_l, e_wipeL, e_wipeN, isi_str_int, isi_str_bool, isi_str_tuple, isi_str_list, isi_str_str, e_par2, e_par3, e_mval, e_mown, e_owq, e_frz, e_appM, e_callHO, e_maxK, e_mkq, List.getElem?_cons_zero, List.getElem?_cons_succ, e_notV, e_nvq, e_lc2, e_deN, e_deV, e_deO, e_de0, e_put, nn_non, nn_int, nn_bl, nn_str, nn_tup, nn_lst, e_par4, e_ix2, e_put2, e_go2])
    refine seq_step fun KK4 hKK4 => ?_
    (try simp only [e_asg, e_ret, e_drop, e_next, e_ifS, e_if, e_test, e_tq, e_and, e_or, e_not, e_andV, e_orV, e_aq1, e_aq0, e_oq1, e_oq0, e_c, e_op, e_neg, e_ngq, e_nil, e_cons, e_call, e_callK, e_cb, e_tup, e_lst, e_sl, e_oN, e_oS, e_soq, e_rev, e_rvq, e_var0, e_varS, e_varB0, e_varBo, e_varBS, e_gn, e_go, e_gt, e_gsc, e_gsn, e_fl_t, e_fl_l, e_fl_s, e_sl_t, e_isN, e_notN, e_max2, e_min2, e_int1, e_abs1, e_tupl, e_lc, e_rng1, e_r1q, e_bowl, e_wipe1, e_for, List.set_cons_succ, List.set_cons_zero, add_ii, sub_ii, mul_ii, fdiv_ii, mod_ii, pow_ii, lt_ii, le_ii, gt_ii, ge_ii, DL.eq_int, DL.ne_int, DL.eq_bl, DL.ne_bl, isi_int_int, isi_int_bool, isi_int_tuple, isi_int_list, isi_bl_int, isi_bl_bool, isi_bl_tuple, isi_bl_list, isi_non_int, isi_non_bool, isi_non_tuple, isi_non_list, isi_tup_int, isi_tup_bool, isi_tup_tuple, isi_tup_list, isi_lst_int, isi_lst_bool, isi_lst_tuple, isi_lst_list, if_true, if_false, Bool.not_true, Bool.not_false, Bool.false_eq_true, decide_true, decide_false, e_chain, ix_t0, ix_t1, ix_t2, ix_t3, ix_l0, ix_l1, ix_last, ixl_last, e_wseqN, e_wsq_t, e_wsq_l, e_enum, e_enq_t, e_enq_l, e_rng2, e_r2q, add_tt, add_ll, cat_ll, list_t, list_l, tuple_t, sl_l, e_wipeL, e_wipeN, isi_str_int, isi_str_bool, isi_str_tuple, isi_str_list, isi_str_str, e_par2, e_par3, e_mval, e_mown, e_owq, e_frz, e_appM, e_callHO, e_maxK, e_mkq, List.getElem?_cons_zero, List.getElem?_cons_succ, e_notV, e_nvq, e_lc2, e_deN, e_deV, e_deO, e_de0, e_put, nn_non, nn_int, nn_bl, nn_str, nn_tup, nn_lst, e_par4, e_ix2, e_put2, e_go2])
    refine sum_l b ?_
    refine ⟨by rw [List.length_map, List.length_map, sizeLine_eq]; omega, ?_⟩
    refine hKK4 _ ?_
    clear hKK4
    (try simp only [e_asg, e_ret, e_drop, e_next, e_ifS, e_if, e_test, e_tq, e_and, e_or, e_not, e_andV, e_orV, e_aq1, e_aq0, e_oq1, e_oq0, e_c, e_op, e_neg, e_ngq, e_nil, e_cons, e_call, e_callK, e_cb, e_tup, e_lst, e_sl, e_oN, e_oS, e_soq, e_rev, e_rvq, e_var0, e_varS, e_varB0, e_varBo, e_varBS, e_gn, e_go, e_gt, e_gsc, e_gsn, e_fl_t, e_fl_l, e_fl_s, e_sl_t, e_isN, e_notN, e_max2, e_min2, e_int1, e_abs1, e_tupl, e_lc, e_rng1, e_r1q, e_bowl, e_wipe1, e_for, List.set_cons_succ, List.set_cons_zero, add_ii, sub_ii, mul_ii, fdiv_ii, mod_ii, pow_ii, lt_ii, le_ii, gt_ii, ge_ii, DL.eq_int, DL.ne_int, DL.eq_bl, DL.ne_bl, isi_int_int, isi_int_bool, isi_int_tuple, isi_int_list, isi_bl_int, isi_bl_bool, isi_bl_tuple, isi_bl_list, isi_non_int, isi_non_bool, isi_non_tuple, isi_non_list, isi_tup_int, isi_tup_bool, isi_tup_tuple, isi_tup_list, isi_lst_int, isi_lst_bool, isi_lst_tuple, isi_lst_list, if_true, if_false, Bool.not_true, Bool.not_false, Bool.false_eq_true, decide_true, decide_false, e_chain, ix_t0, ix_t1, ix_t2, ix_t3, ix_l0, ix_l1, ix_last, ixl_last, e_wseqN, e_wsq_t, e_wsq_l, e_enum, e_enq_t, e_enq_l, e_rng2, e_r2q, add_tt, add_ll, cat_ll, list_t, list_l, tuple_t, sl_l, e_wipeL, e_wipeN, isi_str_int, isi_str_bool, isi_str_tuple, isi_str_list, isi_str_str, e_par2, e_par3, e_mval, e_mown, e_owq, e_frz, e_appM, e_callHO, e_maxK, e_mkq, List.getElem?_cons_zero, List.getElem?_cons_succ, e_notV, e_nvq, e_lc2, e_deN, e_deV, e_deO, e_de0, e_put, nn_non, nn_int, nn_bl, nn_str, nn_tup, nn_lst, e_par4, e_ix2, e_put2, e_go2])
    refine ⟨by rw [List.length_map, List.length_map, sizeLine_eq]; omega, by (first | exact Nat.zero_le _ | (simp only [List.length_map, List.length_append, List.length_cons, List.length_nil, List.length_reverse, List.length_take, List.length_drop, List.length_range, List.length_range', sizeLine_eq]; omega) | omega), ?_⟩
    show (-(2 ^ 63) ≤ (h : Int) ∧ (h : Int) < 2 ^ 63 ∧ 1 * (h : Int).toNat ≤ sizeLine) ∧ _
    refine ⟨⟨by omega, by omega, by rw [sizeLine_eq]; omega⟩, ?_⟩
    rw [Int.toNat_natCast, flat_one]
    show _ ∧ K _
    refine ⟨by rw [List.length_append, List.length_map, List.length_map, List.length_replicate, sizeLine_eq]; omega, ?_⟩
    refine hK _ ⟨bs ++ [b], some (.val d), some (.val (.lst (b.map .int))), ?_, by rw [List.length_append, hbl]; rfl, fun x hx => ?_⟩
    · rw [blockD_app, List.map_append, List.map_append, List.map_append, List.map_append, List.map_replicate, List.append_assoc]
      rfl
    · rcases List.mem_append.mp hx with hx | hx
      · exact hb x hx
      · rw [List.mem_singleton.mp hx]
        exact ⟨hyl, hbb⟩
  · rintro ρ ⟨bs, a5, a6, rfl, hbl, hb⟩
    rw [Nat.zero_add, List.length_map, List.length_range] at hbl
    have hlen : ∀ b ∈ bs, b.length = h := fun b hbm => (hb b hbm).1
    refine hKK2 _ ?_
    clear hKK2
    refine seq_step fun KK3 hKK3 => ?_
    (try simp only [e_asg, e_ret, e_drop, e_next, e_ifS, e_if, e_test, e_tq, e_and, e_or, e_not, e_andV, e_orV, e_aq1, e_aq0, e_oq1, e_oq0, e_c, e_op, e_neg, e_ngq, e_nil, e_cons, e_call, e_callK, e_cb, e_tup, e_lst, e_sl, e_oN, e_oS, e_soq, e_rev, e_rvq, e_var0, e_varS, e_varB0, e_varBo, e_varBS, e_gn, e_go, e_gt, e_gsc, e_gsn, e_fl_t, e_fl_l, e_fl_s, e_sl_t, e_isN, e_notN, e_max2, e_min2, e_int1, e_abs1, e_tupl, e_lc, e_rng1, e_r1q, e_bowl, e_wipe1, e_for, List.set_cons_succ, List.set_cons_zero, add_ii, sub_ii, mul_ii, fdiv_ii, mod_ii, pow_ii, lt_ii, le_ii, gt_ii, ge_ii, DL.eq_int, DL.ne_int, DL.eq_bl, DL.ne_bl, isi_int_int, isi_int_bool, isi_int_tuple, isi_int_list, isi_bl_int, isi_bl_bool, isi_bl_tuple, isi_bl_list, isi_non_int, isi_non_bool, isi_non_tuple, isi_non_list, isi_tup_int, isi_tup_bool, isi_tup_tuple, isi_tup_list, isi_lst_int, isi_lst_bool, isi_lst_tuple, isi_lst_list, if_true, if_false, Bool.not_true, Bool.not_false, Bool.false_eq_true, decide_true, decide_false, e_chain, ix_t0, ix_t1, ix_t2, ix_t3, ix_l0, ix_l1, ix_last, ixl_last, e_wseqN, e_wsq_t, e_wsq_l, e_enum, e_enq_t, e_enq_l, e_rng2, e_r2q, add_tt, add_ll, cat_ll, list_t, list_l, tuple_t, sl_l, e_wipeL, e_wipeN, isi_str_int, isi_str_bool, isi_str_tuple, isi_str_list, isi_str_str, e_par2, e_par3, e_mval, e_mown, e_owq, e_frz, e_appM, e_callHO, e_maxK, e_mkq, List.getElem?_cons_zero, List.getElem?_cons_succ, e_notV, e_nvq, e_lc2, e_deN, e_deV, e_deO, e_de0, e_put, nn_non, nn_int, nn_bl, nn_str, nn_tup, nn_lst, e_par4, e_ix2, e_put2, e_go2])
    refine p_law_pour _ (by omega) (by omega) fun r h1 h2 => ?_
    refine ⟨by (first | exact Nat.zero_le _ | (simp only [List.length_map, List.length_append, List.length_cons, List.length_nil, List.length_reverse, List.length_take, List.length_drop, List.length_range, List.length_range', sizeLine_eq]; omega) | omega), ?_⟩
    refine p_law_of _ (by intro z; cases z) (by show 3 < 1000000; omega) fun x hx => ?_
    obtain ⟨low, rfl, hlow⟩ : ∃ v : Int, x = .int v ∧ 0 ≤ v ∧ v < 500 := by
      simp only [List.mem_cons, List.not_mem_nil, or_false] at hx
      rcases hx with rfl | rfl | rfl
      · exact ⟨0, rfl, by omega, by omega⟩
      · exact ⟨1, rfl, by omega, by omega⟩
      · exact ⟨r, rfl, by omega, by omega⟩
    refine hKK3 _ ?_
    clear hKK3
    refine seq_step fun KK4 hKK4 => ?_
    (try simp only [e_asg, e_ret, e_drop, e_next, e_ifS, e_if, e_test, e_tq, e_and, e_or, e_not, e_andV, e_orV, e_aq1, e_aq0, e_oq1, e_oq0, e_c, e_op, e_neg, e_ngq, e_nil, e_cons, e_call, e_callK, e_cb, e_tup, e_lst, e_sl, e_oN, e_oS, e_soq, e_rev, e_rvq, e_var0, e_varS, e_varB0, e_varBo, e_varBS, e_gn, e_go, e_gt, e_gsc, e_gsn, e_fl_t, e_fl_l, e_fl_s, e_sl_t, e_isN, e_notN, e_max2, e_min2, e_int1, e_abs1, e_tupl, e_lc, e_rng1, e_r1q, e_bowl, e_wipe1, e_for, List.set_cons_succ, List.set_cons_zero, add_ii, sub_ii, mul_ii, fdiv_ii, mod_ii, pow_ii, lt_ii, le_ii, gt_ii, ge_ii, DL.eq_int, DL.ne_int, DL.eq_bl, DL.ne_bl, isi_int_int, isi_int_bool, isi_int_tuple, isi_int_list, isi_bl_int, isi_bl_bool, isi_bl_tuple, isi_bl_list, isi_non_int, isi_non_bool, isi_non_tuple, isi_non_list, isi_tup_int, isi_tup_bool, isi_tup_tuple, isi_tup_list, isi_lst_int, isi_lst_bool, isi_lst_tuple, isi_lst_list, if_true, if_false, Bool.not_true, Bool.not_false, Bool.false_eq_true, decide_true, decide_false, e_chain, ix_t0, ix_t1, ix_t2, ix_t3, ix_l0, ix_l1, ix_last, ixl_last, e_wseqN, e_wsq_t, e_wsq_l, e_enum, e_enq_t, e_enq_l, e_rng2, e_r2q, add_tt, add_ll, cat_ll, list_t, list_l, tuple_t, sl_l, e_wipeL, e_wipeN, isi_str_int, isi_str_bool, isi_str_tuple, isi_str_list, isi_str_str, e_par2, e_par3, e_mval, e_mown, e_owq, e_frz, e_appM, e_callHO, e_maxK, e_mkq, List.getElem?_cons_zero, List.getElem?_cons_succ, e_notV, e_nvq, e_lc2, e_deN, e_deV, e_deO, e_de0, e_put, nn_non, nn_int, nn_bl, nn_str, nn_tup, nn_lst, e_par4, e_ix2, e_put2, e_go2])
    refine ⟨by (first | exact Nat.zero_le _ | (simp only [List.length_map, List.length_append, List.length_cons, List.length_nil, List.length_reverse, List.length_take, List.length_drop, List.length_range, List.length_range', sizeLine_eq]; omega) | omega), ?_⟩
    refine p_law_of _ (by intro z; cases z) (by show 2 < 1000000; omega) fun x hx => ?_
    obtain ⟨hi, rfl, hhi⟩ : ∃ hi : Option Int, x = hiD hi ∧ (hi = none ∨ hi = some 9999) := by
      simp only [List.mem_cons, List.not_mem_nil, or_false] at hx
      rcases hx with rfl | rfl
      · exact ⟨none, rfl, .inl rfl⟩
      · exact ⟨some 9999, rfl, .inr rfl⟩
    have okc : OkC ⟨h, k, low, hi⟩ := ⟨by show 1 ≤ (h : Int) ∧ (h : Int) ≤ 60; omega, by show 1 ≤ (k : Int) ∧ (k : Int) ≤ 9; omega, by show 0 ≤ low ∧ low ≤ 9999; omega, fun v hv => by
      rcases hhi with e | e
      · rw [show (Cl.mk h k low hi).hi = hi from rfl, e] at hv; cases hv
      · rw [show (Cl.mk h k low hi).hi = hi from rfl, e] at hv; cases hv; show low + 1 ≤ 9999 ∧ _; omega⟩
    refine ⟨by (first | exact Nat.zero_le _ | (simp only [List.length_map, List.length_append, List.length_cons, List.length_nil, List.length_reverse, List.length_take, List.length_drop, List.length_range, List.length_range', sizeLine_eq]; omega) | omega), ?_⟩
    refine hKK4 _ ?_
    clear hKK4
    refine seq_step fun KK5 hKK5 => ?_
    have go : ∀ (bs : List (List Int)) (sl : Slot), (∀ b ∈ bs, b.length = h ∧ ∀ a ∈ b, 1 ≤ a ∧ a ≤ 900) → 1 ≤ bs.length → bs.length ≤ 100 → 2 * h * bs.length ≤ 60 → (sl = .own ((bs.map List.sum).map .int) ∨ sl = .val (.lst ((bs.map List.sum).map .int))) →
        KK5 [some (.val .bowl), some (.val (.int (h : Int))), some (.val (.int (k : Int))), some sl, some (.val (.lst ((blockD h bs).map .int))), a5, a6, some (.val (.int low)), some (.val (.tup [.int (h : Int), .int (k : Int), .int low, hiD hi])), none, none, none, none] := by
      intro bs sl hb hb1 hb100 hb2 hsl
      have hlen : ∀ b ∈ bs, b.length = h := fun b hbm => (hb b hbm).1
      have hbD := blockD_len hlen
      have hv : ∀ (ρ : DL.Env) (k : D → Prop), k (.lst ((bs.map List.sum).map .int)) → wVarB 0 (some sl :: ρ) k := fun ρ k hk => by
        rcases hsl with rfl | rfl <;> exact hk
      have hsum : ∀ b ∈ bs, 1 ≤ b.sum ∧ b.sum ≤ 5400 := fun b hbm => by
        have h3 := sum_bds (hb b hbm).2
        rw [(hb b hbm).1] at h3
        omega
      have okd : OkDm (blockD h bs) := by
        refine ⟨by rw [hbD]; have := Nat.mul_le_mul (show 2 ≤ 2 * h by omega) hb1; omega, fun a ha => ?_⟩
        unfold blockD at ha
        obtain ⟨b, hbm, ha⟩ := List.mem_flatMap.mp ha
        rcases List.mem_append.mp ha with ha | ha
        · have := (hb b hbm).2 a ha
          omega
        · rw [(List.mem_replicate.mp ha).2]
          omega
      refine hKK5 _ ?_
      clear hKK5
      refine seq_step fun KK6 hKK6 => ?_
      (try simp only [e_asg, e_ret, e_drop, e_next, e_ifS, e_if, e_test, e_tq, e_and, e_or, e_not, e_andV, e_orV, e_aq1, e_aq0, e_oq1, e_oq0, e_c, e_op, e_neg, e_ngq, e_nil, e_cons, e_call, e_callK, e_cb, e_tup, e_lst, e_sl, e_oN, e_oS, e_soq, e_rev, e_rvq, e_var0, e_varS, e_varB0, e_varBo, e_varBS, e_gn, e_go, e_gt, e_gsc, e_gsn, e_fl_t, e_fl_l, e_fl_s, e_sl_t, e_isN, e_notN, e_max2, e_min2, e_int1, e_abs1, e_tupl, e_lc, e_rng1, e_r1q, e_bowl, e_wipe1, e_for, List.set_cons_succ, List.set_cons_zero, add_ii, sub_ii, mul_ii, fdiv_ii, mod_ii, pow_ii, lt_ii, le_ii, gt_ii, ge_ii, DL.eq_int, DL.ne_int, DL.eq_bl, DL.ne_bl, isi_int_int, isi_int_bool, isi_int_tuple, isi_int_list, isi_bl_int, isi_bl_bool, isi_bl_tuple, isi_bl_list, isi_non_int, isi_non_bool, isi_non_tuple, isi_non_list, isi_tup_int, isi_tup_bool, isi_tup_tuple, isi_tup_list, isi_lst_int, isi_lst_bool, isi_lst_tuple, isi_lst_list, if_true, if_false, Bool.not_true, Bool.not_false, Bool.false_eq_true, decide_true, decide_false, e_chain, ix_t0, ix_t1, ix_t2, ix_t3, ix_l0, ix_l1, ix_last, ixl_last, e_wseqN, e_wsq_t, e_wsq_l, e_enum, e_enq_t, e_enq_l, e_rng2, e_r2q, add_tt, add_ll, cat_ll, list_t, list_l, tuple_t, sl_l, e_wipeL, e_wipeN, isi_str_int, isi_str_bool, isi_str_tuple, isi_str_list, isi_str_str, e_par2, e_par3, e_mval, e_mown, e_owq, e_frz, e_appM, e_callHO, e_maxK, e_mkq, List.getElem?_cons_zero, List.getElem?_cons_succ, e_notV, e_nvq, e_lc2, e_deN, e_deV, e_deO, e_de0, e_put, nn_non, nn_int, nn_bl, nn_str, nn_tup, nn_lst, e_par4, e_ix2, e_put2, e_go2])
      refine hv _ _ ?_
      (try simp only [e_asg, e_ret, e_drop, e_next, e_ifS, e_if, e_test, e_tq, e_and, e_or, e_not, e_andV, e_orV, e_aq1, e_aq0, e_oq1, e_oq0, e_c, e_op, e_neg, e_ngq, e_nil, e_cons, e_call, e_callK, e_cb, e_tup, e_lst, e_sl, e_oN, e_oS, e_soq, e_rev, e_rvq, e_var0, e_varS, e_varB0, e_varBo, e_varBS, e_gn, e_go, e_gt, e_gsc, e_gsn, e_fl_t, e_fl_l, e_fl_s, e_sl_t, e_isN, e_notN, e_max2, e_min2, e_int1, e_abs1, e_tupl, e_lc, e_rng1, e_r1q, e_bowl, e_wipe1, e_for, List.set_cons_succ, List.set_cons_zero, add_ii, sub_ii, mul_ii, fdiv_ii, mod_ii, pow_ii, lt_ii, le_ii, gt_ii, ge_ii, DL.eq_int, DL.ne_int, DL.eq_bl, DL.ne_bl, isi_int_int, isi_int_bool, isi_int_tuple, isi_int_list, isi_bl_int, isi_bl_bool, isi_bl_tuple, isi_bl_list, isi_non_int, isi_non_bool, isi_non_tuple, isi_non_list, isi_tup_int, isi_tup_bool, isi_tup_tuple, isi_tup_list, isi_lst_int, isi_lst_bool, isi_lst_tuple, isi_lst_list, if_true, if_false, Bool.not_true, Bool.not_false, Bool.false_eq_true, decide_true, decide_false, e_chain, ix_t0, ix_t1, ix_t2, ix_t3, ix_l0, ix_l1, ix_last, ixl_last, e_wseqN, e_wsq_t, e_wsq_l, e_enum, e_enq_t, e_enq_l, e_rng2, e_r2q, add_tt, add_ll, cat_ll, list_t, list_l, tuple_t, sl_l, e_wipeL, e_wipeN, isi_str_int, isi_str_bool, isi_str_tuple, isi_str_list, isi_str_str, e_par2, e_par3, e_mval, e_mown, e_owq, e_frz, e_appM, e_callHO, e_maxK, e_mkq, List.getElem?_cons_zero, List.getElem?_cons_succ, e_notV, e_nvq, e_lc2, e_deN, e_deV, e_deO, e_de0, e_put, nn_non, nn_int, nn_bl, nn_str, nn_tup, nn_lst, e_par4, e_ix2, e_put2, e_go2])
      refine lc_map D.int (fun s => .int (maxI 0 (s - low))) (bs.map List.sum) [] (fun s _ k2 hk2 => ?_) (by rw [List.length_map]; show 0 + _ < _; omega) ?_
      · (try simp only [e_asg, e_ret, e_drop, e_next, e_ifS, e_if, e_test, e_tq, e_and, e_or, e_not, e_andV, e_orV, e_aq1, e_aq0, e_oq1, e_oq0, e_c, e_op, e_neg, e_ngq, e_nil, e_cons, e_call, e_callK, e_cb, e_tup, e_lst, e_sl, e_oN, e_oS, e_soq, e_rev, e_rvq, e_var0, e_varS, e_varB0, e_varBo, e_varBS, e_gn, e_go, e_gt, e_gsc, e_gsn, e_fl_t, e_fl_l, e_fl_s, e_sl_t, e_isN, e_notN, e_max2, e_min2, e_int1, e_abs1, e_tupl, e_lc, e_rng1, e_r1q, e_bowl, e_wipe1, e_for, List.set_cons_succ, List.set_cons_zero, add_ii, sub_ii, mul_ii, fdiv_ii, mod_ii, pow_ii, lt_ii, le_ii, gt_ii, ge_ii, DL.eq_int, DL.ne_int, DL.eq_bl, DL.ne_bl, isi_int_int, isi_int_bool, isi_int_tuple, isi_int_list, isi_bl_int, isi_bl_bool, isi_bl_tuple, isi_bl_list, isi_non_int, isi_non_bool, isi_non_tuple, isi_non_list, isi_tup_int, isi_tup_bool, isi_tup_tuple, isi_tup_list, isi_lst_int, isi_lst_bool, isi_lst_tuple, isi_lst_list, if_true, if_false, Bool.not_true, Bool.not_false, Bool.false_eq_true, decide_true, decide_false, e_chain, ix_t0, ix_t1, ix_t2, ix_t3, ix_l0, ix_l1, ix_last, ixl_last, e_wseqN, e_wsq_t, e_wsq_l, e_enum, e_enq_t, e_enq_l, e_rng2, e_r2q, add_tt, add_ll, cat_ll, list_t, list_l, tuple_t, sl_l, e_wipeL, e_wipeN, isi_str_int, isi_str_bool, isi_str_tuple, isi_str_list, isi_str_str, e_par2, e_par3, e_mval, e_mown, e_owq, e_frz, e_appM, e_callHO, e_maxK, e_mkq, List.getElem?_cons_zero, List.getElem?_cons_succ, e_notV, e_nvq, e_lc2, e_deN, e_deV, e_deO, e_de0, e_put, nn_non, nn_int, nn_bl, nn_str, nn_tup, nn_lst, e_par4, e_ix2, e_put2, e_go2])
        exact hk2
      rw [List.nil_append, show (bs.map List.sum).map (fun s => D.int (maxI 0 (s - low))) = ((bs.map List.sum).map fun s => maxI 0 (s - low)).map D.int by rw [List.map_map, List.map_map, List.map_map]; rfl]
      refine sum_l _ ?_
      refine hKK6 _ ?_
      clear hKK6
      refine seq_step fun KK7 hKK7 => ?_
      (try simp only [e_asg, e_ret, e_drop, e_next, e_ifS, e_if, e_test, e_tq, e_and, e_or, e_not, e_andV, e_orV, e_aq1, e_aq0, e_oq1, e_oq0, e_c, e_op, e_neg, e_ngq, e_nil, e_cons, e_call, e_callK, e_cb, e_tup, e_lst, e_sl, e_oN, e_oS, e_soq, e_rev, e_rvq, e_var0, e_varS, e_varB0, e_varBo, e_varBS, e_gn, e_go, e_gt, e_gsc, e_gsn, e_fl_t, e_fl_l, e_fl_s, e_sl_t, e_isN, e_notN, e_max2, e_min2, e_int1, e_abs1, e_tupl, e_lc, e_rng1, e_r1q, e_bowl, e_wipe1, e_for, List.set_cons_succ, List.set_cons_zero, add_ii, sub_ii, mul_ii, fdiv_ii, mod_ii, pow_ii, lt_ii, le_ii, gt_ii, ge_ii, DL.eq_int, DL.ne_int, DL.eq_bl, DL.ne_bl, isi_int_int, isi_int_bool, isi_int_tuple, isi_int_list, isi_bl_int, isi_bl_bool, isi_bl_tuple, isi_bl_list, isi_non_int, isi_non_bool, isi_non_tuple, isi_non_list, isi_tup_int, isi_tup_bool, isi_tup_tuple, isi_tup_list, isi_lst_int, isi_lst_bool, isi_lst_tuple, isi_lst_list, if_true, if_false, Bool.not_true, Bool.not_false, Bool.false_eq_true, decide_true, decide_false, e_chain, ix_t0, ix_t1, ix_t2, ix_t3, ix_l0, ix_l1, ix_last, ixl_last, e_wseqN, e_wsq_t, e_wsq_l, e_enum, e_enq_t, e_enq_l, e_rng2, e_r2q, add_tt, add_ll, cat_ll, list_t, list_l, tuple_t, sl_l, e_wipeL, e_wipeN, isi_str_int, isi_str_bool, isi_str_tuple, isi_str_list, isi_str_str, e_par2, e_par3, e_mval, e_mown, e_owq, e_frz, e_appM, e_callHO, e_maxK, e_mkq, List.getElem?_cons_zero, List.getElem?_cons_succ, e_notV, e_nvq, e_lc2, e_deN, e_deV, e_deO, e_de0, e_put, nn_non, nn_int, nn_bl, nn_str, nn_tup, nn_lst, e_par4, e_ix2, e_put2, e_go2])
      refine p_law_most (c := ⟨h, k, low, hi⟩) okd okc ?_
      refine hKK7 _ ?_
      clear hKK7
      refine seq_step fun KK8 hKK8 => ?_
      have hle := best_le_sum okd okc
      have fin : KK8 [some (.val .bowl), some (.val (.int (h : Int))), some (.val (.int (k : Int))), some sl, some (.val (.lst ((blockD h bs).map .int))), a5, a6, some (.val (.int low)), some (.val (.tup [.int (h : Int), .int (k : Int), .int low, hiD hi])), some (.val (.int ((bs.map List.sum).map fun s => maxI 0 (s - low)).sum)), some (.val (.int (best (blockD h bs) ⟨h, k, low, hi⟩).1)), none, none] := by
        refine hKK8 _ ?_
        (try simp only [e_asg, e_ret, e_drop, e_next, e_ifS, e_if, e_test, e_tq, e_and, e_or, e_not, e_andV, e_orV, e_aq1, e_aq0, e_oq1, e_oq0, e_c, e_op, e_neg, e_ngq, e_nil, e_cons, e_call, e_callK, e_cb, e_tup, e_lst, e_sl, e_oN, e_oS, e_soq, e_rev, e_rvq, e_var0, e_varS, e_varB0, e_varBo, e_varBS, e_gn, e_go, e_gt, e_gsc, e_gsn, e_fl_t, e_fl_l, e_fl_s, e_sl_t, e_isN, e_notN, e_max2, e_min2, e_int1, e_abs1, e_tupl, e_lc, e_rng1, e_r1q, e_bowl, e_wipe1, e_for, List.set_cons_succ, List.set_cons_zero, add_ii, sub_ii, mul_ii, fdiv_ii, mod_ii, pow_ii, lt_ii, le_ii, gt_ii, ge_ii, DL.eq_int, DL.ne_int, DL.eq_bl, DL.ne_bl, isi_int_int, isi_int_bool, isi_int_tuple, isi_int_list, isi_bl_int, isi_bl_bool, isi_bl_tuple, isi_bl_list, isi_non_int, isi_non_bool, isi_non_tuple, isi_non_list, isi_tup_int, isi_tup_bool, isi_tup_tuple, isi_tup_list, isi_lst_int, isi_lst_bool, isi_lst_tuple, isi_lst_list, if_true, if_false, Bool.not_true, Bool.not_false, Bool.false_eq_true, decide_true, decide_false, e_chain, ix_t0, ix_t1, ix_t2, ix_t3, ix_l0, ix_l1, ix_last, ixl_last, e_wseqN, e_wsq_t, e_wsq_l, e_enum, e_enq_t, e_enq_l, e_rng2, e_r2q, add_tt, add_ll, cat_ll, list_t, list_l, tuple_t, sl_l, e_wipeL, e_wipeN, isi_str_int, isi_str_bool, isi_str_tuple, isi_str_list, isi_str_str, e_par2, e_par3, e_mval, e_mown, e_owq, e_frz, e_appM, e_callHO, e_maxK, e_mkq, List.getElem?_cons_zero, List.getElem?_cons_succ, e_notV, e_nvq, e_lc2, e_deN, e_deV, e_deO, e_de0, e_put, nn_non, nn_int, nn_bl, nn_str, nn_tup, nn_lst, e_par4, e_ix2, e_put2, e_go2])
        exact p_law_is_told (c := ⟨h, k, low, hi⟩) okd okc hq
      (try simp only [e_asg, e_ret, e_drop, e_next, e_ifS, e_if, e_test, e_tq, e_and, e_or, e_not, e_andV, e_orV, e_aq1, e_aq0, e_oq1, e_oq0, e_c, e_op, e_neg, e_ngq, e_nil, e_cons, e_call, e_callK, e_cb, e_tup, e_lst, e_sl, e_oN, e_oS, e_soq, e_rev, e_rvq, e_var0, e_varS, e_varB0, e_varBo, e_varBS, e_gn, e_go, e_gt, e_gsc, e_gsn, e_fl_t, e_fl_l, e_fl_s, e_sl_t, e_isN, e_notN, e_max2, e_min2, e_int1, e_abs1, e_tupl, e_lc, e_rng1, e_r1q, e_bowl, e_wipe1, e_for, List.set_cons_succ, List.set_cons_zero, add_ii, sub_ii, mul_ii, fdiv_ii, mod_ii, pow_ii, lt_ii, le_ii, gt_ii, ge_ii, DL.eq_int, DL.ne_int, DL.eq_bl, DL.ne_bl, isi_int_int, isi_int_bool, isi_int_tuple, isi_int_list, isi_bl_int, isi_bl_bool, isi_bl_tuple, isi_bl_list, isi_non_int, isi_non_bool, isi_non_tuple, isi_non_list, isi_tup_int, isi_tup_bool, isi_tup_tuple, isi_tup_list, isi_lst_int, isi_lst_bool, isi_lst_tuple, isi_lst_list, if_true, if_false, Bool.not_true, Bool.not_false, Bool.false_eq_true, decide_true, decide_false, e_chain, ix_t0, ix_t1, ix_t2, ix_t3, ix_l0, ix_l1, ix_last, ixl_last, e_wseqN, e_wsq_t, e_wsq_l, e_enum, e_enq_t, e_enq_l, e_rng2, e_r2q, add_tt, add_ll, cat_ll, list_t, list_l, tuple_t, sl_l, e_wipeL, e_wipeN, isi_str_int, isi_str_bool, isi_str_tuple, isi_str_list, isi_str_str, e_par2, e_par3, e_mval, e_mown, e_owq, e_frz, e_appM, e_callHO, e_maxK, e_mkq, List.getElem?_cons_zero, List.getElem?_cons_succ, e_notV, e_nvq, e_lc2, e_deN, e_deV, e_deO, e_de0, e_put, nn_non, nn_int, nn_bl, nn_str, nn_tup, nn_lst, e_par4, e_ix2, e_put2, e_go2])
      refine hv _ _ ?_
      (try simp only [e_asg, e_ret, e_drop, e_next, e_ifS, e_if, e_test, e_tq, e_and, e_or, e_not, e_andV, e_orV, e_aq1, e_aq0, e_oq1, e_oq0, e_c, e_op, e_neg, e_ngq, e_nil, e_cons, e_call, e_callK, e_cb, e_tup, e_lst, e_sl, e_oN, e_oS, e_soq, e_rev, e_rvq, e_var0, e_varS, e_varB0, e_varBo, e_varBS, e_gn, e_go, e_gt, e_gsc, e_gsn, e_fl_t, e_fl_l, e_fl_s, e_sl_t, e_isN, e_notN, e_max2, e_min2, e_int1, e_abs1, e_tupl, e_lc, e_rng1, e_r1q, e_bowl, e_wipe1, e_for, List.set_cons_succ, List.set_cons_zero, add_ii, sub_ii, mul_ii, fdiv_ii, mod_ii, pow_ii, lt_ii, le_ii, gt_ii, ge_ii, DL.eq_int, DL.ne_int, DL.eq_bl, DL.ne_bl, isi_int_int, isi_int_bool, isi_int_tuple, isi_int_list, isi_bl_int, isi_bl_bool, isi_bl_tuple, isi_bl_list, isi_non_int, isi_non_bool, isi_non_tuple, isi_non_list, isi_tup_int, isi_tup_bool, isi_tup_tuple, isi_tup_list, isi_lst_int, isi_lst_bool, isi_lst_tuple, isi_lst_list, if_true, if_false, Bool.not_true, Bool.not_false, Bool.false_eq_true, decide_true, decide_false, e_chain, ix_t0, ix_t1, ix_t2, ix_t3, ix_l0, ix_l1, ix_last, ixl_last, e_wseqN, e_wsq_t, e_wsq_l, e_enum, e_enq_t, e_enq_l, e_rng2, e_r2q, add_tt, add_ll, cat_ll, list_t, list_l, tuple_t, sl_l, e_wipeL, e_wipeN, isi_str_int, isi_str_bool, isi_str_tuple, isi_str_list, isi_str_str, e_par2, e_par3, e_mval, e_mown, e_owq, e_frz, e_appM, e_callHO, e_maxK, e_mkq, List.getElem?_cons_zero, List.getElem?_cons_succ, e_notV, e_nvq, e_lc2, e_deN, e_deV, e_deO, e_de0, e_put, nn_non, nn_int, nn_bl, nn_str, nn_tup, nn_lst, e_par4, e_ix2, e_put2, e_go2])
      have tail : fSum [.lst ((blockD h bs).map .int)] fun d => fGt (.int (best (blockD h bs) ⟨h, k, low, hi⟩).1) d (tq fun b => if b = true then q (.bl false) else KK8 [some (.val .bowl), some (.val (.int (h : Int))), some (.val (.int (k : Int))), some sl, some (.val (.lst ((blockD h bs).map .int))), a5, a6, some (.val (.int low)), some (.val (.tup [.int (h : Int), .int (k : Int), .int low, hiD hi])), some (.val (.int ((bs.map List.sum).map fun s => maxI 0 (s - low)).sum)), some (.val (.int (best (blockD h bs) ⟨h, k, low, hi⟩).1)), none, none]) := by
        refine sum_l _ ?_
        (try simp only [e_asg, e_ret, e_drop, e_next, e_ifS, e_if, e_test, e_tq, e_and, e_or, e_not, e_andV, e_orV, e_aq1, e_aq0, e_oq1, e_oq0, e_c, e_op, e_neg, e_ngq, e_nil, e_cons, e_call, e_callK, e_cb, e_tup, e_lst, e_sl, e_oN, e_oS, e_soq, e_rev, e_rvq, e_var0, e_varS, e_varB0, e_varBo, e_varBS, e_gn, e_go, e_gt, e_gsc, e_gsn, e_fl_t, e_fl_l, e_fl_s, e_sl_t, e_isN, e_notN, e_max2, e_min2, e_int1, e_abs1, e_tupl, e_lc, e_rng1, e_r1q, e_bowl, e_wipe1, e_for, List.set_cons_succ, List.set_cons_zero, add_ii, sub_ii, mul_ii, fdiv_ii, mod_ii, pow_ii, lt_ii, le_ii, gt_ii, ge_ii, DL.eq_int, DL.ne_int, DL.eq_bl, DL.ne_bl, isi_int_int, isi_int_bool, isi_int_tuple, isi_int_list, isi_bl_int, isi_bl_bool, isi_bl_tuple, isi_bl_list, isi_non_int, isi_non_bool, isi_non_tuple, isi_non_list, isi_tup_int, isi_tup_bool, isi_tup_tuple, isi_tup_list, isi_lst_int, isi_lst_bool, isi_lst_tuple, isi_lst_list, if_true, if_false, Bool.not_true, Bool.not_false, Bool.false_eq_true, decide_true, decide_false, e_chain, ix_t0, ix_t1, ix_t2, ix_t3, ix_l0, ix_l1, ix_last, ixl_last, e_wseqN, e_wsq_t, e_wsq_l, e_enum, e_enq_t, e_enq_l, e_rng2, e_r2q, add_tt, add_ll, cat_ll, list_t, list_l, tuple_t, sl_l, e_wipeL, e_wipeN, isi_str_int, isi_str_bool, isi_str_tuple, isi_str_list, isi_str_str, e_par2, e_par3, e_mval, e_mown, e_owq, e_frz, e_appM, e_callHO, e_maxK, e_mkq, List.getElem?_cons_zero, List.getElem?_cons_succ, e_notV, e_nvq, e_lc2, e_deN, e_deV, e_deO, e_de0, e_put, nn_non, nn_int, nn_bl, nn_str, nn_tup, nn_lst, e_par4, e_ix2, e_put2, e_go2])
        rw [decide_eq_false (by omega)]
        (try simp only [e_asg, e_ret, e_drop, e_next, e_ifS, e_if, e_test, e_tq, e_and, e_or, e_not, e_andV, e_orV, e_aq1, e_aq0, e_oq1, e_oq0, e_c, e_op, e_neg, e_ngq, e_nil, e_cons, e_call, e_callK, e_cb, e_tup, e_lst, e_sl, e_oN, e_oS, e_soq, e_rev, e_rvq, e_var0, e_varS, e_varB0, e_varBo, e_varBS, e_gn, e_go, e_gt, e_gsc, e_gsn, e_fl_t, e_fl_l, e_fl_s, e_sl_t, e_isN, e_notN, e_max2, e_min2, e_int1, e_abs1, e_tupl, e_lc, e_rng1, e_r1q, e_bowl, e_wipe1, e_for, List.set_cons_succ, List.set_cons_zero, add_ii, sub_ii, mul_ii, fdiv_ii, mod_ii, pow_ii, lt_ii, le_ii, gt_ii, ge_ii, DL.eq_int, DL.ne_int, DL.eq_bl, DL.ne_bl, isi_int_int, isi_int_bool, isi_int_tuple, isi_int_list, isi_bl_int, isi_bl_bool, isi_bl_tuple, isi_bl_list, isi_non_int, isi_non_bool, isi_non_tuple, isi_non_list, isi_tup_int, isi_tup_bool, isi_tup_tuple, isi_tup_list, isi_lst_int, isi_lst_bool, isi_lst_tuple, isi_lst_list, if_true, if_false, Bool.not_true, Bool.not_false, Bool.false_eq_true, decide_true, decide_false, e_chain, ix_t0, ix_t1, ix_t2, ix_t3, ix_l0, ix_l1, ix_last, ixl_last, e_wseqN, e_wsq_t, e_wsq_l, e_enum, e_enq_t, e_enq_l, e_rng2, e_r2q, add_tt, add_ll, cat_ll, list_t, list_l, tuple_t, sl_l, e_wipeL, e_wipeN, isi_str_int, isi_str_bool, isi_str_tuple, isi_str_list, isi_str_str, e_par2, e_par3, e_mval, e_mown, e_owq, e_frz, e_appM, e_callHO, e_maxK, e_mkq, List.getElem?_cons_zero, List.getElem?_cons_succ, e_notV, e_nvq, e_lc2, e_deN, e_deV, e_deO, e_de0, e_put, nn_non, nn_int, nn_bl, nn_str, nn_tup, nn_lst, e_par4, e_ix2, e_put2, e_go2])
        exact fin
      rw [List.length_map, List.length_map]
      by_cases hc1 : (bs.length : Int) ≤ (k : Int)
      · rw [decide_eq_true hc1]
        (try simp only [e_asg, e_ret, e_drop, e_next, e_ifS, e_if, e_test, e_tq, e_and, e_or, e_not, e_andV, e_orV, e_aq1, e_aq0, e_oq1, e_oq0, e_c, e_op, e_neg, e_ngq, e_nil, e_cons, e_call, e_callK, e_cb, e_tup, e_lst, e_sl, e_oN, e_oS, e_soq, e_rev, e_rvq, e_var0, e_varS, e_varB0, e_varBo, e_varBS, e_gn, e_go, e_gt, e_gsc, e_gsn, e_fl_t, e_fl_l, e_fl_s, e_sl_t, e_isN, e_notN, e_max2, e_min2, e_int1, e_abs1, e_tupl, e_lc, e_rng1, e_r1q, e_bowl, e_wipe1, e_for, List.set_cons_succ, List.set_cons_zero, add_ii, sub_ii, mul_ii, fdiv_ii, mod_ii, pow_ii, lt_ii, le_ii, gt_ii, ge_ii, DL.eq_int, DL.ne_int, DL.eq_bl, DL.ne_bl, isi_int_int, isi_int_bool, isi_int_tuple, isi_int_list, isi_bl_int, isi_bl_bool, isi_bl_tuple, isi_bl_list, isi_non_int, isi_non_bool, isi_non_tuple, isi_non_list, isi_tup_int, isi_tup_bool, isi_tup_tuple, isi_tup_list, isi_lst_int, isi_lst_bool, isi_lst_tuple, isi_lst_list, if_true, if_false, Bool.not_true, Bool.not_false, Bool.false_eq_true, decide_true, decide_false, e_chain, ix_t0, ix_t1, ix_t2, ix_t3, ix_l0, ix_l1, ix_last, ixl_last, e_wseqN, e_wsq_t, e_wsq_l, e_enum, e_enq_t, e_enq_l, e_rng2, e_r2q, add_tt, add_ll, cat_ll, list_t, list_l, tuple_t, sl_l, e_wipeL, e_wipeN, isi_str_int, isi_str_bool, isi_str_tuple, isi_str_list, isi_str_str, e_par2, e_par3, e_mval, e_mown, e_owq, e_frz, e_appM, e_callHO, e_maxK, e_mkq, List.getElem?_cons_zero, List.getElem?_cons_succ, e_notV, e_nvq, e_lc2, e_deN, e_deV, e_deO, e_de0, e_put, nn_non, nn_int, nn_bl, nn_str, nn_tup, nn_lst, e_par4, e_ix2, e_put2, e_go2])
        cases hc2 : (low == 0) with
        | true =>
          have hl0 : low = 0 := eq_of_beq hc2
          (try simp only [e_asg, e_ret, e_drop, e_next, e_ifS, e_if, e_test, e_tq, e_and, e_or, e_not, e_andV, e_orV, e_aq1, e_aq0, e_oq1, e_oq0, e_c, e_op, e_neg, e_ngq, e_nil, e_cons, e_call, e_callK, e_cb, e_tup, e_lst, e_sl, e_oN, e_oS, e_soq, e_rev, e_rvq, e_var0, e_varS, e_varB0, e_varBo, e_varBS, e_gn, e_go, e_gt, e_gsc, e_gsn, e_fl_t, e_fl_l, e_fl_s, e_sl_t, e_isN, e_notN, e_max2, e_min2, e_int1, e_abs1, e_tupl, e_lc, e_rng1, e_r1q, e_bowl, e_wipe1, e_for, List.set_cons_succ, List.set_cons_zero, add_ii, sub_ii, mul_ii, fdiv_ii, mod_ii, pow_ii, lt_ii, le_ii, gt_ii, ge_ii, DL.eq_int, DL.ne_int, DL.eq_bl, DL.ne_bl, isi_int_int, isi_int_bool, isi_int_tuple, isi_int_list, isi_bl_int, isi_bl_bool, isi_bl_tuple, isi_bl_list, isi_non_int, isi_non_bool, isi_non_tuple, isi_non_list, isi_tup_int, isi_tup_bool, isi_tup_tuple, isi_tup_list, isi_lst_int, isi_lst_bool, isi_lst_tuple, isi_lst_list, if_true, if_false, Bool.not_true, Bool.not_false, Bool.false_eq_true, decide_true, decide_false, e_chain, ix_t0, ix_t1, ix_t2, ix_t3, ix_l0, ix_l1, ix_last, ixl_last, e_wseqN, e_wsq_t, e_wsq_l, e_enum, e_enq_t, e_enq_l, e_rng2, e_r2q, add_tt, add_ll, cat_ll, list_t, list_l, tuple_t, sl_l, e_wipeL, e_wipeN, isi_str_int, isi_str_bool, isi_str_tuple, isi_str_list, isi_str_str, e_par2, e_par3, e_mval, e_mown, e_owq, e_frz, e_appM, e_callHO, e_maxK, e_mkq, List.getElem?_cons_zero, List.getElem?_cons_succ, e_notV, e_nvq, e_lc2, e_deN, e_deV, e_deO, e_de0, e_put, nn_non, nn_int, nn_bl, nn_str, nn_tup, nn_lst, e_par4, e_ix2, e_put2, e_go2])
          have hbest := blocks_best (h := h) (k := k) (bs := bs) (hi := hi) (by omega) okd (by rw [hl0] at okc; exact okc) hlen (by omega) fun b hbm => ⟨by have := hsum b hbm; omega, fun v hv => by
            have := hsum b hbm
            rcases hhi with e | e
            · rw [e] at hv; cases hv
            · rw [e] at hv; cases hv; omega⟩
          have hw : ((bs.map List.sum).map fun s => maxI 0 (s - low)).sum = (bs.map List.sum).sum := by
            rw [List.map_map]
            congr 1
            refine List.map_congr_left fun b hbm => ?_
            have := hsum b hbm
            show maxI 0 (b.sum - low) = b.sum
            rw [maxI_eq]
            omega
          rw [show (best (blockD h bs) ⟨h, k, low, hi⟩).1 = ((bs.map List.sum).map fun s => maxI 0 (s - low)).sum by rw [hw, hl0]; exact hbest]
          rw [beq_self_eq_true]
          (try simp only [e_asg, e_ret, e_drop, e_next, e_ifS, e_if, e_test, e_tq, e_and, e_or, e_not, e_andV, e_orV, e_aq1, e_aq0, e_oq1, e_oq0, e_c, e_op, e_neg, e_ngq, e_nil, e_cons, e_call, e_callK, e_cb, e_tup, e_lst, e_sl, e_oN, e_oS, e_soq, e_rev, e_rvq, e_var0, e_varS, e_varB0, e_varBo, e_varBS, e_gn, e_go, e_gt, e_gsc, e_gsn, e_fl_t, e_fl_l, e_fl_s, e_sl_t, e_isN, e_notN, e_max2, e_min2, e_int1, e_abs1, e_tupl, e_lc, e_rng1, e_r1q, e_bowl, e_wipe1, e_for, List.set_cons_succ, List.set_cons_zero, add_ii, sub_ii, mul_ii, fdiv_ii, mod_ii, pow_ii, lt_ii, le_ii, gt_ii, ge_ii, DL.eq_int, DL.ne_int, DL.eq_bl, DL.ne_bl, isi_int_int, isi_int_bool, isi_int_tuple, isi_int_list, isi_bl_int, isi_bl_bool, isi_bl_tuple, isi_bl_list, isi_non_int, isi_non_bool, isi_non_tuple, isi_non_list, isi_tup_int, isi_tup_bool, isi_tup_tuple, isi_tup_list, isi_lst_int, isi_lst_bool, isi_lst_tuple, isi_lst_list, if_true, if_false, Bool.not_true, Bool.not_false, Bool.false_eq_true, decide_true, decide_false, e_chain, ix_t0, ix_t1, ix_t2, ix_t3, ix_l0, ix_l1, ix_last, ixl_last, e_wseqN, e_wsq_t, e_wsq_l, e_enum, e_enq_t, e_enq_l, e_rng2, e_r2q, add_tt, add_ll, cat_ll, list_t, list_l, tuple_t, sl_l, e_wipeL, e_wipeN, isi_str_int, isi_str_bool, isi_str_tuple, isi_str_list, isi_str_str, e_par2, e_par3, e_mval, e_mown, e_owq, e_frz, e_appM, e_callHO, e_maxK, e_mkq, List.getElem?_cons_zero, List.getElem?_cons_succ, e_notV, e_nvq, e_lc2, e_deN, e_deV, e_deO, e_de0, e_put, nn_non, nn_int, nn_bl, nn_str, nn_tup, nn_lst, e_par4, e_ix2, e_put2, e_go2])
          rw [show (best (blockD h bs) ⟨h, k, low, hi⟩).1 = ((bs.map List.sum).map fun s => maxI 0 (s - low)).sum by rw [hw, hl0]; exact hbest] at tail
          exact tail
        | false =>
          (try simp only [e_asg, e_ret, e_drop, e_next, e_ifS, e_if, e_test, e_tq, e_and, e_or, e_not, e_andV, e_orV, e_aq1, e_aq0, e_oq1, e_oq0, e_c, e_op, e_neg, e_ngq, e_nil, e_cons, e_call, e_callK, e_cb, e_tup, e_lst, e_sl, e_oN, e_oS, e_soq, e_rev, e_rvq, e_var0, e_varS, e_varB0, e_varBo, e_varBS, e_gn, e_go, e_gt, e_gsc, e_gsn, e_fl_t, e_fl_l, e_fl_s, e_sl_t, e_isN, e_notN, e_max2, e_min2, e_int1, e_abs1, e_tupl, e_lc, e_rng1, e_r1q, e_bowl, e_wipe1, e_for, List.set_cons_succ, List.set_cons_zero, add_ii, sub_ii, mul_ii, fdiv_ii, mod_ii, pow_ii, lt_ii, le_ii, gt_ii, ge_ii, DL.eq_int, DL.ne_int, DL.eq_bl, DL.ne_bl, isi_int_int, isi_int_bool, isi_int_tuple, isi_int_list, isi_bl_int, isi_bl_bool, isi_bl_tuple, isi_bl_list, isi_non_int, isi_non_bool, isi_non_tuple, isi_non_list, isi_tup_int, isi_tup_bool, isi_tup_tuple, isi_tup_list, isi_lst_int, isi_lst_bool, isi_lst_tuple, isi_lst_list, if_true, if_false, Bool.not_true, Bool.not_false, Bool.false_eq_true, decide_true, decide_false, e_chain, ix_t0, ix_t1, ix_t2, ix_t3, ix_l0, ix_l1, ix_last, ixl_last, e_wseqN, e_wsq_t, e_wsq_l, e_enum, e_enq_t, e_enq_l, e_rng2, e_r2q, add_tt, add_ll, cat_ll, list_t, list_l, tuple_t, sl_l, e_wipeL, e_wipeN, isi_str_int, isi_str_bool, isi_str_tuple, isi_str_list, isi_str_str, e_par2, e_par3, e_mval, e_mown, e_owq, e_frz, e_appM, e_callHO, e_maxK, e_mkq, List.getElem?_cons_zero, List.getElem?_cons_succ, e_notV, e_nvq, e_lc2, e_deN, e_deV, e_deO, e_de0, e_put, nn_non, nn_int, nn_bl, nn_str, nn_tup, nn_lst, e_par4, e_ix2, e_put2, e_go2])
          exact tail
      · rw [decide_eq_false hc1]
        (try simp only [e_asg, e_ret, e_drop, e_next, e_ifS, e_if, e_test, e_tq, e_and, e_or, e_not, e_andV, e_orV, e_aq1, e_aq0, e_oq1, e_oq0, e_c, e_op, e_neg, e_ngq, e_nil, e_cons, e_call, e_callK, e_cb, e_tup, e_lst, e_sl, e_oN, e_oS, e_soq, e_rev, e_rvq, e_var0, e_varS, e_varB0, e_varBo, e_varBS, e_gn, e_go, e_gt, e_gsc, e_gsn, e_fl_t, e_fl_l, e_fl_s, e_sl_t, e_isN, e_notN, e_max2, e_min2, e_int1, e_abs1, e_tupl, e_lc, e_rng1, e_r1q, e_bowl, e_wipe1, e_for, List.set_cons_succ, List.set_cons_zero, add_ii, sub_ii, mul_ii, fdiv_ii, mod_ii, pow_ii, lt_ii, le_ii, gt_ii, ge_ii, DL.eq_int, DL.ne_int, DL.eq_bl, DL.ne_bl, isi_int_int, isi_int_bool, isi_int_tuple, isi_int_list, isi_bl_int, isi_bl_bool, isi_bl_tuple, isi_bl_list, isi_non_int, isi_non_bool, isi_non_tuple, isi_non_list, isi_tup_int, isi_tup_bool, isi_tup_tuple, isi_tup_list, isi_lst_int, isi_lst_bool, isi_lst_tuple, isi_lst_list, if_true, if_false, Bool.not_true, Bool.not_false, Bool.false_eq_true, decide_true, decide_false, e_chain, ix_t0, ix_t1, ix_t2, ix_t3, ix_l0, ix_l1, ix_last, ixl_last, e_wseqN, e_wsq_t, e_wsq_l, e_enum, e_enq_t, e_enq_l, e_rng2, e_r2q, add_tt, add_ll, cat_ll, list_t, list_l, tuple_t, sl_l, e_wipeL, e_wipeN, isi_str_int, isi_str_bool, isi_str_tuple, isi_str_list, isi_str_str, e_par2, e_par3, e_mval, e_mown, e_owq, e_frz, e_appM, e_callHO, e_maxK, e_mkq, List.getElem?_cons_zero, List.getElem?_cons_succ, e_notV, e_nvq, e_lc2, e_deN, e_deV, e_deO, e_de0, e_put, nn_non, nn_int, nn_bl, nn_str, nn_tup, nn_lst, e_par4, e_ix2, e_put2, e_go2])
        exact tail
    have hbD := blockD_len hlen
    have h2m : 2 * h * (60 / (2 * h)) ≤ 60 := Nat.mul_div_le 60 (2 * h)
    have h5 : 5 ≤ 60 / (2 * h) := by
      have h12 : 60 / 12 ≤ 60 / (2 * h) := Nat.div_le_div_left (by omega) (by omega)
      omega
    have cutcase : (2 : Int) * (h : Int) = ((2 * h : Nat) : Int) := by omega
    have hdiv : (60 : Int) / ((2 * h : Nat) : Int) = ((60 / (2 * h) : Nat) : Int) := (Int.natCast_ediv 60 (2 * h)).symm
    have hmul : ((2 * h : Nat) : Int) * ((60 / (2 * h) : Nat) : Int) = ((2 * h * (60 / (2 * h)) : Nat) : Int) := (Int.natCast_mul (2 * h) (60 / (2 * h))).symm
    have h60 : 60 / (2 * h) ≤ 60 := Nat.div_le_self _ _
    have gocut : KK5 [some (.val .bowl), some (.val (.int (h : Int))), some (.val (.int (k : Int))), some (.val (.lst (((bs.take (60 / (2 * h))).map List.sum).map .int))), some (.val (.lst ((blockD h (bs.take (60 / (2 * h)))).map .int))), a5, a6, some (.val (.int low)), some (.val (.tup [.int (h : Int), .int (k : Int), .int low, hiD hi])), none, none, none, none] := by
      refine go (bs.take (60 / (2 * h))) _ (fun b hbm => hb b (List.mem_of_mem_take hbm)) (by rw [List.length_take]; omega) (by rw [List.length_take]; omega) ?_ (.inr rfl)
      rw [List.length_take]
      exact Nat.le_trans (Nat.mul_le_mul (Nat.le_refl _) (Nat.min_le_left _ _)) h2m
    have docut : ∀ P : Prop, (P → P) → (KK5 [some (.val .bowl), some (.val (.int (h : Int))), some (.val (.int (k : Int))), some (.val (.lst (cut ((bs.map List.sum).map D.int) none (some ((60 / (2 * h) : Nat) : Int))))), some (.val (.lst (cut ((blockD h bs).map D.int) none (some ((2 * h * (60 / (2 * h)) : Nat) : Int))))), a5, a6, some (.val (.int low)), some (.val (.tup [.int (h : Int), .int (k : Int), .int low, hiD hi])), none, none, none, none]) := fun _ _ => by
      rw [cut_to, cut_to, ← List.map_take, ← List.map_take, ← List.map_take, blockD_take _ hlen]
      exact gocut
    have docut2 := docut True id
    have cm1 : CMul 2 (h : Int) := cmul_l (by omega) (by omega)
    have cd : CDiv 60 ((2 * h : Nat) : Int) := ⟨by omega, by omega⟩
    have cm2 : CMul ((2 * h : Nat) : Int) ((60 / (2 * h) : Nat) : Int) := cmul_l (by omega) (by omega)
    (try simp only [e_asg, e_ret, e_drop, e_next, e_ifS, e_if, e_test, e_tq, e_and, e_or, e_not, e_andV, e_orV, e_aq1, e_aq0, e_oq1, e_oq0, e_c, e_op, e_neg, e_ngq, e_nil, e_cons, e_call, e_callK, e_cb, e_tup, e_lst, e_sl, e_oN, e_oS, e_soq, e_rev, e_rvq, e_var0, e_varS, e_varB0, e_varBo, e_varBS, e_gn, e_go, e_gt, e_gsc, e_gsn, e_fl_t, e_fl_l, e_fl_s, e_sl_t, e_isN, e_notN, e_max2, e_min2, e_int1, e_abs1, e_tupl, e_lc, e_rng1, e_r1q, e_bowl, e_wipe1, e_for, List.set_cons_succ, List.set_cons_zero, add_ii, sub_ii, mul_ii, fdiv_ii, mod_ii, pow_ii, lt_ii, le_ii, gt_ii, ge_ii, DL.eq_int, DL.ne_int, DL.eq_bl, DL.ne_bl, isi_int_int, isi_int_bool, isi_int_tuple, isi_int_list, isi_bl_int, isi_bl_bool, isi_bl_tuple, isi_bl_list, isi_non_int, isi_non_bool, isi_non_tuple, isi_non_list, isi_tup_int, isi_tup_bool, isi_tup_tuple, isi_tup_list, isi_lst_int, isi_lst_bool, isi_lst_tuple, isi_lst_list, if_true, if_false, Bool.not_true, Bool.not_false, Bool.false_eq_true, decide_true, decide_false, e_chain, ix_t0, ix_t1, ix_t2, ix_t3, ix_l0, ix_l1, ix_last, ixl_last, e_wseqN, e_wsq_t, e_wsq_l, e_enum, e_enq_t, e_enq_l, e_rng2, e_r2q, add_tt, add_ll, cat_ll, list_t, list_l, tuple_t, sl_l, e_wipeL, e_wipeN, isi_str_int, isi_str_bool, isi_str_tuple, isi_str_list, isi_str_str, e_par2, e_par3, e_mval, e_mown, e_owq, e_frz, e_appM, e_callHO, e_maxK, e_mkq, List.getElem?_cons_zero, List.getElem?_cons_succ, e_notV, e_nvq, e_lc2, e_deN, e_deV, e_deO, e_de0, e_put, nn_non, nn_int, nn_bl, nn_str, nn_tup, nn_lst, e_par4, e_ix2, e_put2, e_go2])
    rw [List.length_map, List.length_map, List.length_map]
    by_cases hgt : (60 : Int) < ((blockD h bs).length : Int)
    · rw [decide_eq_true hgt]
      (try simp only [e_asg, e_ret, e_drop, e_next, e_ifS, e_if, e_test, e_tq, e_and, e_or, e_not, e_andV, e_orV, e_aq1, e_aq0, e_oq1, e_oq0, e_c, e_op, e_neg, e_ngq, e_nil, e_cons, e_call, e_callK, e_cb, e_tup, e_lst, e_sl, e_oN, e_oS, e_soq, e_rev, e_rvq, e_var0, e_varS, e_varB0, e_varBo, e_varBS, e_gn, e_go, e_gt, e_gsc, e_gsn, e_fl_t, e_fl_l, e_fl_s, e_sl_t, e_isN, e_notN, e_max2, e_min2, e_int1, e_abs1, e_tupl, e_lc, e_rng1, e_r1q, e_bowl, e_wipe1, e_for, List.set_cons_succ, List.set_cons_zero, add_ii, sub_ii, mul_ii, fdiv_ii, mod_ii, pow_ii, lt_ii, le_ii, gt_ii, ge_ii, DL.eq_int, DL.ne_int, DL.eq_bl, DL.ne_bl, isi_int_int, isi_int_bool, isi_int_tuple, isi_int_list, isi_bl_int, isi_bl_bool, isi_bl_tuple, isi_bl_list, isi_non_int, isi_non_bool, isi_non_tuple, isi_non_list, isi_tup_int, isi_tup_bool, isi_tup_tuple, isi_tup_list, isi_lst_int, isi_lst_bool, isi_lst_tuple, isi_lst_list, if_true, if_false, Bool.not_true, Bool.not_false, Bool.false_eq_true, decide_true, decide_false, e_chain, ix_t0, ix_t1, ix_t2, ix_t3, ix_l0, ix_l1, ix_last, ixl_last, e_wseqN, e_wsq_t, e_wsq_l, e_enum, e_enq_t, e_enq_l, e_rng2, e_r2q, add_tt, add_ll, cat_ll, list_t, list_l, tuple_t, sl_l, e_wipeL, e_wipeN, isi_str_int, isi_str_bool, isi_str_tuple, isi_str_list, isi_str_str, e_par2, e_par3, e_mval, e_mown, e_owq, e_frz, e_appM, e_callHO, e_maxK, e_mkq, List.getElem?_cons_zero, List.getElem?_cons_succ, e_notV, e_nvq, e_lc2, e_deN, e_deV, e_deO, e_de0, e_put, nn_non, nn_int, nn_bl, nn_str, nn_tup, nn_lst, e_par4, e_ix2, e_put2, e_go2])
      rw [cutcase, hdiv, hmul]
      exact ⟨cm1, cm1, cd, cm2, cm1, cd, docut2⟩
    · rw [decide_eq_false hgt]
      (try simp only [e_asg, e_ret, e_drop, e_next, e_ifS, e_if, e_test, e_tq, e_and, e_or, e_not, e_andV, e_orV, e_aq1, e_aq0, e_oq1, e_oq0, e_c, e_op, e_neg, e_ngq, e_nil, e_cons, e_call, e_callK, e_cb, e_tup, e_lst, e_sl, e_oN, e_oS, e_soq, e_rev, e_rvq, e_var0, e_varS, e_varB0, e_varBo, e_varBS, e_gn, e_go, e_gt, e_gsc, e_gsn, e_fl_t, e_fl_l, e_fl_s, e_sl_t, e_isN, e_notN, e_max2, e_min2, e_int1, e_abs1, e_tupl, e_lc, e_rng1, e_r1q, e_bowl, e_wipe1, e_for, List.set_cons_succ, List.set_cons_zero, add_ii, sub_ii, mul_ii, fdiv_ii, mod_ii, pow_ii, lt_ii, le_ii, gt_ii, ge_ii, DL.eq_int, DL.ne_int, DL.eq_bl, DL.ne_bl, isi_int_int, isi_int_bool, isi_int_tuple, isi_int_list, isi_bl_int, isi_bl_bool, isi_bl_tuple, isi_bl_list, isi_non_int, isi_non_bool, isi_non_tuple, isi_non_list, isi_tup_int, isi_tup_bool, isi_tup_tuple, isi_tup_list, isi_lst_int, isi_lst_bool, isi_lst_tuple, isi_lst_list, if_true, if_false, Bool.not_true, Bool.not_false, Bool.false_eq_true, decide_true, decide_false, e_chain, ix_t0, ix_t1, ix_t2, ix_t3, ix_l0, ix_l1, ix_last, ixl_last, e_wseqN, e_wsq_t, e_wsq_l, e_enum, e_enq_t, e_enq_l, e_rng2, e_r2q, add_tt, add_ll, cat_ll, list_t, list_l, tuple_t, sl_l, e_wipeL, e_wipeN, isi_str_int, isi_str_bool, isi_str_tuple, isi_str_list, isi_str_str, e_par2, e_par3, e_mval, e_mown, e_owq, e_frz, e_appM, e_callHO, e_maxK, e_mkq, List.getElem?_cons_zero, List.getElem?_cons_succ, e_notV, e_nvq, e_lc2, e_deN, e_deV, e_deO, e_de0, e_put, nn_non, nn_int, nn_bl, nn_str, nn_tup, nn_lst, e_par4, e_ix2, e_put2, e_go2])
      by_cases hlt : (k : Int) < (bs.length : Int)
      · rw [decide_eq_true hlt]
        (try simp only [e_asg, e_ret, e_drop, e_next, e_ifS, e_if, e_test, e_tq, e_and, e_or, e_not, e_andV, e_orV, e_aq1, e_aq0, e_oq1, e_oq0, e_c, e_op, e_neg, e_ngq, e_nil, e_cons, e_call, e_callK, e_cb, e_tup, e_lst, e_sl, e_oN, e_oS, e_soq, e_rev, e_rvq, e_var0, e_varS, e_varB0, e_varBo, e_varBS, e_gn, e_go, e_gt, e_gsc, e_gsn, e_fl_t, e_fl_l, e_fl_s, e_sl_t, e_isN, e_notN, e_max2, e_min2, e_int1, e_abs1, e_tupl, e_lc, e_rng1, e_r1q, e_bowl, e_wipe1, e_for, List.set_cons_succ, List.set_cons_zero, add_ii, sub_ii, mul_ii, fdiv_ii, mod_ii, pow_ii, lt_ii, le_ii, gt_ii, ge_ii, DL.eq_int, DL.ne_int, DL.eq_bl, DL.ne_bl, isi_int_int, isi_int_bool, isi_int_tuple, isi_int_list, isi_bl_int, isi_bl_bool, isi_bl_tuple, isi_bl_list, isi_non_int, isi_non_bool, isi_non_tuple, isi_non_list, isi_tup_int, isi_tup_bool, isi_tup_tuple, isi_tup_list, isi_lst_int, isi_lst_bool, isi_lst_tuple, isi_lst_list, if_true, if_false, Bool.not_true, Bool.not_false, Bool.false_eq_true, decide_true, decide_false, e_chain, ix_t0, ix_t1, ix_t2, ix_t3, ix_l0, ix_l1, ix_last, ixl_last, e_wseqN, e_wsq_t, e_wsq_l, e_enum, e_enq_t, e_enq_l, e_rng2, e_r2q, add_tt, add_ll, cat_ll, list_t, list_l, tuple_t, sl_l, e_wipeL, e_wipeN, isi_str_int, isi_str_bool, isi_str_tuple, isi_str_list, isi_str_str, e_par2, e_par3, e_mval, e_mown, e_owq, e_frz, e_appM, e_callHO, e_maxK, e_mkq, List.getElem?_cons_zero, List.getElem?_cons_succ, e_notV, e_nvq, e_lc2, e_deN, e_deV, e_deO, e_de0, e_put, nn_non, nn_int, nn_bl, nn_str, nn_tup, nn_lst, e_par4, e_ix2, e_put2, e_go2])
        rw [cutcase, hdiv, hmul]
        exact ⟨cm1, cm1, cd, cm2, cm1, cd, docut2⟩
      · rw [decide_eq_false hlt]
        (try simp only [e_asg, e_ret, e_drop, e_next, e_ifS, e_if, e_test, e_tq, e_and, e_or, e_not, e_andV, e_orV, e_aq1, e_aq0, e_oq1, e_oq0, e_c, e_op, e_neg, e_ngq, e_nil, e_cons, e_call, e_callK, e_cb, e_tup, e_lst, e_sl, e_oN, e_oS, e_soq, e_rev, e_rvq, e_var0, e_varS, e_varB0, e_varBo, e_varBS, e_gn, e_go, e_gt, e_gsc, e_gsn, e_fl_t, e_fl_l, e_fl_s, e_sl_t, e_isN, e_notN, e_max2, e_min2, e_int1, e_abs1, e_tupl, e_lc, e_rng1, e_r1q, e_bowl, e_wipe1, e_for, List.set_cons_succ, List.set_cons_zero, add_ii, sub_ii, mul_ii, fdiv_ii, mod_ii, pow_ii, lt_ii, le_ii, gt_ii, ge_ii, DL.eq_int, DL.ne_int, DL.eq_bl, DL.ne_bl, isi_int_int, isi_int_bool, isi_int_tuple, isi_int_list, isi_bl_int, isi_bl_bool, isi_bl_tuple, isi_bl_list, isi_non_int, isi_non_bool, isi_non_tuple, isi_non_list, isi_tup_int, isi_tup_bool, isi_tup_tuple, isi_tup_list, isi_lst_int, isi_lst_bool, isi_lst_tuple, isi_lst_list, if_true, if_false, Bool.not_true, Bool.not_false, Bool.false_eq_true, decide_true, decide_false, e_chain, ix_t0, ix_t1, ix_t2, ix_t3, ix_l0, ix_l1, ix_last, ixl_last, e_wseqN, e_wsq_t, e_wsq_l, e_enum, e_enq_t, e_enq_l, e_rng2, e_r2q, add_tt, add_ll, cat_ll, list_t, list_l, tuple_t, sl_l, e_wipeL, e_wipeN, isi_str_int, isi_str_bool, isi_str_tuple, isi_str_list, isi_str_str, e_par2, e_par3, e_mval, e_mown, e_owq, e_frz, e_appM, e_callHO, e_maxK, e_mkq, List.getElem?_cons_zero, List.getElem?_cons_succ, e_notV, e_nvq, e_lc2, e_deN, e_deV, e_deO, e_de0, e_put, nn_non, nn_int, nn_bl, nn_str, nn_tup, nn_lst, e_par4, e_ix2, e_put2, e_go2])
        exact go bs _ hb (by omega) (by omega) (by rw [← hbD]; omega) (.inl rfl)
end
end HX
set_option Elab.async false
set_option linter.all false
set_option maxRecDepth 100000
set_option maxHeartbeats 1000000
namespace HX
open PySem PySem.Spec PyProof.Rows L2 DL
section
variable {q : D → Prop} {ep : Ex → Prop}
theorem p_law_right (hq : q (.bl true)) : wf__law_right [.bowl] q ep := by
  unfold wf__law_right W__law_right
  show wSeq _ _ _ [some (.val .bowl), none, none, none, none, none, none, none]
  refine seq_step fun KK hKK => ?_
  (try simp only [e_asg, e_ret, e_drop, e_next, e_ifS, e_if, e_test, e_tq, e_and, e_or, e_not, e_andV, e_orV, e_aq1, e_aq0, e_oq1, e_oq0, e_c, e_op, e_neg, e_ngq, e_nil, e_cons, e_call, e_callK, e_cb, e_tup, e_lst, e_sl, e_oN, e_oS, e_soq, e_rev, e_rvq, e_var0, e_varS, e_varB0, e_varBo, e_varBS, e_gn, e_go, e_gt, e_gsc, e_gsn, e_fl_t, e_fl_l, e_fl_s, e_sl_t, e_isN, e_notN, e_max2, e_min2, e_int1, e_abs1, e_tupl, e_lc, e_rng1, e_r1q, e_bowl, e_wipe1, e_for, List.set_cons_succ, List.set_cons_zero, add_ii, sub_ii, mul_ii, fdiv_ii, mod_ii, pow_ii, lt_ii, le_ii, gt_ii, ge_ii, DL.eq_int, DL.ne_int, DL.eq_bl, DL.ne_bl, isi_int_int, isi_int_bool, isi_int_tuple, isi_int_list, isi_bl_int, isi_bl_bool, isi_bl_tuple, isi_bl_list, isi_non_int, isi_non_bool, isi_non_tuple, isi_non_list, isi_tup_int, isi_tup_bool, isi_tup_tuple, isi_tup_list, isi_lst_int, isi_lst_bool, isi_lst_tuple, isi_lst_list, if_true, if_false, Bool.not_true, Bool.not_false, Bool.false_eq_true, decide_true, decide_false, e_chain, ix_t0, ix_t1, ix_t2, ix_t3, ix_l0, ix_l1, ix_last, ixl_last, e_wseqN, e_wsq_t, e_wsq_l, e_enum, e_enq_t, e_enq_l, e_rng2, e_r2q, add_tt, add_ll, cat_ll, list_t, list_l, tuple_t, sl_l, e_wipeL, e_wipeN, isi_str_int, isi_str_bool, isi_str_tuple, isi_str_list, isi_str_str, e_par2, e_par3, e_mval, e_mown, e_owq, e_frz, e_appM, e_callHO, e_maxK, e_mkq, List.getElem?_cons_zero, List.getElem?_cons_succ, e_notV, e_nvq, e_lc2, e_deN, e_deV, e_deO, e_de0, e_put, nn_non, nn_int, nn_bl, nn_str, nn_tup, nn_lst, e_par4, e_ix2, e_put2, e_go2])
  refine ⟨by omega, ?_⟩
  refine for_run (fun i ρ => ∃ a1 a2 a3 a4 a5 a6 a7, ρ = [some (.val .bowl), a1, a2, a3, a4, a5, a6, a7]) _ 0 _ ⟨none, none, none, none, none, none, none, rfl⟩ ?_ ?_
  · rintro i d ρ K hd ⟨a1, a2, a3, a4, a5, a6, a7, rfl⟩ hK
    (try simp only [e_asg, e_ret, e_drop, e_next, e_ifS, e_if, e_test, e_tq, e_and, e_or, e_not, e_andV, e_orV, e_aq1, e_aq0, e_oq1, e_oq0, e_c, e_op, e_neg, e_ngq, e_nil, e_cons, e_call, e_callK, e_cb, e_tup, e_lst, e_sl, e_oN, e_oS, e_soq, e_rev, e_rvq, e_var0, e_varS, e_varB0, e_varBo, e_varBS, e_gn, e_go, e_gt, e_gsc, e_gsn, e_fl_t, e_fl_l, e_fl_s, e_sl_t, e_isN, e_notN, e_max2, e_min2, e_int1, e_abs1, e_tupl, e_lc, e_rng1, e_r1q, e_bowl, e_wipe1, e_for, List.set_cons_succ, List.set_cons_zero, add_ii, sub_ii, mul_ii, fdiv_ii, mod_ii, pow_ii, lt_ii, le_ii, gt_ii, ge_ii, DL.eq_int, DL.ne_int, DL.eq_bl, DL.ne_bl, isi_int_int, isi_int_bool, isi_int_tuple, isi_int_list, isi_bl_int, isi_bl_bool, isi_bl_tuple, isi_bl_list, isi_non_int, isi_non_bool, isi_non_tuple, isi_non_list, isi_tup_int, isi_tup_bool, isi_tup_tuple, isi_tup_list, isi_lst_int, isi_lst_bool, isi_lst_tuple, isi_lst_list, if_true, if_false, Bool.not_true, Bool.not_false, Bool.false_eq_true, decide_true, decide_false, e_chain, ix_t0, ix_t1, ix_t2, ix_t3, ix_l0, ix_l1, ix_last, ixl_last, e_wseqN, e_wsq_t, e_wsq_l, e_enum, e_enq_t, e_enq_l, e_rng2, e_r2q, add_tt, add_ll, cat_ll, list_t, list_l, tuple_t, sl_l, e_wipeL, e_wipeN, isi_str_int, isi_str_bool, isi_str_tuple, isi_str_list, isi_str_str, e_par2, e_par3, e_mval, e_mown, e_owq, e_frz, e_appM, e_callHO, e_maxK, e_mkq, List.getElem?_cons_zero, List.getElem?_cons_succ, e_notV, e_nvq, e_lc2, e_deN, e_deV, e_deO, e_de0, e_put, nn_non, nn_int, nn_bl, nn_str, nn_tup, nn_lst, e_par4, e_ix2, e_put2, e_go2])
    refine seq_step fun KK2 hKK2 => ?_
    (try simp only [e_asg, e_ret, e_drop, e_next, e_ifS, e_if, e_test, e_tq, e_and, e_or, e_not, e_andV, e_orV, e_aq1, e_aq0, e_oq1, e_oq0, e_c, e_op, e_neg, e_ngq, e_nil, e_cons, e_call, e_callK, e_cb, e_tup, e_lst, e_sl, e_oN, e_oS, e_soq, e_rev, e_rvq, e_var0, e_varS, e_varB0, e_varBo, e_varBS, e_gn, e_go, e_gt, e_gsc, e_gsn, e_fl_t, e_fl_l, e_fl_s, e_sl_t, e_isN, e_notN, e_max2, e_min2, e_int1, e_abs1, e_tupl, e_lc, e_rng1, e_r1q, e_bowl, e_wipe1, e_for, List.set_cons_succ, List.set_cons_zero, add_ii, sub_ii, mul_ii, fdiv_ii, mod_ii, pow_ii, lt_ii, le_ii, gt_ii, ge_ii, DL.eq_int, DL.ne_int, DL.eq_bl, DL.ne_bl, isi_int_int, isi_int_bool, isi_int_tuple, isi_int_list, isi_bl_int, isi_bl_bool, isi_bl_tuple, isi_bl_list, isi_non_int, isi_non_bool, isi_non_tuple, isi_non_list, isi_tup_int, isi_tup_bool, isi_tup_tuple, isi_tup_list, isi_lst_int, isi_lst_bool, isi_lst_tuple, isi_lst_list, if_true, if_false, Bool.not_true, Bool.not_false, Bool.false_eq_true, decide_true, decide_false, e_chain, ix_t0, ix_t1, ix_t2, ix_t3, ix_l0, ix_l1, ix_last, ixl_last, e_wseqN, e_wsq_t, e_wsq_l, e_enum, e_enq_t, e_enq_l, e_rng2, e_r2q, add_tt, add_ll, cat_ll, list_t, list_l, tuple_t, sl_l, e_wipeL, e_wipeN, isi_str_int, isi_str_bool, isi_str_tuple, isi_str_list, isi_str_str, e_par2, e_par3, e_mval, e_mown, e_owq, e_frz, e_appM, e_callHO, e_maxK, e_mkq, List.getElem?_cons_zero, List.getElem?_cons_succ, e_notV, e_nvq, e_lc2, e_deN, e_deV, e_deO, e_de0, e_put, nn_non, nn_int, nn_bl, nn_str, nn_tup, nn_lst, e_par4, e_ix2, e_put2, e_go2])
    refine p_law_damages 60 (by omega) (by omega) fun ds hl1 hl2 hds => ?_
    have okd : OkDm ds := ⟨by omega, hds⟩
    refine hKK2 _ ?_
    clear hKK2
    refine seq_step fun KK3 hKK3 => ?_
    (try simp only [e_asg, e_ret, e_drop, e_next, e_ifS, e_if, e_test, e_tq, e_and, e_or, e_not, e_andV, e_orV, e_aq1, e_aq0, e_oq1, e_oq0, e_c, e_op, e_neg, e_ngq, e_nil, e_cons, e_call, e_callK, e_cb, e_tup, e_lst, e_sl, e_oN, e_oS, e_soq, e_rev, e_rvq, e_var0, e_varS, e_varB0, e_varBo, e_varBS, e_gn, e_go, e_gt, e_gsc, e_gsn, e_fl_t, e_fl_l, e_fl_s, e_sl_t, e_isN, e_notN, e_max2, e_min2, e_int1, e_abs1, e_tupl, e_lc, e_rng1, e_r1q, e_bowl, e_wipe1, e_for, List.set_cons_succ, List.set_cons_zero, add_ii, sub_ii, mul_ii, fdiv_ii, mod_ii, pow_ii, lt_ii, le_ii, gt_ii, ge_ii, DL.eq_int, DL.ne_int, DL.eq_bl, DL.ne_bl, isi_int_int, isi_int_bool, isi_int_tuple, isi_int_list, isi_bl_int, isi_bl_bool, isi_bl_tuple, isi_bl_list, isi_non_int, isi_non_bool, isi_non_tuple, isi_non_list, isi_tup_int, isi_tup_bool, isi_tup_tuple, isi_tup_list, isi_lst_int, isi_lst_bool, isi_lst_tuple, isi_lst_list, if_true, if_false, Bool.not_true, Bool.not_false, Bool.false_eq_true, decide_true, decide_false, e_chain, ix_t0, ix_t1, ix_t2, ix_t3, ix_l0, ix_l1, ix_last, ixl_last, e_wseqN, e_wsq_t, e_wsq_l, e_enum, e_enq_t, e_enq_l, e_rng2, e_r2q, add_tt, add_ll, cat_ll, list_t, list_l, tuple_t, sl_l, e_wipeL, e_wipeN, isi_str_int, isi_str_bool, isi_str_tuple, isi_str_list, isi_str_str, e_par2, e_par3, e_mval, e_mown, e_owq, e_frz, e_appM, e_callHO, e_maxK, e_mkq, List.getElem?_cons_zero, List.getElem?_cons_succ, e_notV, e_nvq, e_lc2, e_deN, e_deV, e_deO, e_de0, e_put, nn_non, nn_int, nn_bl, nn_str, nn_tup, nn_lst, e_par4, e_ix2, e_put2, e_go2])
    refine p_law_clause (by omega) (fun a ha => (okd.all a ha).1) fun c okc => ?_
    refine hKK3 _ ?_
    clear hKK3
    have hoc := okc.oc
    have hoh := okc.oh
    have hol := okc.ol
    refine seq_step fun KK4 hKK4 => ?_
    (try simp only [e_asg, e_ret, e_drop, e_next, e_ifS, e_if, e_test, e_tq, e_and, e_or, e_not, e_andV, e_orV, e_aq1, e_aq0, e_oq1, e_oq0, e_c, e_op, e_neg, e_ngq, e_nil, e_cons, e_call, e_callK, e_cb, e_tup, e_lst, e_sl, e_oN, e_oS, e_soq, e_rev, e_rvq, e_var0, e_varS, e_varB0, e_varBo, e_varBS, e_gn, e_go, e_gt, e_gsc, e_gsn, e_fl_t, e_fl_l, e_fl_s, e_sl_t, e_isN, e_notN, e_max2, e_min2, e_int1, e_abs1, e_tupl, e_lc, e_rng1, e_r1q, e_bowl, e_wipe1, e_for, List.set_cons_succ, List.set_cons_zero, add_ii, sub_ii, mul_ii, fdiv_ii, mod_ii, pow_ii, lt_ii, le_ii, gt_ii, ge_ii, DL.eq_int, DL.ne_int, DL.eq_bl, DL.ne_bl, isi_int_int, isi_int_bool, isi_int_tuple, isi_int_list, isi_bl_int, isi_bl_bool, isi_bl_tuple, isi_bl_list, isi_non_int, isi_non_bool, isi_non_tuple, isi_non_list, isi_tup_int, isi_tup_bool, isi_tup_tuple, isi_tup_list, isi_lst_int, isi_lst_bool, isi_lst_tuple, isi_lst_list, if_true, if_false, Bool.not_true, Bool.not_false, Bool.false_eq_true, decide_true, decide_false, e_chain, ix_t0, ix_t1, ix_t2, ix_t3, ix_l0, ix_l1, ix_last, ixl_last, e_wseqN, e_wsq_t, e_wsq_l, e_enum, e_enq_t, e_enq_l, e_rng2, e_r2q, add_tt, add_ll, cat_ll, list_t, list_l, tuple_t, sl_l, e_wipeL, e_wipeN, isi_str_int, isi_str_bool, isi_str_tuple, isi_str_list, isi_str_str, e_par2, e_par3, e_mval, e_mown, e_owq, e_frz, e_appM, e_callHO, e_maxK, e_mkq, List.getElem?_cons_zero, List.getElem?_cons_succ, e_notV, e_nvq, e_lc2, e_deN, e_deV, e_deO, e_de0, e_put, nn_non, nn_int, nn_bl, nn_str, nn_tup, nn_lst, e_par4, e_ix2, e_put2, e_go2])
    refine p_law_most okd okc ?_
    refine hKK4 _ ?_
    clear hKK4
    refine seq_step fun KK5 hKK5 => ?_
    have hle := best_le_sum okd okc
    unfold dmg
    (try simp only [e_asg, e_ret, e_drop, e_next, e_ifS, e_if, e_test, e_tq, e_and, e_or, e_not, e_andV, e_orV, e_aq1, e_aq0, e_oq1, e_oq0, e_c, e_op, e_neg, e_ngq, e_nil, e_cons, e_call, e_callK, e_cb, e_tup, e_lst, e_sl, e_oN, e_oS, e_soq, e_rev, e_rvq, e_var0, e_varS, e_varB0, e_varBo, e_varBS, e_gn, e_go, e_gt, e_gsc, e_gsn, e_fl_t, e_fl_l, e_fl_s, e_sl_t, e_isN, e_notN, e_max2, e_min2, e_int1, e_abs1, e_tupl, e_lc, e_rng1, e_r1q, e_bowl, e_wipe1, e_for, List.set_cons_succ, List.set_cons_zero, add_ii, sub_ii, mul_ii, fdiv_ii, mod_ii, pow_ii, lt_ii, le_ii, gt_ii, ge_ii, DL.eq_int, DL.ne_int, DL.eq_bl, DL.ne_bl, isi_int_int, isi_int_bool, isi_int_tuple, isi_int_list, isi_bl_int, isi_bl_bool, isi_bl_tuple, isi_bl_list, isi_non_int, isi_non_bool, isi_non_tuple, isi_non_list, isi_tup_int, isi_tup_bool, isi_tup_tuple, isi_tup_list, isi_lst_int, isi_lst_bool, isi_lst_tuple, isi_lst_list, if_true, if_false, Bool.not_true, Bool.not_false, Bool.false_eq_true, decide_true, decide_false, e_chain, ix_t0, ix_t1, ix_t2, ix_t3, ix_l0, ix_l1, ix_last, ixl_last, e_wseqN, e_wsq_t, e_wsq_l, e_enum, e_enq_t, e_enq_l, e_rng2, e_r2q, add_tt, add_ll, cat_ll, list_t, list_l, tuple_t, sl_l, e_wipeL, e_wipeN, isi_str_int, isi_str_bool, isi_str_tuple, isi_str_list, isi_str_str, e_par2, e_par3, e_mval, e_mown, e_owq, e_frz, e_appM, e_callHO, e_maxK, e_mkq, List.getElem?_cons_zero, List.getElem?_cons_succ, e_notV, e_nvq, e_lc2, e_deN, e_deV, e_deO, e_de0, e_put, nn_non, nn_int, nn_bl, nn_str, nn_tup, nn_lst, e_par4, e_ix2, e_put2, e_go2])
    refine sum_t ds ?_
    (try simp only [e_asg, e_ret, e_drop, e_next, e_ifS, e_if, e_test, e_tq, e_and, e_or, e_not, e_andV, e_orV, e_aq1, e_aq0, e_oq1, e_oq0, e_c, e_op, e_neg, e_ngq, e_nil, e_cons, e_call, e_callK, e_cb, e_tup, e_lst, e_sl, e_oN, e_oS, e_soq, e_rev, e_rvq, e_var0, e_varS, e_varB0, e_varBo, e_varBS, e_gn, e_go, e_gt, e_gsc, e_gsn, e_fl_t, e_fl_l, e_fl_s, e_sl_t, e_isN, e_notN, e_max2, e_min2, e_int1, e_abs1, e_tupl, e_lc, e_rng1, e_r1q, e_bowl, e_wipe1, e_for, List.set_cons_succ, List.set_cons_zero, add_ii, sub_ii, mul_ii, fdiv_ii, mod_ii, pow_ii, lt_ii, le_ii, gt_ii, ge_ii, DL.eq_int, DL.ne_int, DL.eq_bl, DL.ne_bl, isi_int_int, isi_int_bool, isi_int_tuple, isi_int_list, isi_bl_int, isi_bl_bool, isi_bl_tuple, isi_bl_list, isi_non_int, isi_non_bool, isi_non_tuple, isi_non_list, isi_tup_int, isi_tup_bool, isi_tup_tuple, isi_tup_list, isi_lst_int, isi_lst_bool, isi_lst_tuple, isi_lst_list, if_true, if_false, Bool.not_true, Bool.not_false, Bool.false_eq_true, decide_true, decide_false, e_chain, ix_t0, ix_t1, ix_t2, ix_t3, ix_l0, ix_l1, ix_last, ixl_last, e_wseqN, e_wsq_t, e_wsq_l, e_enum, e_enq_t, e_enq_l, e_rng2, e_r2q, add_tt, add_ll, cat_ll, list_t, list_l, tuple_t, sl_l, e_wipeL, e_wipeN, isi_str_int, isi_str_bool, isi_str_tuple, isi_str_list, isi_str_str, e_par2, e_par3, e_mval, e_mown, e_owq, e_frz, e_appM, e_callHO, e_maxK, e_mkq, List.getElem?_cons_zero, List.getElem?_cons_succ, e_notV, e_nvq, e_lc2, e_deN, e_deV, e_deO, e_de0, e_put, nn_non, nn_int, nn_bl, nn_str, nn_tup, nn_lst, e_par4, e_ix2, e_put2, e_go2])
    rw [decide_eq_false (by omega)]
    (try simp only [e_asg, e_ret, e_drop, e_next, e_ifS, e_if, e_test, e_tq, e_and, e_or, e_not, e_andV, e_orV, e_aq1, e_aq0, e_oq1, e_oq0, e_c, e_op, e_neg, e_ngq, e_nil, e_cons, e_call, e_callK, e_cb, e_tup, e_lst, e_sl, e_oN, e_oS, e_soq, e_rev, e_rvq, e_var0, e_varS, e_varB0, e_varBo, e_varBS, e_gn, e_go, e_gt, e_gsc, e_gsn, e_fl_t, e_fl_l, e_fl_s, e_sl_t, e_isN, e_notN, e_max2, e_min2, e_int1, e_abs1, e_tupl, e_lc, e_rng1, e_r1q, e_bowl, e_wipe1, e_for, List.set_cons_succ, List.set_cons_zero, add_ii, sub_ii, mul_ii, fdiv_ii, mod_ii, pow_ii, lt_ii, le_ii, gt_ii, ge_ii, DL.eq_int, DL.ne_int, DL.eq_bl, DL.ne_bl, isi_int_int, isi_int_bool, isi_int_tuple, isi_int_list, isi_bl_int, isi_bl_bool, isi_bl_tuple, isi_bl_list, isi_non_int, isi_non_bool, isi_non_tuple, isi_non_list, isi_tup_int, isi_tup_bool, isi_tup_tuple, isi_tup_list, isi_lst_int, isi_lst_bool, isi_lst_tuple, isi_lst_list, if_true, if_false, Bool.not_true, Bool.not_false, Bool.false_eq_true, decide_true, decide_false, e_chain, ix_t0, ix_t1, ix_t2, ix_t3, ix_l0, ix_l1, ix_last, ixl_last, e_wseqN, e_wsq_t, e_wsq_l, e_enum, e_enq_t, e_enq_l, e_rng2, e_r2q, add_tt, add_ll, cat_ll, list_t, list_l, tuple_t, sl_l, e_wipeL, e_wipeN, isi_str_int, isi_str_bool, isi_str_tuple, isi_str_list, isi_str_str, e_par2, e_par3, e_mval, e_mown, e_owq, e_frz, e_appM, e_callHO, e_maxK, e_mkq, List.getElem?_cons_zero, List.getElem?_cons_succ, e_notV, e_nvq, e_lc2, e_deN, e_deV, e_deO, e_de0, e_put, nn_non, nn_int, nn_bl, nn_str, nn_tup, nn_lst, e_par4, e_ix2, e_put2, e_go2])
    refine p_law_is_told okd okc ?_
    (try simp only [e_asg, e_ret, e_drop, e_next, e_ifS, e_if, e_test, e_tq, e_and, e_or, e_not, e_andV, e_orV, e_aq1, e_aq0, e_oq1, e_oq0, e_c, e_op, e_neg, e_ngq, e_nil, e_cons, e_call, e_callK, e_cb, e_tup, e_lst, e_sl, e_oN, e_oS, e_soq, e_rev, e_rvq, e_var0, e_varS, e_varB0, e_varBo, e_varBS, e_gn, e_go, e_gt, e_gsc, e_gsn, e_fl_t, e_fl_l, e_fl_s, e_sl_t, e_isN, e_notN, e_max2, e_min2, e_int1, e_abs1, e_tupl, e_lc, e_rng1, e_r1q, e_bowl, e_wipe1, e_for, List.set_cons_succ, List.set_cons_zero, add_ii, sub_ii, mul_ii, fdiv_ii, mod_ii, pow_ii, lt_ii, le_ii, gt_ii, ge_ii, DL.eq_int, DL.ne_int, DL.eq_bl, DL.ne_bl, isi_int_int, isi_int_bool, isi_int_tuple, isi_int_list, isi_bl_int, isi_bl_bool, isi_bl_tuple, isi_bl_list, isi_non_int, isi_non_bool, isi_non_tuple, isi_non_list, isi_tup_int, isi_tup_bool, isi_tup_tuple, isi_tup_list, isi_lst_int, isi_lst_bool, isi_lst_tuple, isi_lst_list, if_true, if_false, Bool.not_true, Bool.not_false, Bool.false_eq_true, decide_true, decide_false, e_chain, ix_t0, ix_t1, ix_t2, ix_t3, ix_l0, ix_l1, ix_last, ixl_last, e_wseqN, e_wsq_t, e_wsq_l, e_enum, e_enq_t, e_enq_l, e_rng2, e_r2q, add_tt, add_ll, cat_ll, list_t, list_l, tuple_t, sl_l, e_wipeL, e_wipeN, isi_str_int, isi_str_bool, isi_str_tuple, isi_str_list, isi_str_str, e_par2, e_par3, e_mval, e_mown, e_owq, e_frz, e_appM, e_callHO, e_maxK, e_mkq, List.getElem?_cons_zero, List.getElem?_cons_succ, e_notV, e_nvq, e_lc2, e_deN, e_deV, e_deO, e_de0, e_put, nn_non, nn_int, nn_bl, nn_str, nn_tup, nn_lst, e_par4, e_ix2, e_put2, e_go2])
    refine hKK5 _ ?_
    clear hKK5
    refine seq_step fun KK6 hKK6 => ?_
    have hcd : c.d = .tup [.int c.h, .int c.c, .int c.l, hiD c.hi] := rfl
    rw [hcd]
    (try simp only [e_asg, e_ret, e_drop, e_next, e_ifS, e_if, e_test, e_tq, e_and, e_or, e_not, e_andV, e_orV, e_aq1, e_aq0, e_oq1, e_oq0, e_c, e_op, e_neg, e_ngq, e_nil, e_cons, e_call, e_callK, e_cb, e_tup, e_lst, e_sl, e_oN, e_oS, e_soq, e_rev, e_rvq, e_var0, e_varS, e_varB0, e_varBo, e_varBS, e_gn, e_go, e_gt, e_gsc, e_gsn, e_fl_t, e_fl_l, e_fl_s, e_sl_t, e_isN, e_notN, e_max2, e_min2, e_int1, e_abs1, e_tupl, e_lc, e_rng1, e_r1q, e_bowl, e_wipe1, e_for, List.set_cons_succ, List.set_cons_zero, add_ii, sub_ii, mul_ii, fdiv_ii, mod_ii, pow_ii, lt_ii, le_ii, gt_ii, ge_ii, DL.eq_int, DL.ne_int, DL.eq_bl, DL.ne_bl, isi_int_int, isi_int_bool, isi_int_tuple, isi_int_list, isi_bl_int, isi_bl_bool, isi_bl_tuple, isi_bl_list, isi_non_int, isi_non_bool, isi_non_tuple, isi_non_list, isi_tup_int, isi_tup_bool, isi_tup_tuple, isi_tup_list, isi_lst_int, isi_lst_bool, isi_lst_tuple, isi_lst_list, if_true, if_false, Bool.not_true, Bool.not_false, Bool.false_eq_true, decide_true, decide_false, e_chain, ix_t0, ix_t1, ix_t2, ix_t3, ix_l0, ix_l1, ix_last, ixl_last, e_wseqN, e_wsq_t, e_wsq_l, e_enum, e_enq_t, e_enq_l, e_rng2, e_r2q, add_tt, add_ll, cat_ll, list_t, list_l, tuple_t, sl_l, e_wipeL, e_wipeN, isi_str_int, isi_str_bool, isi_str_tuple, isi_str_list, isi_str_str, e_par2, e_par3, e_mval, e_mown, e_owq, e_frz, e_appM, e_callHO, e_maxK, e_mkq, List.getElem?_cons_zero, List.getElem?_cons_succ, e_notV, e_nvq, e_lc2, e_deN, e_deV, e_deO, e_de0, e_put, nn_non, nn_int, nn_bl, nn_str, nn_tup, nn_lst, e_par4, e_ix2, e_put2, e_go2])
    refine p_law_pour _ (by omega) (by omega) fun r1 h1 h2 => ?_
    (try simp only [e_asg, e_ret, e_drop, e_next, e_ifS, e_if, e_test, e_tq, e_and, e_or, e_not, e_andV, e_orV, e_aq1, e_aq0, e_oq1, e_oq0, e_c, e_op, e_neg, e_ngq, e_nil, e_cons, e_call, e_callK, e_cb, e_tup, e_lst, e_sl, e_oN, e_oS, e_soq, e_rev, e_rvq, e_var0, e_varS, e_varB0, e_varBo, e_varBS, e_gn, e_go, e_gt, e_gsc, e_gsn, e_fl_t, e_fl_l, e_fl_s, e_sl_t, e_isN, e_notN, e_max2, e_min2, e_int1, e_abs1, e_tupl, e_lc, e_rng1, e_r1q, e_bowl, e_wipe1, e_for, List.set_cons_succ, List.set_cons_zero, add_ii, sub_ii, mul_ii, fdiv_ii, mod_ii, pow_ii, lt_ii, le_ii, gt_ii, ge_ii, DL.eq_int, DL.ne_int, DL.eq_bl, DL.ne_bl, isi_int_int, isi_int_bool, isi_int_tuple, isi_int_list, isi_bl_int, isi_bl_bool, isi_bl_tuple, isi_bl_list, isi_non_int, isi_non_bool, isi_non_tuple, isi_non_list, isi_tup_int, isi_tup_bool, isi_tup_tuple, isi_tup_list, isi_lst_int, isi_lst_bool, isi_lst_tuple, isi_lst_list, if_true, if_false, Bool.not_true, Bool.not_false, Bool.false_eq_true, decide_true, decide_false, e_chain, ix_t0, ix_t1, ix_t2, ix_t3, ix_l0, ix_l1, ix_last, ixl_last, e_wseqN, e_wsq_t, e_wsq_l, e_enum, e_enq_t, e_enq_l, e_rng2, e_r2q, add_tt, add_ll, cat_ll, list_t, list_l, tuple_t, sl_l, e_wipeL, e_wipeN, isi_str_int, isi_str_bool, isi_str_tuple, isi_str_list, isi_str_str, e_par2, e_par3, e_mval, e_mown, e_owq, e_frz, e_appM, e_callHO, e_maxK, e_mkq, List.getElem?_cons_zero, List.getElem?_cons_succ, e_notV, e_nvq, e_lc2, e_deN, e_deV, e_deO, e_de0, e_put, nn_non, nn_int, nn_bl, nn_str, nn_tup, nn_lst, e_par4, e_ix2, e_put2, e_go2])
    refine p_law_pour _ (by omega) (by omega) fun r2 h3 h4 => ?_
    (try simp only [e_asg, e_ret, e_drop, e_next, e_ifS, e_if, e_test, e_tq, e_and, e_or, e_not, e_andV, e_orV, e_aq1, e_aq0, e_oq1, e_oq0, e_c, e_op, e_neg, e_ngq, e_nil, e_cons, e_call, e_callK, e_cb, e_tup, e_lst, e_sl, e_oN, e_oS, e_soq, e_rev, e_rvq, e_var0, e_varS, e_varB0, e_varBo, e_varBS, e_gn, e_go, e_gt, e_gsc, e_gsn, e_fl_t, e_fl_l, e_fl_s, e_sl_t, e_isN, e_notN, e_max2, e_min2, e_int1, e_abs1, e_tupl, e_lc, e_rng1, e_r1q, e_bowl, e_wipe1, e_for, List.set_cons_succ, List.set_cons_zero, add_ii, sub_ii, mul_ii, fdiv_ii, mod_ii, pow_ii, lt_ii, le_ii, gt_ii, ge_ii, DL.eq_int, DL.ne_int, DL.eq_bl, DL.ne_bl, isi_int_int, isi_int_bool, isi_int_tuple, isi_int_list, isi_bl_int, isi_bl_bool, isi_bl_tuple, isi_bl_list, isi_non_int, isi_non_bool, isi_non_tuple, isi_non_list, isi_tup_int, isi_tup_bool, isi_tup_tuple, isi_tup_list, isi_lst_int, isi_lst_bool, isi_lst_tuple, isi_lst_list, if_true, if_false, Bool.not_true, Bool.not_false, Bool.false_eq_true, decide_true, decide_false, e_chain, ix_t0, ix_t1, ix_t2, ix_t3, ix_l0, ix_l1, ix_last, ixl_last, e_wseqN, e_wsq_t, e_wsq_l, e_enum, e_enq_t, e_enq_l, e_rng2, e_r2q, add_tt, add_ll, cat_ll, list_t, list_l, tuple_t, sl_l, e_wipeL, e_wipeN, isi_str_int, isi_str_bool, isi_str_tuple, isi_str_list, isi_str_str, e_par2, e_par3, e_mval, e_mown, e_owq, e_frz, e_appM, e_callHO, e_maxK, e_mkq, List.getElem?_cons_zero, List.getElem?_cons_succ, e_notV, e_nvq, e_lc2, e_deN, e_deV, e_deO, e_de0, e_put, nn_non, nn_int, nn_bl, nn_str, nn_tup, nn_lst, e_par4, e_ix2, e_put2, e_go2])
    refine p_law_pour _ (by omega) (by omega) fun r3 h5 h6 => ?_
    (try simp only [e_asg, e_ret, e_drop, e_next, e_ifS, e_if, e_test, e_tq, e_and, e_or, e_not, e_andV, e_orV, e_aq1, e_aq0, e_oq1, e_oq0, e_c, e_op, e_neg, e_ngq, e_nil, e_cons, e_call, e_callK, e_cb, e_tup, e_lst, e_sl, e_oN, e_oS, e_soq, e_rev, e_rvq, e_var0, e_varS, e_varB0, e_varBo, e_varBS, e_gn, e_go, e_gt, e_gsc, e_gsn, e_fl_t, e_fl_l, e_fl_s, e_sl_t, e_isN, e_notN, e_max2, e_min2, e_int1, e_abs1, e_tupl, e_lc, e_rng1, e_r1q, e_bowl, e_wipe1, e_for, List.set_cons_succ, List.set_cons_zero, add_ii, sub_ii, mul_ii, fdiv_ii, mod_ii, pow_ii, lt_ii, le_ii, gt_ii, ge_ii, DL.eq_int, DL.ne_int, DL.eq_bl, DL.ne_bl, isi_int_int, isi_int_bool, isi_int_tuple, isi_int_list, isi_bl_int, isi_bl_bool, isi_bl_tuple, isi_bl_list, isi_non_int, isi_non_bool, isi_non_tuple, isi_non_list, isi_tup_int, isi_tup_bool, isi_tup_tuple, isi_tup_list, isi_lst_int, isi_lst_bool, isi_lst_tuple, isi_lst_list, if_true, if_false, Bool.not_true, Bool.not_false, Bool.false_eq_true, decide_true, decide_false, e_chain, ix_t0, ix_t1, ix_t2, ix_t3, ix_l0, ix_l1, ix_last, ixl_last, e_wseqN, e_wsq_t, e_wsq_l, e_enum, e_enq_t, e_enq_l, e_rng2, e_r2q, add_tt, add_ll, cat_ll, list_t, list_l, tuple_t, sl_l, e_wipeL, e_wipeN, isi_str_int, isi_str_bool, isi_str_tuple, isi_str_list, isi_str_str, e_par2, e_par3, e_mval, e_mown, e_owq, e_frz, e_appM, e_callHO, e_maxK, e_mkq, List.getElem?_cons_zero, List.getElem?_cons_succ, e_notV, e_nvq, e_lc2, e_deN, e_deV, e_deO, e_de0, e_put, nn_non, nn_int, nn_bl, nn_str, nn_tup, nn_lst, e_par4, e_ix2, e_put2, e_go2])
    refine ⟨by (first | exact Nat.zero_le _ | (simp only [List.length_map, List.length_append, List.length_cons, List.length_nil, List.length_reverse, List.length_take, List.length_drop, List.length_range, List.length_range', sizeLine_eq]; omega) | omega), ?_⟩
    rw [minI_eq, minI_eq, maxI_eq]
    refine hKK6 _ ?_
    clear hKK6
    refine seq_step fun KK7 hKK7 => ?_
    have fin : ∀ hi : Option Int, (c.hi = none → hi = none) → (∀ u, c.hi = some u → hi = none ∨ ∃ v, hi = some v ∧ u ≤ v ∧ v ≤ 9999) → KK7 [some (.val .bowl), some (.val d), some (.val (.tup (ds.map .int))), some (.val (.tup [.int c.h, .int c.c, .int c.l, hiD c.hi])), some (.val (.int (best ds c).1)), some (.val (.tup [.int (min 60 (c.h + r1)), .int (min 9 (c.c + r2)), .int (max 0 (c.l - r3)), hiD c.hi])), some (.val (hiD hi)), a7] := by
      intro hi hn hs
      refine hKK7 _ ?_
      clear hKK7
      have okm : OkC ⟨min 60 (c.h + r1), min 9 (c.c + r2), max 0 (c.l - r3), hi⟩ := ⟨by show 1 ≤ min 60 (c.h + r1) ∧ min 60 (c.h + r1) ≤ 60; omega, by show 1 ≤ min 9 (c.c + r2) ∧ min 9 (c.c + r2) ≤ 9; omega, by show 0 ≤ max 0 (c.l - r3) ∧ max 0 (c.l - r3) ≤ 9999; omega, fun v hv => by
        show max 0 (c.l - r3) + 1 ≤ v ∧ v ≤ 9999
        have hv2 : hi = some v := hv
        cases e : c.hi with
        | none => rw [hn e] at hv2; cases hv2
        | some u =>
          have hu := okc.ohi u e
          rcases hs u e with e2 | ⟨v', e2, h7, h8⟩
          · rw [e2] at hv2; cases hv2
          · rw [e2] at hv2
            cases hv2
            omega⟩
      have hmore : MoreC c ⟨min 60 (c.h + r1), min 9 (c.c + r2), max 0 (c.l - r3), hi⟩ := ⟨by show c.h ≤ min 60 (c.h + r1); omega, by show c.c ≤ min 9 (c.c + r2); omega, by show max 0 (c.l - r3) ≤ c.l; omega, fun v hv => by
        have hv2 : hi = some v := hv
        cases e : c.hi with
        | none => rw [hn e] at hv2; cases hv2
        | some u =>
          rcases hs u e with e2 | ⟨v', e2, h7, h8⟩
          · rw [e2] at hv2; cases hv2
          · rw [e2] at hv2
            cases hv2
            exact ⟨u, rfl, h7⟩⟩
      have hge := m_more (ds := ds) okc hmore
      (try simp only [e_asg, e_ret, e_drop, e_next, e_ifS, e_if, e_test, e_tq, e_and, e_or, e_not, e_andV, e_orV, e_aq1, e_aq0, e_oq1, e_oq0, e_c, e_op, e_neg, e_ngq, e_nil, e_cons, e_call, e_callK, e_cb, e_tup, e_lst, e_sl, e_oN, e_oS, e_soq, e_rev, e_rvq, e_var0, e_varS, e_varB0, e_varBo, e_varBS, e_gn, e_go, e_gt, e_gsc, e_gsn, e_fl_t, e_fl_l, e_fl_s, e_sl_t, e_isN, e_notN, e_max2, e_min2, e_int1, e_abs1, e_tupl, e_lc, e_rng1, e_r1q, e_bowl, e_wipe1, e_for, List.set_cons_succ, List.set_cons_zero, add_ii, sub_ii, mul_ii, fdiv_ii, mod_ii, pow_ii, lt_ii, le_ii, gt_ii, ge_ii, DL.eq_int, DL.ne_int, DL.eq_bl, DL.ne_bl, isi_int_int, isi_int_bool, isi_int_tuple, isi_int_list, isi_bl_int, isi_bl_bool, isi_bl_tuple, isi_bl_list, isi_non_int, isi_non_bool, isi_non_tuple, isi_non_list, isi_tup_int, isi_tup_bool, isi_tup_tuple, isi_tup_list, isi_lst_int, isi_lst_bool, isi_lst_tuple, isi_lst_list, if_true, if_false, Bool.not_true, Bool.not_false, Bool.false_eq_true, decide_true, decide_false, e_chain, ix_t0, ix_t1, ix_t2, ix_t3, ix_l0, ix_l1, ix_last, ixl_last, e_wseqN, e_wsq_t, e_wsq_l, e_enum, e_enq_t, e_enq_l, e_rng2, e_r2q, add_tt, add_ll, cat_ll, list_t, list_l, tuple_t, sl_l, e_wipeL, e_wipeN, isi_str_int, isi_str_bool, isi_str_tuple, isi_str_list, isi_str_str, e_par2, e_par3, e_mval, e_mown, e_owq, e_frz, e_appM, e_callHO, e_maxK, e_mkq, List.getElem?_cons_zero, List.getElem?_cons_succ, e_notV, e_nvq, e_lc2, e_deN, e_deV, e_deO, e_de0, e_put, nn_non, nn_int, nn_bl, nn_str, nn_tup, nn_lst, e_par4, e_ix2, e_put2, e_go2])
      have ec : cut [D.int (min 60 (c.h + r1)), D.int (min 9 (c.c + r2)), D.int (max 0 (c.l - r3)), hiD c.hi] none (some 3) = [D.int (min 60 (c.h + r1)), D.int (min 9 (c.c + r2)), D.int (max 0 (c.l - r3))] := rfl
      rw [ec]
      refine ⟨by (first | exact Nat.zero_le _ | (simp only [List.length_map, List.length_append, List.length_cons, List.length_nil, List.length_reverse, List.length_take, List.length_drop, List.length_range, List.length_range', sizeLine_eq]; omega) | omega), by (first | exact Nat.zero_le _ | (simp only [List.length_map, List.length_append, List.length_cons, List.length_nil, List.length_reverse, List.length_take, List.length_drop, List.length_range, List.length_range', sizeLine_eq]; omega) | omega), ?_⟩
      refine p_most_brought (c := ⟨min 60 (c.h + r1), min 9 (c.c + r2), max 0 (c.l - r3), hi⟩) okd okm ?_
      (try simp only [e_asg, e_ret, e_drop, e_next, e_ifS, e_if, e_test, e_tq, e_and, e_or, e_not, e_andV, e_orV, e_aq1, e_aq0, e_oq1, e_oq0, e_c, e_op, e_neg, e_ngq, e_nil, e_cons, e_call, e_callK, e_cb, e_tup, e_lst, e_sl, e_oN, e_oS, e_soq, e_rev, e_rvq, e_var0, e_varS, e_varB0, e_varBo, e_varBS, e_gn, e_go, e_gt, e_gsc, e_gsn, e_fl_t, e_fl_l, e_fl_s, e_sl_t, e_isN, e_notN, e_max2, e_min2, e_int1, e_abs1, e_tupl, e_lc, e_rng1, e_r1q, e_bowl, e_wipe1, e_for, List.set_cons_succ, List.set_cons_zero, add_ii, sub_ii, mul_ii, fdiv_ii, mod_ii, pow_ii, lt_ii, le_ii, gt_ii, ge_ii, DL.eq_int, DL.ne_int, DL.eq_bl, DL.ne_bl, isi_int_int, isi_int_bool, isi_int_tuple, isi_int_list, isi_bl_int, isi_bl_bool, isi_bl_tuple, isi_bl_list, isi_non_int, isi_non_bool, isi_non_tuple, isi_non_list, isi_tup_int, isi_tup_bool, isi_tup_tuple, isi_tup_list, isi_lst_int, isi_lst_bool, isi_lst_tuple, isi_lst_list, if_true, if_false, Bool.not_true, Bool.not_false, Bool.false_eq_true, decide_true, decide_false, e_chain, ix_t0, ix_t1, ix_t2, ix_t3, ix_l0, ix_l1, ix_last, ixl_last, e_wseqN, e_wsq_t, e_wsq_l, e_enum, e_enq_t, e_enq_l, e_rng2, e_r2q, add_tt, add_ll, cat_ll, list_t, list_l, tuple_t, sl_l, e_wipeL, e_wipeN, isi_str_int, isi_str_bool, isi_str_tuple, isi_str_list, isi_str_str, e_par2, e_par3, e_mval, e_mown, e_owq, e_frz, e_appM, e_callHO, e_maxK, e_mkq, List.getElem?_cons_zero, List.getElem?_cons_succ, e_notV, e_nvq, e_lc2, e_deN, e_deV, e_deO, e_de0, e_put, nn_non, nn_int, nn_bl, nn_str, nn_tup, nn_lst, e_par4, e_ix2, e_put2, e_go2])
      rw [decide_eq_false (by omega)]
      (try simp only [e_asg, e_ret, e_drop, e_next, e_ifS, e_if, e_test, e_tq, e_and, e_or, e_not, e_andV, e_orV, e_aq1, e_aq0, e_oq1, e_oq0, e_c, e_op, e_neg, e_ngq, e_nil, e_cons, e_call, e_callK, e_cb, e_tup, e_lst, e_sl, e_oN, e_oS, e_soq, e_rev, e_rvq, e_var0, e_varS, e_varB0, e_varBo, e_varBS, e_gn, e_go, e_gt, e_gsc, e_gsn, e_fl_t, e_fl_l, e_fl_s, e_sl_t, e_isN, e_notN, e_max2, e_min2, e_int1, e_abs1, e_tupl, e_lc, e_rng1, e_r1q, e_bowl, e_wipe1, e_for, List.set_cons_succ, List.set_cons_zero, add_ii, sub_ii, mul_ii, fdiv_ii, mod_ii, pow_ii, lt_ii, le_ii, gt_ii, ge_ii, DL.eq_int, DL.ne_int, DL.eq_bl, DL.ne_bl, isi_int_int, isi_int_bool, isi_int_tuple, isi_int_list, isi_bl_int, isi_bl_bool, isi_bl_tuple, isi_bl_list, isi_non_int, isi_non_bool, isi_non_tuple, isi_non_list, isi_tup_int, isi_tup_bool, isi_tup_tuple, isi_tup_list, isi_lst_int, isi_lst_bool, isi_lst_tuple, isi_lst_list, if_true, if_false, Bool.not_true, Bool.not_false, Bool.false_eq_true, decide_true, decide_false, e_chain, ix_t0, ix_t1, ix_t2, ix_t3, ix_l0, ix_l1, ix_last, ixl_last, e_wseqN, e_wsq_t, e_wsq_l, e_enum, e_enq_t, e_enq_l, e_rng2, e_r2q, add_tt, add_ll, cat_ll, list_t, list_l, tuple_t, sl_l, e_wipeL, e_wipeN, isi_str_int, isi_str_bool, isi_str_tuple, isi_str_list, isi_str_str, e_par2, e_par3, e_mval, e_mown, e_owq, e_frz, e_appM, e_callHO, e_maxK, e_mkq, List.getElem?_cons_zero, List.getElem?_cons_succ, e_notV, e_nvq, e_lc2, e_deN, e_deV, e_deO, e_de0, e_put, nn_non, nn_int, nn_bl, nn_str, nn_tup, nn_lst, e_par4, e_ix2, e_put2, e_go2])
      exact hK _ ⟨_, _, _, _, _, _, _, rfl⟩
    cases e : c.hi with
    | none =>
      rw [e] at fin
      show wAsg _ _ _ [_, _, _, some (.val (.tup [_, _, _, .non])), _, _, _, _]
      (try simp only [e_asg, e_ret, e_drop, e_next, e_ifS, e_if, e_test, e_tq, e_and, e_or, e_not, e_andV, e_orV, e_aq1, e_aq0, e_oq1, e_oq0, e_c, e_op, e_neg, e_ngq, e_nil, e_cons, e_call, e_callK, e_cb, e_tup, e_lst, e_sl, e_oN, e_oS, e_soq, e_rev, e_rvq, e_var0, e_varS, e_varB0, e_varBo, e_varBS, e_gn, e_go, e_gt, e_gsc, e_gsn, e_fl_t, e_fl_l, e_fl_s, e_sl_t, e_isN, e_notN, e_max2, e_min2, e_int1, e_abs1, e_tupl, e_lc, e_rng1, e_r1q, e_bowl, e_wipe1, e_for, List.set_cons_succ, List.set_cons_zero, add_ii, sub_ii, mul_ii, fdiv_ii, mod_ii, pow_ii, lt_ii, le_ii, gt_ii, ge_ii, DL.eq_int, DL.ne_int, DL.eq_bl, DL.ne_bl, isi_int_int, isi_int_bool, isi_int_tuple, isi_int_list, isi_bl_int, isi_bl_bool, isi_bl_tuple, isi_bl_list, isi_non_int, isi_non_bool, isi_non_tuple, isi_non_list, isi_tup_int, isi_tup_bool, isi_tup_tuple, isi_tup_list, isi_lst_int, isi_lst_bool, isi_lst_tuple, isi_lst_list, if_true, if_false, Bool.not_true, Bool.not_false, Bool.false_eq_true, decide_true, decide_false, e_chain, ix_t0, ix_t1, ix_t2, ix_t3, ix_l0, ix_l1, ix_last, ixl_last, e_wseqN, e_wsq_t, e_wsq_l, e_enum, e_enq_t, e_enq_l, e_rng2, e_r2q, add_tt, add_ll, cat_ll, list_t, list_l, tuple_t, sl_l, e_wipeL, e_wipeN, isi_str_int, isi_str_bool, isi_str_tuple, isi_str_list, isi_str_str, e_par2, e_par3, e_mval, e_mown, e_owq, e_frz, e_appM, e_callHO, e_maxK, e_mkq, List.getElem?_cons_zero, List.getElem?_cons_succ, e_notV, e_nvq, e_lc2, e_deN, e_deV, e_deO, e_de0, e_put, nn_non, nn_int, nn_bl, nn_str, nn_tup, nn_lst, e_par4, e_ix2, e_put2, e_go2])
      exact fin none (fun _ => rfl) (fun u hu => nomatch hu)
    | some u =>
      rw [e] at fin
      have hu := okc.ohi u e
      show wAsg _ _ _ [_, _, _, some (.val (.tup [_, _, _, .int u])), _, _, _, _]
      (try simp only [e_asg, e_ret, e_drop, e_next, e_ifS, e_if, e_test, e_tq, e_and, e_or, e_not, e_andV, e_orV, e_aq1, e_aq0, e_oq1, e_oq0, e_c, e_op, e_neg, e_ngq, e_nil, e_cons, e_call, e_callK, e_cb, e_tup, e_lst, e_sl, e_oN, e_oS, e_soq, e_rev, e_rvq, e_var0, e_varS, e_varB0, e_varBo, e_varBS, e_gn, e_go, e_gt, e_gsc, e_gsn, e_fl_t, e_fl_l, e_fl_s, e_sl_t, e_isN, e_notN, e_max2, e_min2, e_int1, e_abs1, e_tupl, e_lc, e_rng1, e_r1q, e_bowl, e_wipe1, e_for, List.set_cons_succ, List.set_cons_zero, add_ii, sub_ii, mul_ii, fdiv_ii, mod_ii, pow_ii, lt_ii, le_ii, gt_ii, ge_ii, DL.eq_int, DL.ne_int, DL.eq_bl, DL.ne_bl, isi_int_int, isi_int_bool, isi_int_tuple, isi_int_list, isi_bl_int, isi_bl_bool, isi_bl_tuple, isi_bl_list, isi_non_int, isi_non_bool, isi_non_tuple, isi_non_list, isi_tup_int, isi_tup_bool, isi_tup_tuple, isi_tup_list, isi_lst_int, isi_lst_bool, isi_lst_tuple, isi_lst_list, if_true, if_false, Bool.not_true, Bool.not_false, Bool.false_eq_true, decide_true, decide_false, e_chain, ix_t0, ix_t1, ix_t2, ix_t3, ix_l0, ix_l1, ix_last, ixl_last, e_wseqN, e_wsq_t, e_wsq_l, e_enum, e_enq_t, e_enq_l, e_rng2, e_r2q, add_tt, add_ll, cat_ll, list_t, list_l, tuple_t, sl_l, e_wipeL, e_wipeN, isi_str_int, isi_str_bool, isi_str_tuple, isi_str_list, isi_str_str, e_par2, e_par3, e_mval, e_mown, e_owq, e_frz, e_appM, e_callHO, e_maxK, e_mkq, List.getElem?_cons_zero, List.getElem?_cons_succ, e_notV, e_nvq, e_lc2, e_deN, e_deV, e_deO, e_de0, e_put, nn_non, nn_int, nn_bl, nn_str, nn_tup, nn_lst, e_par4, e_ix2, e_put2, e_go2])
      refine p_law_pour _ (by omega) (by omega) fun r4 h7 h8 => ?_
      (try simp only [e_asg, e_ret, e_drop, e_next, e_ifS, e_if, e_test, e_tq, e_and, e_or, e_not, e_andV, e_orV, e_aq1, e_aq0, e_oq1, e_oq0, e_c, e_op, e_neg, e_ngq, e_nil, e_cons, e_call, e_callK, e_cb, e_tup, e_lst, e_sl, e_oN, e_oS, e_soq, e_rev, e_rvq, e_var0, e_varS, e_varB0, e_varBo, e_varBS, e_gn, e_go, e_gt, e_gsc, e_gsn, e_fl_t, e_fl_l, e_fl_s, e_sl_t, e_isN, e_notN, e_max2, e_min2, e_int1, e_abs1, e_tupl, e_lc, e_rng1, e_r1q, e_bowl, e_wipe1, e_for, List.set_cons_succ, List.set_cons_zero, add_ii, sub_ii, mul_ii, fdiv_ii, mod_ii, pow_ii, lt_ii, le_ii, gt_ii, ge_ii, DL.eq_int, DL.ne_int, DL.eq_bl, DL.ne_bl, isi_int_int, isi_int_bool, isi_int_tuple, isi_int_list, isi_bl_int, isi_bl_bool, isi_bl_tuple, isi_bl_list, isi_non_int, isi_non_bool, isi_non_tuple, isi_non_list, isi_tup_int, isi_tup_bool, isi_tup_tuple, isi_tup_list, isi_lst_int, isi_lst_bool, isi_lst_tuple, isi_lst_list, if_true, if_false, Bool.not_true, Bool.not_false, Bool.false_eq_true, decide_true, decide_false, e_chain, ix_t0, ix_t1, ix_t2, ix_t3, ix_l0, ix_l1, ix_last, ixl_last, e_wseqN, e_wsq_t, e_wsq_l, e_enum, e_enq_t, e_enq_l, e_rng2, e_r2q, add_tt, add_ll, cat_ll, list_t, list_l, tuple_t, sl_l, e_wipeL, e_wipeN, isi_str_int, isi_str_bool, isi_str_tuple, isi_str_list, isi_str_str, e_par2, e_par3, e_mval, e_mown, e_owq, e_frz, e_appM, e_callHO, e_maxK, e_mkq, List.getElem?_cons_zero, List.getElem?_cons_succ, e_notV, e_nvq, e_lc2, e_deN, e_deV, e_deO, e_de0, e_put, nn_non, nn_int, nn_bl, nn_str, nn_tup, nn_lst, e_par4, e_ix2, e_put2, e_go2])
      refine ⟨by (first | exact Nat.zero_le _ | (simp only [List.length_map, List.length_append, List.length_cons, List.length_nil, List.length_reverse, List.length_take, List.length_drop, List.length_range, List.length_range', sizeLine_eq]; omega) | omega), ?_⟩
      refine p_law_of _ (by intro z; cases z) (by show 2 < 1000000; omega) fun x hx => ?_
      simp only [List.mem_cons, List.not_mem_nil, or_false] at hx
      rcases hx with rfl | rfl
      · exact fin none (fun _ => rfl) (fun u hu => .inl rfl)
      · exact fin (some (minI 9999 (u + r4))) (fun z => nomatch z) (fun w hw => .inr ⟨_, rfl, by cases hw; rw [minI_eq]; omega, by rw [minI_eq]; omega⟩)
  · rintro ρ ⟨a1, a2, a3, a4, a5, a6, a7, rfl⟩
    refine hKK _ ?_
    clear hKK
    refine seq_step fun KK2 hKK2 => ?_
    (try simp only [e_asg, e_ret, e_drop, e_next, e_ifS, e_if, e_test, e_tq, e_and, e_or, e_not, e_andV, e_orV, e_aq1, e_aq0, e_oq1, e_oq0, e_c, e_op, e_neg, e_ngq, e_nil, e_cons, e_call, e_callK, e_cb, e_tup, e_lst, e_sl, e_oN, e_oS, e_soq, e_rev, e_rvq, e_var0, e_varS, e_varB0, e_varBo, e_varBS, e_gn, e_go, e_gt, e_gsc, e_gsn, e_fl_t, e_fl_l, e_fl_s, e_sl_t, e_isN, e_notN, e_max2, e_min2, e_int1, e_abs1, e_tupl, e_lc, e_rng1, e_r1q, e_bowl, e_wipe1, e_for, List.set_cons_succ, List.set_cons_zero, add_ii, sub_ii, mul_ii, fdiv_ii, mod_ii, pow_ii, lt_ii, le_ii, gt_ii, ge_ii, DL.eq_int, DL.ne_int, DL.eq_bl, DL.ne_bl, isi_int_int, isi_int_bool, isi_int_tuple, isi_int_list, isi_bl_int, isi_bl_bool, isi_bl_tuple, isi_bl_list, isi_non_int, isi_non_bool, isi_non_tuple, isi_non_list, isi_tup_int, isi_tup_bool, isi_tup_tuple, isi_tup_list, isi_lst_int, isi_lst_bool, isi_lst_tuple, isi_lst_list, if_true, if_false, Bool.not_true, Bool.not_false, Bool.false_eq_true, decide_true, decide_false, e_chain, ix_t0, ix_t1, ix_t2, ix_t3, ix_l0, ix_l1, ix_last, ixl_last, e_wseqN, e_wsq_t, e_wsq_l, e_enum, e_enq_t, e_enq_l, e_rng2, e_r2q, add_tt, add_ll, cat_ll, list_t, list_l, tuple_t, sl_l, e_wipeL, e_wipeN, isi_str_int, isi_str_bool, isi_str_tuple, isi_str_list, isi_str_str, e_par2, e_par3, e_mval, e_mown, e_owq, e_frz, e_appM, e_callHO, e_maxK, e_mkq, List.getElem?_cons_zero, List.getElem?_cons_succ, e_notV, e_nvq, e_lc2, e_deN, e_deV, e_deO, e_de0, e_put, nn_non, nn_int, nn_bl, nn_str, nn_tup, nn_lst, e_par4, e_ix2, e_put2, e_go2])
    refine p_law_pour _ (by omega) (by omega) fun r h1 h2 => ?_
    (try simp only [e_asg, e_ret, e_drop, e_next, e_ifS, e_if, e_test, e_tq, e_and, e_or, e_not, e_andV, e_orV, e_aq1, e_aq0, e_oq1, e_oq0, e_c, e_op, e_neg, e_ngq, e_nil, e_cons, e_call, e_callK, e_cb, e_tup, e_lst, e_sl, e_oN, e_oS, e_soq, e_rev, e_rvq, e_var0, e_varS, e_varB0, e_varBo, e_varBS, e_gn, e_go, e_gt, e_gsc, e_gsn, e_fl_t, e_fl_l, e_fl_s, e_sl_t, e_isN, e_notN, e_max2, e_min2, e_int1, e_abs1, e_tupl, e_lc, e_rng1, e_r1q, e_bowl, e_wipe1, e_for, List.set_cons_succ, List.set_cons_zero, add_ii, sub_ii, mul_ii, fdiv_ii, mod_ii, pow_ii, lt_ii, le_ii, gt_ii, ge_ii, DL.eq_int, DL.ne_int, DL.eq_bl, DL.ne_bl, isi_int_int, isi_int_bool, isi_int_tuple, isi_int_list, isi_bl_int, isi_bl_bool, isi_bl_tuple, isi_bl_list, isi_non_int, isi_non_bool, isi_non_tuple, isi_non_list, isi_tup_int, isi_tup_bool, isi_tup_tuple, isi_tup_list, isi_lst_int, isi_lst_bool, isi_lst_tuple, isi_lst_list, if_true, if_false, Bool.not_true, Bool.not_false, Bool.false_eq_true, decide_true, decide_false, e_chain, ix_t0, ix_t1, ix_t2, ix_t3, ix_l0, ix_l1, ix_last, ixl_last, e_wseqN, e_wsq_t, e_wsq_l, e_enum, e_enq_t, e_enq_l, e_rng2, e_r2q, add_tt, add_ll, cat_ll, list_t, list_l, tuple_t, sl_l, e_wipeL, e_wipeN, isi_str_int, isi_str_bool, isi_str_tuple, isi_str_list, isi_str_str, e_par2, e_par3, e_mval, e_mown, e_owq, e_frz, e_appM, e_callHO, e_maxK, e_mkq, List.getElem?_cons_zero, List.getElem?_cons_succ, e_notV, e_nvq, e_lc2, e_deN, e_deV, e_deO, e_de0, e_put, nn_non, nn_int, nn_bl, nn_str, nn_tup, nn_lst, e_par4, e_ix2, e_put2, e_go2])
    obtain ⟨m, hm⟩ : ∃ m : Nat, 3 + r = (m : Int) := ⟨(3 + r).toNat, by omega⟩
    rw [hm]
    refine ⟨by omega, ?_⟩
    rw [rangeD_nat]
    refine lc_all (fun x => ∃ v : Int, x = .int v ∧ (1 ≤ v ∧ v ≤ 90)) _ [] (fun x _ k2 hk2 => ?_) (by rw [List.length_map, List.length_range]; show 0 + _ < _; omega) fun ys hyl hys => ?_
    · (try simp only [e_asg, e_ret, e_drop, e_next, e_ifS, e_if, e_test, e_tq, e_and, e_or, e_not, e_andV, e_orV, e_aq1, e_aq0, e_oq1, e_oq0, e_c, e_op, e_neg, e_ngq, e_nil, e_cons, e_call, e_callK, e_cb, e_tup, e_lst, e_sl, e_oN, e_oS, e_soq, e_rev, e_rvq, e_var0, e_varS, e_varB0, e_varBo, e_varBS, e_gn, e_go, e_gt, e_gsc, e_gsn, e_fl_t, e_fl_l, e_fl_s, e_sl_t, e_isN, e_notN, e_max2, e_min2, e_int1, e_abs1, e_tupl, e_lc, e_rng1, e_r1q, e_bowl, e_wipe1, e_for, List.set_cons_succ, List.set_cons_zero, add_ii, sub_ii, mul_ii, fdiv_ii, mod_ii, pow_ii, lt_ii, le_ii, gt_ii, ge_ii, DL.eq_int, DL.ne_int, DL.eq_bl, DL.ne_bl, isi_int_int, isi_int_bool, isi_int_tuple, isi_int_list, isi_bl_int, isi_bl_bool, isi_bl_tuple, isi_bl_list, isi_non_int, isi_non_bool, isi_non_tuple, isi_non_list, isi_tup_int, isi_tup_bool, isi_tup_tuple, isi_tup_list, isi_lst_int, isi_lst_bool, isi_lst_tuple, isi_lst_list, if_true, if_false, Bool.not_true, Bool.not_false, Bool.false_eq_true, decide_true, decide_false, e_chain, ix_t0, ix_t1, ix_t2, ix_t3, ix_l0, ix_l1, ix_last, ixl_last, e_wseqN, e_wsq_t, e_wsq_l, e_enum, e_enq_t, e_enq_l, e_rng2, e_r2q, add_tt, add_ll, cat_ll, list_t, list_l, tuple_t, sl_l, e_wipeL, e_wipeN, isi_str_int, isi_str_bool, isi_str_tuple, isi_str_list, isi_str_str, e_par2, e_par3, e_mval, e_mown, e_owq, e_frz, e_appM, e_callHO, e_maxK, e_mkq, List.getElem?_cons_zero, List.getElem?_cons_succ, e_notV, e_nvq, e_lc2, e_deN, e_deV, e_deO, e_de0, e_put, nn_non, nn_int, nn_bl, nn_str, nn_tup, nn_lst, e_par4, e_ix2, e_put2, e_go2])
      refine p_law_pour _ (by omega) (by omega) fun r h1 h2 => ?_
      (try simp only [e_asg, e_ret, e_drop, e_next, e_ifS, e_if, e_test, e_tq, e_and, e_or, e_not, e_andV, e_orV, e_aq1, e_aq0, e_oq1, e_oq0, e_c, e_op, e_neg, e_ngq, e_nil, e_cons, e_call, e_callK, e_cb, e_tup, e_lst, e_sl, e_oN, e_oS, e_soq, e_rev, e_rvq, e_var0, e_varS, e_varB0, e_varBo, e_varBS, e_gn, e_go, e_gt, e_gsc, e_gsn, e_fl_t, e_fl_l, e_fl_s, e_sl_t, e_isN, e_notN, e_max2, e_min2, e_int1, e_abs1, e_tupl, e_lc, e_rng1, e_r1q, e_bowl, e_wipe1, e_for, List.set_cons_succ, List.set_cons_zero, add_ii, sub_ii, mul_ii, fdiv_ii, mod_ii, pow_ii, lt_ii, le_ii, gt_ii, ge_ii, DL.eq_int, DL.ne_int, DL.eq_bl, DL.ne_bl, isi_int_int, isi_int_bool, isi_int_tuple, isi_int_list, isi_bl_int, isi_bl_bool, isi_bl_tuple, isi_bl_list, isi_non_int, isi_non_bool, isi_non_tuple, isi_non_list, isi_tup_int, isi_tup_bool, isi_tup_tuple, isi_tup_list, isi_lst_int, isi_lst_bool, isi_lst_tuple, isi_lst_list, if_true, if_false, Bool.not_true, Bool.not_false, Bool.false_eq_true, decide_true, decide_false, e_chain, ix_t0, ix_t1, ix_t2, ix_t3, ix_l0, ix_l1, ix_last, ixl_last, e_wseqN, e_wsq_t, e_wsq_l, e_enum, e_enq_t, e_enq_l, e_rng2, e_r2q, add_tt, add_ll, cat_ll, list_t, list_l, tuple_t, sl_l, e_wipeL, e_wipeN, isi_str_int, isi_str_bool, isi_str_tuple, isi_str_list, isi_str_str, e_par2, e_par3, e_mval, e_mown, e_owq, e_frz, e_appM, e_callHO, e_maxK, e_mkq, List.getElem?_cons_zero, List.getElem?_cons_succ, e_notV, e_nvq, e_lc2, e_deN, e_deV, e_deO, e_de0, e_put, nn_non, nn_int, nn_bl, nn_str, nn_tup, nn_lst, e_par4, e_ix2, e_put2, e_go2])
      exact hk2 _ ⟨_, rfl, by omega, by omega⟩
    obtain ⟨ds, rfl, hds⟩ := ints_of hys
    rw [List.length_map, List.length_map, List.length_range] at hyl
    rw [List.nil_append]
    have hsum := sum_bds hds
    have okd : OkDm ds := ⟨by omega, fun a ha => by have := hds a ha; omega⟩
    have hs2 : 0 ≤ ds.sum ∧ ds.sum ≤ 990 := by omega
    refine hKK2 _ ?_
    clear hKK2
    refine seq_step fun KK3 hKK3 => ?_
    (try simp only [e_asg, e_ret, e_drop, e_next, e_ifS, e_if, e_test, e_tq, e_and, e_or, e_not, e_andV, e_orV, e_aq1, e_aq0, e_oq1, e_oq0, e_c, e_op, e_neg, e_ngq, e_nil, e_cons, e_call, e_callK, e_cb, e_tup, e_lst, e_sl, e_oN, e_oS, e_soq, e_rev, e_rvq, e_var0, e_varS, e_varB0, e_varBo, e_varBS, e_gn, e_go, e_gt, e_gsc, e_gsn, e_fl_t, e_fl_l, e_fl_s, e_sl_t, e_isN, e_notN, e_max2, e_min2, e_int1, e_abs1, e_tupl, e_lc, e_rng1, e_r1q, e_bowl, e_wipe1, e_for, List.set_cons_succ, List.set_cons_zero, add_ii, sub_ii, mul_ii, fdiv_ii, mod_ii, pow_ii, lt_ii, le_ii, gt_ii, ge_ii, DL.eq_int, DL.ne_int, DL.eq_bl, DL.ne_bl, isi_int_int, isi_int_bool, isi_int_tuple, isi_int_list, isi_bl_int, isi_bl_bool, isi_bl_tuple, isi_bl_list, isi_non_int, isi_non_bool, isi_non_tuple, isi_non_list, isi_tup_int, isi_tup_bool, isi_tup_tuple, isi_tup_list, isi_lst_int, isi_lst_bool, isi_lst_tuple, isi_lst_list, if_true, if_false, Bool.not_true, Bool.not_false, Bool.false_eq_true, decide_true, decide_false, e_chain, ix_t0, ix_t1, ix_t2, ix_t3, ix_l0, ix_l1, ix_last, ixl_last, e_wseqN, e_wsq_t, e_wsq_l, e_enum, e_enq_t, e_enq_l, e_rng2, e_r2q, add_tt, add_ll, cat_ll, list_t, list_l, tuple_t, sl_l, e_wipeL, e_wipeN, isi_str_int, isi_str_bool, isi_str_tuple, isi_str_list, isi_str_str, e_par2, e_par3, e_mval, e_mown, e_owq, e_frz, e_appM, e_callHO, e_maxK, e_mkq, List.getElem?_cons_zero, List.getElem?_cons_succ, e_notV, e_nvq, e_lc2, e_deN, e_deV, e_deO, e_de0, e_put, nn_non, nn_int, nn_bl, nn_str, nn_tup, nn_lst, e_par4, e_ix2, e_put2, e_go2])
    refine p_law_pour _ (by omega) (by omega) fun r2 h3 h4 => ?_
    (try simp only [e_asg, e_ret, e_drop, e_next, e_ifS, e_if, e_test, e_tq, e_and, e_or, e_not, e_andV, e_orV, e_aq1, e_aq0, e_oq1, e_oq0, e_c, e_op, e_neg, e_ngq, e_nil, e_cons, e_call, e_callK, e_cb, e_tup, e_lst, e_sl, e_oN, e_oS, e_soq, e_rev, e_rvq, e_var0, e_varS, e_varB0, e_varBo, e_varBS, e_gn, e_go, e_gt, e_gsc, e_gsn, e_fl_t, e_fl_l, e_fl_s, e_sl_t, e_isN, e_notN, e_max2, e_min2, e_int1, e_abs1, e_tupl, e_lc, e_rng1, e_r1q, e_bowl, e_wipe1, e_for, List.set_cons_succ, List.set_cons_zero, add_ii, sub_ii, mul_ii, fdiv_ii, mod_ii, pow_ii, lt_ii, le_ii, gt_ii, ge_ii, DL.eq_int, DL.ne_int, DL.eq_bl, DL.ne_bl, isi_int_int, isi_int_bool, isi_int_tuple, isi_int_list, isi_bl_int, isi_bl_bool, isi_bl_tuple, isi_bl_list, isi_non_int, isi_non_bool, isi_non_tuple, isi_non_list, isi_tup_int, isi_tup_bool, isi_tup_tuple, isi_tup_list, isi_lst_int, isi_lst_bool, isi_lst_tuple, isi_lst_list, if_true, if_false, Bool.not_true, Bool.not_false, Bool.false_eq_true, decide_true, decide_false, e_chain, ix_t0, ix_t1, ix_t2, ix_t3, ix_l0, ix_l1, ix_last, ixl_last, e_wseqN, e_wsq_t, e_wsq_l, e_enum, e_enq_t, e_enq_l, e_rng2, e_r2q, add_tt, add_ll, cat_ll, list_t, list_l, tuple_t, sl_l, e_wipeL, e_wipeN, isi_str_int, isi_str_bool, isi_str_tuple, isi_str_list, isi_str_str, e_par2, e_par3, e_mval, e_mown, e_owq, e_frz, e_appM, e_callHO, e_maxK, e_mkq, List.getElem?_cons_zero, List.getElem?_cons_succ, e_notV, e_nvq, e_lc2, e_deN, e_deV, e_deO, e_de0, e_put, nn_non, nn_int, nn_bl, nn_str, nn_tup, nn_lst, e_par4, e_ix2, e_put2, e_go2])
    refine ⟨by (first | exact Nat.zero_le _ | (simp only [List.length_map, List.length_append, List.length_cons, List.length_nil, List.length_reverse, List.length_take, List.length_drop, List.length_range, List.length_range', sizeLine_eq]; omega) | omega), ?_⟩
    refine p_law_of _ (by intro z; cases z) (by show 3 < 1000000; omega) fun x hx => ?_
    obtain ⟨low, rfl, hlow⟩ : ∃ v : Int, x = .int v ∧ 0 ≤ v ∧ v ≤ 5 := by
      simp only [List.mem_cons, List.not_mem_nil, or_false] at hx
      rcases hx with rfl | rfl | rfl
      · exact ⟨0, rfl, by omega, by omega⟩
      · exact ⟨0, rfl, by omega, by omega⟩
      · exact ⟨5, rfl, by omega, by omega⟩
    refine sum_t ds ?_
    (try simp only [e_asg, e_ret, e_drop, e_next, e_ifS, e_if, e_test, e_tq, e_and, e_or, e_not, e_andV, e_orV, e_aq1, e_aq0, e_oq1, e_oq0, e_c, e_op, e_neg, e_ngq, e_nil, e_cons, e_call, e_callK, e_cb, e_tup, e_lst, e_sl, e_oN, e_oS, e_soq, e_rev, e_rvq, e_var0, e_varS, e_varB0, e_varBo, e_varBS, e_gn, e_go, e_gt, e_gsc, e_gsn, e_fl_t, e_fl_l, e_fl_s, e_sl_t, e_isN, e_notN, e_max2, e_min2, e_int1, e_abs1, e_tupl, e_lc, e_rng1, e_r1q, e_bowl, e_wipe1, e_for, List.set_cons_succ, List.set_cons_zero, add_ii, sub_ii, mul_ii, fdiv_ii, mod_ii, pow_ii, lt_ii, le_ii, gt_ii, ge_ii, DL.eq_int, DL.ne_int, DL.eq_bl, DL.ne_bl, isi_int_int, isi_int_bool, isi_int_tuple, isi_int_list, isi_bl_int, isi_bl_bool, isi_bl_tuple, isi_bl_list, isi_non_int, isi_non_bool, isi_non_tuple, isi_non_list, isi_tup_int, isi_tup_bool, isi_tup_tuple, isi_tup_list, isi_lst_int, isi_lst_bool, isi_lst_tuple, isi_lst_list, if_true, if_false, Bool.not_true, Bool.not_false, Bool.false_eq_true, decide_true, decide_false, e_chain, ix_t0, ix_t1, ix_t2, ix_t3, ix_l0, ix_l1, ix_last, ixl_last, e_wseqN, e_wsq_t, e_wsq_l, e_enum, e_enq_t, e_enq_l, e_rng2, e_r2q, add_tt, add_ll, cat_ll, list_t, list_l, tuple_t, sl_l, e_wipeL, e_wipeN, isi_str_int, isi_str_bool, isi_str_tuple, isi_str_list, isi_str_str, e_par2, e_par3, e_mval, e_mown, e_owq, e_frz, e_appM, e_callHO, e_maxK, e_mkq, List.getElem?_cons_zero, List.getElem?_cons_succ, e_notV, e_nvq, e_lc2, e_deN, e_deV, e_deO, e_de0, e_put, nn_non, nn_int, nn_bl, nn_str, nn_tup, nn_lst, e_par4, e_ix2, e_put2, e_go2])
    refine ⟨by (first | exact Nat.zero_le _ | (simp only [List.length_map, List.length_append, List.length_cons, List.length_nil, List.length_reverse, List.length_take, List.length_drop, List.length_range, List.length_range', sizeLine_eq]; omega) | omega), ?_⟩
    refine p_law_of _ (by intro z; cases z) (by show 3 < 1000000; omega) fun x hx => ?_
    obtain ⟨dv, rfl, hdv⟩ : ∃ v : Int, x = .int v ∧ 2 ≤ v ∧ v ≤ 4 := by
      simp only [List.mem_cons, List.not_mem_nil, or_false] at hx
      rcases hx with rfl | rfl | rfl
      · exact ⟨2, rfl, by omega, by omega⟩
      · exact ⟨3, rfl, by omega, by omega⟩
      · exact ⟨4, rfl, by omega, by omega⟩
    (try simp only [e_asg, e_ret, e_drop, e_next, e_ifS, e_if, e_test, e_tq, e_and, e_or, e_not, e_andV, e_orV, e_aq1, e_aq0, e_oq1, e_oq0, e_c, e_op, e_neg, e_ngq, e_nil, e_cons, e_call, e_callK, e_cb, e_tup, e_lst, e_sl, e_oN, e_oS, e_soq, e_rev, e_rvq, e_var0, e_varS, e_varB0, e_varBo, e_varBS, e_gn, e_go, e_gt, e_gsc, e_gsn, e_fl_t, e_fl_l, e_fl_s, e_sl_t, e_isN, e_notN, e_max2, e_min2, e_int1, e_abs1, e_tupl, e_lc, e_rng1, e_r1q, e_bowl, e_wipe1, e_for, List.set_cons_succ, List.set_cons_zero, add_ii, sub_ii, mul_ii, fdiv_ii, mod_ii, pow_ii, lt_ii, le_ii, gt_ii, ge_ii, DL.eq_int, DL.ne_int, DL.eq_bl, DL.ne_bl, isi_int_int, isi_int_bool, isi_int_tuple, isi_int_list, isi_bl_int, isi_bl_bool, isi_bl_tuple, isi_bl_list, isi_non_int, isi_non_bool, isi_non_tuple, isi_non_list, isi_tup_int, isi_tup_bool, isi_tup_tuple, isi_tup_list, isi_lst_int, isi_lst_bool, isi_lst_tuple, isi_lst_list, if_true, if_false, Bool.not_true, Bool.not_false, Bool.false_eq_true, decide_true, decide_false, e_chain, ix_t0, ix_t1, ix_t2, ix_t3, ix_l0, ix_l1, ix_last, ixl_last, e_wseqN, e_wsq_t, e_wsq_l, e_enum, e_enq_t, e_enq_l, e_rng2, e_r2q, add_tt, add_ll, cat_ll, list_t, list_l, tuple_t, sl_l, e_wipeL, e_wipeN, isi_str_int, isi_str_bool, isi_str_tuple, isi_str_list, isi_str_str, e_par2, e_par3, e_mval, e_mown, e_owq, e_frz, e_appM, e_callHO, e_maxK, e_mkq, List.getElem?_cons_zero, List.getElem?_cons_succ, e_notV, e_nvq, e_lc2, e_deN, e_deV, e_deO, e_de0, e_put, nn_non, nn_int, nn_bl, nn_str, nn_tup, nn_lst, e_par4, e_ix2, e_put2, e_go2])
    have hq1 : 0 ≤ ds.sum / dv := Int.ediv_nonneg hs2.1 (by omega)
    have hq2 : ds.sum / dv ≤ ds.sum := Int.ediv_le_self _ hs2.1
    refine ⟨⟨by omega, by omega⟩, by (first | exact Nat.zero_le _ | (simp only [List.length_map, List.length_append, List.length_cons, List.length_nil, List.length_reverse, List.length_take, List.length_drop, List.length_range, List.length_range', sizeLine_eq]; omega) | omega), ?_⟩
    have okc : OkC ⟨60, 2 + r2, low, some (6 + ds.sum / dv)⟩ := ⟨by show (1 : Int) ≤ 60 ∧ (60 : Int) ≤ 60; omega, by show 1 ≤ 2 + r2 ∧ 2 + r2 ≤ 9; omega, by show 0 ≤ low ∧ low ≤ 9999; omega, fun v hv => by cases hv; show low + 1 ≤ _ ∧ _; omega⟩
    refine hKK3 _ ?_
    clear hKK3
    (try simp only [e_asg, e_ret, e_drop, e_next, e_ifS, e_if, e_test, e_tq, e_and, e_or, e_not, e_andV, e_orV, e_aq1, e_aq0, e_oq1, e_oq0, e_c, e_op, e_neg, e_ngq, e_nil, e_cons, e_call, e_callK, e_cb, e_tup, e_lst, e_sl, e_oN, e_oS, e_soq, e_rev, e_rvq, e_var0, e_varS, e_varB0, e_varBo, e_varBS, e_gn, e_go, e_gt, e_gsc, e_gsn, e_fl_t, e_fl_l, e_fl_s, e_sl_t, e_isN, e_notN, e_max2, e_min2, e_int1, e_abs1, e_tupl, e_lc, e_rng1, e_r1q, e_bowl, e_wipe1, e_for, List.set_cons_succ, List.set_cons_zero, add_ii, sub_ii, mul_ii, fdiv_ii, mod_ii, pow_ii, lt_ii, le_ii, gt_ii, ge_ii, DL.eq_int, DL.ne_int, DL.eq_bl, DL.ne_bl, isi_int_int, isi_int_bool, isi_int_tuple, isi_int_list, isi_bl_int, isi_bl_bool, isi_bl_tuple, isi_bl_list, isi_non_int, isi_non_bool, isi_non_tuple, isi_non_list, isi_tup_int, isi_tup_bool, isi_tup_tuple, isi_tup_list, isi_lst_int, isi_lst_bool, isi_lst_tuple, isi_lst_list, if_true, if_false, Bool.not_true, Bool.not_false, Bool.false_eq_true, decide_true, decide_false, e_chain, ix_t0, ix_t1, ix_t2, ix_t3, ix_l0, ix_l1, ix_last, ixl_last, e_wseqN, e_wsq_t, e_wsq_l, e_enum, e_enq_t, e_enq_l, e_rng2, e_r2q, add_tt, add_ll, cat_ll, list_t, list_l, tuple_t, sl_l, e_wipeL, e_wipeN, isi_str_int, isi_str_bool, isi_str_tuple, isi_str_list, isi_str_str, e_par2, e_par3, e_mval, e_mown, e_owq, e_frz, e_appM, e_callHO, e_maxK, e_mkq, List.getElem?_cons_zero, List.getElem?_cons_succ, e_notV, e_nvq, e_lc2, e_deN, e_deV, e_deO, e_de0, e_put, nn_non, nn_int, nn_bl, nn_str, nn_tup, nn_lst, e_par4, e_ix2, e_put2, e_go2])
    refine p_law_most (c := ⟨60, 2 + r2, low, some (6 + ds.sum / dv)⟩) okd okc ?_
    refine p_law_is_told (c := ⟨60, 2 + r2, low, some (6 + ds.sum / dv)⟩) okd okc ?_
    (try simp only [e_asg, e_ret, e_drop, e_next, e_ifS, e_if, e_test, e_tq, e_and, e_or, e_not, e_andV, e_orV, e_aq1, e_aq0, e_oq1, e_oq0, e_c, e_op, e_neg, e_ngq, e_nil, e_cons, e_call, e_callK, e_cb, e_tup, e_lst, e_sl, e_oN, e_oS, e_soq, e_rev, e_rvq, e_var0, e_varS, e_varB0, e_varBo, e_varBS, e_gn, e_go, e_gt, e_gsc, e_gsn, e_fl_t, e_fl_l, e_fl_s, e_sl_t, e_isN, e_notN, e_max2, e_min2, e_int1, e_abs1, e_tupl, e_lc, e_rng1, e_r1q, e_bowl, e_wipe1, e_for, List.set_cons_succ, List.set_cons_zero, add_ii, sub_ii, mul_ii, fdiv_ii, mod_ii, pow_ii, lt_ii, le_ii, gt_ii, ge_ii, DL.eq_int, DL.ne_int, DL.eq_bl, DL.ne_bl, isi_int_int, isi_int_bool, isi_int_tuple, isi_int_list, isi_bl_int, isi_bl_bool, isi_bl_tuple, isi_bl_list, isi_non_int, isi_non_bool, isi_non_tuple, isi_non_list, isi_tup_int, isi_tup_bool, isi_tup_tuple, isi_tup_list, isi_lst_int, isi_lst_bool, isi_lst_tuple, isi_lst_list, if_true, if_false, Bool.not_true, Bool.not_false, Bool.false_eq_true, decide_true, decide_false, e_chain, ix_t0, ix_t1, ix_t2, ix_t3, ix_l0, ix_l1, ix_last, ixl_last, e_wseqN, e_wsq_t, e_wsq_l, e_enum, e_enq_t, e_enq_l, e_rng2, e_r2q, add_tt, add_ll, cat_ll, list_t, list_l, tuple_t, sl_l, e_wipeL, e_wipeN, isi_str_int, isi_str_bool, isi_str_tuple, isi_str_list, isi_str_str, e_par2, e_par3, e_mval, e_mown, e_owq, e_frz, e_appM, e_callHO, e_maxK, e_mkq, List.getElem?_cons_zero, List.getElem?_cons_succ, e_notV, e_nvq, e_lc2, e_deN, e_deV, e_deO, e_de0, e_put, nn_non, nn_int, nn_bl, nn_str, nn_tup, nn_lst, e_par4, e_ix2, e_put2, e_go2])
    exact p_law_blocks_right hq
end
end HX
set_option Elab.async false
set_option linter.all false
set_option maxRecDepth 100000
set_option maxHeartbeats 400000
namespace HX
open PySem PySem.Spec PyProof.Rows L2 DL
section
variable {q : D → Prop} {ep : Ex → Prop} {c : Cl} {ds : List Int}
theorem p_law_flask (ns : List Int) (lap : Nat) (h : ∀ i j k : Int, q (.lst [.int i, .int j, .int k])) : wf__law_flask [.scr ns, .int (lap : Int)] q ep := by
  unfold wf__law_flask W__law_flask
  show wSeqF _ _ _ [some (.val (.scr ns)), some (.val (.int lap)), none, none, none]
  refine seqF_step fun KK hKK => ?_
  have step : ∀ own : Int, KK [some (.val (.scr ns)), some (.val (.int lap)), some (.val (.int own)), none, none] := fun own => by
    refine hKK _ ?_
    refine seqF_step fun KK2 hKK2 => ?_
    simp only [e_asg, e_ret, e_drop, e_next, e_ifS, e_if, e_test, e_tq, e_and, e_or, e_not, e_andV, e_orV, e_aq1, e_aq0, e_oq1, e_oq0, e_c, e_op, e_neg, e_ngq, e_nil, e_cons, e_call, e_callK, e_cb, e_tup, e_lst, e_sl, e_oN, e_oS, e_soq, e_rev, e_rvq, e_var0, e_varS, e_varB0, e_varBo, e_varBS, e_gn, e_go, e_gt, e_gsc, e_gsn, e_fl_t, e_fl_l, e_fl_s, e_sl_t, e_isN, e_notN, List.set_cons_succ, List.set_cons_zero, add_ii, sub_ii, mul_ii, fdiv_ii, mod_ii, pow_ii, lt_ii, le_ii, gt_ii, ge_ii, DL.eq_int, DL.ne_int, DL.eq_bl, DL.ne_bl, isi_int_int, isi_int_bool, isi_int_tuple, isi_int_list, isi_bl_int, isi_bl_bool, isi_bl_tuple, isi_bl_list, isi_non_int, isi_non_bool, isi_non_tuple, isi_non_list, isi_tup_int, isi_tup_bool, isi_tup_tuple, isi_tup_list, isi_lst_int, isi_lst_bool, isi_lst_tuple, isi_lst_list, if_true, if_false, Bool.not_true, Bool.not_false, Bool.false_eq_true, decide_true, decide_false]
    refine ⟨cmul_l (by omega) (by omega), ?_⟩
    refine hKK2 _ ?_
    refine seqF_step fun KK3 hKK3 => ?_
    show (1 ≤ sizeLine ∧ (((cut ns none (some 9)).map D.int).length + 1 ≤ sizeLine ∧ wForL _ _ _ (((cut ns none (some 9)).map D.int) ++ [D.int own]) _))
    refine ⟨by rw [sizeLine_eq]; omega, ?_⟩
    have e1 : ((cut ns none (some 9)).map D.int) ++ [D.int own] = ((ns.take 9) ++ [own]).map D.int := by
      rw [show (9 : Int) = ((9 : Nat) : Int) from rfl, cut_to, List.map_append]
      rfl
    rw [e1]
    refine ⟨by rw [List.length_map, sizeLine_eq]; show (cut ns none (some ((9 : Nat) : Int))).length + 1 ≤ 16777216; rw [cut_to, List.length_take]; omega, ?_⟩
    refine for_run (fun i ρ => ∃ a, ∃ s : Int, ρ = [some (.val (.scr ns)), some (.val (.int lap)), some (.val (.int own)), some (.val (.int s)), a]) _ 0 _ ⟨none, _, rfl⟩ ?_ ?_
    · rintro i d ρ K hd ⟨a, s, rfl⟩ hK
      rw [List.getElem?_map] at hd
      cases e : (ns.take 9 ++ [own])[i]? with
      | none => rw [e] at hd; cases hd
      | some v =>
        rw [e] at hd
        cases hd
        simp only [e_asg, e_ret, e_drop, e_next, e_ifS, e_if, e_test, e_tq, e_and, e_or, e_not, e_andV, e_orV, e_aq1, e_aq0, e_oq1, e_oq0, e_c, e_op, e_neg, e_ngq, e_nil, e_cons, e_call, e_callK, e_cb, e_tup, e_lst, e_sl, e_oN, e_oS, e_soq, e_rev, e_rvq, e_var0, e_varS, e_varB0, e_varBo, e_varBS, e_gn, e_go, e_gt, e_gsc, e_gsn, e_fl_t, e_fl_l, e_fl_s, e_sl_t, e_isN, e_notN, List.set_cons_succ, List.set_cons_zero, add_ii, sub_ii, mul_ii, fdiv_ii, mod_ii, pow_ii, lt_ii, le_ii, gt_ii, ge_ii, DL.eq_int, DL.ne_int, DL.eq_bl, DL.ne_bl, isi_int_int, isi_int_bool, isi_int_tuple, isi_int_list, isi_bl_int, isi_bl_bool, isi_bl_tuple, isi_bl_list, isi_non_int, isi_non_bool, isi_non_tuple, isi_non_list, isi_tup_int, isi_tup_bool, isi_tup_tuple, isi_tup_list, isi_lst_int, isi_lst_bool, isi_lst_tuple, isi_lst_list, if_true, if_false, Bool.not_true, Bool.not_false, Bool.false_eq_true, decide_true, decide_false]
        refine ⟨cmul_r (by omega) (by omega), by omega, by omega, ?_⟩
        exact hK _ ⟨_, _, rfl⟩
    · rintro ρ ⟨a, s, rfl⟩
      refine hKK3 _ ?_
      simp only [e_asg, e_ret, e_drop, e_next, e_ifS, e_if, e_test, e_tq, e_and, e_or, e_not, e_andV, e_orV, e_aq1, e_aq0, e_oq1, e_oq0, e_c, e_op, e_neg, e_ngq, e_nil, e_cons, e_call, e_callK, e_cb, e_tup, e_lst, e_sl, e_oN, e_oS, e_soq, e_rev, e_rvq, e_var0, e_varS, e_varB0, e_varBo, e_varBS, e_gn, e_go, e_gt, e_gsc, e_gsn, e_fl_t, e_fl_l, e_fl_s, e_sl_t, e_isN, e_notN, List.set_cons_succ, List.set_cons_zero, add_ii, sub_ii, mul_ii, fdiv_ii, mod_ii, pow_ii, lt_ii, le_ii, gt_ii, ge_ii, DL.eq_int, DL.ne_int, DL.eq_bl, DL.ne_bl, isi_int_int, isi_int_bool, isi_int_tuple, isi_int_list, isi_bl_int, isi_bl_bool, isi_bl_tuple, isi_bl_list, isi_non_int, isi_non_bool, isi_non_tuple, isi_non_list, isi_tup_int, isi_tup_bool, isi_tup_tuple, isi_tup_list, isi_lst_int, isi_lst_bool, isi_lst_tuple, isi_lst_list, if_true, if_false, Bool.not_true, Bool.not_false, Bool.false_eq_true, decide_true, decide_false]
      by_cases h1 : own < 0
      · rw [decide_eq_true h1]
        simp only [e_asg, e_ret, e_drop, e_next, e_ifS, e_if, e_test, e_tq, e_and, e_or, e_not, e_andV, e_orV, e_aq1, e_aq0, e_oq1, e_oq0, e_c, e_op, e_neg, e_ngq, e_nil, e_cons, e_call, e_callK, e_cb, e_tup, e_lst, e_sl, e_oN, e_oS, e_soq, e_rev, e_rvq, e_var0, e_varS, e_varB0, e_varBo, e_varBS, e_gn, e_go, e_gt, e_gsc, e_gsn, e_fl_t, e_fl_l, e_fl_s, e_sl_t, e_isN, e_notN, List.set_cons_succ, List.set_cons_zero, add_ii, sub_ii, mul_ii, fdiv_ii, mod_ii, pow_ii, lt_ii, le_ii, gt_ii, ge_ii, DL.eq_int, DL.ne_int, DL.eq_bl, DL.ne_bl, isi_int_int, isi_int_bool, isi_int_tuple, isi_int_list, isi_bl_int, isi_bl_bool, isi_bl_tuple, isi_bl_list, isi_non_int, isi_non_bool, isi_non_tuple, isi_non_list, isi_tup_int, isi_tup_bool, isi_tup_tuple, isi_tup_list, isi_lst_int, isi_lst_bool, isi_lst_tuple, isi_lst_list, if_true, if_false, Bool.not_true, Bool.not_false, Bool.false_eq_true, decide_true, decide_false]
        exact ⟨by show 3 ≤ 16777216; omega, h _ _ _⟩
      · rw [decide_eq_false h1]
        simp only [e_asg, e_ret, e_drop, e_next, e_ifS, e_if, e_test, e_tq, e_and, e_or, e_not, e_andV, e_orV, e_aq1, e_aq0, e_oq1, e_oq0, e_c, e_op, e_neg, e_ngq, e_nil, e_cons, e_call, e_callK, e_cb, e_tup, e_lst, e_sl, e_oN, e_oS, e_soq, e_rev, e_rvq, e_var0, e_varS, e_varB0, e_varBo, e_varBS, e_gn, e_go, e_gt, e_gsc, e_gsn, e_fl_t, e_fl_l, e_fl_s, e_sl_t, e_isN, e_notN, List.set_cons_succ, List.set_cons_zero, add_ii, sub_ii, mul_ii, fdiv_ii, mod_ii, pow_ii, lt_ii, le_ii, gt_ii, ge_ii, DL.eq_int, DL.ne_int, DL.eq_bl, DL.ne_bl, isi_int_int, isi_int_bool, isi_int_tuple, isi_int_list, isi_bl_int, isi_bl_bool, isi_bl_tuple, isi_bl_list, isi_non_int, isi_non_bool, isi_non_tuple, isi_non_list, isi_tup_int, isi_tup_bool, isi_tup_tuple, isi_tup_list, isi_lst_int, isi_lst_bool, isi_lst_tuple, isi_lst_list, if_true, if_false, Bool.not_true, Bool.not_false, Bool.false_eq_true, decide_true, decide_false]
        refine ⟨⟨by omega, by omega, by show (10 : Int).natAbs < 2 ^ 64; decide⟩, ?_⟩
        generalize decide ((10 : Int) ^ (16 : Int).toNat ≤ own) = b
        cases b with
        | true =>
          simp only [e_asg, e_ret, e_drop, e_next, e_ifS, e_if, e_test, e_tq, e_and, e_or, e_not, e_andV, e_orV, e_aq1, e_aq0, e_oq1, e_oq0, e_c, e_op, e_neg, e_ngq, e_nil, e_cons, e_call, e_callK, e_cb, e_tup, e_lst, e_sl, e_oN, e_oS, e_soq, e_rev, e_rvq, e_var0, e_varS, e_varB0, e_varBo, e_varBS, e_gn, e_go, e_gt, e_gsc, e_gsn, e_fl_t, e_fl_l, e_fl_s, e_sl_t, e_isN, e_notN, List.set_cons_succ, List.set_cons_zero, add_ii, sub_ii, mul_ii, fdiv_ii, mod_ii, pow_ii, lt_ii, le_ii, gt_ii, ge_ii, DL.eq_int, DL.ne_int, DL.eq_bl, DL.ne_bl, isi_int_int, isi_int_bool, isi_int_tuple, isi_int_list, isi_bl_int, isi_bl_bool, isi_bl_tuple, isi_bl_list, isi_non_int, isi_non_bool, isi_non_tuple, isi_non_list, isi_tup_int, isi_tup_bool, isi_tup_tuple, isi_tup_list, isi_lst_int, isi_lst_bool, isi_lst_tuple, isi_lst_list, if_true, if_false, Bool.not_true, Bool.not_false, Bool.false_eq_true, decide_true, decide_false]
          exact ⟨by show 3 ≤ 16777216; omega, h _ _ _⟩
        | false =>
          simp only [e_asg, e_ret, e_drop, e_next, e_ifS, e_if, e_test, e_tq, e_and, e_or, e_not, e_andV, e_orV, e_aq1, e_aq0, e_oq1, e_oq0, e_c, e_op, e_neg, e_ngq, e_nil, e_cons, e_call, e_callK, e_cb, e_tup, e_lst, e_sl, e_oN, e_oS, e_soq, e_rev, e_rvq, e_var0, e_varS, e_varB0, e_varBo, e_varBS, e_gn, e_go, e_gt, e_gsc, e_gsn, e_fl_t, e_fl_l, e_fl_s, e_sl_t, e_isN, e_notN, List.set_cons_succ, List.set_cons_zero, add_ii, sub_ii, mul_ii, fdiv_ii, mod_ii, pow_ii, lt_ii, le_ii, gt_ii, ge_ii, DL.eq_int, DL.ne_int, DL.eq_bl, DL.ne_bl, isi_int_int, isi_int_bool, isi_int_tuple, isi_int_list, isi_bl_int, isi_bl_bool, isi_bl_tuple, isi_bl_list, isi_non_int, isi_non_bool, isi_non_tuple, isi_non_list, isi_tup_int, isi_tup_bool, isi_tup_tuple, isi_tup_list, isi_lst_int, isi_lst_bool, isi_lst_tuple, isi_lst_list, if_true, if_false, Bool.not_true, Bool.not_false, Bool.false_eq_true, decide_true, decide_false]
          exact ⟨by show 3 ≤ 16777216; omega, h _ _ _⟩
  simp only [e_asg, e_ret, e_drop, e_next, e_ifS, e_if, e_test, e_tq, e_and, e_or, e_not, e_andV, e_orV, e_aq1, e_aq0, e_oq1, e_oq0, e_c, e_op, e_neg, e_ngq, e_nil, e_cons, e_call, e_callK, e_cb, e_tup, e_lst, e_sl, e_oN, e_oS, e_soq, e_rev, e_rvq, e_var0, e_varS, e_varB0, e_varBo, e_varBS, e_gn, e_go, e_gt, e_gsc, e_gsn, e_fl_t, e_fl_l, e_fl_s, e_sl_t, e_isN, e_notN, List.set_cons_succ, List.set_cons_zero, add_ii, sub_ii, mul_ii, fdiv_ii, mod_ii, pow_ii, lt_ii, le_ii, gt_ii, ge_ii, DL.eq_int, DL.ne_int, DL.eq_bl, DL.ne_bl, isi_int_int, isi_int_bool, isi_int_tuple, isi_int_list, isi_bl_int, isi_bl_bool, isi_bl_tuple, isi_bl_list, isi_non_int, isi_non_bool, isi_non_tuple, isi_non_list, isi_tup_int, isi_tup_bool, isi_tup_tuple, isi_tup_list, isi_lst_int, isi_lst_bool, isi_lst_tuple, isi_lst_list, if_true, if_false, Bool.not_true, Bool.not_false, Bool.false_eq_true, decide_true, decide_false]
  by_cases hl : (lap : Int) < ns.length
  · rw [decide_eq_true hl]
    simp only [e_asg, e_ret, e_drop, e_next, e_ifS, e_if, e_test, e_tq, e_and, e_or, e_not, e_andV, e_orV, e_aq1, e_aq0, e_oq1, e_oq0, e_c, e_op, e_neg, e_ngq, e_nil, e_cons, e_call, e_callK, e_cb, e_tup, e_lst, e_sl, e_oN, e_oS, e_soq, e_rev, e_rvq, e_var0, e_varS, e_varB0, e_varBo, e_varBS, e_gn, e_go, e_gt, e_gsc, e_gsn, e_fl_t, e_fl_l, e_fl_s, e_sl_t, e_isN, e_notN, List.set_cons_succ, List.set_cons_zero, add_ii, sub_ii, mul_ii, fdiv_ii, mod_ii, pow_ii, lt_ii, le_ii, gt_ii, ge_ii, DL.eq_int, DL.ne_int, DL.eq_bl, DL.ne_bl, isi_int_int, isi_int_bool, isi_int_tuple, isi_int_list, isi_bl_int, isi_bl_bool, isi_bl_tuple, isi_bl_list, isi_non_int, isi_non_bool, isi_non_tuple, isi_non_list, isi_tup_int, isi_tup_bool, isi_tup_tuple, isi_tup_list, isi_lst_int, isi_lst_bool, isi_lst_tuple, isi_lst_list, if_true, if_false, Bool.not_true, Bool.not_false, Bool.false_eq_true, decide_true, decide_false]
    refine ⟨ns[lap]'(by omega), by rw [atI_ix, List.getElem?_eq_getElem], ?_⟩
    exact step _
  · rw [decide_eq_false hl]
    simp only [e_asg, e_ret, e_drop, e_next, e_ifS, e_if, e_test, e_tq, e_and, e_or, e_not, e_andV, e_orV, e_aq1, e_aq0, e_oq1, e_oq0, e_c, e_op, e_neg, e_ngq, e_nil, e_cons, e_call, e_callK, e_cb, e_tup, e_lst, e_sl, e_oN, e_oS, e_soq, e_rev, e_rvq, e_var0, e_varS, e_varB0, e_varBo, e_varBS, e_gn, e_go, e_gt, e_gsc, e_gsn, e_fl_t, e_fl_l, e_fl_s, e_sl_t, e_isN, e_notN, List.set_cons_succ, List.set_cons_zero, add_ii, sub_ii, mul_ii, fdiv_ii, mod_ii, pow_ii, lt_ii, le_ii, gt_ii, ge_ii, DL.eq_int, DL.ne_int, DL.eq_bl, DL.ne_bl, isi_int_int, isi_int_bool, isi_int_tuple, isi_int_list, isi_bl_int, isi_bl_bool, isi_bl_tuple, isi_bl_list, isi_non_int, isi_non_bool, isi_non_tuple, isi_non_list, isi_tup_int, isi_tup_bool, isi_tup_tuple, isi_tup_list, isi_lst_int, isi_lst_bool, isi_lst_tuple, isi_lst_list, if_true, if_false, Bool.not_true, Bool.not_false, Bool.false_eq_true, decide_true, decide_false]
    exact step _
end
end HX
set_option Elab.async false
set_option linter.all false
set_option maxRecDepth 100000
set_option maxHeartbeats 400000
namespace HX
open PySem PySem.Spec PyProof.Rows L2 DL
theorem p_law (hR : ∀ q : D → Prop, q (.bl true) → wf__law_right [.bowl] q (fun _ => False)) (ns : List Int) (hn : ns.length ≤ 63) : wf_law [.scr ns] (fun d => d = .bl true) (fun _ => False) := by
  unfold wf_law W_law
  show wRet _ _ [some (.val (.scr ns)), none]
  simp only [e_asg, e_ret, e_drop, e_next, e_ifS, e_if, e_test, e_tq, e_and, e_or, e_not, e_andV, e_orV, e_aq1, e_aq0, e_oq1, e_oq0, e_c, e_op, e_neg, e_ngq, e_nil, e_cons, e_call, e_callK, e_cb, e_tup, e_lst, e_sl, e_oN, e_oS, e_soq, e_rev, e_rvq, e_var0, e_varS, e_varB0, e_varBo, e_varBS, e_gn, e_go, e_gt, e_gsc, e_gsn, e_fl_t, e_fl_l, e_fl_s, e_sl_t, e_isN, e_notN, e_max2, e_min2, e_int1, e_abs1, e_tupl, e_lc, e_rng1, e_r1q, e_bowl, e_wipe1, e_for, List.set_cons_succ, List.set_cons_zero, add_ii, sub_ii, mul_ii, fdiv_ii, mod_ii, pow_ii, lt_ii, le_ii, gt_ii, ge_ii, DL.eq_int, DL.ne_int, DL.eq_bl, DL.ne_bl, isi_int_int, isi_int_bool, isi_int_tuple, isi_int_list, isi_bl_int, isi_bl_bool, isi_bl_tuple, isi_bl_list, isi_non_int, isi_non_bool, isi_non_tuple, isi_non_list, isi_tup_int, isi_tup_bool, isi_tup_tuple, isi_tup_list, isi_lst_int, isi_lst_bool, isi_lst_tuple, isi_lst_list, if_true, if_false, Bool.not_true, Bool.not_false, Bool.false_eq_true, decide_true, decide_false]
  obtain ⟨m, hm, hm2⟩ : ∃ m : Nat, maxI 1 (minI (ns.length : Int) 3) = (m : Int) ∧ m ≤ 3 := by
    rw [maxI_eq, minI_eq]
    exact ⟨(max 1 (min (ns.length : Int) 3)).toNat, by omega, by omega⟩
  rw [hm]
  refine ⟨⟨by omega, by omega⟩, ?_⟩
  rw [rangeD_nat]
  refine lc_map (fun i : Nat => D.int (i : Int)) (fun _ => D.bl true) (List.range m) [] (fun i _ k hk => ?_) (by rw [List.length_range]; show 0 + m < 16777216; omega) ?_
  · simp only [e_asg, e_ret, e_drop, e_next, e_ifS, e_if, e_test, e_tq, e_and, e_or, e_not, e_andV, e_orV, e_aq1, e_aq0, e_oq1, e_oq0, e_c, e_op, e_neg, e_ngq, e_nil, e_cons, e_call, e_callK, e_cb, e_tup, e_lst, e_sl, e_oN, e_oS, e_soq, e_rev, e_rvq, e_var0, e_varS, e_varB0, e_varBo, e_varBS, e_gn, e_go, e_gt, e_gsc, e_gsn, e_fl_t, e_fl_l, e_fl_s, e_sl_t, e_isN, e_notN, e_max2, e_min2, e_int1, e_abs1, e_tupl, e_lc, e_rng1, e_r1q, e_bowl, e_wipe1, e_for, List.set_cons_succ, List.set_cons_zero, add_ii, sub_ii, mul_ii, fdiv_ii, mod_ii, pow_ii, lt_ii, le_ii, gt_ii, ge_ii, DL.eq_int, DL.ne_int, DL.eq_bl, DL.ne_bl, isi_int_int, isi_int_bool, isi_int_tuple, isi_int_list, isi_bl_int, isi_bl_bool, isi_bl_tuple, isi_bl_list, isi_non_int, isi_non_bool, isi_non_tuple, isi_non_list, isi_tup_int, isi_tup_bool, isi_tup_tuple, isi_tup_list, isi_lst_int, isi_lst_bool, isi_lst_tuple, isi_lst_list, if_true, if_false, Bool.not_true, Bool.not_false, Bool.false_eq_true, decide_true, decide_false]
    refine p_law_flask ns i fun a b c => ⟨⟨a, b, c, rfl⟩, hR _ ⟨⟨true, rfl⟩, hk⟩⟩
  · refine ⟨List.replicate m true, ?_, ?_⟩
    · rw [List.nil_append, List.map_replicate]
      have : ∀ l : List Nat, l.map (fun _ => D.bl true) = List.replicate l.length (D.bl true) := fun l => by
        induction l with
        | nil => rfl
        | cons a l ih => rw [List.map_cons, ih, List.length_cons, List.replicate_succ]
      rw [this, List.length_range]
    · have : (List.replicate m true).all id = true := by
        rw [List.all_eq_true]
        intro x hx
        exact (List.mem_replicate.mp hx).2
      rw [this]
end HX
set_option Elab.async false
set_option linter.all false
set_option maxRecDepth 100000
set_option maxHeartbeats 0
namespace HX
open PySem PySem.Spec PyProof.Rows L2 DL NdefX LamX
def fn0 : List He.DefD := [dOf "is_whole" s_is_whole, dOf "is_between" s_is_between, dOf "is_up_to" s_is_up_to, dOf "is_tuple_of" s_is_tuple_of, dOf "wrong_in" s_wrong_in, dOf "wrong_in_damages" s_wrong_in_damages, dOf "is_clause" s_is_clause, dOf "brought_of" s_brought_of, dOf "sum_of" s_sum_of, dOf "windows_to" s_windows_to, dOf "longer_by" s_longer_by, dOf "best_line" s_best_line, dOf "best_by" s_best_by, dOf "check_hours" s_check_hours, dOf "most_brought" s_most_brought, dOf "best_choice" s_best_choice]
def fn1 : List He.DefD := [dOf "_law_flask" s__law_flask, dOf "_law_pour" s__law_pour, dOf "_law_of" s__law_of, dOf "_law_same" s__law_same, dOf "_law_is_number" s__law_is_number, dOf "_law_layered" s__law_layered, dOf "_law_damages" s__law_damages, dOf "_law_clause" s__law_clause, dOf "_law_is_choice" s__law_is_choice, dOf "_law_brings" s__law_brings, dOf "_law_most" s__law_most, dOf "_law_is_told" s__law_is_told, dOf "_law_blocks_right" s__law_blocks_right, dOf "_law_right" s__law_right, dOf "law" s_law]
def fn : List He.DefD := fn0 ++ fn1
def fa0 : List He.Fa := [.glo "is_whole", .glo "is_between", .glo "is_up_to", .glo "is_tuple_of", .glo "wrong_in", .glo "wrong_in_damages", .glo "is_clause", .glo "brought_of", .glo "sum_of", .glo "windows_to", .glo "longer_by", .glo "best_line", .glo "best_by", .glo "check_hours", .glo "most_brought", .glo "best_choice"]
def fa1 : List He.Fa := [.glo "_law_flask", .glo "_law_pour", .glo "_law_of", .glo "_law_same", .glo "_law_is_number", .glo "_law_layered", .glo "_law_damages", .glo "_law_clause", .glo "_law_is_choice", .glo "_law_brings", .glo "_law_most", .glo "_law_is_told", .glo "_law_blocks_right", .glo "_law_right", .glo "law", .free "abs"]
def fa2 : List He.Fa := [.free "all", .free "bool", .free "divmod", .free "enumerate", .free "int", .free "isinstance", .free "len", .free "list", .free "max", .free "min", .free "range", .free "str", .free "sum", .free "super", .free "tuple", .free "zip"]
def fa3 : List He.Fa := [.int "MOST_DAMAGES" 60, .int "MOST_HOURS" 60, .int "MOST_COUNT" 9, .int "MOST_END" 9999]
def fa : List He.Fa := fa0 ++ fa1 ++ fa2 ++ fa3
def tf : List He.Defn := [("wrong_in_damages", none), ("best_line", none)]
abbrev R : PySem.W.OpenRow := PySem.W.OpenLaw.row PySem.Challenge.rw_layerwebs_k56_whole_most_brought_of_sixt
abbrev hk : PySem.W.Hook := He.hookX 4 fa fn [] tf (apartB tf)
def ob (s : PySem.W.SharedT) : He.AlX := He.obsX 4 fa fn [] tf (apartB tf) (HandSHeadRun.getT s)
theorem ob_eq (s : PySem.W.SharedT) : ob s = hk.obs s.abs := He.obsX_eq (HandSHeadRun.getT_eq s)
def names0 : List PySem.Str := ["is_whole", "is_between", "is_up_to", "is_tuple_of", "wrong_in", "wrong_in_damages", "is_clause", "brought_of", "sum_of", "windows_to", "longer_by", "best_line", "best_by", "check_hours", "most_brought", "best_choice"]
def names1 : List PySem.Str := ["_law_flask", "_law_pour", "_law_of", "_law_same", "_law_is_number", "_law_layered", "_law_damages", "_law_clause", "_law_is_choice", "_law_brings", "_law_most", "_law_is_told", "_law_blocks_right", "_law_right", "MOST_DAMAGES", "MOST_HOURS"]
def names2 : List PySem.Str := ["MOST_COUNT", "MOST_END", "CoverError", "InvalidClause", "InvalidDamages"]
def names : List PySem.Str := names0 ++ names1 ++ names2
theorem run (w : World) : HandSHeadRun.RunEq R (PySem.W.view R.prog [42]) hk ob 8000 names w := by
  intro os
  kernel_rfl
theorem mod_of {K : PySem.W.Frag} {mg : PySem.Str → Option Value} {base : Heap} (X : K.In base) (G : base.Ns mainGlobals mg) (c : He.SaysD fa fn K) (hn : apartB tf K = true) (hT : ∀ p ∈ tf.map (He.cT K), TabB base mg p.1 p.2) : Mod K mg base (tabsOf K tf) where
  z_abs := He.free_ok X G (c.fact 31 (f := .free "abs") rfl)
  z_all := He.free_ok X G (c.fact 32 (f := .free "all") rfl)
  z_bool := He.free_ok X G (c.fact 33 (f := .free "bool") rfl)
  z_divmod := He.free_ok X G (c.fact 34 (f := .free "divmod") rfl)
  z_enumerate := He.free_ok X G (c.fact 35 (f := .free "enumerate") rfl)
  z_int := He.free_ok X G (c.fact 36 (f := .free "int") rfl)
  z_isinstance := He.free_ok X G (c.fact 37 (f := .free "isinstance") rfl)
  z_len := He.free_ok X G (c.fact 38 (f := .free "len") rfl)
  z_list := He.free_ok X G (c.fact 39 (f := .free "list") rfl)
  z_max := He.free_ok X G (c.fact 40 (f := .free "max") rfl)
  z_min := He.free_ok X G (c.fact 41 (f := .free "min") rfl)
  z_range := He.free_ok X G (c.fact 42 (f := .free "range") rfl)
  z_str := He.free_ok X G (c.fact 43 (f := .free "str") rfl)
  z_sum := He.free_ok X G (c.fact 44 (f := .free "sum") rfl)
  z_super := He.free_ok X G (c.fact 45 (f := .free "super") rfl)
  z_tuple := He.free_ok X G (c.fact 46 (f := .free "tuple") rfl)
  z_zip := He.free_ok X G (c.fact 47 (f := .free "zip") rfl)
  i_MOST_DAMAGES := He.int_ok X G (c.fact 48 (f := .int "MOST_DAMAGES" 60) rfl)
  i_MOST_HOURS := He.int_ok X G (c.fact 49 (f := .int "MOST_HOURS" 60) rfl)
  i_MOST_COUNT := He.int_ok X G (c.fact 50 (f := .int "MOST_COUNT" 9) rfl)
  i_MOST_END := He.int_ok X G (c.fact 51 (f := .int "MOST_END" 9999) rfl)
  d_is_whole := defE_of X G c (List.mem_of_getElem? (i := 0) rfl) (List.mem_of_getElem? (i := 0) rfl) (fun _ _ _ _ _ _ us hl => match us, hl with | [_], _ => rfl)
  d_is_between := defE_of X G c (List.mem_of_getElem? (i := 1) rfl) (List.mem_of_getElem? (i := 1) rfl) (fun _ _ _ _ _ _ us hl => match us, hl with | [_, _, _], _ => rfl)
  d_is_up_to := defE_of X G c (List.mem_of_getElem? (i := 2) rfl) (List.mem_of_getElem? (i := 2) rfl) (fun _ _ _ _ _ _ us hl => match us, hl with | [_, _], _ => rfl)
  d_is_tuple_of := defE_of X G c (List.mem_of_getElem? (i := 3) rfl) (List.mem_of_getElem? (i := 3) rfl) (fun _ _ _ _ _ _ us hl => match us, hl with | [_, _], _ => rfl)
  d_wrong_in := defE_of X G c (List.mem_of_getElem? (i := 4) rfl) (List.mem_of_getElem? (i := 4) rfl) (fun _ _ _ _ _ _ us hl => match us, hl with | [_, _, _, _], _ => rfl)
  d_wrong_in_damages := defT_of X G c (List.mem_of_getElem? (i := 5) rfl) (List.mem_of_getElem? (i := 5) rfl) (List.mem_of_getElem? (i := 0) rfl) hn hT (fun _ _ _ _ _ _ us hl => match us, hl with | [_], _ => rfl)
  d_is_clause := defE_of X G c (List.mem_of_getElem? (i := 6) rfl) (List.mem_of_getElem? (i := 6) rfl) (fun _ _ _ _ _ _ us hl => match us, hl with | [_], _ => rfl)
  d_brought_of := defE_of X G c (List.mem_of_getElem? (i := 7) rfl) (List.mem_of_getElem? (i := 7) rfl) (fun _ _ _ _ _ _ us hl => match us, hl with | [_, _], _ => rfl)
  d_sum_of := defE_of X G c (List.mem_of_getElem? (i := 8) rfl) (List.mem_of_getElem? (i := 8) rfl) (fun _ _ _ _ _ _ us hl => match us, hl with | [_, _], _ => rfl)
  d_windows_to := defE_of X G c (List.mem_of_getElem? (i := 9) rfl) (List.mem_of_getElem? (i := 9) rfl) (fun _ _ _ _ _ _ us hl => match us, hl with | [_, _, _], _ => rfl)
  d_longer_by := defE_of X G c (List.mem_of_getElem? (i := 10) rfl) (List.mem_of_getElem? (i := 10) rfl) (fun _ _ _ _ _ _ us hl => match us, hl with | [_, _, _, _], _ => rfl)
  d_best_line := defT_of X G c (List.mem_of_getElem? (i := 11) rfl) (List.mem_of_getElem? (i := 11) rfl) (List.mem_of_getElem? (i := 1) rfl) hn hT (fun _ _ _ _ _ _ us hl => match us, hl with | [_, _, _], _ => rfl)
  d_best_by := defE_of X G c (List.mem_of_getElem? (i := 12) rfl) (List.mem_of_getElem? (i := 12) rfl) (fun _ _ _ _ _ _ us hl => match us, hl with | [_, _], _ => rfl)
  d_check_hours := defE_of X G c (List.mem_of_getElem? (i := 13) rfl) (List.mem_of_getElem? (i := 13) rfl) (fun _ _ _ _ _ _ us hl => match us, hl with | [_, _], _ => rfl)
  d_most_brought := defE_of X G c (List.mem_of_getElem? (i := 14) rfl) (List.mem_of_getElem? (i := 14) rfl) (fun _ _ _ _ _ _ us hl => match us, hl with | [_, _], _ => rfl)
  d_best_choice := defE_of X G c (List.mem_of_getElem? (i := 15) rfl) (List.mem_of_getElem? (i := 15) rfl) (fun _ _ _ _ _ _ us hl => match us, hl with | [_, _], _ => rfl)
  d__law_flask := defE_of X G c (List.mem_of_getElem? (i := 16) rfl) (List.mem_of_getElem? (i := 16) rfl) (fun _ _ _ _ _ _ us hl => match us, hl with | [_, _], _ => rfl)
  d__law_pour := defE_of X G c (List.mem_of_getElem? (i := 17) rfl) (List.mem_of_getElem? (i := 17) rfl) (fun _ _ _ _ _ _ us hl => match us, hl with | [_, _], _ => rfl)
  d__law_of := defE_of X G c (List.mem_of_getElem? (i := 18) rfl) (List.mem_of_getElem? (i := 18) rfl) (fun _ _ _ _ _ _ us hl => match us, hl with | [_, _], _ => rfl)
  d__law_same := defE_of X G c (List.mem_of_getElem? (i := 19) rfl) (List.mem_of_getElem? (i := 19) rfl) (fun _ _ _ _ _ _ us hl => match us, hl with | [_, _], _ => rfl)
  d__law_is_number := defE_of X G c (List.mem_of_getElem? (i := 20) rfl) (List.mem_of_getElem? (i := 20) rfl) (fun _ _ _ _ _ _ us hl => match us, hl with | [_, _, _], _ => rfl)
  d__law_layered := defE_of X G c (List.mem_of_getElem? (i := 21) rfl) (List.mem_of_getElem? (i := 21) rfl) (fun _ _ _ _ _ _ us hl => match us, hl with | [_, _], _ => rfl)
  d__law_damages := defE_of X G c (List.mem_of_getElem? (i := 22) rfl) (List.mem_of_getElem? (i := 22) rfl) (fun _ _ _ _ _ _ us hl => match us, hl with | [_, _], _ => rfl)
  d__law_clause := defE_of X G c (List.mem_of_getElem? (i := 23) rfl) (List.mem_of_getElem? (i := 23) rfl) (fun _ _ _ _ _ _ us hl => match us, hl with | [_, _], _ => rfl)
  d__law_is_choice := defE_of X G c (List.mem_of_getElem? (i := 24) rfl) (List.mem_of_getElem? (i := 24) rfl) (fun _ _ _ _ _ _ us hl => match us, hl with | [_, _, _], _ => rfl)
  d__law_brings := defE_of X G c (List.mem_of_getElem? (i := 25) rfl) (List.mem_of_getElem? (i := 25) rfl) (fun _ _ _ _ _ _ us hl => match us, hl with | [_, _, _], _ => rfl)
  d__law_most := defE_of X G c (List.mem_of_getElem? (i := 26) rfl) (List.mem_of_getElem? (i := 26) rfl) (fun _ _ _ _ _ _ us hl => match us, hl with | [_, _], _ => rfl)
  d__law_is_told := defE_of X G c (List.mem_of_getElem? (i := 27) rfl) (List.mem_of_getElem? (i := 27) rfl) (fun _ _ _ _ _ _ us hl => match us, hl with | [_, _, _], _ => rfl)
  d__law_blocks_right := defE_of X G c (List.mem_of_getElem? (i := 28) rfl) (List.mem_of_getElem? (i := 28) rfl) (fun _ _ _ _ _ _ us hl => match us, hl with | [_], _ => rfl)
  d__law_right := defE_of X G c (List.mem_of_getElem? (i := 29) rfl) (List.mem_of_getElem? (i := 29) rfl) (fun _ _ _ _ _ _ us hl => match us, hl with | [_], _ => rfl)
  d_law := defE_of X G c (List.mem_of_getElem? (i := 30) rfl) (List.mem_of_getElem? (i := 30) rfl) (fun _ _ _ _ _ _ us hl => match us, hl with | [_], _ => rfl)
end HX
open PySem PySem.W PySem.Calls PyProof.Rows in
set_option maxRecDepth 100000 in
set_option maxHeartbeats 0 in
theorem HX.holds_of (hW : ∀ ns : List Int, ns.length ≤ 63 → HX.wf_law [DL.D.scr ns] (fun d => d = DL.D.bl true) (fun _ => False)) : PySem.Challenge.rw_layerwebs_k56_whole_most_brought_of_sixt.Holds := by
  w_on; o_law
  refine HandSHeadRun.head_any (r := OpenLaw.row PySem.Challenge.rw_layerwebs_k56_whole_most_brought_of_sixt) (q := view (OpenLaw.row PySem.Challenge.rw_layerwebs_k56_whole_most_brought_of_sixt).prog [42]) (H := HX.hk) (ob := HX.ob) (M := 8000) (loose := HX.names) (d := HandSHeadRun.topDef (OpenLaw.row PySem.Challenge.rw_layerwebs_k56_whole_most_brought_of_sixt).prog 42) (kwd := []) HX.ob_eq
    (by kernel_rfl) (fun s => by kernel_rfl) HX.run (by kernel_rfl) (by kernel_rfl) (by kernel_rfl) (by rfl) (by first | assumption | decide +kernel) (by decide +kernel) ⟨rfl, rfl, rfl, rfl, rfl, by decide +kernel⟩ ?hw ?hc
  case hw => w_witness2
  case hc =>
    refine LamX.walk_ofTsE (l := PySem.Challenge.rw_layerwebs_k56_whole_most_brought_of_sixt) (n := 63) (k := 12) (x := "script") (CX := fun w => L2.CX (PySem.Challenge.rw_layerwebs_k56_whole_most_brought_of_sixt).prog w) rfl (by decide) (by kernel_rfl) ⟨rfl, by decide, by decide⟩ ?F (fun w H s e s' z => by
      obtain ⟨_, _, _, _, _, _, _, _, _, _, _, _, z⟩ := z
      exact z)
    intro w mg fa h Y G hmg0
    obtain ⟨K, KX, c⟩ := Y
    have hmg : mg ("law" : PySem.Str) = some (.ref fa) := by
      have e : (HandSHeadRun.topDef (OpenLaw.row PySem.Challenge.rw_layerwebs_k56_whole_most_brought_of_sixt).prog 42).name = ("law" : PySem.Str) := by kernel_rfl
      rw [← e]
      exact hmg0
    exact ⟨K, KX, DL.law_at KX G hmg c rfl (List.mem_of_getElem? (i := 30) rfl) (List.mem_of_getElem? (i := 30) rfl) (fun _ _ _ _ _ _ us hl => match us, hl with | [_], _ => rfl) (fun base Xb Gb hT => HX.d_law (HX.mod_of Xb Gb c.t.d c.more hT)) hW⟩
theorem PySem.Challenge.cw_layerwebs_k56_whole_most_brought_of_sixt_holds : PySem.Challenge.rw_layerwebs_k56_whole_most_brought_of_sixt.Holds := by
  exact HX.holds_of fun ns hn => HX.p_law (fun q h => HX.p_law_right h) ns hn
