import PyProof.Rows.All
import Wide.All
import OpenK.AllK
import Wide.FinOn
import HandS.ForMost
import HandS.WordsExc
import HandS.ExcOwn
import HandS.CallSlots
import HandS.IsInst
import HandS.Flow
import HandS.Zip
import HandS.Wide
import HandS.Lambda
import HandS.TupAny
import HandS.Gcd
import HandS.Star
import HandS.Style
import KE.GoesEnum
import KE.GoesNew
import KE.GoesMore
import HandS.CallLocal
import HandS.OwnEq
import PyProof.IsiBase
import KE.KIsAll
import HandS.EndBits
import KE.RegKIsAll
import HandS.ExcInit
import HandS.ExcField
import HandS.TryMany
import KE.KExcSuper
import HandS.EndTab
import PyProof.InstEq
import HandS.EndOwn
import PyProof.InstNe
import HandS.DictSubView
import KE.KDictCopyH
import KE.KRevSl
import KE.DataMinMax
import HandS.SortKw
import PyProof.ReprLen
import PySem.Challenge.RW_anyload_k46_whole_left_and_waited
set_option Elab.async false
set_option linter.all false
set_option maxRecDepth 100000
set_option maxHeartbeats 2000000
/-! Ax1: data as trees, frozen heap, environments, transitions. -/
namespace Ax
open PySem PySem.Spec L2

inductive D where
  | non | bl (b : Bool) | int (i : Int) | str (s : Str) | ty (n : String) | cl (c : Nat) | fn (i : Nat) | tup (xs : List D) | lst (xs : List D) | frl (xs : List D) | obj (c : Nat) (fs : List D)
  | mk (n : Nat) (xs : List D) | dic (ks : List Key) (xs : List D)

/-- the tables of code objects that the defs that make lambdas keep; the marked lists; the lambda that a def was handed; what is frozen all the time -/
class TabC where
  T : List (Addr × Str)
  m : Nat → Option Addr
  fx : Option V
  zb : Hp
variable [TabC]
/-- no marked list stands here -/
def Unm (a : Addr) : Prop := ∀ n, TabC.m n ≠ some a

structure GW where
  K : PySem.W.Frag
  kn : Nat → Prop
  cls : Nat → Addr
  flds : Nat → List Str
  fns : Nat → Addr
  kf : Nat → Prop

mutual
inductive Rep (G : GW) (Z : Hp) : V → D → Prop
  | non : Rep G Z .non .non
  | bl (b : Bool) : Rep G Z (.bl b) (.bl b)
  | int (i : Int) : Rep G Z (.int i) (.int i)
  | str (s : Str) : Rep G Z (.str s) (.str s)
  | ty (n : String) : Rep G Z (.ty n) (.ty n)
  | cl (c : Nat) (k : G.kn c) : Rep G Z (.ref (G.cls c)) (.cl c)
  | fn (i : Nat) (k : G.kf i) : Rep G Z (.ref (G.fns i)) (.fn i)
  | tup {a : Addr} {vs : List V} {ds : List D} (h : Z a = some (.tup vs)) (r : Reps G Z vs ds) : Rep G Z (.ref a) (.tup ds)
  | lst {a : Addr} {vs : List V} {ds : List D} (h : Z a = some (.lst vs)) (u : Unm a) (r : Reps G Z vs ds) : Rep G Z (.ref a) (.lst ds)
  | mk {a : Addr} {n : Nat} {vs : List V} {ds : List D} (h : Z a = some (.lst vs)) (u : TabC.m n = some a) (r : Reps G Z vs ds) : Rep G Z (.ref a) (.mk n ds)
  | dic {a : Addr} {o : Obj} {ks : List Key} {vs : List V} {ds : List D} (h : Z a = some (.frz o (.dK (ks.zip vs)))) (l : vs.length = ks.length) (r : Reps G Z vs ds) : Rep G Z (.ref a) (.dic ks ds)
  | frl {a : Addr} {vs : List V} {ds : List D} (h : SqL G.K Z a vs) (u : Unm a) (r : Reps G Z vs ds) : Rep G Z (.ref a) (.frl ds)
  | obj {a dx : Addr} {vs : List V} {c : Nat} {ds : List D} (k : G.kn c) (h : Z a = some (.ins (G.cls c) dx ((G.flds c).zip vs))) (n : vs.length = (G.flds c).length) (r : Reps G Z vs ds) : Rep G Z (.ref a) (.obj c ds)
inductive Reps (G : GW) (Z : Hp) : List V → List D → Prop
  | nil : Reps G Z [] []
  | cons {v : V} {d : D} {vs : List V} {ds : List D} (h : Rep G Z v d) (r : Reps G Z vs ds) : Reps G Z (v :: vs) (d :: ds)
end

theorem Rd.same {H H' : Hp} {a : Addr} {u : HO} (e : Same H H') (h : Rd H a u) : Rd H' a u := by
  rcases h with h | ⟨o, h⟩
  · exact .inl (e _ _ h)
  · exact .inr ⟨o, e _ _ h⟩

mutual
theorem Rep.mono {G : GW} {Z Z' : Hp} (e : Same Z Z') : ∀ {v : V} {d : D}, Rep G Z v d → Rep G Z' v d
  | _, _, .non => .non
  | _, _, .bl b => .bl b
  | _, _, .int i => .int i
  | _, _, .str s => .str s
  | _, _, .ty n => .ty n
  | _, _, .cl c k => .cl c k
  | _, _, .fn i k => .fn i k
  | _, _, .tup h r => .tup (e _ _ h) (Reps.mono e r)
  | _, _, .lst h u r => .lst (e _ _ h) u (Reps.mono e r)
  | _, _, .mk h u r => .mk (e _ _ h) u (Reps.mono e r)
  | _, _, .dic h l r => .dic (e _ _ h) l (Reps.mono e r)
  | _, _, .frl h u r => .frl (Same.seq e h) u (Reps.mono e r)
  | _, _, .obj k h n r => .obj k (e _ _ h) n (Reps.mono e r)
theorem Reps.mono {G : GW} {Z Z' : Hp} (e : Same Z Z') : ∀ {vs : List V} {ds : List D}, Reps G Z vs ds → Reps G Z' vs ds
  | _, _, .nil => .nil
  | _, _, .cons h r => .cons (Rep.mono e h) (Reps.mono e r)
end

section
variable {G : GW} {Z : Hp}
theorem Reps.length : ∀ {vs : List V} {ds : List D}, Reps G Z vs ds → vs.length = ds.length
  | _, _, .nil => rfl
  | _, _, .cons _ r => congrArg (· + 1) (Reps.length r)
theorem Reps.get : ∀ {vs : List V} {ds : List D} {i : Nat} {d : D}, Reps G Z vs ds → ds[i]? = some d → ∃ v, vs[i]? = some v ∧ Rep G Z v d
  | _, _, _, _, .nil, none_ => by simp at none_
  | _, _, 0, _, .cons h _, e => by simp at e; subst e; exact ⟨_, rfl, h⟩
  | _, _, i + 1, d, .cons _ r, e => by
    obtain ⟨v, h1, h2⟩ := Reps.get (i := i) (d := d) r (by simpa using e)
    exact ⟨v, by simpa using h1, h2⟩
theorem Reps.get2 : ∀ {vs : List V} {ds : List D} {i : Nat} {v : V}, Reps G Z vs ds → vs[i]? = some v → ∃ d, ds[i]? = some d ∧ Rep G Z v d
  | _, _, _, _, .nil, none_ => by simp at none_
  | _, _, 0, _, .cons h _, e => by simp at e; subst e; exact ⟨_, rfl, h⟩
  | _, _, i + 1, d, .cons _ r, e => by
    obtain ⟨v, h1, h2⟩ := Reps.get2 (i := i) r (by simpa using e)
    exact ⟨v, by simpa using h1, h2⟩
theorem Reps.set {v : V} {d : D} (h : Rep G Z v d) : ∀ {vs : List V} {ds : List D} (i : Nat), Reps G Z vs ds → Reps G Z (vs.set i v) (ds.set i d)
  | _, _, _, .nil => .nil
  | _, _, 0, .cons _ r => .cons h r
  | _, _, i + 1, .cons q r => .cons q (Reps.set h i r)
theorem Reps.append : ∀ {vs ws : List V} {ds es : List D}, Reps G Z vs ds → Reps G Z ws es → Reps G Z (vs ++ ws) (ds ++ es)
  | _, _, _, _, .nil, s => s
  | _, _, _, _, .cons h r, s => .cons h (Reps.append r s)
theorem Reps.take : ∀ {vs : List V} {ds : List D} (n : Nat), Reps G Z vs ds → Reps G Z (vs.take n) (ds.take n)
  | _, _, 0, _ => .nil
  | _, _, _ + 1, .nil => .nil
  | _, _, n + 1, .cons h r => .cons h (Reps.take n r)
theorem Reps.drop : ∀ {vs : List V} {ds : List D} (n : Nat), Reps G Z vs ds → Reps G Z (vs.drop n) (ds.drop n)
  | _, _, 0, h => h
  | _, _, _ + 1, .nil => .nil
  | _, _, n + 1, .cons _ r => Reps.drop n r
theorem Reps.ints : ∀ {ns : List Int}, Reps G Z (ns.map V.int) (ns.map D.int)
  | [] => .nil
  | n :: r => .cons (.int n) Reps.ints
theorem Reps.one {v : V} {d : D} (h : Rep G Z v d) : Reps G Z [v] [d] := .cons h .nil
end

/-- what an owned object holds -/
inductive OV where
  | lst (ds : List D) | ins (c : Nat) (fs : List (Str × D)) | dt (ks : List (List Key)) (ds : List D) | dk (ks : List Key) (ds : List D)
inductive RepF (G : GW) (Z : Hp) : List (Str × V) → List (Str × D) → Prop
  | nil : RepF G Z [] []
  | cons {f : Str} {v : V} {d : D} {vs : List (Str × V)} {ds : List (Str × D)} (h : Rep G Z v d) (r : RepF G Z vs ds) : RepF G Z ((f, v) :: vs) ((f, d) :: ds)
theorem RepF.mono {G : GW} {Z Z' : Hp} (e : Same Z Z') : ∀ {vs : List (Str × V)} {ds : List (Str × D)}, RepF G Z vs ds → RepF G Z' vs ds
  | _, _, .nil => .nil
  | _, _, .cons h r => .cons (h.mono e) (RepF.mono e r)
inductive RepO (G : GW) (Z : Hp) : HO → OV → Prop
  | lst {vs : List V} {ds : List D} (r : Reps G Z vs ds) : RepO G Z (.lst vs) (.lst ds)
  | ins {c : Nat} {dx : Addr} {vs : List (Str × V)} {ds : List (Str × D)} (r : RepF G Z vs ds) : RepO G Z (.ins (G.cls c) dx vs) (.ins c ds)
  | dt {ks : List (List Key)} {vs : List V} {ds : List D} (l : vs.length = ks.length) (r : Reps G Z vs ds) : RepO G Z (.dT (ks.zip vs)) (.dt ks ds)
  | dk {ks : List Key} {vs : List V} {ds : List D} (l : vs.length = ks.length) (r : Reps G Z vs ds) : RepO G Z (.dK (ks.zip vs)) (.dk ks ds)
theorem RepO.mono {G : GW} {Z Z' : Hp} (e : Same Z Z') {o : HO} {x : OV} : RepO G Z o x → RepO G Z' o x
  | .lst r => .lst (r.mono e)
  | .ins r => .ins (r.mono e)
  | .dt l r => .dt l (r.mono e)
  | .dk l r => .dk l (r.mono e)
/-- as a shared value -/
def OV.fz : OV → Option D
  | .lst ds => some (.lst ds)
  | _ => none

inductive SV where
  | un | sh (d : D) | own (io : Bool) (o : OV) | fx
abbrev En := List SV

def Own (env : En) (σ : St) (a : Addr) : Prop := ∃ (i : Nat) (m : Bool) (o : OV), env[i]? = some (SV.own m o) ∧ σ[i]? = some (some (V.ref a))

/-- Z is a part of H without tables, and H's tables are right -/
structure Sub (Z H : Hp) : Prop where
  s : Same Z H
  ml : (∀ n a, TabC.m n = some a → ∃ vs, Z a = some (.lst vs)) ∧ Same TabC.zb Z
  nt : ∀ a ps, Z a ≠ some (.tbl ps)
  tb : LamX.Tabs TabC.T H
instance {Z H : Hp} : Coe (Sub Z H) (Same Z H) := ⟨Sub.s⟩
/-- all but the tables stays -/
structure Kp (H H' : Hp) : Prop where
  k : ∀ a o, H a = some o → (∀ ps, o ≠ .tbl ps) → H' a = some o
  dom : ∀ a, H' a = none → H a = none
theorem Sub.un {Z H : Hp} (s : Sub Z H) {p : Addr} (z : Z p = none) : Unm p := fun n e => by
  obtain ⟨vs, q⟩ := s.ml.1 n p e
  rw [z] at q; cases q
theorem ml_mono {Z Z' : Hp} (e : Same Z Z') (h : (∀ n a, TabC.m n = some a → ∃ vs, Z a = some (.lst vs)) ∧ Same TabC.zb Z) :
    (∀ n a, TabC.m n = some a → ∃ vs, Z' a = some (.lst vs)) ∧ Same TabC.zb Z' := ⟨fun n a q => by
  obtain ⟨vs, z⟩ := h.1 n a q
  exact ⟨vs, e _ _ z⟩, h.2.trans e⟩
structure Gd (G : GW) (io : Option Addr) (Z H : Hp) (env : En) (σ : St) : Prop where
  sub : Sub Z H
  len : σ.length = env.length
  sh : ∀ (i : Nat) (d : D), env[i]? = some (SV.sh d) → ∃ v, σ[i]? = some (some v) ∧ Rep G Z v d
  own : ∀ (i : Nat) (m : Bool) (o : OV), env[i]? = some (SV.own m o) → ∃ a ho, σ[i]? = some (some (V.ref a)) ∧ Z a = none ∧ H a = some ho ∧ RepO G Z ho o ∧ (m = true → io = some a)
  dis : ∀ (i j : Nat) (m n : Bool) (x y : OV) (a : Addr), env[i]? = some (SV.own m x) → env[j]? = some (SV.own n y) → σ[i]? = some (some (V.ref a)) → σ[j]? = some (some (V.ref a)) → i = j
  fx : ∀ i : Nat, env[i]? = some SV.fx → ∃ v, TabC.fx = some v ∧ σ[i]? = some (some v)

structure Tr (Z H : Hp) (env : En) (σ : St) (Z' H' : Hp) (env' : En) (σ' : St) : Prop where
  fz : Same Z Z'
  keep : ∀ a o, H a = some o → ¬ Own env σ a → (∀ ps, o ≠ .tbl ps) → H' a = some o
  nw : ∀ a o, Z' a = some o → Z a = some o ∨ H a = none ∨ Own env σ a
  own : ∀ a, Own env' σ' a → Own env σ a ∨ H a = none
  dom : ∀ a, H' a = none → H a = none

section
variable {G : GW} {io : Option Addr} {Z H Z1 H1 Z2 H2 : Hp} {env env1 env2 : En} {σ σ1 σ2 : St}
theorem Tr.refl : Tr Z H env σ Z H env σ := ⟨Same.refl _, fun _ _ h _ _ => h, fun _ _ h => .inl h, fun _ h => .inl h, fun _ h => h⟩
theorem Tr.trans (x : Tr Z H env σ Z1 H1 env1 σ1) (y : Tr Z1 H1 env1 σ1 Z2 H2 env2 σ2) : Tr Z H env σ Z2 H2 env2 σ2 := by
  refine ⟨x.fz.trans y.fz, fun a o h n nt => ?_, fun a o h => ?_, fun a h => ?_, fun a h => x.dom a (y.dom a h)⟩
  · refine y.keep a o (x.keep a o h n nt) (fun q => ?_) nt
    rcases x.own a q with q | q
    · exact n q
    · rw [h] at q; cases q
  · rcases y.nw a o h with q | q | q
    · exact x.nw a o q
    · exact .inr (.inl (x.dom a q))
    · rcases x.own a q with q | q
      · exact .inr (.inr q)
      · exact .inr (.inl q)
  · rcases y.own a h with q | q
    · exact x.own a q
    · exact .inr (x.dom a q)
theorem Gd.zown (g : Gd G io Z H env σ) {a : Addr} (h : Own env σ a) : Z a = none ∧ ∃ o, H a = some o := by
  obtain ⟨i, m, o, e, s⟩ := h
  obtain ⟨b, ho, s2, z, hh, _⟩ := g.own i m o e
  rw [s] at s2
  cases s2
  exact ⟨z, _, hh⟩
theorem Gd.notOwn (g : Gd G io Z H env σ) {a : Addr} {o : HO} (h : Z a = some o) : ¬ Own env σ a := fun q => by
  rw [(g.zown q).1] at h; cases h
theorem Gd.notOwnN (g : Gd G io Z H env σ) {a : Addr} (h : H a = none) : ¬ Own env σ a := fun q => by
  obtain ⟨o, e⟩ := (g.zown q).2
  rw [h] at e; cases e

/-- a pure step: nothing that is tracked changes -/
structure Step (Z H Z' H' : Hp) : Prop where
  hp : Kp H H'
  fz : Same Z Z'
  nw : ∀ a o, Z' a = some o → Z a = some o ∨ H a = none
  sub : Sub Z' H'
theorem Kp.refl {H : Hp} : Kp H H := ⟨fun _ _ h _ => h, fun _ h => h⟩
theorem Kp.trans {H H1 H2 : Hp} (x : Kp H H1) (y : Kp H1 H2) : Kp H H2 := ⟨fun a o h n => y.k a o (x.k a o h n) n, fun a h => x.dom a (y.dom a h)⟩
theorem Kp.of {H H' : Hp} (s : Same H H') : Kp H H' := ⟨fun a o h _ => s a o h, fun a h => s.free h⟩
theorem Sub.free {Z H : Hp} (s : Sub Z H) {p : Addr} (h : H p = none) : Z p = none := s.s.free h
/-- lists and instances: what may be written -/
def Ob (o : HO) : Prop := (∃ xs, o = .lst xs) ∨ (∃ C dx fs, o = .ins C dx fs) ∨ (∃ kvs, o = .dT kvs) ∨ ∃ kvs, o = .dK kvs
theorem Ob.nt {o : HO} (h : Ob o) : ∀ ps, o ≠ .tbl ps := fun ps e => by
  rcases h with ⟨xs, q⟩ | ⟨C, dx, fs, q⟩ | ⟨kvs, q⟩ | ⟨kvs, q⟩ <;> rw [e] at q <;> cases q
theorem RepO.ob {G : GW} {Z : Hp} {ho : HO} {x : OV} (r : RepO G Z ho x) : Ob ho := by
  cases r with
  | lst r => exact .inl ⟨_, rfl⟩
  | ins r => exact .inr (.inl ⟨_, _, _, rfl⟩)
  | dt l r => exact .inr (.inr (.inl ⟨_, rfl⟩))
  | dk l r => exact .inr (.inr (.inr ⟨_, rfl⟩))
theorem tb_keep {T : List (Addr × Str)} {H H' : Hp} (t : LamX.Tabs T H) (e : ∀ b o, H b = some o → ¬ Ob o → H' b = some o) : LamX.Tabs T H' := fun p hp => by
  obtain ⟨ps, h1, h2, h3⟩ := t p hp
  refine ⟨ps, e _ _ h1 (fun q => q.nt ps rfl), h2, fun pos cv hc => ?_⟩
  obtain ⟨c, h4, h5⟩ := h3 pos cv hc
  refine ⟨c, h4, e _ _ h5 fun q => ?_⟩
  rcases q with ⟨xs, q⟩ | ⟨C, dx, fs, q⟩ | ⟨kvs, q⟩ | ⟨kvs, q⟩ <;> (unfold LamX.CodeO at q; cases q)
theorem tb_poke {T : List (Addr × Str)} {H : Hp} {p : Addr} {ho : HO} (t : LamX.Tabs T H) (hp : ∀ o, H p = some o → Ob o) : LamX.Tabs T (upd H p ho) := tb_keep t fun b o h n => by
  rw [upd_ne (fun q => by subst q; exact n (hp o h))]
  exact h
theorem nt_upd' {Z : Hp} {p : Addr} {o : HO} (n : ∀ a ps, Z a ≠ some (.tbl ps)) (ho : ∀ ps, o ≠ .tbl ps) : ∀ a ps, upd Z p o a ≠ some (.tbl ps) := fun a ps e => by
  by_cases q : a = p
  · subst q; rw [upd_same] at e; cases e; exact ho ps rfl
  · rw [upd_ne q] at e; exact n a ps e
theorem Step.refl (s : Sub Z H) : Step Z H Z H := ⟨.refl, Same.refl _, fun _ _ h => .inl h, s⟩
theorem Step.trans (x : Step Z H Z1 H1) (y : Step Z1 H1 Z2 H2) : Step Z H Z2 H2 := by
  refine ⟨x.hp.trans y.hp, x.fz.trans y.fz, fun a o h => ?_, y.sub⟩
  rcases y.nw a o h with q | q
  · exact x.nw a o q
  · exact .inr (x.hp.dom _ q)
theorem same_upd {H : Hp} {p : Addr} {o : HO} (h : H p = none) : Same H (upd H p o) := fun b x e => by
  rw [upd_ne (ne_of_none e h)]
  exact e
theorem same_upd2 {Z H : Hp} {p : Addr} {o : HO} (s : Same Z H) : Same (upd Z p o) (upd H p o) := fun b x e => by
  by_cases q : b = p
  · subst q; rw [upd_same] at e ⊢; exact e
  · rw [upd_ne q] at e ⊢; exact s _ _ e
theorem tb_upd {H : Hp} {p : Addr} {o : HO} (t : LamX.Tabs TabC.T H) (h : H p = none) : LamX.Tabs TabC.T (upd H p o) := t.ext fun b x e => same_upd h b x e
theorem nt_upd {Z : Hp} {p : Addr} {o : HO} (n : ∀ a ps, Z a ≠ some (.tbl ps)) (ho : ∀ ps, o ≠ .tbl ps) : ∀ a ps, upd Z p o a ≠ some (.tbl ps) := fun a ps e => by
  by_cases q : a = p
  · subst q; rw [upd_same] at e; cases e; exact ho ps rfl
  · rw [upd_ne q] at e; exact n a ps e
theorem Sub.upd2 {p : Addr} {o : HO} (s : Sub Z H) (h : H p = none) (ho : ∀ ps, o ≠ .tbl ps) : Sub (upd Z p o) (upd H p o) := ⟨same_upd2 s.s, ml_mono (same_upd (s.free h)) s.ml, nt_upd s.nt ho, tb_upd s.tb h⟩
theorem Sub.updH {p : Addr} {o : HO} (s : Sub Z H) (h : H p = none) : Sub Z (upd H p o) := ⟨s.s.trans (same_upd h), s.ml, s.nt, tb_upd s.tb h⟩
theorem Step.new (s : Sub Z H) {p : Addr} {o : HO} (h : H p = none) (ho : ∀ ps, o ≠ .tbl ps := by (intro _ q; cases q)) : Step Z H (upd Z p o) (upd H p o) := by
  refine ⟨.of (same_upd h), same_upd (s.free h), fun a u e => ?_, s.upd2 h ho⟩
  by_cases q : a = p
  · subst q; exact .inr h
  · rw [upd_ne q] at e; exact .inl e
theorem Gd.step (g : Gd G io Z H env σ) (s : Step Z H Z1 H1) : Gd G io Z1 H1 env σ := by
  refine ⟨s.sub, g.len, fun i d e => ?_, fun i m o e => ?_, g.dis, g.fx⟩
  · obtain ⟨v, h1, h2⟩ := g.sh i d e
    exact ⟨v, h1, h2.mono s.fz⟩
  · obtain ⟨a, ho, h1, h2, h3, h4, h5⟩ := g.own i m o e
    refine ⟨a, ho, h1, ?_, s.hp.k _ _ h3 h4.ob.nt, h4.mono s.fz, h5⟩
    cases q : Z1 a with
    | none => rfl
    | some u =>
      rcases s.nw a u q with q | q
      · rw [h2] at q; cases q
      · rw [h3] at q; cases q
theorem Tr.step (s : Step Z H Z1 H1) : Tr Z H env σ Z1 H1 env σ :=
  ⟨s.fz, fun a o h _ nt => s.hp.k a o h nt, fun a o h => by
    rcases s.nw a o h with q | q
    · exact .inl q
    · exact .inr (.inl q), fun a h => .inl h, fun a h => s.hp.dom a h⟩

theorem get_set_ne {α : Type} {l : List α} {i j : Nat} {x : α} (h : i ≠ j) : (l.set i x)[j]? = l[j]? := List.getElem?_set_ne h
theorem get_set {α : Type} {l : List α} {i : Nat} {x : α} (h : i < l.length) : (l.set i x)[i]? = some x := List.getElem?_set_self h
theorem fx_set2 (g : Gd G io Z H env σ) {i j : Nat} {s : SV} {v : Option V} (h : (env.set i s)[j]? = some SV.fx) (n : s ≠ .fx) : ∃ u, TabC.fx = some u ∧ (σ.set i v)[j]? = some (some u) := by
  by_cases q : i = j
  · subst q
    by_cases hl : i < env.length
    · rw [get_set hl] at h; cases h; exact absurd rfl n
    · rw [List.getElem?_eq_none (by rw [List.length_set]; omega)] at h; cases h
  · rw [get_set_ne q] at h ⊢
    exact g.fx j h
theorem fx_set1 (g : Gd G io Z H env σ) {i j : Nat} {s : SV} (h : (env.set i s)[j]? = some SV.fx) (n : s ≠ .fx) : ∃ u, TabC.fx = some u ∧ σ[j]? = some (some u) := by
  by_cases q : i = j
  · subst q
    by_cases hl : i < env.length
    · rw [get_set hl] at h; cases h; exact absurd rfl n
    · rw [List.getElem?_eq_none (by rw [List.length_set]; omega)] at h; cases h
  · rw [get_set_ne q] at h
    exact g.fx j h
/-- a slot becomes unknown -/
theorem Gd.setUn (g : Gd G io Z H env σ) {i : Nat} {v : Option V} : Gd G io Z H (env.set i .un) (σ.set i v) := by
  have key : ∀ {j : Nat} {s : SV}, (env.set i .un)[j]? = some s → s ≠ .un → i ≠ j ∧ env[j]? = some s := fun {j s} h n => by
    by_cases q : i = j
    · subst q
      by_cases hl : i < env.length
      · rw [get_set hl] at h; cases h; exact absurd rfl n
      · rw [List.getElem?_eq_none (by rw [List.length_set]; omega)] at h; cases h
    · rw [get_set_ne q] at h; exact ⟨q, h⟩
  refine ⟨g.sub, by rw [List.length_set, List.length_set]; exact g.len, fun j e h => ?_, fun j m o h => ?_, fun j k m n x y a h1 h2 h3 h4 => ?_, fun j h => fx_set2 g h (by intro z; cases z)⟩
  · obtain ⟨q, h⟩ := key h (by intro z; cases z)
    rw [get_set_ne q]
    exact g.sh j e h
  · obtain ⟨q, h⟩ := key h (by intro z; cases z)
    rw [get_set_ne q]
    exact g.own j m o h
  · obtain ⟨q1, a1⟩ := key h1 (by intro z; cases z)
    obtain ⟨q2, a2⟩ := key h2 (by intro z; cases z)
    rw [get_set_ne q1] at h3
    rw [get_set_ne q2] at h4
    exact g.dis j k m n x y a a1 a2 h3 h4
theorem own_setUn {i : Nat} {v : Option V} {a : Addr} (h : Own (env.set i .un) (σ.set i v) a) : Own env σ a := by
  obtain ⟨j, m, o, h1, h2⟩ := h
  have nj : i ≠ j := fun q => by
    subst q
    by_cases hl : i < env.length
    · rw [get_set hl] at h1; cases h1
    · rw [List.getElem?_eq_none (by rw [List.length_set]; omega)] at h1; cases h1
  rw [get_set_ne nj] at h1 h2
  exact ⟨j, m, o, h1, h2⟩
theorem Tr.setUn {i : Nat} {v : Option V} : Tr Z H env σ Z H (env.set i .un) (σ.set i v) :=
  ⟨Same.refl _, fun _ _ h _ _ => h, fun _ _ h => .inl h, fun a h => .inl (own_setUn h), fun _ h => h⟩
/-- a slot becomes a shared value -/
theorem Gd.setSh (g : Gd G io Z H env σ) {i : Nat} {v : V} {d : D} (r : Rep G Z v d) : Gd G io Z H (env.set i (SV.sh d)) (σ.set i (some v)) := by
  refine ⟨g.sub, by rw [List.length_set, List.length_set]; exact g.len, fun j e h => ?_, fun j m o h => ?_, fun j k m n x y a h1 h2 h3 h4 => ?_, fun j h => fx_set2 g h (by intro z; cases z)⟩
  · by_cases q : i = j
    · subst q
      by_cases hl : i < env.length
      · rw [get_set hl] at h
        cases h
        exact ⟨v, get_set (by rw [g.len]; exact hl), r⟩
      · rw [List.getElem?_eq_none (by rw [List.length_set]; omega)] at h; cases h
    · rw [get_set_ne q] at h ⊢
      exact g.sh j e h
  · by_cases q : i = j
    · subst q
      by_cases hl : i < env.length
      · rw [get_set hl] at h; cases h
      · rw [List.getElem?_eq_none (by rw [List.length_set]; omega)] at h; cases h
    · rw [get_set_ne q] at h ⊢
      exact g.own j m o h
  · have nj : ∀ j m x, (env.set i (SV.sh d))[j]? = some (SV.own m x) → i ≠ j := fun j m x h q => by
      subst q
      by_cases hl : i < env.length
      · rw [get_set hl] at h; cases h
      · rw [List.getElem?_eq_none (by rw [List.length_set]; omega)] at h; cases h
    have a1 := nj j m x h1
    have a2 := nj k n y h2
    rw [get_set_ne a1] at h1 h3
    rw [get_set_ne a2] at h2 h4
    exact g.dis j k m n x y a h1 h2 h3 h4
theorem own_setSh {i : Nat} {v : V} {d : D} {a : Addr} (h : Own (env.set i (SV.sh d)) (σ.set i (some v)) a) : Own env σ a := by
  obtain ⟨j, m, o, h1, h2⟩ := h
  have nj : i ≠ j := fun q => by
    subst q
    by_cases hl : i < env.length
    · rw [get_set hl] at h1; cases h1
    · rw [List.getElem?_eq_none (by rw [List.length_set]; omega)] at h1; cases h1
  rw [get_set_ne nj] at h1 h2
  exact ⟨j, m, o, h1, h2⟩
theorem Tr.setSh {i : Nat} {v : V} {d : D} : Tr Z H env σ Z H (env.set i (SV.sh d)) (σ.set i (some v)) :=
  ⟨Same.refl _, fun _ _ h _ _ => h, fun _ _ h => .inl h, fun a h => .inl (own_setSh h), fun _ h => h⟩
/-- a slot becomes an owned new object -/
theorem Gd.setOwn (g : Gd G io Z H env σ) {i : Nat} {p : Addr} {ho : HO} {o : OV} (h1 : H p = some ho) (h2 : Z p = none) (h3 : ¬ Own env σ p) (r : RepO G Z ho o) : Gd G io Z H (env.set i (SV.own false o)) (σ.set i (some (V.ref p))) := by
  refine ⟨g.sub, by rw [List.length_set, List.length_set]; exact g.len, fun j e h => ?_, fun j m x h => ?_, fun j k m n x y a q1 q2 q3 q4 => ?_, fun j h => fx_set2 g h (by intro z; cases z)⟩
  · by_cases q : i = j
    · subst q
      by_cases hl : i < env.length
      · rw [get_set hl] at h; cases h
      · rw [List.getElem?_eq_none (by rw [List.length_set]; omega)] at h; cases h
    · rw [get_set_ne q] at h ⊢
      exact g.sh j e h
  · by_cases q : i = j
    · subst q
      by_cases hl : i < env.length
      · rw [get_set hl] at h; cases h
        exact ⟨p, ho, get_set (by rw [g.len]; exact hl), h2, h1, r, fun z => by cases z⟩
      · rw [List.getElem?_eq_none (by rw [List.length_set]; omega)] at h; cases h
    · rw [get_set_ne q] at h ⊢
      exact g.own j m x h
  · have lt : ∀ j m x, (env.set i (SV.own false o))[j]? = some (SV.own m x) → i = j → i < env.length := fun j m x h q => by
      subst q
      by_cases hl : i < env.length
      · exact hl
      · rw [List.getElem?_eq_none (by rw [List.length_set]; omega)] at h; cases h
    by_cases ej : i = j
    · by_cases ek : i = k
      · omega
      · exfalso
        have hl := lt j m x q1 ej
        subst ej
        rw [get_set (by rw [g.len]; exact hl)] at q3
        cases q3
        rw [get_set_ne ek] at q2 q4
        exact h3 ⟨k, n, y, q2, q4⟩
    · by_cases ek : i = k
      · exfalso
        have hl := lt k n y q2 ek
        subst ek
        rw [get_set (by rw [g.len]; exact hl)] at q4
        cases q4
        rw [get_set_ne ej] at q1 q3
        exact h3 ⟨j, m, x, q1, q3⟩
      · rw [get_set_ne ej] at q1 q3
        rw [get_set_ne ek] at q2 q4
        exact g.dis j k m n x y a q1 q2 q3 q4
theorem own_setOwn {i : Nat} {p : Addr} {o : OV} {m : Bool} {a : Addr} (h : Own (env.set i (SV.own m o)) (σ.set i (some (V.ref p))) a) : Own env σ a ∨ a = p := by
  obtain ⟨j, m, x, h1, h2⟩ := h
  by_cases q : i = j
  · subst q
    by_cases hl : i < σ.length
    · rw [get_set hl] at h2; cases h2; exact .inr rfl
    · rw [List.getElem?_eq_none (by rw [List.length_set]; omega)] at h2; cases h2
  · rw [get_set_ne q] at h1 h2
    exact .inl ⟨j, m, x, h1, h2⟩
/-- an owned object changes -/
theorem Gd.write (g : Gd G io Z H env σ) {i : Nat} {m : Bool} {p : Addr} {o o' : OV} {ho : HO} (e : env[i]? = some (SV.own m o)) (s : σ[i]? = some (some (V.ref p))) (r : RepO G Z ho o') : Gd G io Z (upd H p ho) (env.set i (SV.own m o')) σ := by
  obtain ⟨q, hq, s2, z, hh, rq, iq⟩ := g.own i m o e
  have ep := s
  rw [s] at s2; cases s2
  have hi : i < env.length := (List.getElem?_eq_some_iff.mp e).1
  refine ⟨⟨fun b x hb => ?_, g.sub.ml, g.sub.nt, tb_poke g.sub.tb (fun o ho => by rw [hh] at ho; cases ho; exact rq.ob)⟩, by rw [List.length_set]; exact g.len, fun j d h => ?_, fun j n x h => ?_, fun j k n1 n2 x y a q1 q2 q3 q4 => ?_, fun j h => fx_set1 g h (by intro z; cases z)⟩
  · rw [upd_ne (fun hbp => by subst hbp; rw [z] at hb; cases hb)]
    exact g.sub.s b x hb
  · by_cases q : i = j
    · subst q; rw [get_set hi] at h; cases h
    · rw [get_set_ne q] at h; exact g.sh j d h
  · by_cases q : i = j
    · subst q; rw [get_set hi] at h; cases h
      exact ⟨p, ho, s, z, upd_same, r, iq⟩
    · rw [get_set_ne q] at h
      obtain ⟨b, hb, t1, t2, t3, t4, t5⟩ := g.own j n x h
      refine ⟨b, hb, t1, t2, ?_, t4, t5⟩
      rw [upd_ne (fun hbp => by subst hbp; exact q (g.dis i j m n o x b e h s t1))]
      exact t3
  · have old : ∀ j n x, (env.set i (SV.own m o'))[j]? = some (SV.own n x) → ∃ n' x', env[j]? = some (SV.own n' x') := fun j n x h => by
      by_cases q : i = j
      · subst q; exact ⟨m, o, e⟩
      · rw [get_set_ne q] at h; exact ⟨n, x, h⟩
    obtain ⟨_, _, a1⟩ := old j n1 x q1
    obtain ⟨_, _, a2⟩ := old k n2 y q2
    exact g.dis j k _ _ _ _ a a1 a2 q3 q4
theorem own_write {i : Nat} {m : Bool} {o o' : OV} {a : Addr} (e : env[i]? = some (SV.own m o)) (h : Own (env.set i (SV.own m o')) σ a) : Own env σ a := by
  obtain ⟨j, n, x, h1, h2⟩ := h
  by_cases q : i = j
  · subst q; exact ⟨i, m, o, e, h2⟩
  · rw [get_set_ne q] at h1; exact ⟨j, n, x, h1, h2⟩
theorem Tr.write {i : Nat} {m : Bool} {p : Addr} {o o' : OV} {ho : HO} (e : env[i]? = some (SV.own m o)) (s : σ[i]? = some (some (V.ref p))) : Tr Z H env σ Z (upd H p ho) (env.set i (SV.own m o')) σ := by
  refine ⟨Same.refl _, fun b x hb n _ => ?_, fun _ _ h => .inl h, fun a h => .inl (own_write e h), fun a h => ?_⟩
  · rw [upd_ne (fun q => by subst q; exact n ⟨i, m, o, e, s⟩)]
    exact hb
  · by_cases q : a = p
    · subst q; rw [upd_same] at h; cases h
    · rw [upd_ne q] at h; exact h
/-- an owned object is shared from now on -/
theorem Gd.freeze (g : Gd G io Z H env σ) {i : Nat} {p : Addr} {o : OV} {ho : HO} (e : env[i]? = some (SV.own false o)) (s : σ[i]? = some (some (V.ref p))) (hh : H p = some ho) {d : D} (r : Rep G (upd Z p ho) (.ref p) d) : Gd G io (upd Z p ho) H (env.set i (SV.sh d)) σ := by
  obtain ⟨q, hq, s2, z, h2, rq, iq⟩ := g.own i false o e
  rw [s] at s2; cases s2
  have hi : i < env.length := (List.getElem?_eq_some_iff.mp e).1
  have mo : Same Z (upd Z p ho) := same_upd z
  have hob : Ob ho := by
    rw [hh] at h2; cases h2; exact rq.ob
  refine ⟨⟨fun b x hb => ?_, ml_mono mo g.sub.ml, nt_upd' g.sub.nt hob.nt, g.sub.tb⟩, by rw [List.length_set]; exact g.len, fun j d' h => ?_, fun j n x h => ?_, fun j k n1 n2 x y a q1 q2 q3 q4 => ?_, fun j h => fx_set1 g h (by intro z; cases z)⟩
  · by_cases q : b = p
    · subst q; rw [upd_same] at hb; cases hb; exact hh
    · rw [upd_ne q] at hb; exact g.sub.s _ _ hb
  · by_cases q : i = j
    · subst q; rw [get_set hi] at h; cases h; exact ⟨.ref p, s, r⟩
    · rw [get_set_ne q] at h
      obtain ⟨v, h1, h2⟩ := g.sh j d' h
      exact ⟨v, h1, h2.mono mo⟩
  · by_cases q : i = j
    · subst q; rw [get_set hi] at h; cases h
    · rw [get_set_ne q] at h
      obtain ⟨b, hb, t1, t2, t3, t4, t5⟩ := g.own j n x h
      refine ⟨b, hb, t1, ?_, t3, t4.mono mo, t5⟩
      rw [upd_ne (fun hbp => by subst hbp; exact q (g.dis i j false n o x b e h s t1))]
      exact t2
  · have nj : ∀ j n x, (env.set i (SV.sh d))[j]? = some (SV.own n x) → i ≠ j := fun j n x h q => by
      subst q; rw [get_set hi] at h; cases h
    have b1 := nj j _ _ q1
    have b2 := nj k _ _ q2
    rw [get_set_ne b1] at q1
    rw [get_set_ne b2] at q2
    exact g.dis j k _ _ _ _ a q1 q2 q3 q4
theorem Tr.freeze {i : Nat} {p : Addr} {o : OV} {ho : HO} {d : D} (z : Z p = none) (e : env[i]? = some (SV.own false o)) (s : σ[i]? = some (some (V.ref p))) : Tr Z H env σ (upd Z p ho) H (env.set i (SV.sh d)) σ := by
  refine ⟨same_upd z, fun _ _ h _ _ => h, fun a x h => ?_, fun a h => .inl ?_, fun _ h => h⟩
  · by_cases q : a = p
    · subst q; exact .inr (.inr ⟨i, false, o, e, s⟩)
    · rw [upd_ne q] at h; exact .inl h
  · obtain ⟨j, n, x, h1, h2⟩ := h
    have nj : i ≠ j := fun q => by
      subst q
      have hi : i < env.length := (List.getElem?_eq_some_iff.mp e).1
      rw [get_set hi] at h1; cases h1
    rw [get_set_ne nj] at h1
    exact ⟨j, n, x, h1, h2⟩
/-- another object, tracked but not of the environment, changes -/
theorem Gd.poke (g : Gd G io Z H env σ) {p : Addr} {ho : HO} (z : Z p = none) (n : ¬ Own env σ p) (hp : ∀ o, H p = some o → Ob o) : Gd G io Z (upd H p ho) env σ := by
  refine ⟨⟨fun b x hb => ?_, g.sub.ml, g.sub.nt, tb_poke g.sub.tb hp⟩, g.len, g.sh, fun j m o h => ?_, g.dis, g.fx⟩
  · rw [upd_ne (fun q => by subst q; rw [z] at hb; cases hb)]
    exact g.sub.s _ _ hb
  · obtain ⟨b, hb, t1, t2, t3, t4, t5⟩ := g.own j m o h
    refine ⟨b, hb, t1, t2, ?_, t4, t5⟩
    rw [upd_ne (fun q => by subst q; exact n ⟨j, m, o, h, t1⟩)]
    exact t3
/-- .. and becomes frozen -/
theorem Gd.fix (g : Gd G io Z H env σ) {p : Addr} {ho : HO} (z : Z p = none) (n : ¬ Own env σ p) (hh : H p = some ho) (hob : ∀ ps, ho ≠ .tbl ps) : Gd G io (upd Z p ho) H env σ := by
  have mo : Same Z (upd Z p ho) := same_upd z
  refine ⟨⟨fun b x hb => ?_, ml_mono mo g.sub.ml, nt_upd' g.sub.nt hob, g.sub.tb⟩, g.len, fun i d h => ?_, fun j m o h => ?_, g.dis, g.fx⟩
  · by_cases q : b = p
    · subst q; rw [upd_same] at hb; cases hb; exact hh
    · rw [upd_ne q] at hb; exact g.sub.s _ _ hb
  · obtain ⟨v, h1, h2⟩ := g.sh i d h
    exact ⟨v, h1, h2.mono mo⟩
  · obtain ⟨b, hb, t1, t2, t3, t4, t5⟩ := g.own j m o h
    refine ⟨b, hb, t1, ?_, t3, t4.mono mo, t5⟩
    rw [upd_ne (fun q => by subst q; exact n ⟨j, m, o, h, t1⟩)]
    exact t2
end
end Ax
set_option Elab.async false
set_option linter.all false
set_option maxRecDepth 100000
set_option maxHeartbeats 2000000
/-! Ax2: readings; expressions. -/
namespace Ax
open PySem PySem.Spec L2
variable [TabC]

theorem sub_l {K : PySem.W.Frag} {Z H : Hp} {a : Addr} {vs : List V} (s : Same Z H) (h : Z a = some (.lst vs)) : SqL K H a vs := .inl (.inl (s _ _ h))
theorem sub_f {K K' : PySem.W.Frag} {Z H : Hp} {a : Addr} {vs : List V} (hK : K = K') (s : Same Z H) (h : SqL K' Z a vs) : SqL K H a vs := by rw [hK]; exact Same.seq s h
theorem sub_t {K : PySem.W.Frag} {Z H : Hp} {a : Addr} {vs : List V} (s : Same Z H) (h : Z a = some (.tup vs)) : SqT K H a vs := .inl (.inl (s _ _ h))

/-- the end of a piece of code: a value and the environment, an exception, or: not covered -/
inductive O (α : Type) where
  | ok (x : α) (e : En) | ex (c : Nat) (p : List D) (e : En) | bad
def O.bind {α β : Type} (o : O α) (k : α → En → O β) : O β := match o with
  | .ok x e => k x e
  | .ex c p e => .ex c p e
  | .bad => .bad
abbrev SE := En → O D
abbrev SL := En → O (List D)
abbrev SB := En → O Bool

def XOb (G : GW) (Z H : Hp) (c : Nat) (p : List D) (od : Option Addr) : Prop :=
  (∃ dd vs, od = some dd ∧ H dd = some (.xd ((G.flds c).zip vs)) ∧ vs.length = (G.flds c).length ∧ Reps G Z vs p) ∨ (od = none ∧ p = [])

/-- what a proof works in -/
structure Kx where
  G : GW
  io : Option Addr
  W : WX

section
variable {γ α β : Type}
def Wish (C : Kx) (R : Hp → γ → α → Prop) (σ : St) (Z H : Hp) (env : En) (r : O α) (Q : γ → Hp → Prop) : Prop := match r with
  | .ok x env' => ∀ v H' Z', Tr Z H env σ Z' H' env' σ → Gd C.G C.io Z' H' env' σ → R Z' v x → Q v H'
  | .ex c p env' => ∀ H' Z' od, Tr Z H env σ Z' H' env' σ → Gd C.G C.io Z' H' env' σ → XOb C.G Z' H' c p od → C.W (.ref (C.G.cls c)) od σ H'
  | .bad => False
def tX (C : Kx) (R : Hp → γ → α → Prop) (f : En → O α) : St → Hp → (γ → Hp → Prop) → Prop := fun σ H Q => ∃ Z env, Gd C.G C.io Z H env σ ∧ Wish C R σ Z H env (f env) Q
variable {C : Kx} {R : Hp → γ → α → Prop} {σ : St} {Z H Z1 H1 : Hp} {env env1 : En} {Q : γ → Hp → Prop}
theorem Wish.shift {r : O α} (t : Tr Z H env σ Z1 H1 env1 σ) (h : Wish C R σ Z H env r Q) : Wish C R σ Z1 H1 env1 r Q := by
  cases r with
  | ok x e => exact fun v H' Z' t' g q => h v H' Z' (t.trans t') g q
  | ex c p e => exact fun H' Z' od t' g q => h H' Z' od (t.trans t') g q
  | bad => exact h
/-- one piece, then another -/
theorem Wish.bind {δ : Type} {S : Hp → δ → β → Prop} {o : O β} {k : β → En → O α} (h : Wish C R σ Z H env (o.bind k) Q) :
    Wish C S σ Z H env o (fun v H1 => ∃ Z1 x env1, Tr Z H env σ Z1 H1 env1 σ ∧ Gd C.G C.io Z1 H1 env1 σ ∧ S Z1 v x ∧ Wish C R σ Z1 H1 env1 (k x env1) Q) := by
  cases o with
  | ok x e => exact fun v H' Z' t g q => ⟨Z', x, e, t, g, q, h.shift t⟩
  | ex c p e => exact h
  | bad => exact h
theorem Wish.mono {Q' : γ → Hp → Prop} {r : O α} (h : Wish C R σ Z H env r Q) (m : ∀ v H', Q v H' → Q' v H') : Wish C R σ Z H env r Q' := by
  cases r with
  | ok x e => exact fun v H' Z' t g q => m _ _ (h v H' Z' t g q)
  | ex c p e => exact h
  | bad => exact h
/-- a value is there -/
theorem Wish.ret {x : α} {v : γ} (h : Wish C R σ Z H env (.ok x env) Q) (g : Gd C.G C.io Z H env σ) (s : Step Z H Z1 H1) (r : R Z1 v x) : Q v H1 := h v H1 Z1 (.step s) (g.step s) r
theorem Wish.ret0 {x : α} {v : γ} (h : Wish C R σ Z H env (.ok x env) Q) (g : Gd C.G C.io Z H env σ) (r : R Z v x) : Q v H := h.ret g (.refl g.sub) r
end

abbrev tE (C : Kx) (f : SE) : TE := tX C (Rep C.G) f
abbrev tL (C : Kx) (f : SL) : TA := tX C (Reps C.G) f
abbrev tBo (C : Kx) (f : SB) : TT := tX C (fun _ (b c : Bool) => b = c) f
theorem PE.imp {X : Cx} {e : Expr} {t t' : TE} (h : PE X e t) (m : ∀ σ H Q, t' σ H Q → t σ H Q) : PE X e t' := ⟨fun pins s σ H Q I q => h.run pins s σ H Q I (m σ H Q q)⟩
theorem PA.imp {X : Cx} {e : List Expr} {t t' : TA} (h : PA X e t) (m : ∀ σ H Q, t' σ H Q → t σ H Q) : PA X e t' := ⟨fun pos pins s σ H Q I q => h.run pos pins s σ H Q I (m σ H Q q)⟩
theorem PT.imp {X : Cx} {e : Expr} {t t' : TT} (h : PT X e t) (m : ∀ σ H Q, t' σ H Q → t σ H Q) : PT X e t' := ⟨fun pins s σ H Q I q => h.run pins s σ H Q I (m σ H Q q)⟩
theorem PW.imp {X : Cx} {e : Expr} {t t' : TT} (h : PW X e t) (m : ∀ σ H Q, t' σ H Q → t σ H Q) : PW X e t' := ⟨fun wh pins s σ H Q I q => h.run wh pins s σ H Q I (m σ H Q q)⟩
theorem PS.imp {X : Cx} {e : Stmt} {t t' : TS} (h : PS X e t) (m : ∀ D σ H, t' D σ H → t D σ H) : PS X e t' := ⟨fun pins s σ H D I q => h.run pins s σ H D I (m D σ H q)⟩
theorem PSs.imp {X : Cx} {e : List Stmt} {t t' : TS} (h : PSs X e t) (m : ∀ D σ H, t' D σ H → t D σ H) : PSs X e t' := ⟨fun pins s σ H D I q => h.run pins s σ H D I (m D σ H q)⟩

section
variable {X : Cx} {C : Kx} {a b c e : Expr} {fa fb fc : SE} {pos : Pos}
/-! ### leaves -/
def sC (d : D) : SE := fun env => .ok d env
theorem pd_c {v : V} {d : D} (h : PE X e (tC v)) (r : ∀ Z, Rep C.G Z v d) : PE X e (tE C (sC d)) := PE.imp h fun σ H Q ⟨Z, env, g, q⟩ => q.ret0 g (r Z)
theorem pd_int {i : Int} {j} : PE X (.Constant (.int i) j pos) (tE C (sC (.int i))) := pd_c pe_int fun _ => .int i
theorem pd_bl {i : Bool} {j} : PE X (.Constant (.bool i) j pos) (tE C (sC (.bl i))) := pd_c pe_bl fun _ => .bl i
theorem pd_non {j} : PE X (.Constant .none j pos) (tE C (sC .non)) := pd_c pe_non fun _ => .non
theorem pd_str {i : Str} {j} : PE X (.Constant (.str i) j pos) (tE C (sC (.str i))) := pd_c pe_str fun _ => .str i
/-- a name in slot i -/
def sV (i : Nat) : SE := fun env => match env[i]? with
  | some (.sh d) => .ok d env
  | some (.own false o) => (match o.fz with
    | some d => .ok d (env.set i (.sh d))
    | none => .bad)
  | _ => .bad
theorem rep_frozen {G : GW} {Z : Hp} {p : Addr} {ho : HO} {o : OV} {d : D} (z : Z p = none) (u : Unm p) (r : RepO G Z ho o) (f : o.fz = some d) : Rep G (upd Z p ho) (.ref p) d := by
  cases r with
  | lst r => cases f; exact .lst upd_same u (r.mono (same_upd z))
  | _ => cases f
theorem pd_v {i : Nat} {x : Str} (h : PE X (.Name x pos) (tVar i)) : PE X (.Name x pos) (tE C (sV i)) := PE.imp h fun σ H Q ⟨Z, env, g, q⟩ => by
  unfold sV at q
  split at q
  · rename_i d e
    obtain ⟨v, h1, h2⟩ := g.sh i d e
    exact ⟨v, h1, q.ret0 g h2⟩
  · rename_i o e
    obtain ⟨p, ho, h1, z, h2, r, _⟩ := g.own i false o e
    split at q
    · rename_i d hf
      exact ⟨.ref p, h1, q _ _ _ (.freeze z e h1) (g.freeze e h1 h2 (rep_frozen z (g.sub.un z) r hf)) (rep_frozen z (g.sub.un z) r hf)⟩
    · exact q.elim
  · exact q.elim

/-! ### two operands -/
def rD (G : GW) (op : D → D → Option D) : R2 := fun x y H Q => ∃ Z d1 d2 d, Sub Z H ∧ Rep G Z x d1 ∧ Rep G Z y d2 ∧ op d1 d2 = some d ∧ ∀ v H' Z', Step Z H Z' H' → Rep G Z' v d → Q v H'
def O.of {α : Type} (o : Option α) (e : En) : O α := match o with | some x => .ok x e | none => .bad
def s2 (op : D → D → Option D) (fa fb : SE) : SE := fun env => (fa env).bind fun x e1 => (fb e1).bind fun y e2 => .of (op x y) e2
theorem two_imp {op : D → D → Option D} {σ : St} {H : Hp} {Q : VK} (h : tE C (s2 op fa fb) σ H Q) : tOp (rD C.G op) (tE C fa) (tE C fb) σ H Q := by
  obtain ⟨Z, env, g, q⟩ := h
  refine ⟨Z, env, g, (Wish.bind (S := Rep C.G) q).mono fun v H1 ⟨Z1, x, e1, t1, g1, r1, w1⟩ => ⟨Z1, e1, g1, (Wish.bind (S := Rep C.G) w1).mono fun u H2 ⟨Z2, y, e2, t2, g2, r2, w2⟩ => ?_⟩⟩
  unfold O.of at w2
  split at w2
  · rename_i d hd
    exact ⟨Z2, x, y, d, g2.sub, r1.mono t2.fz, r2, hd, fun v' H' Z' s r => w2.ret g2 s r⟩
  · exact w2.elim
end
end Ax
set_option Elab.async false
set_option linter.all false
set_option maxRecDepth 100000
set_option maxHeartbeats 2000000
/-! Ax3: operators on data. -/
namespace Ax
open PySem PySem.Spec L2
variable [TabC]

/-! ### numbers -/
def addD : D → D → Option D
  | .int i, .int j => some (.int (i + j))
  | .lst xs, .lst ys => if xs.length + ys.length ≤ sizeLine then some (.lst (xs ++ ys)) else none
  | .tup xs, .tup ys => if xs.length + ys.length ≤ sizeLine then some (.tup (xs ++ ys)) else none
  | _, _ => none
def subD : D → D → Option D
  | .int i, .int j => some (.int (i - j))
  | _, _ => none
def mulOk (i j : Int) : Bool := (decide (-(2 ^ 64) < i) && decide (i < 2 ^ 64)) || (decide (-(2 ^ 64) < j) && decide (j < 2 ^ 64))
def mulD : D → D → Option D
  | .int i, .int j => if mulOk i j then some (.int (i * j)) else none
  | .lst xs, .int k => if -(2 ^ 63) ≤ k ∧ k < 2 ^ 63 ∧ xs.length * k.toNat ≤ sizeLine then some (.lst (List.replicate k.toNat xs).flatten) else none
  | _, _ => none
def divD : D → D → Option D
  | .int i, .int j => if 0 < j ∧ j < 2 ^ 64 then some (.int (i / j)) else none
  | _, _ => none
def modD : D → D → Option D
  | .int i, .int j => if 0 < j then some (.int (i % j)) else none
  | _, _ => none
def powD : D → D → Option D
  | .int i, .int j => if 0 ≤ j ∧ j ≤ 1000000 ∧ i.natAbs < 2 ^ 64 then some (.int (i ^ j.toNat)) else none
  | _, _ => none
def cmpD (p : Int → Int → Bool) : D → D → Option D
  | .int i, .int j => some (.bl (p i j))
  | _, _ => none
def isND (neg : Bool) : D → D → Option D
  | .non, .non => some (.bl (!neg))
  | _, .non => some (.bl neg)
  | _, _ => none

mutual
def D.py : D → Option PyData
  | .non => some .none
  | .bl b => some (.bool b)
  | .int i => some (.int i)
  | .str s => some (.str s)
  | .tup xs => (pyAll xs).map .tuple
  | .lst xs => (pyAll xs).map .list
  | .frl _ => none
  | .ty _ => none
  | .cl _ => none
  | .fn _ => none
  | .obj _ _ => none
  | .mk _ xs => (pyAll xs).map .list
  | .dic _ _ => none
def pyAll : List D → Option (List PyData)
  | [] => some []
  | d :: ds => match D.py d, pyAll ds with
    | some y, some r => some (y :: r)
    | _, _ => none
end
def eqD (neg : Bool) (x y : D) : Option D := match x.py, y.py with
  | some a, some b => if SeqAt.shaped a = true ∧ SeqAt.shaped b = true then some (.bl (if neg then !PyData.eqv a b else PyData.eqv a b)) else none
  | _, _ => none

section
variable {G : GW} {Z H : Hp} {K : PySem.W.Frag}
mutual
theorem rep_dp (s : Same Z H) : ∀ {v : V} {d : D} {p : PyData}, Rep G Z v d → d.py = some p → Dp K H v p
  | _, _, _, .non, e => by simp [D.py] at e; subst e; exact .non
  | _, _, _, .bl b, e => by simp [D.py] at e; subst e; exact .bl b
  | _, _, _, .int i, e => by simp [D.py] at e; subst e; exact .int i
  | _, _, _, .str x, e => by simp [D.py] at e; subst e; exact .str x
  | _, _, _, .ty v, e => by simp [D.py] at e
  | _, _, _, .cl v k, e => by simp [D.py] at e
  | _, _, _, .fn v k, e => by simp [D.py] at e
  | _, _, _, .tup h r, e => by
    simp only [D.py, Option.map_eq_some_iff] at e
    obtain ⟨ps, e, rfl⟩ := e
    exact .tup (sub_t s h) (reps_dp s r e)
  | _, _, _, .lst h u r, e => by
    simp only [D.py, Option.map_eq_some_iff] at e
    obtain ⟨ps, e, rfl⟩ := e
    exact .lst (sub_l s h) (reps_dp s r e)
  | _, _, _, .mk h u r, e => by
    simp only [D.py, Option.map_eq_some_iff] at e
    obtain ⟨ps, e, rfl⟩ := e
    exact .lst (sub_l s h) (reps_dp s r e)
  | _, _, _, .dic h l r, e => by simp [D.py] at e
  | _, _, _, .frl h u r, e => by simp [D.py] at e
  | _, _, _, .obj k h n r, e => by simp [D.py] at e
theorem reps_dp (s : Same Z H) : ∀ {vs : List V} {ds : List D} {ps : List PyData}, Reps G Z vs ds → pyAll ds = some ps → DpAll K H vs ps
  | _, _, _, .nil, e => by simp [pyAll] at e; subst e; exact .nil
  | _, _, _, .cons h r, e => by
    rw [pyAll] at e
    split at e
    · rename_i x q h1 h2
      cases e
      exact .cons (rep_dp s h h1) (reps_dp s r h2)
    · cases e
end
end

section
variable {X : Cx} {G : GW}
theorem opd_sub : OpR X (binaryOp .Sub) (rD G subD) := by
  intro pins s σ H x y v u Q I rx ry ⟨Z, d1, d2, d, sub, r1, r2, e, q⟩
  cases r1 <;> cases r2 <;> first
    | (cases e; done)
    | (cases e; exact op_sub pins s σ H _ _ v u Q I rx ry ⟨_, _, rfl, rfl, q _ _ _ (.refl sub) (.int _)⟩)
theorem opd_div : OpR X (binaryOp .FloorDiv) (rD G divD) := by
  intro pins s σ H x y v u Q I rx ry ⟨Z, d1, d2, d, sub, r1, r2, e, q⟩
  cases r1 <;> cases r2 <;> first
    | (cases e; done)
    | skip
  rename_i i j
  simp only [divD] at e
  split at e
  · rename_i c
    cases e
    exact op_fdivW pins s σ H _ _ v u Q I rx ry ⟨_, _, rfl, rfl, wide_div (b := 64) c.1 (by omega) (by decide) (by decide), q _ _ _ (.refl sub) (.int _)⟩
  · cases e
theorem opd_mod : OpR X (binaryOp .Mod) (rD G modD) := by
  intro pins s σ H x y v u Q I rx ry ⟨Z, d1, d2, d, sub, r1, r2, e, q⟩
  cases r1 <;> cases r2 <;> first
    | (cases e; done)
    | skip
  rename_i i j
  simp only [modD] at e
  split at e
  · rename_i c
    cases e
    exact op_mod pins s σ H _ _ v u Q I rx ry ⟨_, _, rfl, rfl, c, q _ _ _ (.refl sub) (.int _)⟩
  · cases e
theorem opd_pow : OpR X (binaryOp .Pow) (rD G powD) := by
  intro pins s σ H x y v u Q I rx ry ⟨Z, d1, d2, d, sub, r1, r2, e, q⟩
  cases r1 <;> cases r2 <;> first
    | (cases e; done)
    | skip
  rename_i i j
  simp only [powD] at e
  split at e
  · rename_i c
    cases e
    exact op_pow pins s σ H _ _ v u Q I rx ry ⟨_, _, rfl, rfl, c, q _ _ _ (.refl sub) (.int _)⟩
  · cases e
theorem reps_flat {Z : Hp} {vs : List V} {ds : List D} (r : Reps G Z vs ds) : ∀ n : Nat, Reps G Z (List.replicate n vs).flatten (List.replicate n ds).flatten
  | 0 => .nil
  | n + 1 => by
    simp only [List.replicate_succ, List.flatten_cons]
    exact r.append (reps_flat r n)
theorem opd_mul : OpR X (binaryOp .Mult) (rD G mulD) := by
  intro pins s σ H x y v u Q I rx ry ⟨Z, d1, d2, d, sub, r1, r2, e, q⟩
  cases r1 <;> cases r2 <;> first
    | (cases e; done)
    | skip
  · rename_i i j
    simp only [mulD] at e
    split at e
    · rename_i c
      cases e
      refine op_mul pins s σ H _ _ v u Q I rx ry ⟨_, _, rfl, rfl, ?_, q _ _ _ (.refl sub) (.int _)⟩
      unfold mulOk at c
      simp only [Bool.or_eq_true, Bool.and_eq_true, decide_eq_true_eq] at c
      exact c
    · cases e
  · rename_i a vs ds h um r j
    simp only [mulD] at e
    split at e
    · rename_i c
      cases e
      rw [← r.length] at c
      refine op_rep pins s σ H _ _ v u Q I rx ry ⟨a, j, vs, rfl, rfl, sub.s _ _ h, c.1, c.2.1, c.2.2, fun p np => ?_⟩
      have st := Step.new (o := .lst (List.replicate j.toNat vs).flatten) sub np
      exact q _ _ _ st (.lst upd_same (sub.un (sub.free np)) (reps_flat (r.mono st.fz) _))
    · cases e
theorem opd_cmp {f : Value → Value → Sem Value} {p : Int → Int → Bool} (ho : OpR X f (rI0 fun i j => .bl (p i j))) : OpR X f (rD G (cmpD p)) := by
  intro pins s σ H x y v u Q I rx ry ⟨Z, d1, d2, d, sub, r1, r2, e, q⟩
  cases r1 <;> cases r2 <;> first
    | (cases e; done)
    | (cases e; exact ho pins s σ H _ _ v u Q I rx ry ⟨_, _, rfl, rfl, q _ _ _ (.refl sub) (.bl _)⟩)
theorem opd_lt : OpR X (compareOp .Lt) (rD G (cmpD fun i j => decide (i < j))) := opd_cmp op_lt
theorem opd_le : OpR X (compareOp .LtE) (rD G (cmpD fun i j => decide (i ≤ j))) := opd_cmp op_le
theorem opd_gt : OpR X (compareOp .Gt) (rD G (cmpD fun i j => decide (j < i))) := opd_cmp op_gt
theorem opd_ge : OpR X (compareOp .GtE) (rD G (cmpD fun i j => decide (j ≤ i))) := opd_cmp op_ge
theorem opd_is : OpR X (compareOp .Is) (rD G (isND false)) := by
  intro pins s σ H x y v u Q I rx ry ⟨Z, d1, d2, d, sub, r1, r2, e, q⟩
  cases r1 <;> cases r2 <;> first
    | (cases e; done)
    | (cases e; exact op_isN pins s σ H _ _ v u Q I rx ry ⟨rfl, q _ _ _ (.refl sub) (.bl _)⟩)
theorem opd_isnot : OpR X (compareOp .IsNot) (rD G (isND true)) := by
  intro pins s σ H x y v u Q I rx ry ⟨Z, d1, d2, d, sub, r1, r2, e, q⟩
  cases r1 <;> cases r2 <;> first
    | (cases e; done)
    | (cases e; exact op_notN pins s σ H _ _ v u Q I rx ry ⟨rfl, q _ _ _ (.refl sub) (.bl _)⟩)
theorem opd_eq (hu : X.A.units + 64 < cLine) : OpR X (compareOp .Eq) (rD G (eqD false)) := by
  intro pins s σ H x y v u Q I rx ry ⟨Z, d1, d2, d, sub, r1, r2, e, q⟩
  unfold eqD at e
  split at e
  · rename_i a b h1 h2
    split at e
    · rename_i c
      cases e
      exact op_eqD hu pins s σ H _ _ v u Q I rx ry ⟨a, b, rep_dp sub r1 h1, rep_dp sub r2 h2, c.1, c.2, q _ _ _ (.refl sub) (.bl _)⟩
    · cases e
  · cases e
theorem opd_ne (hu : X.A.units + 64 < cLine) : OpR X (compareOp .NotEq) (rD G (eqD true)) := by
  intro pins s σ H x y v u Q I rx ry ⟨Z, d1, d2, d, sub, r1, r2, e, q⟩
  unfold eqD at e
  split at e
  · rename_i a b h1 h2
    split at e
    · rename_i c
      cases e
      exact op_neD hu pins s σ H _ _ v u Q I rx ry ⟨a, b, rep_dp sub r1 h1, rep_dp sub r2 h2, c.1, c.2, q _ _ _ (.refl sub) (.bl _)⟩
    · cases e
  · cases e
/-! ### in, not in (flat items) -/
def D.flat : D → Option V
  | .non => some .non
  | .bl b => some (.bl b)
  | .int i => some (.int i)
  | .str s => some (.str s)
  | _ => none
def flatAll : List D → Option (List V)
  | [] => some []
  | d :: ds => match d.flat, flatAll ds with
    | some y, some r => some (y :: r)
    | _, _ => none
def D.items : D → Option (List D)
  | .lst xs => some xs
  | .mk _ xs => some xs
  | .tup xs => some xs
  | _ => none
def inD (neg : Bool) (x y : D) : Option D := match x.flat, y.items.bind flatAll with
  | some v, some vs => some (.bl (if neg then !inV v vs else inV v vs))
  | _, _ => none
theorem flat_rep {Z : Hp} {v w : V} {d : D} (r : Rep G Z v d) (h : d.flat = some w) : v = w ∧ flatV v = true := by
  cases r <;> simp [D.flat] at h <;> subst h <;> exact ⟨rfl, rfl⟩
theorem flat_reps {Z : Hp} : ∀ {vs ws : List V} {ds : List D}, Reps G Z vs ds → flatAll ds = some ws → vs = ws ∧ vs.all flatV = true
  | _, _, _, .nil, h => by simp [flatAll] at h; subst h; exact ⟨rfl, rfl⟩
  | _, _, _, .cons h1 r, h => by
    rw [flatAll] at h
    split at h
    · rename_i x q e1 e2
      cases h
      obtain ⟨a1, a2⟩ := flat_rep h1 e1
      obtain ⟨b1, b2⟩ := flat_reps r e2
      subst a1; subst b1
      exact ⟨rfl, by rw [List.all_cons, a2, b2]; rfl⟩
    · cases h
theorem items_rep {Z H : Hp} {v : V} {d : D} {ds : List D} (s : Same Z H) (r : Rep G Z v d) (h : d.items = some ds) : ∃ p vs, v = .ref p ∧ (SqL X.K H p vs ∨ SqT X.K H p vs) ∧ Reps G Z vs ds := by
  cases r with
  | tup a b => cases h; exact ⟨_, _, rfl, .inr (sub_t s a), b⟩
  | lst a u b => cases h; exact ⟨_, _, rfl, .inl (sub_l s a), b⟩
  | mk a u b => cases h; exact ⟨_, _, rfl, .inl (sub_l s a), b⟩
  | _ => cases h
theorem opd_in : OpR X (compareOp .In) (rD G (inD false)) := by
  intro pins s σ H x y v u Q I rx ry ⟨Z, d1, d2, d, sub, r1, r2, e, q⟩
  unfold inD at e
  split at e
  · rename_i w ws h1 h2
    cases e
    obtain ⟨ds, h3, h4⟩ := Option.bind_eq_some_iff.mp h2
    obtain ⟨p, vs, rfl, h5, h6⟩ := items_rep (X := X) sub.s r2 h3
    obtain ⟨rfl, f1⟩ := flat_rep r1 h1
    obtain ⟨rfl, f2⟩ := flat_reps h6 h4
    exact op_in_seq pins s σ H _ _ v u Q I rx ry ⟨p, _, rfl, h5, f1, f2, q _ _ _ (.refl sub) (.bl _)⟩
  · cases e
theorem opd_notin : OpR X (compareOp .NotIn) (rD G (inD true)) := by
  intro pins s σ H x y v u Q I rx ry ⟨Z, d1, d2, d, sub, r1, r2, e, q⟩
  unfold inD at e
  split at e
  · rename_i w ws h1 h2
    cases e
    obtain ⟨ds, h3, h4⟩ := Option.bind_eq_some_iff.mp h2
    obtain ⟨p, vs, rfl, h5, h6⟩ := items_rep (X := X) sub.s r2 h3
    obtain ⟨rfl, f1⟩ := flat_rep r1 h1
    obtain ⟨rfl, f2⟩ := flat_reps h6 h4
    exact op_notIn_seq pins s σ H _ _ v u Q I rx ry ⟨p, _, rfl, h5, f1, f2, q _ _ _ (.refl sub) (.bl _)⟩
  · cases e
theorem opd_add : OpR X (binaryOp .Add) (rD G addD) := by
  intro pins s σ H x y v u Q I rx ry ⟨Z, d1, d2, d, sub, r1, r2, e, q⟩
  cases r1 <;> cases r2 <;> first
    | (cases e; done)
    | exact op_add pins s σ H _ _ v u Q I rx ry ⟨_, _, rfl, rfl, by cases e; exact q _ _ _ (.refl sub) (.int _)⟩
    | skip
  · rename_i a xs as ha ra b ys bs hb rb
    simp only [addD] at e
    split at e
    · rename_i hz
      cases e
      rw [← ra.length, ← rb.length] at hz
      refine op_catA pins s σ H _ _ v u Q I rx ry ⟨a, b, xs, ys, rfl, rfl, sub_t sub ha, sub_t sub hb, hz, fun e0 => ?_, fun _ e0 => ?_, fun _ _ p np => ?_⟩
      · subst e0; cases ra; exact q _ _ _ (.refl sub) (.tup hb rb)
      · subst e0; cases rb; rw [List.append_nil] at q; exact q _ _ _ (.refl sub) (.tup ha ra)
      · have st := Step.new (o := .tup (xs ++ ys)) sub np
        exact q _ _ _ st (.tup upd_same ((ra.mono st.fz).append (rb.mono st.fz)))
    · cases e
  · rename_i a xs as ha ua ra b ys bs hb ub rb
    simp only [addD] at e
    split at e
    · rename_i hz
      cases e
      rw [← ra.length, ← rb.length] at hz
      refine op_cat pins s σ H _ _ v u Q I rx ry ⟨a, b, xs, ys, rfl, rfl, sub.s _ _ ha, sub.s _ _ hb, hz, fun p np => ?_⟩
      have st := Step.new (o := .lst (xs ++ ys)) sub np
      exact q _ _ _ st (.lst upd_same (sub.un (sub.free np)) ((ra.mono st.fz).append (rb.mono st.fz)))
    · cases e
end
end Ax
set_option Elab.async false
set_option linter.all false
set_option maxRecDepth 100000
set_option maxHeartbeats 2000000
/-! Ax4: the judgements of expressions. -/
namespace Ax
open PySem PySem.Spec L2
variable [TabC]

section
variable {X : Cx} {C : Kx} {a b c e : Expr} {es rest : List Expr} {fa fb fc : SE} {fl fr : SL} {ta tb tc : SB} {pos : Pos}
/-! ### owned results -/
abbrev SO := En → O OV
def WishO (C : Kx) (σ : St) (Z H : Hp) (env : En) (r : O OV) (Q : VK) : Prop := match r with
  | .ok o env' => ∀ p ho H' Z', Tr Z H env σ Z' H' env' σ → Gd C.G C.io Z' H' env' σ → H p = none → ¬ Own env' σ p → Z' p = none → H' p = some ho → RepO C.G Z' ho o → Q (.ref p) H'
  | .ex c p env' => ∀ H' Z' od, Tr Z H env σ Z' H' env' σ → Gd C.G C.io Z' H' env' σ → XOb C.G Z' H' c p od → C.W (.ref (C.G.cls c)) od σ H'
  | .bad => False
def tO (C : Kx) (f : SO) : TE := fun σ H Q => ∃ Z env, Gd C.G C.io Z H env σ ∧ WishO C σ Z H env (f env) Q
theorem WishO.shift {σ : St} {Z H Z1 H1 : Hp} {env env1 : En} {Q : VK} {r : O OV} (t : Tr Z H env σ Z1 H1 env1 σ) (h : WishO C σ Z H env r Q) : WishO C σ Z1 H1 env1 r Q := by
  cases r with
  | ok x e => exact fun p ho H' Z' t' g n => h p ho H' Z' (t.trans t') g (t.dom p n)
  | ex c p e => exact fun H' Z' od t' g q => h H' Z' od (t.trans t') g q
  | bad => exact h
theorem WishO.bind {γ β : Type} {S : Hp → γ → β → Prop} {σ : St} {Z H : Hp} {env : En} {Q : VK} {o : O β} {k : β → En → O OV} (h : WishO C σ Z H env (o.bind k) Q) :
    Wish C S σ Z H env o (fun v H1 => ∃ Z1 x env1, Tr Z H env σ Z1 H1 env1 σ ∧ Gd C.G C.io Z1 H1 env1 σ ∧ S Z1 v x ∧ WishO C σ Z1 H1 env1 (k x env1) Q) := by
  cases o with
  | ok x e => exact fun v H' Z' t g q => ⟨Z', x, e, t, g, q, h.shift t⟩
  | ex c p e => exact h
  | bad => exact h
theorem Tr.fresh {σ : St} {Z H : Hp} {env : En} {p : Addr} {ho : HO} (n : H p = none) : Tr Z H env σ Z (upd H p ho) env σ :=
  ⟨Same.refl _, fun a o h _ _ => same_upd n a o h, fun _ _ h => .inl h, fun _ h => .inl h, fun _ h => (same_upd n).free h⟩
theorem WishO.ret {σ : St} {Z H : Hp} {env : En} {Q : VK} {o : OV} (h : WishO C σ Z H env (.ok o env) Q) (g : Gd C.G C.io Z H env σ) {p : Addr} (n : H p = none) {ho : HO} (r : RepO C.G Z ho o) : Q (.ref p) (upd H p ho) :=
  h p ho _ Z (.fresh n) (g.poke (g.sub.free n) (g.notOwnN n) (fun _ h => by rw [n] at h; cases h)) n (g.notOwnN n) (g.sub.free n) upd_same r
def sSh (f : SO) : SE := fun env => (f env).bind fun o e => .of o.fz e
theorem pd_own {f : SO} (h : PE X e (tO C f)) : PE X e (tE C (sSh f)) := PE.imp h fun σ H Q ⟨Z, env, g, q⟩ => by
  refine ⟨Z, env, g, ?_⟩
  unfold sSh at q
  revert q
  generalize f env = r
  intro q
  cases r with
  | bad => exact q
  | ex c p e => exact q
  | ok o e' =>
    intro p ho H' Z' t g' n no zp hp r
    replace q : Wish C (Rep C.G) σ Z H env (.of o.fz e') Q := q
    unfold O.of at q
    split at q
    rotate_left
    · exact q.elim
    rename_i d hf
    refine q _ H' (upd Z' p ho) ⟨t.fz.trans (same_upd zp), t.keep, fun b x hb => ?_, t.own, t.dom⟩ (g'.fix zp no hp r.ob.nt) (rep_frozen zp (g'.sub.un zp) r hf)
    by_cases h : b = p
    · subst h; exact .inr (.inl n)
    · rw [upd_ne h] at hb; exact t.nw _ _ hb

/-! ### operators -/
theorem pd_bin {op : Operator} {o : D → D → Option D} (ho : OpR X (binaryOp op) (rD C.G o)) (ha : PE X a (tE C fa)) (hb : PE X b (tE C fb)) : PE X (.BinOp a op b pos) (tE C (s2 o fa fb)) := PE.imp (pe_op ho ha hb) fun _ _ _ h => two_imp h
theorem pd_cmp {op : CmpOp} {o : D → D → Option D} (ho : OpR X (compareOp op) (rD C.G o)) (ha : PE X a (tE C fa)) (hb : PE X b (tE C fb)) (hm : behindInMarks op b = false) : PE X (.Compare a [op] [b] pos) (tE C (s2 o fa fb)) :=
  PE.imp (pe_cmpR ho ha hb hm) fun _ _ _ h => two_imp h
def s1 (op : D → Option D) (fa : SE) : SE := fun env => (fa env).bind fun x e1 => .of (op x) e1
def negD : D → Option D
  | .int i => some (.int (-i))
  | _ => none
theorem pd_neg (ha : PE X a (tE C fa)) : PE X (.UnaryOp .USub a pos) (tE C (s1 negD fa)) := PE.imp (pe_un un_neg ha) fun σ H Q ⟨Z, env, g, q⟩ => by
  refine ⟨Z, env, g, (Wish.bind (S := Rep C.G) q).mono fun v H1 ⟨Z1, x, e1, t1, g1, r1, w1⟩ => ?_⟩
  cases r1 <;> first
    | exact w1.elim
    | exact ⟨_, rfl, w1.ret0 g1 (.int _)⟩
/-! ### truth and tests -/
def truth : D → Option Bool
  | .non => some false
  | .bl b => some b
  | .int i => some (i != 0)
  | .str s => if s.length ≤ sizeLine then some ((s.length : Int) != 0) else none
  | .tup xs => some (!xs.isEmpty)
  | .lst xs => some (!xs.isEmpty)
  | .mk _ xs => some (!xs.isEmpty)
  | _ => none
theorem reps_empty {G : GW} {Z : Hp} {vs : List V} {ds : List D} (r : Reps G Z vs ds) : vs.isEmpty = ds.isEmpty := by cases r <;> rfl
theorem truth_v {G : GW} {K : PySem.W.Frag} {Z H : Hp} {v : V} {d : D} {k : Bool} (s : Same Z H) (r : Rep G Z v d) (h : truth d = some k) : TruV K v H k := by
  cases r with
  | non => cases h; rfl
  | bl b => cases h; rfl
  | int i => cases h; rfl
  | str x =>
    simp only [truth] at h
    split at h
    · rename_i c; cases h; exact ⟨c, rfl⟩
    · cases h
  | ty v => cases h
  | cl v k => cases h
  | fn v k => cases h
  | tup a b => cases h; exact .inr (.inl ⟨_, sub_t s a, by rw [reps_empty b]⟩)
  | lst a u b => cases h; exact .inl ⟨_, sub_l s a, by rw [reps_empty b]⟩
  | mk a u b => cases h; exact .inl ⟨_, sub_l s a, by rw [reps_empty b]⟩
  | frl a u b => cases h
  | dic a l r => cases h
  | obj k a n b => cases h
def sT (f : SE) : SB := fun env => (f env).bind fun d e => .of (truth d) e
theorem pt_t (ha : PE X a (tE C fa)) (he : ∀ whole, isTrue a X.env whole = (do let v ← whole; standAt a.pos; holding [v] (truthy v)) := by intro _; rfl) : PT X a (tBo C (sT fa)) := PT.imp (pt_truth ha he) fun σ H Q ⟨Z, env, g, q⟩ => by
  refine ⟨Z, env, g, (Wish.bind (S := Rep C.G) q).mono fun v H1 ⟨Z1, x, e1, t1, g1, r1, w1⟩ => ?_⟩
  unfold O.of at w1
  split at w1
  · rename_i k hk
    exact ⟨k, truth_v g1.sub r1 hk, w1.ret0 g1 rfl⟩
  · exact w1.elim
def blOf : D → Option Bool
  | .bl b => some b
  | _ => none
def sTb (f : SE) : SB := fun env => (f env).bind fun d e => .of (blOf d) e
theorem test_imp {r : R2} {f : SE} (m : ∀ σ H Q, tE C f σ H Q → tOp r (tE C fa) (tE C fb) σ H Q) {σ : St} {H : Hp} {Q : Bool → Hp → Prop} (h : tBo C (sTb f) σ H Q) : tTest (tOp r (tE C fa) (tE C fb)) σ H Q := by
  obtain ⟨Z, env, g, q⟩ := h
  refine m σ H _ ⟨Z, env, g, (Wish.bind (S := Rep C.G) q).mono fun v H1 ⟨Z1, x, e1, t1, g1, r1, w1⟩ => ?_⟩
  cases r1 <;> first
    | exact w1.elim
    | exact ⟨_, rfl, w1.ret0 g1 rfl⟩
theorem pt_cmp {op : CmpOp} {o : D → D → Option D} (ho : OpR X (compareOp op) (rD C.G o)) (ha : PE X a (tE C fa)) (hb : PE X b (tE C fb)) (hm : behindInMarks op b = false) : PT X (.Compare a [op] [b] pos) (tBo C (sTb (s2 o fa fb))) :=
  PT.imp (pt_cmpR ho ha hb hm) fun _ _ _ h => test_imp (fun _ _ _ => two_imp) h
def sNot (t : SB) : SB := fun env => (t env).bind fun k e => .ok (!k) e
theorem pt_no (ha : PT X a (tBo C ta)) : PT X (.UnaryOp .Not a pos) (tBo C (sNot ta)) := PT.imp (pt_not ha) fun σ H Q ⟨Z, env, g, q⟩ =>
  ⟨Z, env, g, (Wish.bind (S := fun _ (b c : Bool) => b = c) q).mono fun v H1 ⟨Z1, x, e1, t1, g1, r1, w1⟩ => w1.ret0 g1 (by rw [r1])⟩
def sAnd (t u : SB) : SB := fun env => (t env).bind fun k e => if k = true then u e else .ok false e
def sOr (t u : SB) : SB := fun env => (t env).bind fun k e => if k = true then .ok true e else u e
theorem pw_an (ha : PT X a (tBo C ta)) (hb : PW X (.BoolOp .And (b :: rest) pos) (tBo C tb)) : PW X (.BoolOp .And (a :: b :: rest) pos) (tBo C (sAnd ta tb)) := PW.imp (pw_and ha hb) fun σ H Q ⟨Z, env, g, q⟩ => by
  refine ⟨Z, env, g, (Wish.bind (S := fun _ (b c : Bool) => b = c) q).mono fun v H1 ⟨Z1, x, e1, t1, g1, r1, w1⟩ => ?_⟩
  subst r1
  cases v with
  | true => exact iteT ⟨Z1, e1, g1, w1⟩
  | false => exact iteF (w1.ret0 g1 rfl)
theorem pw_o (ha : PT X a (tBo C ta)) (hb : PW X (.BoolOp .Or (b :: rest) pos) (tBo C tb)) : PW X (.BoolOp .Or (a :: b :: rest) pos) (tBo C (sOr ta tb)) := PW.imp (pw_or ha hb) fun σ H Q ⟨Z, env, g, q⟩ => by
  refine ⟨Z, env, g, (Wish.bind (S := fun _ (b c : Bool) => b = c) q).mono fun v H1 ⟨Z1, x, e1, t1, g1, r1, w1⟩ => ?_⟩
  subst r1
  cases v with
  | true => exact iteT (w1.ret0 g1 rfl)
  | false => exact iteF ⟨Z1, e1, g1, w1⟩
/-! ### and, or, not as values -/
def sNotV (f : SE) : SE := fun env => (f env).bind fun d e => .of ((truth d).map fun k => D.bl (!k)) e
theorem pd_no (ha : PE X a (tE C fa)) : PE X (.UnaryOp .Not a pos) (tE C (sNotV fa)) := PE.imp (pe_notT ha) fun σ H Q ⟨Z, env, g, q⟩ => by
  refine ⟨Z, env, g, (Wish.bind (S := Rep C.G) q).mono fun v H1 ⟨Z1, x, e1, t1, g1, r1, w1⟩ => ?_⟩
  cases hk : truth x with
  | none => rw [hk] at w1; exact w1.elim
  | some k => rw [hk] at w1; exact ⟨k, truth_v g1.sub r1 hk, w1.ret0 g1 (.bl _)⟩
def sAndV (f g : SE) : SE := fun env => (f env).bind fun d e => match truth d with | some true => g e | some false => .ok d e | none => .bad
def sOrV (f g : SE) : SE := fun env => (f env).bind fun d e => match truth d with | some true => .ok d e | some false => g e | none => .bad
theorem pd_and (ha : PE X a (tE C fa)) (hb : PE X (.BoolOp .And (b :: rest) pos) (tE C fb)) : PE X (.BoolOp .And (a :: b :: rest) pos) (tE C (sAndV fa fb)) := PE.imp (pe_andT ha hb) fun σ H Q ⟨Z, env, g, q⟩ => by
  refine ⟨Z, env, g, (Wish.bind (S := Rep C.G) q).mono fun v H1 ⟨Z1, x, e1, t1, g1, r1, w1⟩ => ?_⟩
  cases hk : truth x with
  | none => rw [hk] at w1; exact w1.elim
  | some k =>
    rw [hk] at w1
    refine ⟨k, truth_v g1.sub r1 hk, ?_⟩
    cases k with
    | true => exact iteT ⟨Z1, e1, g1, w1⟩
    | false => exact iteF (w1.ret0 g1 r1)
theorem pd_or (ha : PE X a (tE C fa)) (hb : PE X (.BoolOp .Or (b :: rest) pos) (tE C fb)) : PE X (.BoolOp .Or (a :: b :: rest) pos) (tE C (sOrV fa fb)) := PE.imp (pe_orT ha hb) fun σ H Q ⟨Z, env, g, q⟩ => by
  refine ⟨Z, env, g, (Wish.bind (S := Rep C.G) q).mono fun v H1 ⟨Z1, x, e1, t1, g1, r1, w1⟩ => ?_⟩
  cases hk : truth x with
  | none => rw [hk] at w1; exact w1.elim
  | some k =>
    rw [hk] at w1
    refine ⟨k, truth_v g1.sub r1 hk, ?_⟩
    cases k with
    | true => exact iteT (w1.ret0 g1 r1)
    | false => exact iteF ⟨Z1, e1, g1, w1⟩
def sIf (t : SB) (f g : SE) : SE := fun env => (t env).bind fun k e => if k = true then f e else g e
theorem pd_if (hc : PT X c (tBo C tc)) (ha : PE X a (tE C fa)) (hb : PE X b (tE C fb)) : PE X (.IfExp c a b pos) (tE C (sIf tc fa fb)) := PE.imp (pe_ifExp hc ha hb) fun σ H Q ⟨Z, env, g, q⟩ => by
  refine ⟨Z, env, g, (Wish.bind (S := fun _ (b c : Bool) => b = c) q).mono fun v H1 ⟨Z1, x, e1, t1, g1, r1, w1⟩ => ?_⟩
  subst r1
  cases v with
  | true => exact iteT ⟨Z1, e1, g1, w1⟩
  | false => exact iteF ⟨Z1, e1, g1, w1⟩
/-! ### a < b < c -/
def sChain (o o' : D → D → Option D) (fa fb fc : SE) : SE := fun env => (fa env).bind fun x e1 => (fb e1).bind fun y e2 => match o x y with
  | some (.bl true) => (fc e2).bind fun z e3 => .of (o' y z) e3
  | some (.bl false) => .ok (.bl false) e2
  | _ => .bad
theorem chain_imp {o o' : D → D → Option D} {σ : St} {H : Hp} {Q : VK} (h : tE C (sChain o o' fa fb fc) σ H Q) : tChain (rD C.G o) (rD C.G o') (tE C fa) (tE C fb) (tE C fc) σ H Q := by
  obtain ⟨Z, env, g, q⟩ := h
  refine ⟨Z, env, g, (Wish.bind (S := Rep C.G) q).mono fun v H1 ⟨Z1, x, e1, t1, g1, r1, w1⟩ => ⟨Z1, e1, g1, (Wish.bind (S := Rep C.G) w1).mono fun u H2 ⟨Z2, y, e2, t2, g2, r2, w2⟩ => ?_⟩⟩
  cases ho : o x y with
  | none => rw [ho] at w2; exact w2.elim
  | some d =>
    rw [ho] at w2
    cases d with
    | bl k =>
      refine ⟨Z2, x, y, .bl k, g2.sub, r1.mono t2.fz, r2, ho, fun z H3 Z3 s r => ?_⟩
      cases r with
      | bl =>
      refine ⟨k, rfl, ?_⟩
      cases k with
      | true =>
        refine iteT ⟨Z3, e2, g2.step s, (Wish.bind (S := Rep C.G) (w2.shift (.step s))).mono fun t H4 ⟨Z4, z, e4, t4, g4, r4, w4⟩ => ?_⟩
        unfold O.of at w4
        split at w4
        · rename_i d hd
          exact ⟨Z4, y, z, d, g4.sub, (r2.mono s.fz).mono t4.fz, r4, hd, fun v' H' Z' s' r' => w4.ret g4 s' r'⟩
        · exact w4.elim
      | false => exact iteF (w2.ret g2 s (.bl _))
    | _ => exact w2.elim
theorem pd_chain {op op' : CmpOp} {o o' : D → D → Option D} (ho : OpR X (compareOp op) (rD C.G o)) (ho' : OpR X (compareOp op') (rD C.G o')) (ha : PE X a (tE C fa)) (hb : PE X b (tE C fb)) (hc : PE X c (tE C fc))
    (hm : lastMarks [op, op'] [b, c] = false := by with_unfolding_all rfl) : PE X (.Compare a [op, op'] [b, c] pos) (tE C (sChain o o' fa fb fc)) := PE.imp (pe_chain ho ho' ha hb hc hm) fun _ _ _ h => chain_imp h
theorem pt_chainT {op op' : CmpOp} {o o' : D → D → Option D} (ho : OpR X (compareOp op) (rD C.G o)) (ho' : OpR X (compareOp op') (rD C.G o')) (ha : PE X a (tE C fa)) (hb : PE X b (tE C fb)) (hc : PE X c (tE C fc))
    (hm : lastMarks [op, op'] [b, c] = false := by with_unfolding_all rfl) : PT X (.Compare a [op, op'] [b, c] pos) (tBo C (sTb (sChain o o' fa fb fc))) := PT.imp (L2.pt_chain ho ho' ha hb hc hm) fun σ H Q ⟨Z, env, g, q⟩ => by
  refine chain_imp ⟨Z, env, g, (Wish.bind (S := Rep C.G) q).mono fun v H1 ⟨Z1, x, e1, t1, g1, r1, w1⟩ => ?_⟩
  cases r1 <;> first
    | exact w1.elim
    | exact ⟨_, rfl, w1.ret0 g1 rfl⟩
/-! ### lists of expressions, displays -/
def sN : SL := fun env => .ok [] env
def sK (f : SE) (fl : SL) : SL := fun env => (f env).bind fun d e => (fl e).bind fun ds e2 => .ok (d :: ds) e2
def sKs (f : SE) (fl : SL) : SL := fun env => (f env).bind fun d e => match d.items with
  | some xs => (fl e).bind fun ds e2 => .ok (xs ++ ds) e2
  | none => .bad
theorem pl_n : PA X [] (tL C sN) := PA.imp pa_nil fun σ H Q ⟨Z, env, g, q⟩ => q.ret0 g .nil
theorem pl_k (ha : PE X e (tE C fa)) (hr : PA X es (tL C fl)) (hs : starEach (e :: es) X.env = (false, eval e X.env) :: starEach es X.env := by rfl) : PA X (e :: es) (tL C (sK fa fl)) := PA.imp (pa_cons ha hr hs) fun σ H Q ⟨Z, env, g, q⟩ =>
  ⟨Z, env, g, (Wish.bind (S := Rep C.G) q).mono fun v H1 ⟨Z1, x, e1, t1, g1, r1, w1⟩ => ⟨Z1, e1, g1, (Wish.bind (S := Reps C.G) w1).mono fun vs H2 ⟨Z2, y, e2, t2, g2, r2, w2⟩ => w2.ret0 g2 (.cons (r1.mono t2.fz) r2)⟩⟩
theorem pl_s {p : Pos} (ha : PE X e (tE C fa)) (hr : PA X es (tL C fl)) (hs : starEach (.Starred e p :: es) X.env = (true, eval e X.env) :: starEach es X.env := by rfl) : PA X (.Starred e p :: es) (tL C (sKs fa fl)) := PA.imp (StX.pa_star ha hr hs) fun σ H Q ⟨Z, env, g, q⟩ => by
  refine ⟨Z, env, g, (Wish.bind (S := Rep C.G) q).mono fun v H1 ⟨Z1, x, e1, t1, g1, r1, w1⟩ => ?_⟩
  split at w1
  · rename_i xs hx
    obtain ⟨p, vs, rfl, h5, h6⟩ := items_rep (X := X) g1.sub.s r1 hx
    exact ⟨p, vs, rfl, h5.symm, Z1, e1, g1, (Wish.bind (S := Reps C.G) w1).mono fun ws H2 ⟨Z2, y, e2, t2, g2, r2, w2⟩ => w2.ret0 g2 ((h6.mono t2.fz).append r2)⟩
  · exact w1.elim
def sTup (fl : SL) : SE := fun env => (fl env).bind fun ds e => if ds.length ≤ sizeLine then .ok (.tup ds) e else .bad
theorem pd_tup {k : Nat} (ha : PA X es (tL C fl)) : PE X (.Tuple es k pos) (tE C (sTup fl)) := PE.imp (pe_tup ha) fun σ H Q ⟨Z, env, g, q⟩ => by
  refine ⟨Z, env, g, (Wish.bind (S := Reps C.G) q).mono fun vs H1 ⟨Z1, ds, e1, t1, g1, r1, w1⟩ => ?_⟩
  split at w1
  · rename_i h
    rw [← r1.length] at h
    refine ⟨h, fun p np => ?_⟩
    have st := Step.new (o := .tup vs) g1.sub np
    exact w1.ret g1 st (.tup upd_same (r1.mono st.fz))
  · exact w1.elim
def sLst (fl : SL) : SO := fun env => (fl env).bind fun ds e => if ds.length ≤ sizeLine then .ok (.lst ds) e else .bad
theorem po_lst (ha : PA X es (tL C fl)) : PE X (.List es pos) (tO C (sLst fl)) := PE.imp (pe_lst ha) fun σ H Q ⟨Z, env, g, q⟩ => by
  refine ⟨Z, env, g, (WishO.bind (S := Reps C.G) q).mono fun vs H1 ⟨Z1, ds, e1, t1, g1, r1, w1⟩ => ?_⟩
  split at w1
  · rename_i h
    rw [← r1.length] at h
    exact ⟨h, fun p np => w1.ret g1 np (.lst r1)⟩
  · exact w1.elim
/-! ### items and slices -/
def ixD : D → D → Option D
  | .lst xs, .int i => atI xs i
  | .mk _ xs, .int i => atI xs i
  | .frl xs, .int i => atI xs i
  | .tup xs, .int i => atI xs i
  | .str z, .int i => if z.length ≤ sizeLine then (atI z.cps.toList i).map fun c => .str ⟨#[c]⟩ else none
  | _, _ => none
theorem reps_at {G : GW} {Z : Hp} {vs : List V} {ds : List D} {i : Int} {d : D} (r : Reps G Z vs ds) (h : atI ds i = some d) : ∃ v, atI vs i = some v ∧ Rep G Z v d := by
  unfold atI at h ⊢
  rw [r.length]
  obtain ⟨j, h1, h2⟩ := Option.bind_eq_some_iff.mp h
  obtain ⟨v, h3, h4⟩ := r.get h2
  exact ⟨v, by rw [h1]; exact h3, h4⟩
theorem ixd (hK : X.K = C.G.K) : IxR X (rD C.G ixD) := by
  intro value slice pins s σ H x y v u Q I rx ry ⟨Z, d1, d2, d, sub, r1, r2, e, q⟩ hs
  cases r1 <;> cases r2 <;> first
    | (cases e; done)
    | skip
  · rename_i z i
    simp only [ixD] at e
    split at e
    · rename_i h
      obtain ⟨c, h1, rfl⟩ := Option.map_eq_some_iff.mp e
      exact ix_seq value slice pins s σ H _ _ v u Q I rx ry (.inr (.inr ⟨z, i, c, rfl, rfl, h, h1, q _ _ _ (.refl sub) (.str _)⟩)) hs
    · cases e
  · rename_i a vs ds h r i
    obtain ⟨w, h1, h2⟩ := reps_at r e
    exact ix_seq value slice pins s σ H _ _ v u Q I rx ry (.inr (.inl ⟨a, vs, i, w, rfl, rfl, sub_t sub h, h1, q _ _ _ (.refl sub) h2⟩)) hs
  · rename_i a vs ds h um r i
    obtain ⟨w, h1, h2⟩ := reps_at r e
    exact ix_seq value slice pins s σ H _ _ v u Q I rx ry (.inl ⟨a, vs, i, w, rfl, rfl, sub_l sub h, h1, q _ _ _ (.refl sub) h2⟩) hs
  · rename_i a n vs ds h um r i
    obtain ⟨w, h1, h2⟩ := reps_at r e
    exact ix_seq value slice pins s σ H _ _ v u Q I rx ry (.inl ⟨a, vs, i, w, rfl, rfl, sub_l sub h, h1, q _ _ _ (.refl sub) h2⟩) hs
  · rename_i a vs ds h um r i
    obtain ⟨w, h1, h2⟩ := reps_at r e
    exact ix_seq value slice pins s σ H _ _ v u Q I rx ry (.inl ⟨a, vs, i, w, rfl, rfl, sub_f hK sub h, h1, q _ _ _ (.refl sub) h2⟩) hs
theorem pd_ix (ha : PE X a (tE C fa)) (hb : PE X b (tE C fb)) (hs : PlainIx b) (hK : X.K = C.G.K := by rfl) : PE X (.Subscript a b pos) (tE C (s2 ixD fa fb)) := PE.imp (pe_ix (ixd hK) ha hb hs) fun _ _ _ h => two_imp h
def cut {α : Type} (xs : List α) (lo hi : Option Int) : List α := (xs.drop (HT.sIx xs.length 0 lo)).take (HT.sIx xs.length xs.length hi - HT.sIx xs.length 0 lo)
theorem reps_cut {G : GW} {Z : Hp} {vs : List V} {ds : List D} (r : Reps G Z vs ds) (lo hi : Option Int) : Reps G Z (cutV vs lo hi) (cut ds lo hi) := by
  unfold cutV cut
  rw [r.length]
  exact (r.drop _).take _
abbrev SP := En → O (Option Int)
abbrev tP (C : Kx) (f : SP) : TO := tX C (fun _ (a b : Option Int) => a = b) f
def sP0 : SP := fun env => .ok none env
def sP1 (f : SE) : SP := fun env => (f env).bind fun d e => match d with | .int i => .ok (some i) e | _ => .bad
theorem pp_0 : PO X none (tP C sP0) := ⟨fun pins s σ H Q I ⟨Z, env, g, q⟩ => po_none.run pins s σ H Q I (q.ret0 g rfl)⟩
theorem pp_1 (h : PE X e (tE C fa)) : PO X (some e) (tP C (sP1 fa)) := ⟨fun pins s σ H Q I ⟨Z, env, g, q⟩ => (po_some h).run pins s σ H Q I (by
  refine ⟨Z, env, g, (Wish.bind (S := Rep C.G) q).mono fun v H1 ⟨Z1, x, e1, t1, g1, r1, w1⟩ => ?_⟩
  cases r1 <;> first
    | exact w1.elim
    | exact ⟨_, rfl, w1.ret0 g1 rfl⟩)⟩
def cutD : D → Option Int → Option Int → Option D
  | .lst xs, lo, hi => some (.lst (cut xs lo hi))
  | .frl xs, lo, hi => some (.lst (cut xs lo hi))
  | .tup xs, lo, hi => some (.tup (cut xs lo hi))
  | _, _, _ => none
def sSl (fa : SE) (lo hi : SP) : SE := fun env => (fa env).bind fun d e => (lo e).bind fun l e2 => (hi e2).bind fun h e3 => .of (cutD d l h) e3
def rSD (G : GW) : V → Option Int → Option Int → Hp → VK → Prop := fun x lo hi H Q => ∃ Z d d', Sub Z H ∧ Rep G Z x d ∧ cutD d lo hi = some d' ∧ ∀ v H' Z', Step Z H Z' H' → Rep G Z' v d' → Q v H'
theorem cut_all {α : Type} {xs : List α} {lo hi : Option Int} (h1 : HT.sIx xs.length 0 lo = 0) (h2 : HT.sIx xs.length xs.length hi = xs.length) : cut xs lo hi = xs := by
  unfold cut
  rw [h1, h2]
  simp
theorem sld (hK : X.K = C.G.K) : SlR X (rSD C.G) := by
  intro pins s σ H x v vl vu lo hi sl Q I rx hs pl pu ⟨Z, d, d', sub, r, e, q⟩
  cases r with
  | lst h u r => cases e; exact sl_list pins s σ H _ v vl vu lo hi sl Q I rx hs pl pu ⟨_, _, rfl, sub_l sub h, fun p np => q _ _ _ (.new sub np) (.lst upd_same (sub.un (sub.free np)) (reps_cut (r.mono (same_upd (sub.free np))) lo hi))⟩
  | frl h u r => cases e; exact sl_list pins s σ H _ v vl vu lo hi sl Q I rx hs pl pu ⟨_, _, rfl, sub_f hK sub h, fun p np => q _ _ _ (.new sub np) (.lst upd_same (sub.un (sub.free np)) (reps_cut (r.mono (same_upd (sub.free np))) lo hi))⟩
  | tup h r =>
    cases e
    refine sl_tupA pins s σ H _ v vl vu lo hi sl Q I rx hs pl pu ⟨_, _, rfl, sub_t sub h, fun ⟨c1, c2⟩ => ?_, fun _ p np => q _ _ _ (.new sub np) (.tup upd_same (reps_cut (r.mono (same_upd (sub.free np))) lo hi))⟩
    rw [r.length] at c1 c2
    rw [cut_all c1 c2] at q
    exact q _ _ _ (.refl sub) (.tup h r)
  | _ => cases e
theorem pd_sl {lo hi : Option Expr} {p2 : Pos} {fl fh : SP} (ha : PE X a (tE C fa)) (hl : PO X lo (tP C fl)) (hh : PO X hi (tP C fh)) (hK : X.K = C.G.K := by rfl) : PE X (.Subscript a (.Slice lo hi none p2) pos) (tE C (sSl fa fl fh)) := PE.imp (pe_slice (sld hK) ha hl hh) fun σ H Q ⟨Z, env, g, q⟩ => by
  refine ⟨Z, env, g, (Wish.bind (S := Rep C.G) q).mono fun v H1 ⟨Z1, x, e1, t1, g1, r1, w1⟩ => ⟨Z1, e1, g1, (Wish.bind (S := fun _ (a b : Option Int) => a = b) w1).mono fun l H2 ⟨Z2, l', e2, t2, g2, r2, w2⟩ =>
    ⟨Z2, e2, g2, (Wish.bind (S := fun _ (a b : Option Int) => a = b) w2).mono fun h H3 ⟨Z3, h', e3, t3, g3, r3, w3⟩ => ?_⟩⟩⟩
  subst r2
  subst r3
  unfold O.of at w3
  split at w3
  · rename_i d hd
    exact ⟨Z3, x, d, g3.sub, (r1.mono t2.fz).mono t3.fz, hd, fun v' H' Z' s r => w3.ret g3 s r⟩
  · exact w3.elim
/-- a slice of a list: a new, owned list -/
def cutL : D → Option Int → Option Int → Option OV
  | .lst xs, lo, hi => some (.lst (cut xs lo hi))
  | .frl xs, lo, hi => some (.lst (cut xs lo hi))
  | _, _, _ => none
def sSlO (fa : SE) (lo hi : SP) : SO := fun env => (fa env).bind fun d e => (lo e).bind fun l e2 => (hi e2).bind fun h e3 => .of (cutL d l h) e3
theorem po_sl {lo hi : Option Expr} {p2 : Pos} {fl fh : SP} (ha : PE X a (tE C fa)) (hl : PO X lo (tP C fl)) (hh : PO X hi (tP C fh)) (hK : X.K = C.G.K := by rfl) : PE X (.Subscript a (.Slice lo hi none p2) pos) (tO C (sSlO fa fl fh)) := PE.imp (pe_slice sl_list ha hl hh) fun σ H Q ⟨Z, env, g, q⟩ => by
  refine ⟨Z, env, g, (WishO.bind (S := Rep C.G) q).mono fun v H1 ⟨Z1, x, e1, t1, g1, r1, w1⟩ => ⟨Z1, e1, g1, (WishO.bind (S := fun _ (a b : Option Int) => a = b) w1).mono fun l H2 ⟨Z2, l', e2, t2, g2, r2, w2⟩ =>
    ⟨Z2, e2, g2, (WishO.bind (S := fun _ (a b : Option Int) => a = b) w2).mono fun h H3 ⟨Z3, h', e3, t3, g3, r3, w3⟩ => ?_⟩⟩⟩
  subst r2
  subst r3
  have r1 := (r1.mono t2.fz).mono t3.fz
  cases r1 with
  | lst h u r => exact ⟨_, _, rfl, sub_l g3.sub h, fun p np => w3.ret g3 np (.lst (reps_cut r _ _))⟩
  | frl h u r => exact ⟨_, _, rfl, sub_f hK g3.sub h, fun p np => w3.ret g3 np (.lst (reps_cut r _ _))⟩
  | _ => exact w3.elim
end
end Ax
set_option Elab.async false
set_option linter.all false
set_option maxRecDepth 100000
set_option maxHeartbeats 2000000
/-! Ax5: targets, what is walked, statements, loops, comprehensions. -/
namespace Ax
open PySem PySem.Spec L2
variable [TabC]

/-! ### targets -/
/-- σ' differs from σ at the slots js alone -/
def Only (js : List Nat) (σ σ' : St) : Prop := σ'.length = σ.length ∧ ∀ k, k ∉ js → σ'[k]? = σ[k]?
theorem wipe_len (σ : St) : ∀ js, (wipe σ js).length = σ.length := wipe_length σ
theorem wipe_get {σ : St} {k : Nat} : ∀ {js : List Nat}, k ∉ js → (wipe σ js)[k]? = σ[k]?
  | [], _ => rfl
  | j :: js, h => by
    unfold wipe
    rw [get_set_ne (fun q => h (by rw [q]; exact List.mem_cons_self)), wipe_get fun q => h (List.mem_cons_of_mem _ q)]
theorem wipe_in {σ : St} {k : Nat} : ∀ {js : List Nat}, k ∈ js → k < σ.length → (wipe σ js)[k]? = some none
  | j :: js, h, hl => by
    unfold wipe
    by_cases q : j = k
    · subst q; exact get_set (by rw [wipe_len]; exact hl)
    · rw [get_set_ne q]
      obtain e | e := List.mem_cons.mp h
      · exact absurd e.symm q
      · exact wipe_in e hl
theorem only_wipe {js : List Nat} {σ σ' : St} (h : Only js (wipe σ js) σ') : wipe σ' js = wipe σ js := by
  apply List.ext_getElem?
  intro k
  by_cases hk : k ∈ js
  · by_cases hl : k < σ.length
    · rw [wipe_in hk hl, wipe_in hk (by rw [h.1, wipe_len]; exact hl)]
    · rw [List.getElem?_eq_none (by rw [wipe_len, h.1, wipe_len]; omega), List.getElem?_eq_none (by rw [wipe_len]; omega)]
  · rw [wipe_get hk, wipe_get hk, h.2 k hk, wipe_get hk]
abbrev SG := D → En → Option En
def tG (C : Kx) (js : List Nat) (f : SG) : TG := fun v σ H Q => ∃ Z env d env', Gd C.G C.io Z H env σ ∧ Rep C.G Z v d ∧ f d env = some env' ∧ ∀ σ' H', Only js σ σ' → Tr Z H env σ Z H' env' σ' → Gd C.G C.io Z H' env' σ' → Q σ' H'
abbrev SGs := List D → En → Option En
def tGs (C : Kx) (js : List Nat) (f : SGs) : TGs := fun vs σ H Q => ∃ Z env ds env', Gd C.G C.io Z H env σ ∧ Reps C.G Z vs ds ∧ f ds env = some env' ∧ ∀ σ' H', Only js σ σ' → Tr Z H env σ Z H' env' σ' → Gd C.G C.io Z H' env' σ' → Q σ' H'
theorem PG.imp {X : Cx} {e : Expr} {t t' : TG} (h : PG X e t) (m : ∀ v σ H Q, t' v σ H Q → t v σ H Q) : PG X e t' := ⟨fun pins s σ H v u Q I r q => h.run pins s σ H v u Q I r (m v σ H Q q)⟩
theorem PGs.imp {X : Cx} {e : List Expr} {t t' : TGs} (h : PGs X e t) (m : ∀ v σ H Q, t' v σ H Q → t v σ H Q) : PGs X e t' := ⟨fun pins s σ H v u Q I r q => h.run pins s σ H v u Q I r (m v σ H Q q)⟩
theorem only_set {σ : St} {i : Nat} {v : Option V} : Only [i] σ (σ.set i v) := ⟨by rw [List.length_set], fun k h => get_set_ne fun q => h (by rw [q]; exact List.mem_singleton.mpr rfl)⟩
theorem Only.trans {js ks : List Nat} {σ σ1 σ2 : St} (a : Only js σ σ1) (b : Only ks σ1 σ2) : Only (js ++ ks) σ σ2 :=
  ⟨b.1.trans a.1, fun k h => by rw [List.mem_append] at h; rw [b.2 k fun q => h (.inr q), a.2 k fun q => h (.inl q)]⟩
theorem Only.refl {σ : St} : Only [] σ σ := ⟨rfl, fun _ _ => rfl⟩
section
variable {X : Cx} {C : Kx} {e : Expr} {es : List Expr} {pos : Pos} {js ks : List Nat}
def gV (i : Nat) : SG := fun d env => some (env.set i (.sh d))
theorem pg_v {i : Nat} {x : Str} (h : PG X (.Name x pos) (gName i)) : PG X (.Name x pos) (tG C [i] (gV i)) := PG.imp h fun v σ H Q ⟨Z, env, d, env', g, r, e, q⟩ => by
  cases e
  exact q _ _ only_set .setSh (g.setSh r)
def gsN : SGs := fun ds env => match ds with | [] => some env | _ => none
def gsK (f : SG) (fs : SGs) : SGs := fun ds env => match ds with | d :: r => (f d env).bind fun e => fs r e | [] => none
theorem pgs_n : PGs X [] (tGs C [] gsN) := PGs.imp pgs_nil fun vs σ H Q ⟨Z, env, ds, env', g, r, e, q⟩ => by
  cases r with
  | nil => cases e; exact ⟨rfl, q _ _ .refl .refl g⟩
  | cons _ _ => cases e
theorem pgs_k {f : SG} {fs : SGs} (h1 : PG X e (tG C js f)) (h2 : PGs X es (tGs C ks fs)) (hs : (assignEach (e :: es) X.env).map (·.2) = assign e X.env :: (assignEach es X.env).map (·.2) := by rfl) : PGs X (e :: es) (tGs C (js ++ ks) (gsK f fs)) :=
  PGs.imp (pgs_cons h1 h2 hs) fun vs σ H Q ⟨Z, env, ds, env', g, r, e, q⟩ => by
    cases r with
    | nil => cases e
    | cons r1 r2 =>
      obtain ⟨e1, h1, h2⟩ := Option.bind_eq_some_iff.mp e
      refine ⟨_, _, rfl, Z, env, _, e1, g, r1, h1, fun σ' H' o t g' => ⟨Z, e1, _, env', g', r2, h2, fun σ'' H'' o' t' g'' => q _ _ (o.trans o') (t.trans t') g''⟩⟩
def gT (n : Nat) (fs : SGs) : SG := fun d env => match d with | .tup xs => if xs.length = n then fs xs env else none | _ => none
theorem pg_t {k n : Nat} {fs : SGs} (hc : X.calm = true) (h : PGs X es (tGs C js fs)) (hn : (assignEach es X.env).length = n := by rfl) (hst : (assignEach es X.env).findIdx? (·.1) = none := by rfl) : PG X (.Tuple es k pos) (tG C js (gT n fs)) :=
  PG.imp (pg_tup hc h hn hst) fun v σ H Q ⟨Z, env, d, env', g, r, e, q⟩ => by
    cases r with
    | tup h r =>
      simp only [gT] at e
      split at e
      · rename_i hl
        exact ⟨_, _, rfl, sub_t g.sub h, by rw [r.length]; exact hl, Z, env, _, env', g, r, e, q⟩
      · cases e
    | _ => cases e
end

/-! ### what is walked -/
def Walks (C : Kx) (Z0 : Hp) (J : It) (ds : List D) : Prop :=
  (∀ (i : Nat) (d : D), ds[i]? = some d → ∀ Z H, Same Z0 Z → Sub Z H → J.go i H ∧ ∀ x H', J.yld i H x H' → ∃ Z', Step Z H Z' H' ∧ Rep C.G Z' x d) ∧ ∀ Z H, Same Z0 Z → Sub Z H → J.stop ds.length H
abbrev tI (C : Kx) (f : SL) : TI := tX C (Walks C) f
theorem PI.imp {X : Cx} {tg e : Expr} {t t' : TI} (h : PI X tg e t) (m : ∀ σ H R, t' σ H R → t σ H R) : PI X tg e t' := ⟨fun pins s σ H R I q => h.run pins s σ H R I (m σ H R q)⟩
section
variable {X : Cx} {C : Kx} {a b e tg : Expr} {es : List Expr} {fa fb : SE} {fl : SL} {p pos : Pos}
theorem rd_inj {K : PySem.W.Frag} {H : Hp} {a : Addr} {xs ys : List V} (h : H a = some (.lst xs)) (h2 : H a = some (.lst ys)) : xs = ys := by rw [h] at h2; cases h2; rfl
theorem walks_list {K : PySem.W.Frag} {Z : Hp} {a : Addr} {vs : List V} {ds : List D} (h : ∀ Z' H, Same Z Z' → Same Z' H → SqL K H a vs) (r : Reps C.G Z vs ds) : Walks C Z (Itl K a) ds := by
  refine ⟨fun i d hd Z' H s1 s2 => ?_, fun Z' H s1 s2 => ⟨vs, h _ _ s1 s2, by rw [r.length]; exact Nat.le_refl _⟩⟩
  obtain ⟨v, h1, h2⟩ := r.get hd
  refine ⟨⟨vs, v, h _ _ s1 s2, h1⟩, fun x H' ⟨e, q⟩ => ?_⟩
  subst e
  have := q vs (h _ _ s1 s2)
  rw [h1] at this
  cases this
  exact ⟨Z', .refl s2, h2.mono s1⟩
theorem walks_tup {K : PySem.W.Frag} {Z : Hp} {a : Addr} {vs : List V} {ds : List D} (h : Z a = some (.tup vs)) (r : Reps C.G Z vs ds) : Walks C Z (Itt K a) ds := by
  refine ⟨fun i d hd Z' H s1 s2 => ?_, fun Z' H s1 s2 => ⟨vs, sub_t s2 (s1 _ _ h), by rw [r.length]; exact Nat.le_refl _⟩⟩
  obtain ⟨v, h1, h2⟩ := r.get hd
  refine ⟨⟨vs, v, sub_t s2 (s1 _ _ h), h1⟩, fun x H' ⟨e, q⟩ => ?_⟩
  subst e
  have := q vs (sub_t s2 (s1 _ _ h))
  rw [h1] at this
  cases this
  exact ⟨Z', .refl s2, h2.mono s1⟩
def iSeq (K : PySem.W.Frag) (tl : TE) : TI := fun σ H R => tl σ H fun x H1 => ∃ a, x = .ref a ∧ (((∃ xs, SqL K H1 a xs) ∧ R (Itl K a) H1) ∨ ((∃ xs, SqT K H1 a xs) ∧ R (Itt K a) H1) ∨ ∃ o kvs, H1 a = some (.frz o (.dK kvs)) ∧ R (Itk a o kvs) H1)
theorem pi_seq {tl : TE} (hl : PE X e tl) : PI X tg e (iSeq X.K tl) := ⟨fun pins s σ H R I hyp => thn (hl.run pins s σ H _ I hyp) fun v s1 ⟨x, H1, I1, rx, a, ex, both⟩ => by
  subst ex
  cases rx
  rcases both with ⟨⟨xs, isL⟩, go⟩ | ⟨⟨xs, isT⟩, go⟩ | ⟨o, kvs, isD, go⟩
  · obtain ⟨_, _, laid, _⟩ := I1.list isL
    exact wpAny_pyIter_list laid.isList (pi_one (tk := s1.toks) I1 _ (turn_list a _) ⟨_, Heap.get?_push_size _ rfl, rfl, rfl⟩ go)
  · obtain ⟨_, _, laid, _⟩ := I1.tuple isT
    exact wpAny_pyIter_tuple laid (pi_one (tk := s1.toks) I1 _ (turn_tuple a _) ⟨_, Heap.get?_push_size _ rfl, rfl, rfl⟩ go)
  · obtain ⟨noSys, there, exact_, es, ep, _, dat, size, _⟩ := I1.frzK isD
    exact iter_keys noSys there exact_ dat (pi_one (tk := s1.toks) I1 _ (turn_keys _ dat) ⟨_, Heap.get?_push_size _ rfl, rfl, by rw [size] <;> rfl⟩ go)⟩
/-- a key as data -/
def keyD : Key → D
  | .inl i => .int i
  | .inr x => .str x
theorem rep_key {G : GW} {Z : Hp} : ∀ k : Key, Rep G Z (kV k) (keyD k)
  | .inl i => .int i
  | .inr x => .str x
theorem zip_at {ks : List Key} {vs : List V} (l : vs.length = ks.length) {i : Nat} {k : Key} {v : V} (h : (ks.zip vs)[i]? = some (k, v)) : ks[i]? = some k := by
  rw [List.getElem?_zip_eq_some] at h
  exact h.1
theorem walks_keys {Z : Hp} {a : Addr} {o : Obj} {ks : List Key} {vs : List V} (h : Z a = some (.frz o (.dK (ks.zip vs)))) (l : vs.length = ks.length) : Walks C Z (Itk a o (ks.zip vs)) (ks.map keyD) := by
  have ln : (ks.zip vs).length = ks.length := by rw [List.length_zip]; omega
  refine ⟨fun i d hd Z' H s1 s2 => ⟨⟨s2.s _ _ (s1 _ _ h), ?_⟩, fun x H' ⟨e, k, v, hk, ex⟩ => ⟨Z', by rw [e]; exact .refl s2, ?_⟩⟩, fun Z' H s1 s2 => ⟨s2.s _ _ (s1 _ _ h), by rw [ln, List.length_map]; exact Nat.le_refl _⟩⟩
  · rw [ln]
    obtain ⟨q, _⟩ := List.getElem?_eq_some_iff.mp hd
    rwa [List.length_map] at q
  · rw [List.getElem?_map, zip_at l hk] at hd
    cases hd
    rw [ex]
    exact rep_key k
def D.itrS : D → Option (List D)
  | .frl xs => some xs
  | d => d.items
def D.itr : D → Option (List D)
  | .frl xs => some xs
  | .dic ks _ => some (ks.map keyD)
  | d => d.items
def sIt (f : SE) : SL := fun env => (f env).bind fun d e => .of d.itr e
theorem pw_seq (he : PE X e (tE C fa)) (hK : X.K = C.G.K := by rfl) : PI X tg e (tI C (sIt fa)) := PI.imp (pi_seq he) fun σ H R ⟨Z, env, g, q⟩ => by
  refine ⟨Z, env, g, (Wish.bind (S := Rep C.G) q).mono fun v H1 ⟨Z1, x, e1, t1, g1, r1, w1⟩ => ?_⟩
  cases r1 with
  | lst h u r => exact ⟨_, rfl, .inl ⟨⟨_, sub_l g1.sub h⟩, w1.ret0 g1 (walks_list (fun _ _ s1 s2 => sub_l s2 (s1 _ _ h)) r)⟩⟩
  | mk h u r => exact ⟨_, rfl, .inl ⟨⟨_, sub_l g1.sub h⟩, w1.ret0 g1 (walks_list (fun _ _ s1 s2 => sub_l s2 (s1 _ _ h)) r)⟩⟩
  | frl h u r => exact ⟨_, rfl, .inl ⟨⟨_, sub_f hK g1.sub h⟩, w1.ret0 g1 (walks_list (fun _ _ s1 s2 => sub_f hK (s1.trans s2) h) r)⟩⟩
  | tup h r => exact ⟨_, rfl, .inr (.inl ⟨⟨_, sub_t g1.sub h⟩, w1.ret0 g1 (walks_tup h r)⟩)⟩
  | dic h l r => exact ⟨_, rfl, .inr (.inr ⟨_, _, g1.sub.s _ _ h, w1.ret0 g1 (walks_keys h l)⟩)⟩
  | _ => exact w1.elim
/-! range -/
def rangeD (lo : Int) (n : Nat) : List D := (List.range n).map fun (i : Nat) => D.int (lo + (i : Int))
theorem walks_range {Z : Hp} {lo : Int} {n : Nat} : Walks C Z (Itr lo n) (rangeD lo n) := by
  refine ⟨fun i d hd Z' H s1 s2 => ?_, fun Z' H s1 s2 => by show n ≤ _; simp [rangeD]⟩
  unfold rangeD at hd
  rw [List.getElem?_map] at hd
  obtain ⟨j, h1, rfl⟩ := Option.map_eq_some_iff.mp hd
  obtain ⟨h2, h3⟩ := List.getElem?_eq_some_iff.mp h1
  rw [List.getElem_range] at h3
  subst h3
  rw [List.length_range] at h2
  exact ⟨h2, fun x H' ⟨e1, e2⟩ => by subst e1; subst e2; exact ⟨Z', .refl s2, .int _⟩⟩
def rngOk (i : Int) : Bool := decide (-(2 ^ 62) ≤ i) && decide (i < 2 ^ 62)
def sR1 (fl : SL) : SL := fun env => (fl env).bind fun ds e => match ds with | [.int j] => if rngOk j then .ok (rangeD 0 j.toNat) e else .bad | _ => .bad
def sR2 (fl : SL) : SL := fun env => (fl env).bind fun ds e => match ds with | [.int i, .int j] => if rngOk i && rngOk j then .ok (rangeD i (j - i).toNat) e else .bad | _ => .bad
theorem reps1 {G : GW} {Z : Hp} {vs : List V} {d : D} (r : Reps G Z vs [d]) : ∃ v, vs = [v] ∧ Rep G Z v d := by
  cases r with
  | cons h r => cases r; exact ⟨_, rfl, h⟩
theorem reps2 {G : GW} {Z : Hp} {vs : List V} {d1 d2 : D} (r : Reps G Z vs [d1, d2]) : ∃ v w, vs = [v, w] ∧ Rep G Z v d1 ∧ Rep G Z w d2 := by
  cases r with
  | cons h r => obtain ⟨w, rfl, h2⟩ := reps1 r; exact ⟨_, _, rfl, h, h2⟩
theorem pw_r1 (hg : Gl X "range") (hm : X.mg "range" = none) (ha : PA X [a] (tL C fl)) (hs : starEach [a] X.env = [(false, eval a X.env)] := by rfl) : PI X tg (.Call (.Name "range" p) [a] [] pos) (tI C (sR1 fl)) := PI.imp (pi_range1 hg hm ha hs) fun σ H R ⟨Z, env, g, q⟩ => by
  refine ⟨Z, env, g, (Wish.bind (S := Reps C.G) q).mono fun v H1 ⟨Z1, x, e1, t1, g1, r1, w1⟩ => ?_⟩
  split at w1
  · rename_i j
    split at w1
    · rename_i hj
      obtain ⟨v, rfl, h⟩ := reps1 r1
      cases h
      simp only [rngOk, Bool.and_eq_true, decide_eq_true_eq] at hj
      exact ⟨j, rfl, hj.1, hj.2, w1.ret0 g1 walks_range⟩
    · exact w1.elim
  · exact w1.elim
theorem pw_r2 (hg : Gl X "range") (hm : X.mg "range" = none) (ha : PA X [a, b] (tL C fl)) (hs : starEach [a, b] X.env = [(false, eval a X.env), (false, eval b X.env)] := by rfl) (hs2 : starEach [b] X.env = [(false, eval b X.env)] := by rfl) :
    PI X tg (.Call (.Name "range" p) [a, b] [] pos) (tI C (sR2 fl)) := PI.imp (pi_range2 hg hm ha hs hs2) fun σ H R ⟨Z, env, g, q⟩ => by
  refine ⟨Z, env, g, (Wish.bind (S := Reps C.G) q).mono fun v H1 ⟨Z1, x, e1, t1, g1, r1, w1⟩ => ?_⟩
  split at w1
  · rename_i i j
    split at w1
    · rename_i hj
      obtain ⟨v, w, rfl, h, h'⟩ := reps2 r1
      cases h
      cases h'
      simp only [rngOk, Bool.and_eq_true, decide_eq_true_eq] at hj
      exact ⟨i, j, rfl, ⟨hj.1.1, hj.1.2, hj.2.1, hj.2.2⟩, w1.ret0 g1 walks_range⟩
    · exact w1.elim
  · exact w1.elim
/-! enumerate, zip -/
def D.lis : D → Option (List D)
  | .lst xs => some xs
  | .mk _ xs => some xs
  | _ => none
theorem lis_rep {G : GW} {K : PySem.W.Frag} {Z : Hp} {v : V} {d : D} {ds : List D} (r : Rep G Z v d) (h : d.lis = some ds) : ∃ p vs, v = .ref p ∧ (∀ Z' H, Same Z Z' → Same Z' H → SqL K H p vs) ∧ Reps G Z vs ds := by
  cases r with
  | lst a u b => cases h; exact ⟨_, _, rfl, fun _ _ s1 s2 => sub_l s2 (s1 _ _ a), b⟩
  | mk a u b => cases h; exact ⟨_, _, rfl, fun _ _ s1 s2 => sub_l s2 (s1 _ _ a), b⟩
  | _ => cases h
def enumD (ds : List D) : List D := (ds.zipIdx).map fun p => D.tup [.int (p.2 : Int), p.1]
theorem walks_enum {K : PySem.W.Frag} {Z : Hp} {a : Addr} {vs : List V} {ds : List D} (h : ∀ Z' H, Same Z Z' → Same Z' H → SqL K H a vs) (r : Reps C.G Z vs ds) : Walks C Z (Ite K a) (enumD ds) := by
  refine ⟨fun i d hd Z' H s1 s2 => ?_, fun Z' H s1 s2 => ⟨vs, h _ _ s1 s2, by rw [r.length]; simp [enumD]⟩⟩
  unfold enumD at hd
  rw [List.getElem?_map] at hd
  obtain ⟨⟨d0, j⟩, h1, rfl⟩ := Option.map_eq_some_iff.mp hd
  rw [List.getElem?_zipIdx] at h1
  obtain ⟨d1, h2, h3⟩ := Option.map_eq_some_iff.mp h1
  cases h3
  obtain ⟨v, h4, h5⟩ := r.get h2
  refine ⟨⟨vs, v, h _ _ s1 s2, h4⟩, fun x H' ⟨T, y, e1, nT, e2, q⟩ => ?_⟩
  subst e1
  subst e2
  have := q vs (h _ _ s1 s2)
  rw [h4] at this
  cases this
  have st := Step.new (o := .tup [.int (i : Nat), v]) s2 nT
  exact ⟨_, st, .tup upd_same (.cons (by rw [Nat.zero_add]; exact .int _) (.cons ((h5.mono s1).mono st.fz) .nil))⟩
def sEn (fl : SL) : SL := fun env => (fl env).bind fun ds e => match ds with | [d] => .of (d.lis.map enumD) e | _ => .bad
theorem pw_en {elts : List Expr} {kk : Nat} {tpos : Pos} (hg : Gl X "enumerate") (hm : X.mg "enumerate" = none) (ha : PA X [a] (tL C fl)) (hs : starEach [a] X.env = [(false, eval a X.env)] := by rfl) :
    PI X (.Tuple elts kk tpos) (.Call (.Name "enumerate" p) [a] [] pos) (tI C (sEn fl)) := PI.imp (pi_enum hg hm ha hs) fun σ H R ⟨Z, env, g, q⟩ => by
  refine ⟨Z, env, g, (Wish.bind (S := Reps C.G) q).mono fun v H1 ⟨Z1, x, e1, t1, g1, r1, w1⟩ => ?_⟩
  split at w1
  · rename_i d
    obtain ⟨v, rfl, h⟩ := reps1 r1
    cases hd : d.lis with
    | none => rw [hd] at w1; exact w1.elim
    | some ds =>
      rw [hd] at w1
      obtain ⟨p, vs, rfl, h1, h2⟩ := lis_rep (K := X.K) h hd
      exact ⟨p, vs, rfl, h1 _ _ (Same.refl _) g1.sub, w1.ret0 g1 (walks_enum h1 h2)⟩
  · exact w1.elim
def zipD (xs ys : List D) : List D := (xs.zip ys).map fun p => D.tup [p.1, p.2]
theorem walks_zip {K : PySem.W.Frag} {Z : Hp} {a b : Addr} {vs ws : List V} {ds es : List D} (h : ∀ Z' H, Same Z Z' → Same Z' H → SqL K H a vs) (r : Reps C.G Z vs ds) (h' : ∀ Z' H, Same Z Z' → Same Z' H → SqL K H b ws) (r' : Reps C.G Z ws es) : Walks C Z (Itz K a b) (zipD ds es) := by
  refine ⟨fun i d hd Z' H s1 s2 => ?_, fun Z' H s1 s2 => ⟨vs, ws, h _ _ s1 s2, h' _ _ s1 s2, by rw [r.length, r'.length]; simp [zipD]; omega⟩⟩
  unfold zipD at hd
  rw [List.getElem?_map] at hd
  obtain ⟨⟨d0, d1⟩, h1, rfl⟩ := Option.map_eq_some_iff.mp hd
  rw [List.getElem?_zip_eq_some] at h1
  obtain ⟨v, h4, h5⟩ := r.get h1.1
  obtain ⟨w, h6, h7⟩ := r'.get h1.2
  refine ⟨⟨vs, ws, v, w, h _ _ s1 s2, h' _ _ s1 s2, h4, h6⟩, fun x H' ⟨T, y, z, e1, nT, e2, q, q'⟩ => ?_⟩
  subst e1
  subst e2
  have := q vs (h _ _ s1 s2)
  rw [h4] at this
  cases this
  have := q' ws (h' _ _ s1 s2)
  rw [h6] at this
  cases this
  have st := Step.new (o := .tup [v, w]) s2 nT
  exact ⟨_, st, .tup upd_same (.cons ((h5.mono s1).mono st.fz) (.cons ((h7.mono s1).mono st.fz) .nil))⟩
theorem walks_zipT {K : PySem.W.Frag} {Z : Hp} {a b : Addr} {vs ws : List V} {ds es : List D} (h : ∀ Z' H, Same Z Z' → Same Z' H → SqT K H a vs) (r : Reps C.G Z vs ds) (h' : ∀ Z' H, Same Z Z' → Same Z' H → SqT K H b ws) (r' : Reps C.G Z ws es) : Walks C Z (RZ.ItzT K a b) (zipD ds es) := by
  refine ⟨fun i d hd Z' H s1 s2 => ?_, fun Z' H s1 s2 => ⟨vs, ws, h _ _ s1 s2, h' _ _ s1 s2, by rw [r.length, r'.length]; simp [zipD]; omega⟩⟩
  unfold zipD at hd
  rw [List.getElem?_map] at hd
  obtain ⟨⟨d0, d1⟩, h1, rfl⟩ := Option.map_eq_some_iff.mp hd
  rw [List.getElem?_zip_eq_some] at h1
  obtain ⟨v, h4, h5⟩ := r.get h1.1
  obtain ⟨w, h6, h7⟩ := r'.get h1.2
  refine ⟨⟨vs, ws, v, w, h _ _ s1 s2, h' _ _ s1 s2, h4, h6⟩, fun x H' ⟨T, y, z, e1, nT, e2, q, q'⟩ => ?_⟩
  subst e1
  subst e2
  have := q vs (h _ _ s1 s2)
  rw [h4] at this
  cases this
  have := q' ws (h' _ _ s1 s2)
  rw [h6] at this
  cases this
  have st := Step.new (o := .tup [v, w]) s2 nT
  exact ⟨_, st, .tup upd_same (.cons ((h5.mono s1).mono st.fz) (.cons ((h7.mono s1).mono st.fz) .nil))⟩
def zipOf : D → D → Option (List D)
  | .tup xs, .tup ys => some (zipD xs ys)
  | x, y => match x.lis, y.lis with | some xs, some ys => some (zipD xs ys) | _, _ => none
def sZip (fl : SL) : SL := fun env => (fl env).bind fun ds e => match ds with | [x, y] => .of (zipOf x y) e | _ => .bad
theorem pw_zip {elts : List Expr} {kk : Nat} {tpos : Pos} (hg : Gl X "zip") (hm : X.mg "zip" = none) (ha : PA X [a, b] (tL C fl)) (hs : starEach [a, b] X.env = (false, eval a X.env) :: starEach [b] X.env := by rfl) (hpl : (backTo pos (starEach [b] X.env)).any (·.1) = false := by rfl) :
    PI X (.Tuple elts kk tpos) (.Call (.Name "zip" p) [a, b] [] pos) (tI C (sZip fl)) := PI.imp (RZ.pi_zipA hg hm ha hs hpl) fun σ H R ⟨Z, env, g, q⟩ => by
  refine ⟨Z, env, g, (Wish.bind (S := Reps C.G) q).mono fun v H1 ⟨Z1, x, e1, t1, g1, r1, w1⟩ => ?_⟩
  split at w1
  · rename_i d1 d2
    obtain ⟨v, w, rfl, h, h'⟩ := reps2 r1
    cases hz : zipOf d1 d2 with
    | none => rw [hz] at w1; exact w1.elim
    | some zs =>
      rw [hz] at w1
      unfold zipOf at hz
      split at hz
      · cases hz
        cases h with
        | tup a b =>
          cases h' with
          | tup a' b' =>
            exact ⟨_, _, _, _, rfl, .inr ⟨sub_t g1.sub a, sub_t g1.sub a', w1.ret0 g1 (walks_zipT (fun _ _ s1 s2 => sub_t s2 (s1 _ _ a)) b (fun _ _ s1 s2 => sub_t s2 (s1 _ _ a')) b')⟩⟩
      · split at hz
        · rename_i xs ys h1 h2
          cases hz
          obtain ⟨p1, vs1, rfl, a1, b1⟩ := lis_rep (K := X.K) h h1
          obtain ⟨p2, vs2, rfl, a2, b2⟩ := lis_rep (K := X.K) h' h2
          exact ⟨_, _, _, _, rfl, .inl ⟨a1 _ _ (Same.refl _) g1.sub, a2 _ _ (Same.refl _) g1.sub, w1.ret0 g1 (walks_zip a1 b1 a2 b2)⟩⟩
        · cases hz
  · exact w1.elim
end
end Ax
set_option Elab.async false
set_option linter.all false
set_option maxRecDepth 100000
set_option maxHeartbeats 2000000
/-! Ax6: statements, loops, comprehensions. -/
namespace Ax
open PySem PySem.Spec L2
variable [TabC]

inductive OS where
  | nx (e : En) | rt (d : D) (e : En) | rto (o : OV) (e : En) | bk (e : En) | ct (e : En) | ex (c : Nat) (p : List D) (e : En) | bad
abbrev SS := En → OS
def WishS (C : Kx) (Dn : Ends) (σ : St) (Z H : Hp) (env : En) (r : OS) : Prop := match r with
  | .nx e' => ∀ σ' H' Z', Tr Z H env σ Z' H' e' σ' → Gd C.G C.io Z' H' e' σ' → Dn.nx σ' H'
  | .rt d e' => ∀ v σ' H' Z', Tr Z H env σ Z' H' e' σ' → Gd C.G C.io Z' H' e' σ' → Rep C.G Z' v d → Dn.rt v H'
  | .rto o e' => ∀ p ho σ' H' Z', Tr Z H env σ Z' H' e' σ' → Gd C.G C.io Z' H' e' σ' → H p = none → ¬ Own e' σ' p → Z' p = none → H' p = some ho → RepO C.G Z' ho o → Dn.rt (.ref p) H'
  | .bk e' => ∀ σ' H' Z', Tr Z H env σ Z' H' e' σ' → Gd C.G C.io Z' H' e' σ' → Dn.bk σ' H'
  | .ct e' => ∀ σ' H' Z', Tr Z H env σ Z' H' e' σ' → Gd C.G C.io Z' H' e' σ' → Dn.ct σ' H'
  | .ex c p e' => ∀ σ' H' Z' od, Tr Z H env σ Z' H' e' σ' → Gd C.G C.io Z' H' e' σ' → XOb C.G Z' H' c p od → C.W (.ref (C.G.cls c)) od σ' H'
  | .bad => False
def tS (C : Kx) (f : SS) : TS := fun Dn σ H => ∃ Z env, Gd C.G C.io Z H env σ ∧ WishS C Dn σ Z H env (f env)
def bindS {α : Type} (o : O α) (k : α → En → OS) : OS := match o with
  | .ok x e => k x e
  | .ex c p e => .ex c p e
  | .bad => .bad
section
variable {C : Kx} {Dn : Ends} {σ σ1 : St} {Z H Z1 H1 : Hp} {env env1 : En}
theorem WishS.shift {r : OS} (t : Tr Z H env σ Z1 H1 env1 σ1) (h : WishS C Dn σ Z H env r) : WishS C Dn σ1 Z1 H1 env1 r := by
  cases r with
  | nx e => exact fun σ' H' Z' t' g => h σ' H' Z' (t.trans t') g
  | rt d e => exact fun v σ' H' Z' t' g => h v σ' H' Z' (t.trans t') g
  | rto o e => exact fun p ho σ' H' Z' t' g n => h p ho σ' H' Z' (t.trans t') g (t.dom p n)
  | bk e => exact fun σ' H' Z' t' g => h σ' H' Z' (t.trans t') g
  | ct e => exact fun σ' H' Z' t' g => h σ' H' Z' (t.trans t') g
  | ex c p e => exact fun σ' H' Z' od t' g => h σ' H' Z' od (t.trans t') g
  | bad => exact h
theorem WishS.bind {γ α : Type} {R : Hp → γ → α → Prop} {o : O α} {k : α → En → OS} (h : WishS C Dn σ Z H env (bindS o k)) :
    Wish C R σ Z H env o (fun v H1 => ∃ Z1 x env1, Tr Z H env σ Z1 H1 env1 σ ∧ Gd C.G C.io Z1 H1 env1 σ ∧ R Z1 v x ∧ WishS C Dn σ Z1 H1 env1 (k x env1)) := by
  cases o with
  | ok x e => exact fun v H' Z' t g q => ⟨Z', x, e, t, g, q, h.shift t⟩
  | ex c p e => exact fun H' Z' od t g q => h σ H' Z' od t g q
  | bad => exact h
theorem WishS.bindO {o : O OV} {k : OV → En → OS} (h : WishS C Dn σ Z H env (bindS o k)) :
    WishO C σ Z H env o (fun v H1 => ∃ Z1 x env1 p ho, v = .ref p ∧ Tr Z H env σ Z1 H1 env1 σ ∧ Gd C.G C.io Z1 H1 env1 σ ∧ H p = none ∧ ¬ Own env1 σ p ∧ Z1 p = none ∧ H1 p = some ho ∧ RepO C.G Z1 ho x ∧ WishS C Dn σ Z H env (k x env1)) := by
  cases o with
  | ok x e => exact fun p ho H' Z' t g n no z hp r => ⟨Z', x, e, p, ho, rfl, t, g, n, no, z, hp, r, h⟩
  | ex c p e => exact fun H' Z' od t g q => h σ H' Z' od t g q
  | bad => exact h
end
section
variable {X : Cx} {C : Kx} {e : Expr} {fe : SE} {pos : Pos} {st : Stmt} {rest body : List Stmt} {f g : SS}
/-! ### blocks -/
def sNop : SS := fun env => .nx env
def sSeq (f g : SS) : SS := fun env => match f env with
  | .nx e => g e
  | r => r
theorem qs_n : PSs X [] (tS C sNop) := PSs.imp pss_nil fun Dn σ H ⟨Z, env, g, q⟩ => q σ H Z .refl g
theorem seq_imp {Dn : Ends} {σ : St} {H : Hp} (h : tS C (sSeq f g) Dn σ H) : tSeq (tS C f) (tS C g) Dn σ H := by
  obtain ⟨Z, env, gd, q⟩ := h
  refine ⟨Z, env, gd, ?_⟩
  unfold sSeq at q
  revert q
  generalize f env = r
  intro q
  cases r with
  | nx e => exact fun σ' H' Z' t g' => ⟨Z', e, g', WishS.shift t q⟩
  | _ => exact q
theorem qs_k (h1 : PS X st (tS C f)) (h2 : PSs X rest (tS C g)) : PSs X (st :: rest) (tS C (sSeq f g)) := PSs.imp (pss_cons h1 h2) fun _ _ _ h => seq_imp h
theorem qs_1 (h1 : PS X st (tS C f)) : PSs X [st] (tS C f) := pss_one h1
/-! ### simple statements -/
theorem q_pass : PS X (.Pass pos) (tS C sNop) := PS.imp ps_pass fun Dn σ H ⟨Z, env, g, q⟩ => q σ H Z .refl g
def sBreak : SS := fun env => .bk env
def sCont : SS := fun env => .ct env
theorem q_break : PS X (.Break pos) (tS C sBreak) := PS.imp ps_break fun Dn σ H ⟨Z, env, g, q⟩ => q σ H Z .refl g
theorem q_cont : PS X (.Continue pos) (tS C sCont) := PS.imp ps_continue fun Dn σ H ⟨Z, env, g, q⟩ => q σ H Z .refl g
def sRet (f : SE) : SS := fun env => bindS (f env) fun d e => .rt d e
theorem q_ret (h : PE X e (tE C fe)) : PS X (.Return (some e) pos) (tS C (sRet fe)) := PS.imp (ps_ret h) fun Dn σ H ⟨Z, env, g, q⟩ =>
  ⟨Z, env, g, (WishS.bind (R := Rep C.G) q).mono fun v H1 ⟨Z1, x, e1, t1, g1, r1, w1⟩ => w1 v σ H1 Z1 .refl g1 r1⟩
def sRetO (f : SO) : SS := fun env => bindS (f env) fun o e => .rto o e
theorem q_retO {fo : SO} (h : PE X e (tO C fo)) : PS X (.Return (some e) pos) (tS C (sRetO fo)) := PS.imp (ps_ret h) fun Dn σ H ⟨Z, env, g, q⟩ => by
  refine ⟨Z, env, g, ?_⟩
  unfold sRetO at q
  revert q
  generalize fo env = r
  intro q
  cases r with
  | bad => exact q
  | ex c p e => exact fun H' Z' od t g x => q σ H' Z' od t g x
  | ok o e' => exact fun p ho H' Z' t g' n no z hp r => q p ho σ H' Z' t g' n no z hp r
def sRetN : SS := fun env => .rt .non env
theorem q_retn : PS X (.Return none pos) (tS C sRetN) := PS.imp ps_retN fun Dn σ H ⟨Z, env, g, q⟩ => q .non σ H Z .refl g .non
def sExpr (f : SE) : SS := fun env => bindS (f env) fun _ e => .nx e
theorem q_expr (h : PE X e (tE C fe)) (hs : swapsWith e none pos.line X.env = pure false := by rfl) : PS X (.Expr e pos) (tS C (sExpr fe)) := PS.imp (ps_expr h hs) fun Dn σ H ⟨Z, env, g, q⟩ =>
  ⟨Z, env, g, (WishS.bind (R := Rep C.G) q).mono fun v H1 ⟨Z1, x, e1, t1, g1, r1, w1⟩ => w1 σ H1 Z1 .refl g1⟩
def sIfS (t : SB) (f g : SS) : SS := fun env => bindS (t env) fun k e => if k = true then f e else g e
theorem q_if {c : Expr} {a b : List Stmt} {tc : SB} (hc : PT X c (tBo C tc)) (ha : PSs X a (tS C f)) (hb : PSs X b (tS C g)) : PS X (.If c a b pos) (tS C (sIfS tc f g)) := PS.imp (ps_if hc ha hb) fun Dn σ H ⟨Z, env, g, q⟩ => by
  refine ⟨Z, env, g, (WishS.bind (R := fun _ (b c : Bool) => b = c) q).mono fun v H1 ⟨Z1, x, e1, t1, g1, r1, w1⟩ => ?_⟩
  subst r1
  cases v with
  | true => exact iteT ⟨Z1, e1, g1, w1⟩
  | false => exact iteF ⟨Z1, e1, g1, w1⟩
/-! ### assignment -/
def sSet (i : Nat) (f : SE) : SS := fun env => bindS (f env) fun d e => .nx (e.set i (.sh d))
def TSet' (i : Nat) (te : TE) : TS := tAsg te (gName i)
theorem set_imp {i : Nat} {Dn : Ends} {σ : St} {H : Hp} (h : tS C (sSet i fe) Dn σ H) : tAsg (tE C fe) (gName i) Dn σ H := by
  obtain ⟨Z, env, g, q⟩ := h
  exact ⟨Z, env, g, (WishS.bind (R := Rep C.G) q).mono fun v H1 ⟨Z1, x, e1, t1, g1, r1, w1⟩ => w1 _ H1 Z1 .setSh (g1.setSh r1)⟩
theorem q_set {i : Nat} {x : Expr} (h : PS X st (tAsg (tE C fe) (gName i))) : PS X st (tS C (sSet i fe)) := PS.imp h fun _ _ _ h => set_imp h
def sSetO (i : Nat) (f : SO) : SS := fun env => bindS (f env) fun o e => .nx (e.set i (.own false o))
theorem seto_imp {i : Nat} {fo : SO} {Dn : Ends} {σ : St} {H : Hp} (h : tS C (sSetO i fo) Dn σ H) : tAsg (tO C fo) (gName i) Dn σ H := by
  obtain ⟨Z, env, g, q⟩ := h
  refine ⟨Z, env, g, ?_⟩
  have w := WishS.bindO q
  revert w
  generalize fo env = r
  intro w
  cases r with
  | bad => exact w
  | ex c p e => exact w
  | ok o e' =>
    intro p ho H' Z' t g' n no z hp r
    obtain ⟨Z1, x, e1, p1, ho1, ep, t1, g1, n1, no1, z1, hp1, r1, w1⟩ := w p ho H' Z' t g' n no z hp r
    cases ep
    exact w1 _ H' Z1 ⟨t1.fz, t1.keep, t1.nw, fun a ha => by
      rcases own_setOwn ha with q | q
      · exact t1.own a q
      · subst q; exact .inr n1, t1.dom⟩ (g1.setOwn hp1 z1 no1 r1)
theorem q_setO {i : Nat} {fo : SO} (h : PS X st (tAsg (tO C fo) (gName i))) : PS X st (tS C (sSetO i fo)) := PS.imp h fun _ _ _ h => seto_imp h
/-- target = e, the target a tuple of names -/
def sAsg (f : SE) (fg : SG) : SS := fun env => bindS (f env) fun d e => match fg d e with | some e' => .nx e' | none => .bad
theorem q_asg {tg : Expr} {js : List Nat} {fg : SG} (he : PE X e (tE C fe)) (hg : PG X tg (tG C js fg)) (hs : swapsWithSole [tg] e pos.line X.env = pure false := by rfl) (hw : swappedStores [tg] e X.env = pure none := by rfl)
    (h1 : (assignEach [tg] X.env).map (·.2) = [assign tg X.env] := by rfl) : PS X (.Assign [tg] e pos) (tS C (sAsg fe fg)) := PS.imp (ps_asg he hg hs hw h1) fun Dn σ H ⟨Z, env, g, q⟩ => by
  refine ⟨Z, env, g, (WishS.bind (R := Rep C.G) q).mono fun v H1 ⟨Z1, x, e1, t1, g1, r1, w1⟩ => ?_⟩
  cases hf : fg x e1 with
  | none => rw [hf] at w1; exact w1.elim
  | some e2 =>
    rw [hf] at w1
    exact ⟨Z1, e1, x, e2, g1, r1, hf, fun σ' H' o t g' => w1 σ' H' Z1 t g'⟩
/-- x op= e, numbers -/
def sAug (i : Nat) (op : D → D → Option D) (f : SE) : SS := fun env => match env[i]? with
  | some (.sh x) => bindS (f env) fun y e => match op x y with | some d => .nx (e.set i (.sh d)) | none => .bad
  | _ => .bad
theorem aug_imp {i : Nat} {o : Int → Int → Int} {op : D → D → Option D} (ho : ∀ x y d, op x y = some d → ∃ a b, x = .int a ∧ y = .int b ∧ d = .int (o a b)) {Dn : Ends} {σ : St} {H : Hp} (h : tS C (sAug i op fe) Dn σ H) : tAug i (tE C fe) (ipI o) Dn σ H := by
  obtain ⟨Z, env, g, q⟩ := h
  unfold sAug at q
  split at q
  · rename_i x hx
    obtain ⟨v, h1, h2⟩ := g.sh i x hx
    refine ⟨v, h1, Z, env, g, (WishS.bind (R := Rep C.G) q).mono fun u H1 ⟨Z1, y, e1, t1, g1, r1, w1⟩ => ?_⟩
    cases hd : op x y with
    | none => rw [hd] at w1; exact w1.elim
    | some d =>
      rw [hd] at w1
      obtain ⟨a, b, rfl, rfl, rfl⟩ := ho _ _ _ hd
      cases h2
      cases r1
      exact ⟨a, b, rfl, rfl, w1 _ H1 Z1 .setSh (g1.setSh (.int _))⟩
  · exact q.elim
def augA : D → D → Option D
  | .int a, .int b => some (.int (a + b))
  | _, _ => none
def augS : D → D → Option D
  | .int a, .int b => some (.int (a - b))
  | _, _ => none
theorem q_augAdd {i : Nat} (h : PS X st (tAug i (tE C fe) (ipI fun a b => a + b))) : PS X st (tS C (sAug i augA fe)) := PS.imp h fun _ _ _ h => aug_imp (fun x y d e => by
  unfold augA at e
  split at e
  · cases e; exact ⟨_, _, rfl, rfl, rfl⟩
  · cases e) h
theorem q_augSub {i : Nat} (h : PS X st (tAug i (tE C fe) (ipI fun a b => a - b))) : PS X st (tS C (sAug i augS fe)) := PS.imp h fun _ _ _ h => aug_imp (fun x y d e => by
  unfold augS at e
  split at e
  · cases e; exact ⟨_, _, rfl, rfl, rfl⟩
  · cases e) h
/-! ### owned lists change -/
def ownL (env : En) (i : Nat) : Option (Bool × List D) := match env[i]? with
  | some (.own m (.lst ds)) => some (m, ds)
  | _ => none
theorem ownL_get {env : En} {i : Nat} {m : Bool} {ds : List D} (h : ownL env i = some (m, ds)) : env[i]? = some (.own m (.lst ds)) := by
  unfold ownL at h
  split at h
  · rename_i e; cases h; exact e
  · cases h
/-- the slot's list -/
theorem Gd.lst {G : GW} {io : Option Addr} {Z H : Hp} {env : En} {σ : St} (g : Gd G io Z H env σ) {i : Nat} {m : Bool} {ds : List D} (e : env[i]? = some (.own m (.lst ds))) : ∃ a vs, σ[i]? = some (some (.ref a)) ∧ Z a = none ∧ H a = some (.lst vs) ∧ Reps G Z vs ds := by
  obtain ⟨a, ho, h1, h2, h3, h4, _⟩ := g.own i m _ e
  cases h4 with
  | lst r => exact ⟨a, _, h1, h2, h3, r⟩
/-- xs.append(e) -/
def sApp (i : Nat) (f : SE) : SS := fun env => match env[i]? with
  | some (.own _ (.lst _)) => bindS (f env) fun d e => match ownL e i with
    | some (m, ds) => if ds.length < sizeLine then .nx (e.set i (.own m (.lst (ds ++ [d])))) else .bad
    | none => .bad
  | _ => .bad
theorem app_imp {i : Nat} {Dn : Ends} {σ : St} {H : Hp} (h : tS C (sApp i fe) Dn σ H) : tDrop (tBM X.K "list" rAppend (tVar i) (tCons (tE C fe) tNil)) Dn σ H := by
  obtain ⟨Z, env, g, q⟩ := h
  unfold sApp at q
  split at q
  · rename_i m ds0 he0
    obtain ⟨a, vs, h1, h2, h3, h4⟩ := g.lst he0
    refine ⟨.ref a, h1, .inl ⟨rfl, _, .inl (.inl h3)⟩, Z, env, g, (WishS.bind (R := Rep C.G) q).mono fun v H1 ⟨Z1, x, e1, t1, g1, r1, w1⟩ => ?_⟩
    cases hl : ownL e1 i with
    | none => rw [hl] at w1; exact w1.elim
    | some p =>
      obtain ⟨m1, ds⟩ := p
      rw [hl] at w1
      have he1 := ownL_get hl
      obtain ⟨b, ws, k1, k2, k3, k4⟩ := g1.lst he1
      rw [h1] at k1
      cases k1
      simp only at w1
      split at w1
      · rename_i hz
        rw [← k4.length] at hz
        exact ⟨a, ws, v, rfl, rfl, k3, hz, w1 σ _ Z1 (.write he1 h1) (g1.write he1 h1 (.lst (k4.append (.one r1))))⟩
      · exact w1.elim
  · exact q.elim
theorem q_app {i : Nat} {id : String} (h : PS X st (tDrop (tBM X.K "list" rAppend (tVar i) (tCons (tE C fe) tNil)))) : PS X st (tS C (sApp i fe)) := PS.imp h fun _ _ _ h => app_imp h
/-- xs.pop() -/
def sPop (i : Nat) : SE := fun env => match ownL env i with
  | some (m, ds) => match ds.getLast? with
    | some d => .ok d (env.set i (.own m (.lst ds.dropLast)))
    | none => .bad
  | none => .bad
theorem reps_dropLast {G : GW} {Z : Hp} {vs : List V} {ds : List D} (r : Reps G Z vs ds) : Reps G Z vs.dropLast ds.dropLast := by
  rw [List.dropLast_eq_take, List.dropLast_eq_take, r.length]
  exact r.take _
theorem pop_imp {i : Nat} {σ : St} {H : Hp} {Q : VK} (h : tE C (sPop i) σ H Q) : tBM0 X.K "list" rPop (tVar i) σ H Q := by
  obtain ⟨Z, env, g, q⟩ := h
  unfold sPop at q
  split at q
  · rename_i m ds hl
    have he := ownL_get hl
    obtain ⟨a, vs, h1, h2, h3, h4⟩ := g.lst he
    split at q
    · rename_i d hd
      rw [List.getLast?_eq_getElem?] at hd
      obtain ⟨v, k1, k2⟩ := h4.get hd
      refine ⟨.ref a, h1, .inl ⟨rfl, _, .inl (.inl h3)⟩, a, vs, v, rfl, rfl, h3, by rw [h4.length]; exact k1, ?_⟩
      exact q v _ Z (.write he h1) (g.write he h1 (.lst (reps_dropLast h4))) k2
    · exact q.elim
  · exact q.elim
theorem pd_pop {i : Nat} (h : PE X e (tBM0 X.K "list" rPop (tVar i))) : PE X e (tE C (sPop i)) := PE.imp h fun _ _ _ h => pop_imp h
/-! ### loops -/
def loopF (fg : SG) (fb : SS) : List D → En → OS
  | [], e => .nx e
  | d :: ds, e => match fg d e with
    | none => .bad
    | some e1 => match fb e1 with
      | .nx e2 => loopF fg fb ds e2
      | .ct e2 => loopF fg fb ds e2
      | .bk e2 => .nx e2
      | r => r
def sFor (fi : SL) (fg : SG) (fb : SS) : SS := fun env => bindS (fi env) fun ds e => loopF fg fb ds e
theorem for_imp {fi : SL} {js : List Nat} {fg : SG} {fb : SS} {Dn : Ends} {σ : St} {H : Hp} (h : tS C (sFor fi fg fb) Dn σ H) : tFor (tI C fi) (tG C js fg) (tS C fb) Dn σ H := by
  obtain ⟨Z, env, g, q⟩ := h
  refine ⟨Z, env, g, (WishS.bind (R := Walks C) q).mono fun J H1 ⟨Z1, ds, e1, t1, g1, wk, w1⟩ => ?_⟩
  refine ⟨fun i m σ' H' => ∃ Z' env', Same Z1 Z' ∧ Gd C.G C.io Z' H' env' σ' ∧ i ≤ ds.length ∧ m = ds.length - i ∧ WishS C Dn σ' Z' H' env' (loopF fg fb (ds.drop i) env'), ⟨ds.length, Z1, e1, Same.refl _, g1, Nat.zero_le _, rfl, w1⟩, ?_⟩
  rintro i m σ' H' ⟨Z', env', s', g', hi, rfl, w'⟩
  by_cases hlt : i < ds.length
  · have hd : ds[i]? = some ds[i] := List.getElem?_eq_getElem hlt
    rw [List.drop_eq_getElem_cons hlt] at w'
    obtain ⟨k1, k2⟩ := wk.1 i _ hd Z' H' s' g'.sub
    refine .inr ⟨k1, fun σ'' H'' => ∃ Z'' env'', Same Z1 Z'' ∧ Gd C.G C.io Z'' H'' env'' σ'' ∧ WishS C Dn σ'' Z'' H'' env'' (loopF fg fb (ds.drop (i + 1)) env''), fun σ'' H'' ⟨Z'', env'', s'', g'', w''⟩ => ⟨ds.length - (i + 1), by omega, Z'', env'', s'', g'', hlt, rfl, w''⟩, fun x H2 hy => ?_⟩
    obtain ⟨Z2, st2, r2⟩ := k2 x H2 hy
    have g2 := g'.step st2
    have w2 := w'.shift (Tr.step (env := env') (σ := σ') st2)
    rw [loopF] at w2
    cases hf : fg ds[i] env' with
    | none => rw [hf] at w2; exact w2.elim
    | some e3 =>
      rw [hf] at w2
      refine ⟨Z2, env', _, e3, g2, r2, hf, fun σ3 H3 o3 t3 g3 => ⟨Z2, e3, g3, ?_⟩⟩
      have w3 := w2.shift t3
      simp only at w3
      revert w3
      generalize fb e3 = r
      intro w3
      cases r with
      | nx e => exact fun σ4 H4 Z4 t4 g4 => ⟨Z4, e, (s'.trans st2.fz).trans t4.fz, g4, w3.shift t4⟩
      | ct e => exact fun σ4 H4 Z4 t4 g4 => ⟨Z4, e, (s'.trans st2.fz).trans t4.fz, g4, w3.shift t4⟩
      | bk e => exact w3
      | rt d e => exact w3
      | rto o e => exact w3
      | ex c p e => exact w3
      | bad => exact w3
  · have e : i = ds.length := by omega
    subst e
    rw [List.drop_length] at w'
    exact .inl ⟨wk.2 Z' H' s' g'.sub, w' σ' H' Z' .refl g'⟩
theorem q_for {tg iter : Expr} {fi : SL} {js : List Nat} {fg : SG} {fb : SS} (hp : PassesOwn (model X.prog X.w) X.A X.env X.xe) (hc : X.calm = true) (hi : PI X tg iter (tI C fi)) (hg : PG X tg (tG C js fg)) (hb : PSs X body (tS C fb))
    (hs : ∀ x, foldedSetIterable iter X.env x = pure x := by intro _; rfl) : PS X (.For tg iter body [] pos) (tS C (sFor fi fg fb)) := PS.imp (ps_for hp hc hi hg hb hs) fun _ _ _ h => for_imp h
def loopW (fc : SB) (fb : SS) : Nat → En → OS
  | 0, _ => .bad
  | n + 1, e => match fc e with
    | .ok true e1 => (match fb e1 with
      | .nx e2 => loopW fc fb n e2
      | .ct e2 => loopW fc fb n e2
      | .bk e2 => .nx e2
      | r => r)
    | .ok false e1 => .nx e1
    | .ex c p e1 => .ex c p e1
    | .bad => .bad
theorem while_imp {n : Nat} {fc : SB} {fb : SS} {Dn : Ends} {σ : St} {H : Hp} (h : tS C (loopW fc fb n) Dn σ H) : tWhile (tBo C fc) (tS C fb) Dn σ H := by
  obtain ⟨Z, env, g, q⟩ := h
  refine ⟨fun m σ' H' => ∃ Z' env', Gd C.G C.io Z' H' env' σ' ∧ WishS C Dn σ' Z' H' env' (loopW fc fb m env'), ⟨n, Z, env, g, q⟩, ?_⟩
  rintro m σ' H' ⟨Z', env', g', w'⟩
  cases m with
  | zero => exact w'.elim
  | succ m =>
    rw [loopW] at w'
    refine ⟨Z', env', g', ?_⟩
    revert w'
    generalize fc env' = r
    intro w'
    cases r with
    | bad => exact w'
    | ex c p e => exact fun H1 Z1 od t1 g1 x => w' σ' H1 Z1 od t1 g1 x
    | ok b e =>
      intro b' H1 Z1 t1 g1 eb
      subst eb
      cases b' with
      | false => exact iteF (w' σ' H1 Z1 t1 g1)
      | true =>
        refine iteT ⟨fun σ'' H'' => ∃ Z'' env'', Gd C.G C.io Z'' H'' env'' σ'' ∧ WishS C Dn σ'' Z'' H'' env'' (loopW fc fb m env''), fun σ'' H'' h => ⟨m, Nat.lt_succ_self _, h⟩, Z1, e, g1, ?_⟩
        have w3 := w'.shift t1
        simp only at w3
        revert w3
        generalize fb e = r
        intro w3
        cases r with
        | nx e => exact fun σ4 H4 Z4 t4 g4 => ⟨Z4, e, g4, w3.shift t4⟩
        | ct e => exact fun σ4 H4 Z4 t4 g4 => ⟨Z4, e, g4, w3.shift t4⟩
        | bk e => exact w3
        | rt d e => exact w3
        | rto o e => exact w3
        | ex c p e => exact w3
        | bad => exact w3
theorem q_while {c : Expr} {fc : SB} {fb : SS} (n : Nat) (hp : PassesOwn (model X.prog X.w) X.A X.env X.xe) (hc : PT X c (tBo C fc)) (hb : PSs X body (tS C fb)) : PS X (.While c body [] pos) (tS C (loopW fc fb n)) := PS.imp (ps_while hp hc hb) fun _ _ _ h => while_imp h
end
end Ax
set_option Elab.async false
set_option linter.all false
set_option maxRecDepth 100000
set_option maxHeartbeats 2000000
/-! Ax7: list comprehensions. -/
namespace Ax
open PySem PySem.Spec L2
variable [TabC]

def wipeE (env : En) : List Nat → En
  | [] => env
  | j :: js => (wipeE env js).set j .un
def back (env0 : En) : List Nat → En → En
  | [], e => e
  | j :: js, e => (back env0 js e).set j (env0.getD j .un)
def plainE (env : En) (js : List Nat) : Bool := js.all fun j => match env[j]? with
  | some (.own _ _) => false
  | _ => true
section
variable {env env0 e : En} {js : List Nat} {k : Nat}
theorem wipeE_len : ∀ js, (wipeE env js).length = env.length
  | [] => rfl
  | j :: js => by unfold wipeE; rw [List.length_set, wipeE_len js]
theorem wipeE_get : ∀ {js : List Nat}, k ∉ js → (wipeE env js)[k]? = env[k]?
  | [], _ => rfl
  | j :: js, h => by
    unfold wipeE
    rw [get_set_ne (fun q => h (by rw [q]; exact List.mem_cons_self)), wipeE_get fun q => h (List.mem_cons_of_mem _ q)]
theorem wipeE_in : ∀ {js : List Nat}, k ∈ js → k < env.length → (wipeE env js)[k]? = some .un
  | j :: js, h, hl => by
    unfold wipeE
    by_cases q : j = k
    · subst q; exact get_set (by rw [wipeE_len]; exact hl)
    · rw [get_set_ne q]
      obtain e | e := List.mem_cons.mp h
      · exact absurd e.symm q
      · exact wipeE_in e hl
theorem back_len : ∀ js, (back env0 js e).length = e.length
  | [] => rfl
  | j :: js => by unfold back; rw [List.length_set, back_len js]
theorem back_get : ∀ {js : List Nat}, k ∉ js → (back env0 js e)[k]? = e[k]?
  | [], _ => rfl
  | j :: js, h => by
    unfold back
    rw [get_set_ne (fun q => h (by rw [q]; exact List.mem_cons_self)), back_get fun q => h (List.mem_cons_of_mem _ q)]
theorem back_in : ∀ {js : List Nat}, k ∈ js → k < e.length → (back env0 js e)[k]? = some (env0.getD k .un)
  | j :: js, h, hl => by
    unfold back
    by_cases q : j = k
    · subst q; exact get_set (by rw [back_len]; exact hl)
    · rw [get_set_ne q]
      obtain e | e := List.mem_cons.mp h
      · exact absurd e.symm q
      · exact back_in e hl
theorem plain_not {m : Bool} {o : OV} (h : plainE env js = true) (hk : k ∈ js) : env[k]? ≠ some (.own m o) := fun q => by
  unfold plainE at h
  rw [List.all_eq_true] at h
  have := h k hk
  rw [q] at this
  cases this
end
section
variable {G : GW} {io : Option Addr} {Z H Z1 H1 : Hp} {env env1 : En} {σ σ2 : St} {js : List Nat}
theorem wipeE_some {k : Nat} {s : SV} (h : (wipeE env js)[k]? = some s) (n : s ≠ .un) : k ∉ js ∧ env[k]? = some s := by
  by_cases hk : k ∈ js
  · by_cases hl : k < env.length
    · rw [wipeE_in hk hl] at h; cases h; exact absurd rfl n
    · rw [List.getElem?_eq_none (by rw [wipeE_len]; omega)] at h; cases h
  · rw [wipeE_get hk] at h; exact ⟨hk, h⟩
theorem Gd.wipe (g : Gd G io Z H env σ) (js : List Nat) : Gd G io Z H (wipeE env js) (wipe σ js) := by
  refine ⟨g.sub, by rw [wipe_len, wipeE_len]; exact g.len, fun i d h => ?_, fun i m o h => ?_, fun i j m n x y a h1 h2 h3 h4 => ?_, fun j h => ?_⟩
  rotate_right 1
  · obtain ⟨h1, h2⟩ := wipeE_some h (by intro z; cases z)
    rw [wipe_get h1]
    exact g.fx j h2
  · obtain ⟨h1, h2⟩ := wipeE_some h (by intro z; cases z)
    rw [wipe_get h1]
    exact g.sh i d h2
  · obtain ⟨h1, h2⟩ := wipeE_some h (by intro z; cases z)
    rw [wipe_get h1]
    exact g.own i m o h2
  · obtain ⟨a1, a2⟩ := wipeE_some h1 (by intro z; cases z)
    obtain ⟨b1, b2⟩ := wipeE_some h2 (by intro z; cases z)
    rw [wipe_get a1] at h3
    rw [wipe_get b1] at h4
    exact g.dis i j m n x y a a2 b2 h3 h4
theorem Tr.wipe : Tr Z H env σ Z H (wipeE env js) (wipe σ js) := ⟨Same.refl _, fun _ _ h _ _ => h, fun _ _ h => .inl h, fun a ⟨i, m, o, h1, h2⟩ => .inl (by
  obtain ⟨a1, a2⟩ := wipeE_some h1 (by intro z; cases z)
  rw [wipe_get a1] at h2
  exact ⟨i, m, o, a2, h2⟩), fun _ h => h⟩
theorem out_eq {k : Nat} (h : wipe σ2 js = wipe σ js) (hk : k ∉ js) : σ2[k]? = σ[k]? := by rw [← wipe_get (σ := σ2) hk, ← wipe_get (σ := σ) hk, h]
theorem back_own {e : En} {k : Nat} {m : Bool} {o : OV} (p : plainE env js = true) (h : (back env js e)[k]? = some (.own m o)) : k ∉ js ∧ e[k]? = some (.own m o) := by
  by_cases hk : k ∈ js
  · exfalso
    by_cases hl : k < e.length
    · rw [back_in hk hl] at h
      have h' : env.getD k .un = .own m o := Option.some.inj h
      rw [List.getD_eq_getElem?_getD] at h'
      cases he : env[k]? with
      | none => rw [he] at h'; cases h'
      | some s =>
        rw [he] at h'
        have h2 : s = .own m o := h'
        subst h2
        exact plain_not p hk he
    · rw [List.getElem?_eq_none (by rw [back_len]; omega)] at h; cases h
  · rw [back_get hk] at h; exact ⟨hk, h⟩
theorem Gd.back {Z3 H3 : Hp} {e : En} (g3 : Gd G io Z3 H3 e σ2) (g : Gd G io Z H env σ) (s : Same Z Z3) (hw : L2.wipe σ2 js = L2.wipe σ js) (p : plainE env js = true) : Gd G io Z3 H3 (Ax.back env js e) σ := by
  have hl : σ2.length = σ.length := by rw [← wipe_len σ2 js, ← wipe_len σ js, hw]
  refine ⟨g3.sub, by rw [back_len, ← g3.len, hl], fun i d h => ?_, fun i m o h => ?_, fun i j m n x y a h1 h2 h3 h4 => ?_, fun i h => ?_⟩
  rotate_right 1
  · by_cases hk : i ∈ js
    · by_cases hi : i < e.length
      · rw [back_in hk hi] at h
        have h' : env.getD i .un = .fx := Option.some.inj h
        rw [List.getD_eq_getElem?_getD] at h'
        cases he : env[i]? with
        | none => rw [he] at h'; cases h'
        | some s =>
          rw [he] at h'
          have h2 : s = .fx := h'
          subst h2
          exact g.fx i he
      · rw [List.getElem?_eq_none (by rw [back_len]; omega)] at h; cases h
    · rw [back_get hk] at h
      rw [← out_eq hw hk]
      exact g3.fx i h
  · by_cases hk : i ∈ js
    · by_cases hi : i < e.length
      · rw [back_in hk hi] at h
        have h' : env.getD i .un = .sh d := Option.some.inj h
        rw [List.getD_eq_getElem?_getD] at h'
        cases he : env[i]? with
        | none => rw [he] at h'; cases h'
        | some s =>
          rw [he] at h'
          have h2 : s = .sh d := h'
          subst h2
          obtain ⟨v, a1, a2⟩ := g.sh i d he
          exact ⟨v, a1, a2.mono ‹_›⟩
      · rw [List.getElem?_eq_none (by rw [back_len]; omega)] at h; cases h
    · rw [back_get hk] at h
      rw [← out_eq hw hk]
      exact g3.sh i d h
  · obtain ⟨h1, h2⟩ := back_own p h
    rw [← out_eq hw h1]
    exact g3.own i m o h2
  · obtain ⟨a1, a2⟩ := back_own p h1
    obtain ⟨b1, b2⟩ := back_own p h2
    rw [← out_eq hw a1] at h3
    rw [← out_eq hw b1] at h4
    exact g3.dis i j m n x y a a2 b2 h3 h4
theorem Tr.back {Z3 H3 : Hp} {e : En} (hw : L2.wipe σ2 js = L2.wipe σ js) (p : plainE env js = true) : Tr Z3 H3 e σ2 Z3 H3 (Ax.back env js e) σ := ⟨Same.refl _, fun _ _ h _ _ => h, fun _ _ h => .inl h, fun a ⟨i, m, o, h1, h2⟩ => .inl (by
  obtain ⟨a1, a2⟩ := back_own p h1
  rw [← out_eq hw a1] at h2
  exact ⟨i, m, o, a2, h2⟩), fun _ h => h⟩
theorem Tr.pokeNew {Z3 H3 : Hp} {e : En} {σ3 : St} {p : Addr} {ho : HO} (t : Tr Z H env σ Z3 H3 e σ3) (n : H p = none) : Tr Z H env σ Z3 (upd H3 p ho) e σ3 := by
  refine ⟨t.fz, fun a o h no nt => ?_, t.nw, t.own, fun a h => ?_⟩
  · rw [upd_ne (ne_of_none h n)]
    exact t.keep a o h no nt
  · by_cases q : a = p
    · subst q; rw [upd_same] at h; cases h
    · rw [upd_ne q] at h; exact t.dom a h
theorem plain_back {e : En} (p : plainE env js = true) : plainE (Ax.back env js e) js = true := by
  unfold plainE
  rw [List.all_eq_true]
  intro j hj
  split
  · rename_i m o h
    exact absurd hj (back_own p h).1
  · rfl
end
abbrev Kx.blk (C : Kx) : Kx := { C with W := fun _ _ _ _ => False }
def loopC (js : List Nat) (fg : SG) (ft : SB) (fe : SE) : List D → En → List D → O OV
  | [], e, acc => .ok (.lst acc) e
  | d :: ds, e, acc => match fg d (wipeE e js) with
    | none => .bad
    | some e1 => match ft e1 with
      | .ok true e2 => (match fe e2 with
        | .ok y e3 => if acc.length < sizeLine then loopC js fg ft fe ds (back e js e3) (acc ++ [y]) else .bad
        | _ => .bad)
      | .ok false e2 => loopC js fg ft fe ds (back e js e2) acc
      | _ => .bad
def sComp (fi : SL) (js : List Nat) (fg : SG) (ft : SB) (fe : SE) : SO := fun env => (fi env).bind fun ds e => if plainE e js = true then loopC js fg ft fe ds e [] else .bad
section
variable {X : Cx} {C : Kx}
theorem comp_imp {fi : SL} {js : List Nat} {fg : SG} {ft : SB} {fe : SE} {σ : St} {H : Hp} {Q : VK} (h : tO C (sComp fi js fg ft fe) σ H Q) : tLc (tI C fi) (tG C.blk js fg) (tBo C.blk ft) (tE C.blk fe) js σ H Q := by
  obtain ⟨Z, env, g, q⟩ := h
  refine ⟨Z, env, g, (WishO.bind (S := Walks C) q).mono fun J H1 ⟨Z1, ds, e1, t1, g1, wk, w1⟩ D nD => ?_⟩
  split at w1
  rotate_left
  · exact w1.elim
  rename_i hp
  refine ⟨fun i m H' => ∃ Z' env' acc vs, Tr Z1 H1 e1 σ Z' H' env' σ ∧ Gd C.G C.io Z' H' env' σ ∧ i ≤ ds.length ∧ m = ds.length - i ∧ H' D = some (.lst vs) ∧ Z' D = none ∧ ¬ Own env' σ D ∧ Reps C.G Z' vs acc ∧ plainE env' js = true ∧
    WishO C σ Z1 H1 e1 (loopC js fg ft fe (ds.drop i) env' acc) Q, ⟨ds.length, Z1, e1, [], [], .fresh nD, g1.poke (g1.sub.free nD) (g1.notOwnN nD) (fun _ h => by rw [nD] at h; cases h), Nat.zero_le _, rfl, upd_same, g1.sub.free nD, g1.notOwnN nD, .nil, hp, w1⟩, ?_⟩
  rintro i m H' ⟨Z', env', acc, vs, t', g', hi, rfl, hD, zD, oD, rD, hp', w'⟩
  by_cases hlt : i < ds.length
  rotate_left
  · have e : i = ds.length := by omega
    subst e
    rw [List.drop_length] at w'
    exact .inl ⟨wk.2 Z' H' t'.fz g'.sub, w' D _ H' Z' t' g' nD oD zD hD (.lst rD)⟩
  have hd : ds[i]? = some ds[i] := List.getElem?_eq_getElem hlt
  rw [List.drop_eq_getElem_cons hlt] at w'
  obtain ⟨k1, k2⟩ := wk.1 i _ hd Z' H' t'.fz g'.sub
  refine .inr ⟨k1, fun H'' => ∃ Z'' env'' acc'' vs'', Tr Z1 H1 e1 σ Z'' H'' env'' σ ∧ Gd C.G C.io Z'' H'' env'' σ ∧ H'' D = some (.lst vs'') ∧ Z'' D = none ∧ ¬ Own env'' σ D ∧ Reps C.G Z'' vs'' acc'' ∧ plainE env'' js = true ∧
    WishO C σ Z1 H1 e1 (loopC js fg ft fe (ds.drop (i + 1)) env'' acc'') Q, fun H'' ⟨Z'', env'', acc'', vs'', a1, a2, a3, a4, a5, a6, a7, a8⟩ => ⟨ds.length - (i + 1), by omega, Z'', env'', acc'', vs'', a1, a2, hlt, rfl, a3, a4, a5, a6, a7, a8⟩, fun x H2 hy => ?_⟩
  obtain ⟨Z2, st2, r2⟩ := k2 x H2 hy
  have g2 := (g'.step st2).wipe js
  have t2 : Tr Z' H' env' σ Z2 H2 (wipeE env' js) (wipe σ js) := (Tr.step st2).trans .wipe
  rw [loopC] at w'
  cases hf : fg ds[i] (wipeE env' js) with
  | none => rw [hf] at w'; exact w'.elim
  | some e3 =>
  rw [hf] at w'
  simp only at w'
  refine ⟨Z2, _, _, e3, g2, r2, hf, fun σ3 H3 o3 t3 g3 => ⟨only_wipe o3, Z2, e3, g3, ?_⟩⟩
  have hw := only_wipe o3
  -- what is kept through the turn
  have fin : ∀ {Z4 H4 : Hp} {e4 : En}, Tr Z2 H3 e3 σ3 Z4 H4 e4 σ3 → Gd C.G C.io Z4 H4 e4 σ3 → Gd C.G C.io Z4 H4 (back env' js e4) σ ∧ Tr Z' H' env' σ Z4 H4 (back env' js e4) σ ∧ H4 D = some (.lst vs) ∧ Z4 D = none ∧ ¬ Own (back env' js e4) σ D := by
    intro Z4 H4 e4 t4 g4
    have T : Tr Z' H' env' σ Z4 H4 (back env' js e4) σ := ((t2.trans t3).trans t4).trans (.back hw hp')
    refine ⟨g4.back g' ((st2.fz).trans ((t3.fz).trans t4.fz)) hw hp', T, T.keep D _ hD oD (fun _ q => by cases q), ?_, fun z => ?_⟩
    · cases z : Z4 D with
      | none => rfl
      | some o =>
        rcases T.nw D o z with q | q | q
        · rw [zD] at q; cases q
        · rw [hD] at q; cases q
        · exact absurd q oD
    · rcases T.own D z with q | q
      · exact oD q
      · rw [hD] at q; cases q
  revert w'
  generalize ft e3 = rt
  intro w'
  cases rt with
  | bad => exact w'.elim
  | ex c p e => exact w'.elim
  | ok b e4 =>
  intro b' H4 Z4 t4 g4 eb
  subst eb
  cases b' with
  | false =>
    obtain ⟨f1, f2, f3, f4, f5⟩ := fin t4 g4
    exact iteF ⟨Z4, back env' js e4, acc, vs, t'.trans f2, f1, f3, f4, f5, rD.mono f2.fz, plain_back hp', w'⟩
  | true =>
    refine iteT ⟨Z4, e4, g4, ?_⟩
    simp only at w'
    revert w'
    generalize fe e4 = re
    intro w'
    cases re with
    | bad => exact w'.elim
    | ex c p e => exact w'.elim
    | ok y e5 =>
    intro v H5 Z5 t5 g5 r5
    obtain ⟨f1, f2, f3, f4, f5⟩ := fin (t4.trans t5) g5
    simp only at w'
    split at w'
    rotate_left
    · exact w'.elim
    rename_i hz
    rw [← rD.length] at hz
    refine ⟨vs, f3, hz, Z5, back env' js e5, acc ++ [y], vs ++ [v], (t'.trans f2).pokeNew nD, f1.poke f4 f5 (fun _ q => by rw [f3] at q; cases q; exact .inl ⟨_, rfl⟩), upd_same, f4, f5, (rD.mono f2.fz).append (.one r5), plain_back hp', w'⟩
def sYes : SB := fun env => .ok true env
theorem pts_y {ifs : List Expr} (h : PTs X ifs tYes) : PTs X ifs (tBo C sYes) := ⟨fun pins s σ H Q I ⟨Z, env, g, q⟩ => h.run pins s σ H Q I (q.ret0 g rfl)⟩
theorem pts_1 {c : Expr} {t : SB} (h : PT X c (tBo C t)) : PTs X [c] (tBo C t) := pts_one h
theorem po_comp {elt tg iter : Expr} {ifs : List Expr} {scope : Scope} {own : List (Str × Nat)} {pos : Pos} {fi : SL} {fg : SG} {ft : SB} {fe : SE} (hc : X.calm = true) (hN : X.N.Nodup) (hi : PI X tg iter (tI C fi)) (ok : BlkOk X.N X.env.scope scope own)
    (hg : ∀ (s : Shared) (H : Hp) (c : Addr) (cl : List (Str × Addr)) (fp : List Addr), PG (X.blk s H scope (compEnvC scope cl c X.env) fp) tg (tG C.blk (own.map (·.2)) fg)) (ht : ∀ (s : Shared) (H : Hp) (c : Addr) (cl : List (Str × Addr)) (fp : List Addr), PTs (X.blk s H scope (compEnvC scope cl c X.env) fp) ifs (tBo C.blk ft))
    (he : ∀ (s : Shared) (H : Hp) (c : Addr) (cl : List (Str × Addr)) (fp : List Addr), PE (X.blk s H scope (compEnvC scope cl c X.env) fp) elt (tE C.blk fe)) (hs : ∀ x, foldedSetIterable iter X.env x = pure x := by intro _; rfl) :
    PE X (.ListComp elt [⟨tg, iter, ifs, 0⟩] scope pos) (tO C (sComp fi (own.map (·.2)) fg ft fe)) := PE.imp (pe_lc hc hN hi ok hg ht he hs) fun _ _ _ h => comp_imp h
/-- y = [..] -/
theorem q_setLc {i : Nat} {y : Str} {py : Pos} {elt tg iter : Expr} {ifs : List Expr} {scope : Scope} {own : List (Str × Nat)} {pos spos : Pos} {fi : SL} {fg : SG} {ft : SB} {fe : SE} (hc : X.calm = true) (hN : X.N.Nodup) (hy : X.N[i]? = some y) (hyl : X.env.scope.names.lookup y = some .local)
    (hsw : swapsWith (.ListComp elt [⟨tg, iter, ifs, 0⟩] scope pos) (some (.Name y py)) spos.line X.env = pure true) (hi : PI X tg iter (tI C fi)) (ok : BlkOk X.N X.env.scope scope own)
    (hg : ∀ (s : Shared) (H : Hp) (c : Addr) (cl : List (Str × Addr)) (fp : List Addr), PG (X.blk s H scope (compEnvC scope cl c X.env) fp) tg (tG C.blk (own.map (·.2)) fg)) (ht : ∀ (s : Shared) (H : Hp) (c : Addr) (cl : List (Str × Addr)) (fp : List Addr), PTs (X.blk s H scope (compEnvC scope cl c X.env) fp) ifs (tBo C.blk ft))
    (he : ∀ (s : Shared) (H : Hp) (c : Addr) (cl : List (Str × Addr)) (fp : List Addr), PE (X.blk s H scope (compEnvC scope cl c X.env) fp) elt (tE C.blk fe)) (hs : ∀ x, foldedSetIterable iter X.env x = pure x := by intro _; rfl) :
    PS X (.Assign [.Name y py] (.ListComp elt [⟨tg, iter, ifs, 0⟩] scope pos) spos) (tS C (sSetO i (sComp fi (own.map (·.2)) fg ft fe))) :=
  q_setO (fo := sComp fi (own.map (·.2)) fg ft fe) (PS.imp (ps_setLc hc hN hy hyl hsw hi ok hg ht he hs) fun Dn σ H h => by
    exact comp_imp h)
end
end Ax
set_option Elab.async false
set_option linter.all false
set_option maxRecDepth 100000
set_option maxHeartbeats 2000000
/-! Ax8: defs, calls, built-ins. -/
namespace Ax
open PySem PySem.Spec L2
variable [TabC]

inductive RS where
  | ok (d : D) (io : OV) | ex (c : Nat) (p : List D) (io : OV) | bad
abbrev FS := List D → RS
abbrev FI := OV → List D → RS
abbrev nil0 : OV := .lst []
def spP (G : GW) (n : Nat) (F : FS) : Sp := fun vs H Q E => ∃ Z ds, Sub Z H ∧ Reps G Z vs ds ∧ ds.length = n ∧ match F ds with
  | .ok d _ => ∀ v H' Z', Step Z H Z' H' → Rep G Z' v d → Q v H'
  | .ex c p _ => ∀ H' Z' od, Step Z H Z' H' → XOb G Z' H' c p od → E (.ref (G.cls c)) od H'
  | .bad => False
structure StepI (a : Addr) (Z H Z' H' : Hp) : Prop where
  hp : ∀ b o, b ≠ a → H b = some o → (∀ ps, o ≠ .tbl ps) → H' b = some o
  fz : Same Z Z'
  nw : ∀ b o, Z' b = some o → Z b = some o ∨ H b = none
  sub : Sub Z' H'
  dom : ∀ b, H' b = none → H b = none
  za : Z' a = none
def spI (G : GW) (n : Nat) (F : FI) : Sp := fun vs H Q E => ∃ Z a vs' ho ss ds, vs = .ref a :: vs' ∧ Sub Z H ∧ Z a = none ∧ H a = some ho ∧ RepO G Z ho ss ∧ Reps G Z vs' ds ∧ ds.length = n ∧ match F ss ds with
  | .ok d ss' => ∀ v H' Z' ho', StepI a Z H Z' H' → H' a = some ho' → RepO G Z' ho' ss' → Rep G Z' v d → Q v H'
  | .ex c p ss' => ∀ H' Z' od ho', StepI a Z H Z' H' → H' a = some ho' → RepO G Z' ho' ss' → XOb G Z' H' c p od → E (.ref (G.cls c)) od H'
  | .bad => False

def env0 (N : Nat) (ds : List D) : En := ds.map .sh ++ List.replicate (N - ds.length) .un
def runP (N : Nat) (f : SS) : FS := fun ds => match f (env0 N ds) with
  | .nx _ => .ok .non nil0
  | .rt d _ => .ok d nil0
  | .rto o _ => (match o.fz with | some d => .ok d nil0 | none => .bad)
  | .ex c p _ => .ex c p nil0
  | _ => .bad
def io0 (e : En) : Option OV := match e[0]? with
  | some (SV.own true o) => some o
  | _ => none
def runI (N : Nat) (f : SS) : FI := fun ss r => match f (.own true ss :: env0 (N - 1) r) with
  | .nx e => (match io0 e with | some s => .ok .non s | none => .bad)
  | .rt d e => (match io0 e with | some s => .ok d s | none => .bad)
  | .rto o e => (match io0 e, o.fz with | some s, some d => .ok d s | _, _ => .bad)
  | .ex c p e => (match io0 e with | some s => .ex c p s | none => .bad)
  | _ => .bad
section
variable {G : GW} {io : Option Addr} {Z H : Hp}
theorem env0_get {N : Nat} {ds : List D} {i : Nat} {s : SV} (h : (env0 N ds)[i]? = some s) : (∃ d, ds[i]? = some d ∧ s = .sh d) ∨ s = .un := by
  unfold env0 at h
  by_cases hi : i < ds.length
  · rw [List.getElem?_append_left (by simpa using hi), List.getElem?_map] at h
    obtain ⟨d, h1, h2⟩ := Option.map_eq_some_iff.mp h
    exact .inl ⟨d, h1, h2.symm⟩
  · rw [List.getElem?_append_right (by simpa using hi), List.getElem?_replicate] at h
    split at h
    · cases h; exact .inr rfl
    · cases h
theorem start_get {N : List Str} {vs : List V} {i : Nat} {v : V} (h : vs[i]? = some v) : (L2.start N vs)[i]? = some (some v) := by
  unfold L2.start
  have hi := (List.getElem?_eq_some_iff.mp h).1
  rw [List.getElem?_append_left (by simpa using hi), List.getElem?_map, h]
  rfl
theorem env0_gd {N : List Str} {vs : List V} {ds : List D} (s : Sub Z H) (r : Reps G Z vs ds) : Gd G io Z H (env0 N.length ds) (L2.start N vs) := by
  refine ⟨s, ?_, fun i d h => ?_, fun i m o h => ?_, fun i j m n x y a h1 h2 h3 h4 => ?_, fun i h => by rcases env0_get h with ⟨d', h1, h2⟩ | h2 <;> cases h2⟩
  · unfold L2.start env0
    simp [r.length]
  · rcases env0_get h with ⟨d', h1, h2⟩ | h2
    · cases h2
      obtain ⟨v, a1, a2⟩ := r.get h1
      exact ⟨v, start_get a1, a2⟩
    · cases h2
  · rcases env0_get h with ⟨d', h1, h2⟩ | h2 <;> cases h2
  · rcases env0_get h1 with ⟨d', h1, h2⟩ | h2 <;> cases h2
theorem env0_own {N : Nat} {ds : List D} {σ : St} {a : Addr} (h : Own (env0 N ds) σ a) : False := by
  obtain ⟨i, m, o, h1, _⟩ := h
  rcases env0_get h1 with ⟨d', _, h2⟩ | h2 <;> cases h2
theorem step_of {N : Nat} {ds : List D} {σ σ' : St} {Z' H' : Hp} {e' : En} (t : Tr Z H (env0 N ds) σ Z' H' e' σ') (g : Gd G io Z' H' e' σ') : Step Z H Z' H' :=
  ⟨⟨fun a o h n => t.keep a o h (fun q => env0_own q) n, t.dom⟩, t.fz, fun a o h => by
    rcases t.nw a o h with q | q | q
    · exact .inl q
    · exact .inr q
    · exact (env0_own q).elim, g.sub⟩
/-- the first slot is the owned list at a -/
theorem envI_gd {N : List Str} {vs : List V} {ho : HO} {ss : OV} {ds : List D} {a : Addr} (hN : 0 < N.length) (s : Sub Z H) (z : Z a = none) (h : H a = some ho) (rw_ : RepO G Z ho ss) (r : Reps G Z vs ds) :
    Gd G (some a) Z H (.own true ss :: env0 (N.length - 1) ds) (L2.start N (.ref a :: vs)) := by
  have st : ∀ i, (L2.start N (.ref a :: vs))[i + 1]? = (L2.start N.tail vs)[i]? := fun i => by
    unfold L2.start
    rw [List.map_cons, List.cons_append, List.getElem?_cons_succ]
    have e : N.length - (V.ref a :: vs).length = N.tail.length - vs.length := by rw [List.length_tail, List.length_cons]; omega
    rw [e]
  have st0 : (L2.start N (.ref a :: vs))[0]? = some (some (V.ref a)) := rfl
  have lt : N.length - 1 = N.tail.length := by rw [List.length_tail]
  rw [lt]
  have g0 := env0_gd (io := some a) (N := N.tail) s r
  refine ⟨s, ?_, fun i d h => ?_, fun i m o hi => ?_, fun i j m n x y b h1 h2 h3 h4 => ?_, fun i h => by
    cases i with
    | zero => cases h
    | succ i => rcases env0_get (show (env0 N.tail.length ds)[i]? = _ from h) with ⟨d', _, h2⟩ | h2 <;> cases h2⟩
  · unfold L2.start env0
    simp [r.length]
    omega
  · cases i with
    | zero => cases h
    | succ i => rw [st]; exact g0.sh i d h
  · cases i with
    | zero => cases hi; exact ⟨a, _, st0, z, h, rw_, fun _ => rfl⟩
    | succ i =>
      rcases env0_get (show (env0 N.tail.length ds)[i]? = _ from hi) with ⟨d', h1, h2⟩ | h2 <;> cases h2
  · cases i with
    | zero =>
      cases j with
      | zero => rfl
      | succ j => rcases env0_get (show (env0 N.tail.length ds)[j]? = _ from h2) with ⟨d', _, h2⟩ | h2 <;> cases h2
    | succ i => rcases env0_get (show (env0 N.tail.length ds)[i]? = _ from h1) with ⟨d', _, h2⟩ | h2 <;> cases h2
theorem envI_own {N : Nat} {ds : List D} {ss : OV} {a b : Addr} {r : St} (h : Own (.own true ss :: env0 N ds) (some (.ref a) :: r) b) : b = a := by
  obtain ⟨i, m, o, h1, h2⟩ := h
  cases i with
  | zero => cases h2; rfl
  | succ i => rcases env0_get (show (env0 N ds)[i]? = _ from h1) with ⟨d', _, h2⟩ | h2 <;> cases h2
theorem io0_get {e : En} {ss : OV} (h : io0 e = some ss) : e[0]? = some (.own true ss) := by
  unfold io0 at h
  split at h
  · rename_i q; cases h; exact q
  · cases h
theorem stepI_of {N : Nat} {ds : List D} {ss ss' : OV} {a : Addr} {r σ' : St} {Z' H' : Hp} {e' : En} (t : Tr Z H (.own true ss :: env0 N ds) (some (.ref a) :: r) Z' H' e' σ') (g : Gd G (some a) Z' H' e' σ') (h : io0 e' = some ss') :
    StepI a Z H Z' H' ∧ ∃ ho', H' a = some ho' ∧ RepO G Z' ho' ss' := by
  have h0 := io0_get h
  obtain ⟨b, ho, h1, h2, h3, h4, h5⟩ := g.own 0 true _ h0
  cases h5 rfl
  refine ⟨⟨fun b o hb h n => t.keep b o h (fun q => hb (envI_own q)) n, t.fz, fun b o h => ?_, g.sub, t.dom, h2⟩, _, h3, h4⟩
  rcases t.nw b o h with q | q | q
  · exact .inl q
  · exact .inr q
  · cases envI_own q; rw [h2] at h; cases h
end
section
variable {P : Program} {w : World} {K : PySem.W.Frag} {mg : Str → Option Value} {base : Heap}
abbrev kxP (G : GW) (E : XK) : Kx := ⟨G, none, fun cls d _ H => E cls d H⟩
theorem fz_step {G : GW} {Z H Z' H' : Hp} {p : Addr} {ho : HO} (s : Step Z H Z' H') (n : H p = none) (z : Z' p = none) (hp : H' p = some ho) (hob : ∀ ps, ho ≠ .tbl ps) : Step Z H (upd Z' p ho) H' :=
  ⟨s.hp, s.fz.trans (same_upd z), fun a o h => by
    by_cases q : a = p
    · subst q; exact .inr n
    · rw [upd_ne q] at h; exact s.nw a o h, ⟨fun a o h => by
    by_cases q : a = p
    · subst q; rw [upd_same] at h; cases h; exact hp
    · rw [upd_ne q] at h; exact s.sub.s a o h, ml_mono (same_upd z) s.sub.ml, nt_upd' s.sub.nt hob, s.sub.tb⟩⟩
theorem fz_stepI {G : GW} {a : Addr} {Z H Z' H' : Hp} {p : Addr} {ho : HO} (s : StepI a Z H Z' H') (na : p ≠ a) (n : H p = none) (z : Z' p = none) (hp : H' p = some ho) (hob : ∀ ps, ho ≠ .tbl ps) : StepI a Z H (upd Z' p ho) H' :=
  ⟨s.hp, s.fz.trans (same_upd z), fun a o h => by
    by_cases q : a = p
    · subst q; exact .inr n
    · rw [upd_ne q] at h; exact s.nw a o h, ⟨fun a o h => by
    by_cases q : a = p
    · subst q; rw [upd_same] at h; cases h; exact hp
    · rw [upd_ne q] at h; exact s.sub.s a o h, ml_mono (same_upd z) s.sub.ml, nt_upd' s.sub.nt hob, s.sub.tb⟩, s.dom, by rw [upd_ne na.symm]; exact s.za⟩
theorem ok_fn {G : GW} {x qual : Str} {st : Stmt} {f : Addr} {fd : FuncData} {N ps : List Str} {k : Nat} {sf : SS} (F : Fun K x qual st f fd) (S : FnScope N ps (defScope st))
    (hbody : ∀ (cdv : Value) (A : Around) (outer : List Env) (s : Shared) (H : Hp) (E : XK), Room k (A.deeper (PyProof.Rows.envOfC qual (defScope st) s.heap.objs.size f cdv)) →
      PSs (cxOf (L2.CX P w) P w K mg base N qual (defScope st) f cdv A outer s H E) (defBody st) (tS (kxP G E) sf)) : FnOk P w K mg base (L2.CX P w) (k + 1) f fd ps (spP G ps.length (runP N.length sf)) := by
  refine F.okX S (fun vs H Q E ⟨Z, ds, s, r, n, _⟩ => by rw [r.length]; exact n) fun cdv A outer s H vs Q E hr ⟨Z, ds, sub, r, n, h⟩ => ⟨_, hbody cdv A outer s H E hr, Z, _, env0_gd sub r, ?_⟩
  unfold runP at h
  revert h
  generalize sf (env0 N.length ds) = o
  intro h
  cases o with
  | nx e => exact fun σ' H' Z' t g => h _ _ _ (step_of t g) .non
  | rt d e => exact fun v σ' H' Z' t g q => h _ _ _ (step_of t g) q
  | rto o e =>
    intro p ho σ' H' Z' t g n no z hp r
    dsimp only at h
    cases hf : o.fz with
    | none => rw [hf] at h; exact h.elim
    | some d => rw [hf] at h; exact h _ _ _ (fz_step (G := G) (step_of t g) n z hp r.ob.nt) (rep_frozen z (g.sub.un z) r hf)
  | ex c p e => exact fun σ' H' Z' od t g q => h _ _ _ (step_of t g) q
  | _ => exact h.elim
theorem ok_fnI {G : GW} {x qual : Str} {st : Stmt} {f : Addr} {fd : FuncData} {N : List Str} {p0 : Str} {ps : List Str} {k : Nat} {sf : SS} (F : Fun K x qual st f fd) (S : FnScope N (p0 :: ps) (defScope st))
    (hbody : ∀ (cdv : Value) (A : Around) (outer : List Env) (s : Shared) (H : Hp) (E : XK) (a : Addr), Room k (A.deeper (PyProof.Rows.envOfC qual (defScope st) s.heap.objs.size f cdv)) →
      PSs (cxOf (L2.CX P w) P w K mg base N qual (defScope st) f cdv A outer s H E) (defBody st) (tS ⟨G, some a, fun cls d _ H => E cls d H⟩ sf)) : FnOk P w K mg base (L2.CX P w) (k + 1) f fd (p0 :: ps) (spI G ps.length (runI N.length sf)) := by
  have hN : 0 < N.length := by
    have h := congrArg List.length S.pre
    rw [List.length_take, List.length_cons] at h
    omega
  refine F.okX S (fun vs H Q E ⟨Z, a, vs', ho, ss, ds, e, s, z, h, rw_, r, n, _⟩ => by rw [e, List.length_cons, List.length_cons, r.length, n]) fun cdv A outer s H vs Q E hr ⟨Z, a, vs', ho, ss, ds, e, sub, z, hh, rw_, r, n, h⟩ => ?_
  subst e
  refine ⟨_, hbody cdv A outer s H E a hr, Z, _, envI_gd hN sub z hh rw_ r, ?_⟩
  unfold runI at h
  revert h
  generalize sf (.own true ss :: env0 (N.length - 1) ds) = o
  intro h
  cases o with
  | nx e =>
    intro σ' H' Z' t g
    dsimp only at h
    cases hi : io0 e with
    | none => rw [hi] at h; exact h.elim
    | some s' =>
      rw [hi] at h
      obtain ⟨st, ws', h1, h2⟩ := stepI_of (r := (L2.start N (.ref a :: vs')).tail) t g hi
      exact h _ _ _ ws' st h1 h2 .non
  | rt d e =>
    intro v σ' H' Z' t g q
    dsimp only at h
    cases hi : io0 e with
    | none => rw [hi] at h; exact h.elim
    | some s' =>
      rw [hi] at h
      obtain ⟨st, ws', h1, h2⟩ := stepI_of (r := (L2.start N (.ref a :: vs')).tail) t g hi
      exact h _ _ _ ws' st h1 h2 q
  | rto o e =>
    intro p ho σ' H' Z' t g n no z hp r
    dsimp only at h
    cases hi : io0 e with
    | none => rw [hi] at h; exact h.elim
    | some s' =>
      rw [hi] at h
      cases hf : o.fz with
      | none => rw [hf] at h; exact h.elim
      | some d =>
        rw [hf] at h
        obtain ⟨st, ho', h1, h2⟩ := stepI_of (r := (L2.start N (.ref a :: vs')).tail) t g hi
        have na : p ≠ a := fun q => by subst q; rw [hh] at n; cases n
        exact h _ _ _ ho' (fz_stepI (G := G) st na n z hp r.ob.nt) h1 (h2.mono (same_upd z)) (rep_frozen z (g.sub.un z) r hf)
  | ex c p e =>
    intro σ' H' Z' od t g q
    dsimp only at h
    cases hi : io0 e with
    | none => rw [hi] at h; exact h.elim
    | some s' =>
      rw [hi] at h
      obtain ⟨st, ws', h1, h2⟩ := stepI_of (r := (L2.start N (.ref a :: vs')).tail) t g hi
      exact h _ _ _ ws' st h1 h2 q
  | _ => exact h.elim
end
/-! ### calls -/
section
variable {X : Cx} {C : Kx} {a b e : Expr} {es : List Expr} {fa fb fe : SE} {fl : SL} {p pos : Pos} {x : Str} {k n : Nat} {f : Addr} {fd : FuncData} {ps : List Str} {F : FS}
def sCall (n : Nat) (F : FS) (fl : SL) : SE := fun env => (fl env).bind fun ds e => if ds.length = n then (match F ds with
  | .ok d _ => .ok d e
  | .ex c p _ => .ex c p e
  | .bad => .bad) else .bad
theorem call_imp {σ : St} {H : Hp} {Q : VK} (h : tE C (sCall n F fl) σ H Q) : tCallS (spP C.G n F) (WE C.W) (tL C fl) σ H Q := by
  obtain ⟨Z, env, g, q⟩ := h
  refine ⟨Z, env, g, (Wish.bind (S := Reps C.G) q).mono fun vs H1 ⟨Z1, ds, e1, t1, g1, r1, w1⟩ => ?_⟩
  split at w1
  rotate_left
  · exact w1.elim
  rename_i hn
  refine ⟨Z1, ds, g1.sub, r1, hn, ?_⟩
  revert w1
  generalize F ds = r
  intro w1
  cases r with
  | ok d _ => exact fun v H' Z' s r => w1.ret g1 s r
  | ex c p _ => exact fun H' Z' od s r => w1 H' Z' od (.step s) (g1.step s) r
  | bad => exact w1
theorem pd_call (FO : FnOk X.prog X.w X.K X.mg X.base (L2.CX X.prog X.w) k f fd ps (spP C.G n F)) (tk : Takes X C.W) (hr : Room k X.A) (hg : Gl X x) (hm : X.mg x = some (.ref f)) (hk : PySem.W.keepIn X.K (.ref f) = true) (hb : Binds X.K fd ps [])
    (ha : PA X (e :: es) (tL C fl)) (hdb : (x == ("__debug__" : Str)) = false := by decide) (he : starEach (e :: es) X.env = (false, eval e X.env) :: starEach es X.env := by rfl) (hpl : (backTo pos (starEach es X.env)).any (·.1) = false := by rfl) :
    PE X (.Call (.Name x p) (e :: es) [] pos) (tE C (sCall n F fl)) := PE.imp (pe_callS FO hr hg hm hk hb (fun σ => passAt tk σ) ha hdb he hpl) fun _ _ _ h => call_imp h
def ownO (env : En) (i : Nat) : Option (Bool × OV) := match env[i]? with
  | some (SV.own m o) => some (m, o)
  | _ => none
theorem ownO_get {env : En} {i : Nat} {m : Bool} {o : OV} (h : ownO env i = some (m, o)) : env[i]? = some (.own m o) := by
  unfold ownO at h
  split at h
  · rename_i e; cases h; exact e
  · cases h
def sCallI (n : Nat) (F : FI) (i : Nat) (fl : SL) : SE := fun env => match ownO env i with
  | none => .bad
  | some _ => (fl env).bind fun ds e => match ownO e i with
    | none => .bad
    | some (m, ss) => if ds.length = n then (match F ss ds with
      | .ok d ss' => .ok d (e.set i (.own m ss'))
      | .ex c p ss' => .ex c p (e.set i (.own m ss'))
      | .bad => .bad) else .bad
theorem Gd.stepI {G : GW} {io : Option Addr} {Z H Z' H' : Hp} {env : En} {σ : St} {i : Nat} {m : Bool} {ss ss' : OV} {a : Addr} {ho' : HO} (g : Gd G io Z H env σ) (e : env[i]? = some (.own m ss)) (s : σ[i]? = some (some (.ref a)))
    (st : StepI a Z H Z' H') (h : H' a = some ho') (r : RepO G Z' ho' ss') : Gd G io Z' H' (env.set i (.own m ss')) σ := by
  obtain ⟨b, hb, s2, z, hh, rq, iq⟩ := g.own i m _ e
  have s0 := s
  rw [s] at s2; cases s2
  have hi : i < env.length := (List.getElem?_eq_some_iff.mp e).1
  refine ⟨st.sub, by rw [List.length_set]; exact g.len, fun j d hj => ?_, fun j n x hj => ?_, fun j k n1 n2 x y c q1 q2 q3 q4 => ?_, fun j h => fx_set1 g h (by intro z; cases z)⟩
  · by_cases q : i = j
    · subst q; rw [get_set hi] at hj; cases hj
    · rw [get_set_ne q] at hj
      obtain ⟨v, h1, h2⟩ := g.sh j d hj
      exact ⟨v, h1, h2.mono st.fz⟩
  · by_cases q : i = j
    · subst q; rw [get_set hi] at hj; cases hj
      exact ⟨a, _, s, st.za, h, r, iq⟩
    · rw [get_set_ne q] at hj
      obtain ⟨c, hc, t1, t2, t3, t4, t5⟩ := g.own j n x hj
      have nc : c ≠ a := fun z => by subst z; exact q (g.dis i j m n _ x c e hj s t1)
      refine ⟨c, hc, t1, ?_, st.hp _ _ nc t3 t4.ob.nt, t4.mono st.fz, t5⟩
      cases z : Z' c with
      | none => rfl
      | some o =>
        rcases st.nw c o z with q | q
        · rw [t2] at q; cases q
        · rw [t3] at q; cases q
  · have old : ∀ (j : Nat) (n : Bool) (x : OV), (env.set i (SV.own m ss'))[j]? = some (SV.own n x) → ∃ (n' : Bool) (x' : OV), env[j]? = some (SV.own n' x') := fun j n x h => by
      by_cases q : i = j
      · subst q; exact ⟨m, _, e⟩
      · rw [get_set_ne q] at h; exact ⟨n, x, h⟩
    obtain ⟨_, _, a1⟩ := old j n1 x q1
    obtain ⟨_, _, a2⟩ := old k n2 y q2
    exact g.dis j k _ _ _ _ c a1 a2 q3 q4
theorem Tr.stepI {Z H Z' H' : Hp} {env : En} {σ : St} {i : Nat} {m : Bool} {ss ss' : OV} {a : Addr} {ho' : HO} (e : env[i]? = some (.own m ss)) (s : σ[i]? = some (some (.ref a)))
    (st : StepI a Z H Z' H') (h : H' a = some ho') : Tr Z H env σ Z' H' (env.set i (.own m ss')) σ := by
  refine ⟨st.fz, fun b o hb n nt => st.hp b o (fun q => by subst q; exact n ⟨i, m, _, e, s⟩) hb nt, fun b o hb => ?_, fun b hb => .inl (own_write e hb), fun b hb => st.dom b hb⟩
  · rcases st.nw b o hb with q | q
    · exact .inl q
    · exact .inr (.inl q)
theorem callI_imp {F : FI} {i : Nat} {σ : St} {H : Hp} {Q : VK} (h : tE C (sCallI n F i fl) σ H Q) : tCallS (spI C.G n F) (WE C.W) (tCons (tVar i) (tL C fl)) σ H Q := by
  obtain ⟨Z, env, g, q⟩ := h
  unfold sCallI at q
  split at q
  · exact q.elim
  rename_i p0 hl0
  obtain ⟨m0, s0⟩ := p0
  obtain ⟨a, ho0, h1, h2, h3, h4, _⟩ := g.own _ _ _ (ownO_get hl0)
  refine ⟨.ref a, h1, Z, env, g, (Wish.bind (S := Reps C.G) q).mono fun vs H1 ⟨Z1, ds, e1, t1, g1, r1, w1⟩ => ?_⟩
  split at w1
  · exact w1.elim
  rename_i m ss hl
  split at w1
  rotate_left
  · exact w1.elim
  rename_i hn
  have he := ownO_get hl
  obtain ⟨b, ho, k1, k2, k3, k4, _⟩ := g1.own _ _ _ he
  rw [h1] at k1
  cases k1
  refine ⟨Z1, a, vs, ho, ss, ds, rfl, g1.sub, k2, k3, k4, r1, hn, ?_⟩
  revert w1
  generalize F ss ds = r
  intro w1
  cases r with
  | ok d s' => exact fun v H' Z' ho' st h r rv => w1 v H' Z' (.stepI he h1 st h) (g1.stepI he h1 st h r) rv
  | ex c p s' => exact fun H' Z' od ho' st h r x => w1 H' Z' od (.stepI he h1 st h) (g1.stepI he h1 st h r) x
  | bad => exact w1
theorem pd_callI {F : FI} {i : Nat} {y : Str} {yp : Pos} (FO : FnOk X.prog X.w X.K X.mg X.base (L2.CX X.prog X.w) k f fd ps (spI C.G n F)) (tk : Takes X C.W) (hr : Room k X.A) (hg : Gl X x) (hm : X.mg x = some (.ref f)) (hk : PySem.W.keepIn X.K (.ref f) = true) (hb : Binds X.K fd ps [])
    (hv : PE X (.Name y yp) (tVar i)) (ha : PA X es (tL C fl)) (hdb : (x == ("__debug__" : Str)) = false := by decide) (he : starEach (.Name y yp :: es) X.env = (false, eval (.Name y yp) X.env) :: starEach es X.env := by rfl) (hpl : (backTo pos (starEach es X.env)).any (·.1) = false := by rfl) :
    PE X (.Call (.Name x p) (.Name y yp :: es) [] pos) (tE C (sCallI n F i fl)) := PE.imp (pe_callS FO hr hg hm hk hb (fun σ => passAt tk σ) (pa_cons hv ha he) hdb he hpl) fun _ _ _ h => callI_imp h
/-! ### built-ins -/
def rCD (G : GW) (op : List D → Option D) : List V → Hp → VK → Prop := fun vs H Q => ∃ Z ds d, Sub Z H ∧ Reps G Z vs ds ∧ op ds = some d ∧ ∀ v H' Z', Step Z H Z' H' → Rep G Z' v d → Q v H'
def sB (op : List D → Option D) (fl : SL) : SE := fun env => (fl env).bind fun ds e => .of (op ds) e
theorem cb_imp {op : List D → Option D} {σ : St} {H : Hp} {Q : VK} (h : tE C (sB op fl) σ H Q) : tCB (rCD C.G op) (tL C fl) σ H Q := by
  obtain ⟨Z, env, g, q⟩ := h
  refine ⟨Z, env, g, (Wish.bind (S := Reps C.G) q).mono fun vs H1 ⟨Z1, ds, e1, t1, g1, r1, w1⟩ => ?_⟩
  unfold O.of at w1
  split at w1
  · rename_i d hd
    exact ⟨Z1, ds, d, g1.sub, r1, hd, fun v H' Z' s r => w1.ret g1 s r⟩
  · exact w1.elim
theorem pd_cb {op : List D → Option D} {id : String} (hc : CallR X (.builtin id) (rCD C.G op)) (hg : Gl X x) (hm : X.mg x = none) (hv : bootBuiltins x = some (.builtin id)) (ha : PA X (e :: es) (tL C fl)) (hn : x ≠ "__name__" := by decide) (hdb : (x == ("__debug__" : Str)) = false := by decide)
    (he : starEach (e :: es) X.env = (false, eval e X.env) :: starEach es X.env := by rfl) (hpl : (backTo pos (starEach es X.env)).any (·.1) = false := by rfl) : PE X (.Call (.Name x p) (e :: es) [] pos) (tE C (sB op fl)) := PE.imp (pe_callB hc hg hm hv ha hn hdb he hpl) fun _ _ _ h => cb_imp h
theorem pd_ct {op : List D → Option D} {T : String} (hc : CallR X (.type T) (rCD C.G op)) (hg : Gl X x) (hm : X.mg x = none) (hv : bootBuiltins x = some (.type T)) (ha : PA X (e :: es) (tL C fl)) (hn : x ≠ "__name__" := by decide) (hdb : (x == ("__debug__" : Str)) = false := by decide)
    (he : starEach (e :: es) X.env = (false, eval e X.env) :: starEach es X.env := by rfl) (hpl : (backTo pos (starEach es X.env)).any (·.1) = false := by rfl) : PE X (.Call (.Name x p) (e :: es) [] pos) (tE C (sB op fl)) := PE.imp (pe_callTy hc hg hm hv ha hn hdb he hpl) fun _ _ _ h => cb_imp h
theorem pd_cbf {op : List D → Option D} {id : String} (hc : CallR X (.builtin id) (rCD C.G op)) (hg : Gl X x) (hm : X.mg x = some (.builtin id)) (ha : PA X (e :: es) (tL C fl)) (hdb : (x == ("__debug__" : Str)) = false := by decide)
    (he : starEach (e :: es) X.env = (false, eval e X.env) :: starEach es X.env := by rfl) (hpl : (backTo pos (starEach es X.env)).any (·.1) = false := by rfl) : PE X (.Call (.Name x p) (e :: es) [] pos) (tE C (sB op fl)) := PE.imp (pe_callBfun hc hg hm ha hdb he hpl) fun _ _ _ h => cb_imp h
end
section
variable {X : Cx} {G : GW}
def lenD : List D → Option D
  | [.str s] => if s.length ≤ sizeLine then some (.int (s.length : Int)) else none
  | [.frl xs] => some (.int (xs.length : Int))
  | [d] => d.items.map fun xs => .int (xs.length : Int)
  | _ => none
theorem cb_len (hK : X.K = G.K) : CallR X (.builtin "len") (rCD G lenD) := by
  intro pins s σ H vs us Q I r ⟨Z, ds, d, sub, rs, e, q⟩
  unfold lenD at e
  split at e
  · rename_i x
    split at e
    · rename_i h
      cases e
      obtain ⟨v, rfl, h1⟩ := reps1 rs
      cases h1
      exact call_len pins s σ H _ us Q I r ⟨_, _, rfl, ⟨h, rfl⟩, q _ _ _ (.refl sub) (.int _)⟩
    · cases e
  · rename_i xs
    cases e
    obtain ⟨v, rfl, h2⟩ := reps1 rs
    cases h2 with
    | frl h um r0 =>
    refine call_len_seq pins s σ H _ us Q I r ⟨_, _, rfl, .inl (sub_f hK sub h), ?_⟩
    rw [r0.length]
    exact q _ _ _ (.refl sub) (.int _)
  · rename_i d0 _ _
    obtain ⟨xs, h1, rfl⟩ := Option.map_eq_some_iff.mp e
    obtain ⟨v, rfl, h2⟩ := reps1 rs
    obtain ⟨p, ws, rfl, h3, h4⟩ := items_rep (X := X) sub.s h2 h1
    refine call_len_seq pins s σ H _ us Q I r ⟨p, ws, rfl, h3, ?_⟩
    rw [h4.length]
    exact q _ _ _ (.refl sub) (.int _)
  · cases e
def absD : List D → Option D
  | [.int i] => some (.int (if i < 0 then -i else i))
  | _ => none
theorem cb_abs : CallR X (.builtin "abs") (rCD G absD) := by
  intro pins s σ H vs us Q I r ⟨Z, ds, d, sub, rs, e, q⟩
  unfold absD at e
  split at e
  · cases e
    obtain ⟨v, rfl, h1⟩ := reps1 rs
    cases h1
    exact call_abs pins s σ H _ us Q I r ⟨_, rfl, q _ _ _ (.refl sub) (.int _)⟩
  · cases e
def intD : List D → Option D
  | [.int i] => some (.int i)
  | [.bl b] => some (.int (if b then 1 else 0))
  | _ => none
theorem cb_int : CallR X (.type "int") (rCD G intD) := by
  intro pins s σ H vs us Q I r ⟨Z, ds, d, sub, rs, e, q⟩
  unfold intD at e
  split at e
  · cases e
    obtain ⟨v, rfl, h1⟩ := reps1 rs
    cases h1
    exact call_int1 pins s σ H _ us Q I r (.inl ⟨_, rfl, q _ _ _ (.refl sub) (.int _)⟩)
  · cases e
    obtain ⟨v, rfl, h1⟩ := reps1 rs
    cases h1
    exact call_int1 pins s σ H _ us Q I r (.inr ⟨_, rfl, q _ _ _ (.refl sub) (.int _)⟩)
  · cases e
def D.ints : List D → Option (List Int)
  | [] => some []
  | .int i :: r => (D.ints r).map (i :: ·)
  | _ => none
theorem ints_map (ns : List Int) : D.ints (ns.map D.int) = some ns := by
  induction ns with
  | nil => rfl
  | cons n r ih => simp [D.ints, ih]
theorem ints_reps {Z : Hp} : ∀ {vs : List V} {ds : List D} {ns : List Int}, Reps G Z vs ds → D.ints ds = some ns → vs = ns.map V.int
  | _, _, _, .nil, e => by simp [D.ints] at e; subst e; rfl
  | _, _, _, .cons h r, e => by
    cases h with
    | int i =>
      simp only [D.ints] at e
      obtain ⟨ms, h1, rfl⟩ := Option.map_eq_some_iff.mp e
      rw [List.map_cons, ← ints_reps r h1]
    | _ => simp [D.ints] at e
def D.lsf : D → Option (List D)
  | .frl xs => some xs
  | d => d.lis
def sumD : List D → Option D
  | [d] => (d.lsf.bind D.ints).map fun ns => .int ns.sum
  | _ => none
theorem lsf_rep {G : GW} {K : PySem.W.Frag} {Z : Hp} {v : V} {d : D} {ds : List D} (hK : K = G.K) (r : Rep G Z v d) (h : d.lsf = some ds) : ∃ p vs, v = .ref p ∧ (∀ Z' H, Same Z Z' → Same Z' H → SqL K H p vs) ∧ Reps G Z vs ds := by
  cases r with
  | lst a u b => cases h; exact ⟨_, _, rfl, fun _ _ s1 s2 => sub_l s2 (s1 _ _ a), b⟩
  | mk a u b => cases h; exact ⟨_, _, rfl, fun _ _ s1 s2 => sub_l s2 (s1 _ _ a), b⟩
  | frl a u b => cases h; exact ⟨_, _, rfl, fun _ _ s1 s2 => sub_f hK (s1.trans s2) a, b⟩
  | _ => cases h
theorem cb_sum (hK : X.K = G.K) (hc : X.calm = true) : CallR X (.builtin "sum") (rCD G sumD) := by
  intro pins s σ H vs us Q I r ⟨Z, ds, d, sub, rs, e, q⟩
  unfold sumD at e
  split at e
  · obtain ⟨ns, h1, rfl⟩ := Option.map_eq_some_iff.mp e
    obtain ⟨xs, h2, h3⟩ := Option.bind_eq_some_iff.mp h1
    obtain ⟨v, rfl, h4⟩ := reps1 rs
    obtain ⟨p, ws, rfl, h5, h6⟩ := lsf_rep (K := X.K) hK h4 h2
    have := ints_reps h6 h3
    subst this
    exact cr_sum hc pins s σ H _ us Q I r ⟨p, ns, rfl, h5 _ _ (Same.refl _) sub, q _ _ _ (.refl sub) (.int _)⟩
  · cases e
def maxI : Int → List Int → Int
  | m, [] => m
  | m, n :: r => maxI (if n > m then n else m) r
def minI : Int → List Int → Int
  | m, [] => m
  | m, n :: r => minI (if n < m then n else m) r
theorem maxI_spec : ∀ (r : List Int) (m : Int), maxI m r ∈ m :: r ∧ ∀ y ∈ m :: r, y ≤ maxI m r
  | [], m => ⟨List.mem_cons_self, fun y h => by rw [List.mem_singleton.mp h]; exact Int.le_refl _⟩
  | n :: r, m => by
    obtain ⟨h1, h2⟩ := maxI_spec r (if n > m then n else m)
    have hm : maxI m (n :: r) = maxI (if n > m then n else m) r := rfl
    rw [hm]
    generalize maxI (if n > m then n else m) r = z at h1 h2 ⊢
    have h3 := h2 _ List.mem_cons_self
    refine ⟨?_, fun y h => ?_⟩
    · rcases List.mem_cons.mp h1 with h | h
      · rw [h]; split <;> simp
      · simp [h]
    · rcases List.mem_cons.mp h with h | h
      · subst h; split at h3 <;> omega
      · rcases List.mem_cons.mp h with h | h
        · subst h; split at h3 <;> omega
        · exact h2 y (List.mem_cons_of_mem _ h)
theorem minI_spec : ∀ (r : List Int) (m : Int), minI m r ∈ m :: r ∧ ∀ y ∈ m :: r, minI m r ≤ y
  | [], m => ⟨List.mem_cons_self, fun y h => by rw [List.mem_singleton.mp h]; exact Int.le_refl _⟩
  | n :: r, m => by
    obtain ⟨h1, h2⟩ := minI_spec r (if n < m then n else m)
    have hm : minI m (n :: r) = minI (if n < m then n else m) r := rfl
    rw [hm]
    generalize minI (if n < m then n else m) r = z at h1 h2 ⊢
    have h3 := h2 _ List.mem_cons_self
    refine ⟨?_, fun y h => ?_⟩
    · rcases List.mem_cons.mp h1 with h | h
      · rw [h]; split <;> simp
      · simp [h]
    · rcases List.mem_cons.mp h with h | h
      · subst h; split at h3 <;> omega
      · rcases List.mem_cons.mp h with h | h
        · subst h; split at h3 <;> omega
        · exact h2 y (List.mem_cons_of_mem _ h)
def maxD : List D → Option D
  | [.int i, .int j] => some (.int (if j > i then j else i))
  | [d] => (d.lis.bind D.ints).bind fun ns => match ns with | m :: r => some (.int (maxI m r)) | [] => none
  | _ => none
def minD : List D → Option D
  | [.int i, .int j] => some (.int (if j < i then j else i))
  | [d] => (d.lis.bind D.ints).bind fun ns => match ns with | m :: r => some (.int (minI m r)) | [] => none
  | _ => none
theorem cb_max (hc : X.calm = true) : CallR X (.builtin "max") (rCD G maxD) := by
  intro pins s σ H vs us Q I r ⟨Z, ds, d, sub, rs, e, q⟩
  unfold maxD at e
  split at e
  · cases e
    obtain ⟨v, w, rfl, h1, h2⟩ := reps2 rs
    cases h1
    cases h2
    exact call_max2 hc pins s σ H _ us Q I r ⟨_, _, rfl, q _ _ _ (.refl sub) (.int _)⟩
  · obtain ⟨ns, h1, h7⟩ := Option.bind_eq_some_iff.mp e
    obtain ⟨xs, h2, h3⟩ := Option.bind_eq_some_iff.mp h1
    obtain ⟨v, rfl, h4⟩ := reps1 rs
    obtain ⟨p, ws, rfl, h5, h6⟩ := lis_rep (K := X.K) h4 h2
    have := ints_reps h6 h3
    subst this
    cases ns with
    | nil => cases h7
    | cons m0 r0 =>
      cases h7
      refine cr_max hc pins s σ H _ us Q I r ⟨p, _, rfl, h5 _ _ (Same.refl _) sub, by simp, fun m a1 a2 => ?_⟩
      obtain ⟨b1, b2⟩ := maxI_spec r0 m0
      have : m = maxI m0 r0 := Int.le_antisymm (b2 m a1) (a2 _ b1)
      subst this
      exact q _ _ _ (.refl sub) (.int _)
  · cases e
theorem cb_min (hc : X.calm = true) : CallR X (.builtin "min") (rCD G minD) := by
  intro pins s σ H vs us Q I r ⟨Z, ds, d, sub, rs, e, q⟩
  unfold minD at e
  split at e
  · cases e
    obtain ⟨v, w, rfl, h1, h2⟩ := reps2 rs
    cases h1
    cases h2
    exact call_min2 hc pins s σ H _ us Q I r ⟨_, _, rfl, q _ _ _ (.refl sub) (.int _)⟩
  · obtain ⟨ns, h1, h7⟩ := Option.bind_eq_some_iff.mp e
    obtain ⟨xs, h2, h3⟩ := Option.bind_eq_some_iff.mp h1
    obtain ⟨v, rfl, h4⟩ := reps1 rs
    obtain ⟨p, ws, rfl, h5, h6⟩ := lis_rep (K := X.K) h4 h2
    have := ints_reps h6 h3
    subst this
    cases ns with
    | nil => cases h7
    | cons m0 r0 =>
      cases h7
      refine cr_min hc pins s σ H _ us Q I r ⟨p, _, rfl, h5 _ _ (Same.refl _) sub, by simp, fun m a1 a2 => ?_⟩
      obtain ⟨b1, b2⟩ := minI_spec r0 m0
      have : m = minI m0 r0 := Int.le_antisymm (a2 _ b1) (b2 m a1)
      subst this
      exact q _ _ _ (.refl sub) (.int _)
  · cases e
def D.bls : List D → Option (List Bool)
  | [] => some []
  | .bl b :: r => (D.bls r).map (b :: ·)
  | _ => none
theorem bls_map (bs : List Bool) : D.bls (bs.map D.bl) = some bs := by
  induction bs with
  | nil => rfl
  | cons n r ih => simp [D.bls, ih]
theorem bls_reps {Z : Hp} : ∀ {vs : List V} {ds : List D} {ns : List Bool}, Reps G Z vs ds → D.bls ds = some ns → vs = ns.map V.bl
  | _, _, _, .nil, e => by simp [D.bls] at e; subst e; rfl
  | _, _, _, .cons h r, e => by
    cases h with
    | bl i =>
      simp only [D.bls] at e
      obtain ⟨ms, h1, rfl⟩ := Option.map_eq_some_iff.mp e
      rw [List.map_cons, ← bls_reps r h1]
    | _ => simp [D.bls] at e
def allD : List D → Option D
  | [d] => (d.lis.bind D.bls).map fun bs => .bl (bs.all id)
  | _ => none
def anyD : List D → Option D
  | [d] => (d.lis.bind D.bls).map fun bs => .bl (bs.any id)
  | _ => none
theorem cb_all (hc : X.calm = true) : CallR X (.builtin "all") (rCD G allD) := by
  intro pins s σ H vs us Q I r ⟨Z, ds, d, sub, rs, e, q⟩
  unfold allD at e
  split at e
  · obtain ⟨ns, h1, rfl⟩ := Option.map_eq_some_iff.mp e
    obtain ⟨xs, h2, h3⟩ := Option.bind_eq_some_iff.mp h1
    obtain ⟨v, rfl, h4⟩ := reps1 rs
    obtain ⟨p, ws, rfl, h5, h6⟩ := lis_rep (K := X.K) h4 h2
    have := bls_reps h6 h3
    subst this
    exact cr_all hc pins s σ H _ us Q I r ⟨p, ns, rfl, h5 _ _ (Same.refl _) sub, q _ _ _ (.refl sub) (.bl _)⟩
  · cases e
theorem cb_any (hc : X.calm = true) : CallR X (.builtin "any") (rCD G anyD) := by
  intro pins s σ H vs us Q I r ⟨Z, ds, d, sub, rs, e, q⟩
  unfold anyD at e
  split at e
  · obtain ⟨ns, h1, rfl⟩ := Option.map_eq_some_iff.mp e
    obtain ⟨xs, h2, h3⟩ := Option.bind_eq_some_iff.mp h1
    obtain ⟨v, rfl, h4⟩ := reps1 rs
    obtain ⟨p, ws, rfl, h5, h6⟩ := lis_rep (K := X.K) h4 h2
    have := bls_reps h6 h3
    subst this
    exact cr_any hc pins s σ H _ us Q I r ⟨p, ns, rfl, h5 _ _ (Same.refl _) sub, q _ _ _ (.refl sub) (.bl _)⟩
  · cases e
def gcdD : List D → Option D
  | [.int i, .int j] => some (.int ((Nat.gcd i.natAbs j.natAbs : Nat) : Int))
  | _ => none
theorem cb_gcd : CallR X (.builtin "math.gcd") (rCD G gcdD) := by
  intro pins s σ H vs us Q I r ⟨Z, ds, d, sub, rs, e, q⟩
  unfold gcdD at e
  split at e
  · cases e
    obtain ⟨v, w, rfl, h1, h2⟩ := reps2 rs
    cases h1
    cases h2
    exact cr_gcd pins s σ H _ us Q I r ⟨_, _, rfl, q _ _ _ (.refl sub) (.int _)⟩
  · cases e
def tupleD : List D → Option D
  | [d] => d.items.map .tup
  | _ => none
theorem cb_tuple : CallR X (.type "tuple") (rCD G tupleD) := by
  intro pins s σ H vs us Q I r ⟨Z, ds, d, sub, rs, e, q⟩
  unfold tupleD at e
  split at e
  · obtain ⟨xs, h2, rfl⟩ := Option.map_eq_some_iff.mp e
    obtain ⟨v, rfl, h4⟩ := reps1 rs
    cases h4 with
    | tup h r0 => cases h2; exact call_tuple_of pins s σ H _ us Q I r ⟨_, _, rfl, .inr ⟨sub_t sub h, q _ _ _ (.refl sub) (.tup h r0)⟩⟩
    | mk h um r0 => cases h2; exact call_tuple_of pins s σ H _ us Q I r ⟨_, _, rfl, .inl ⟨sub_l sub h, fun l nl => q _ _ _ (.new sub nl) (.tup upd_same (r0.mono (same_upd (sub.free nl))))⟩⟩
    | lst h um r0 => cases h2; exact call_tuple_of pins s σ H _ us Q I r ⟨_, _, rfl, .inl ⟨sub_l sub h, fun l nl => q _ _ _ (.new sub nl) (.tup upd_same (r0.mono (same_upd (sub.free nl))))⟩⟩
    | _ => cases h2
  · cases e
end
/-! ### a new list: list(..) -/
theorem CallR.alt {X : Cx} {f : Value} {r1 r2 : List V → Hp → VK → Prop} (h1 : CallR X f r1) (h2 : CallR X f r2) : CallR X f fun xs H Q => r1 xs H Q ∨ r2 xs H Q := fun pins s σ H vs us Q I rel h => by
  rcases h with h | h
  · exact h1 pins s σ H vs us Q I rel h
  · exact h2 pins s σ H vs us Q I rel h
theorem keys_map {G : GW} {Z : Hp} : ∀ ks : List Key, Reps G Z (ks.map kV) (ks.map keyD)
  | [] => .nil
  | k :: r => .cons (rep_key k) (keys_map r)
theorem zip_keys {ks : List Key} {vs : List V} (l : vs.length = ks.length) : (ks.zip vs).map (fun kv => kV kv.1) = ks.map kV := by
  rw [show (fun kv : Key × V => kV kv.1) = kV ∘ Prod.fst from rfl, ← List.map_map, List.map_fst_zip (by omega)]
section
variable {X : Cx} {C : Kx} {e : Expr} {es : List Expr} {fl : SL} {p pos : Pos}
def sList (fl : SL) : SO := fun env => (fl env).bind fun ds e => match ds with | [d] => .of (d.itr.map .lst) e | _ => .bad
theorem po_list (hg : Gl X "list") (hm : X.mg "list" = none) (ha : PA X (e :: es) (tL C fl)) (he : starEach (e :: es) X.env = (false, eval e X.env) :: starEach es X.env := by rfl) (hpl : (backTo pos (starEach es X.env)).any (·.1) = false := by rfl) (hK : X.K = C.G.K := by rfl) (hcm : X.calm = true := by rfl) :
    PE X (.Call (.Name "list" p) (e :: es) [] pos) (tO C (sList fl)) := PE.imp (pe_callTy (CallR.alt call_list_of (call_listD hcm)) hg hm (by decide +kernel) ha (by decide) (by decide) he hpl) fun σ H Q ⟨Z, env, g, q⟩ => by
  refine ⟨Z, env, g, (WishO.bind (S := Reps C.G) q).mono fun vs H1 ⟨Z1, ds, e1, t1, g1, r1, w1⟩ => ?_⟩
  split at w1
  · rename_i d
    obtain ⟨v, rfl, h⟩ := reps1 r1
    cases hd : d.itr with
    | none => rw [hd] at w1; exact w1.elim
    | some xs =>
      rw [hd] at w1
      cases h with
      | lst a u b => cases hd; exact .inl ⟨_, _, rfl, .inl (sub_l g1.sub a), fun l nl => w1.ret g1 nl (.lst b)⟩
      | mk a u b => cases hd; exact .inl ⟨_, _, rfl, .inl (sub_l g1.sub a), fun l nl => w1.ret g1 nl (.lst b)⟩
      | tup a b => cases hd; exact .inl ⟨_, _, rfl, .inr (sub_t g1.sub a), fun l nl => w1.ret g1 nl (.lst b)⟩
      | frl a u b => cases hd; exact .inl ⟨_, _, rfl, .inl (sub_f hK g1.sub a), fun l nl => w1.ret g1 nl (.lst b)⟩
      | dic a l r => cases hd; exact .inr ⟨_, _, rfl, .inr ⟨_, g1.sub.s _ _ a⟩, fun p np => by rw [zip_keys l]; exact w1.ret g1 np (.lst (keys_map _))⟩
      | _ => cases hd
  · exact w1.elim
end
end Ax
set_option Elab.async false
set_option linter.all false
set_option maxRecDepth 100000
set_option maxHeartbeats 2000000
/-! Ax9: enumerate over a list or a tuple, from what the library tells of iterators that begin (Begins) and that are drawn from (Draws, GoesN). -/
namespace AxT
open PySem PySem.Spec PyProof.Rows L2
/-- the two cells of enumerate(v) -/
def twoCells (h : Heap) (o : Obj) : Heap := (h.push o).push { cls := .type "enumerate", data := .fields #[.none, .bool false, .ref h.objs.size, rawInt 0, .none, .none] }
set_option maxHeartbeats 4000000 in
theorem enum_made {v : Value} {o : Obj} {P : Heap → Prop} (B : Begins v o P) :
    Meets (Builtin.«enumerate.__new__» ⟨[.type "enumerate", v], []⟩) (fun _ R s => P s.heap ∧ R (.ok (.ret (.ref (s.heap.objs.size + 1)))) { s with heap := twoCells s.heap o }) := by
  refine .of_wp fun prog w A R s hs => ?_
  rcases s with ⟨hp, gs, dn, n, os⟩
  rcases hs with ⟨hP, post⟩
  have sub := sub_enumerate
  have size1 : hp.objs.size + 1 = (hp.push o).objs.size := (Heap.size_push ..).symm
  have post : R (.ok (.ret (.ref (hp.push o).objs.size))) ⟨twoCells hp o, gs, dn, n, os⟩ := by rw [← size1]; exact post
  have begun {A' : Around} {E : Value → Shared → Prop} {Q : Value → Shared → Prop} (q : Q (.ref hp.objs.size) ⟨hp.push o, gs, dn, n, os⟩) : wpAny (model prog w) A' (pyIter v) Q E ⟨hp, gs, dn, n, os⟩ := B.iter prog w _ _ _ _ hP q
  wp_walk using begun
  refine wpAny_stack_any fun frames => wpAny_pure ?_
  split
  case h_1 c _ _ _ _ _ =>
    rcases hc : c == Value.type "enumerate" with _ | _ <;> (wp_walk using begun; exact ⟨_, rfl, post⟩)
  case h_2 => wp_walk using begun; exact ⟨_, rfl, post⟩
section
variable {prog : Program} {w : World} {A : Around} {E : Value → Shared → Prop} {s : Shared} {v : Value} {o : Obj} {P : Heap → Prop}
theorem twoCells_enum (h : Heap) (o : Obj) : IsEnum (twoCells h o) (h.objs.size + 1) h.objs.size 0 .none := by
  have z := Heap.get?_push_size (h.push o) (o := { cls := .type "enumerate", data := .fields #[.none, .bool false, .ref h.objs.size, rawInt 0, .none, .none] }) rfl
  rw [Heap.size_push] at z
  exact z
theorem twoCells_keep {h : Heap} {o u : Obj} {b : Addr} (e : h.get? b = some u) : (twoCells h o).get? b = some u := Heap.get?_push_of_some _ (Heap.get?_push_of_some _ e)
theorem twoCells_inner (h : Heap) (free : o.isFreed = false) : (twoCells h o).get? h.objs.size = some o := Heap.get?_push_of_some _ (Heap.get?_push_size _ free)
/-- enumerate(v) -/
theorem enum_call {Q : Value → Shared → Prop} (B : Begins v o P) (hP : P s.heap) (q : Q (.ref (s.heap.objs.size + 1)) { s with heap := twoCells s.heap o }) : wpAny (model prog w) A (call (.type "enumerate") [v]) Q E s :=
  callType_new F.called_enumerate (by decide) (F.typeCall_enumerate_1 _) (F.newCall_enumerate_1 _) (fun obj => F.args_object_init_2 obj _) F.entry_enumerate_new (enum_made B)
    ⟨hP, ⟨_, twoCells_enum s.heap o, rfl⟩, q⟩
end
/-- what a walk through enumerate(t), t a tuple at a, gives at each turn: a new pair -/
def IteT (K : PySem.W.Frag) (a : Addr) : It where
  go := fun i H => ∃ xs x, SqT K H a xs ∧ xs[i]? = some x
  yld := fun i H v H' => ∃ T x, v = .ref T ∧ H T = none ∧ H' = upd H T (.tup [.int (i : Nat), x]) ∧ ∀ xs, SqT K H a xs → xs[i]? = some x
  stop := fun i H => ∃ xs, SqT K H a xs ∧ xs.length = i
/-- how the heap stands ahead of turn i -/
def TnT (a e it : Addr) (i : Nat) (h : Heap) : Prop := ((∃ old, IsEnum h e it (0 + (i : Int)) old) ∧ h.IsTupleIter it a i) ∧ e ≠ it ∧ e ≠ a ∧ it ≠ a
theorem walk_enumT {prog : Program} {w : World} {A : Around} {elts : List Expr} {k : Nat} {pos : Pos} {a e it : Addr} (hd : A.handled = none) (ne : e ≠ it ∧ e ≠ a ∧ it ≠ a) (items : Array Value) :
    GoesN prog w A (.Tuple elts k pos) e [e, it, a] [e, it] items.size (fun i h0 v h => ∃ T t x, v = .ref T ∧ h0.objs.size ≤ T ∧ items[i]? = some x ∧ h.IsTuple T #[.int (0 + (i : Int)) t, x])
      (fun i h => (∃ old, IsEnum h e it (0 + (i : Int)) old) ∧ h.IsTupleIter it a i ∧ h.IsTuple a items) := by
  refine GoesN.enumFrom 0 (Draws.tuple (A := A.in1) hd it a ne.2.2.symm items) e ne.1 (fun z => ?_) List.mem_cons_self
  rcases List.mem_cons.mp z with y | y
  · exact ne.1 y
  · exact ne.2.1 (List.mem_singleton.mp y)
theorem turn_enumT {P : Program} {w : World} {K : PySem.W.Frag} {elts : List Expr} {k : Nat} {pos : Pos} (a e it : Addr) : Turn P w K (.Tuple elts k pos) (IteT K a) [e, it] e (TnT a e it) := by
  refine ⟨List.mem_cons_self, fun i h st b hb => ?_, fun i h h' st kp => ?_, ?_, ?_, fun A i s Q E st q => ?_⟩
  · obtain ⟨⟨⟨old, he⟩, o, ho, _, hdat⟩, _⟩ := st
    rcases List.mem_cons.mp hb with rfl | tl
    · exact ⟨_, he, fun v z => nomatch z⟩
    · cases List.mem_singleton.mp tl
      exact ⟨o, ho, fun v z => by rw [hdat] at z; cases z⟩
  · obtain ⟨⟨⟨old, he⟩, hi⟩, ne⟩ := st
    exact ⟨⟨⟨old, kp e List.mem_cons_self _ he⟩, hi.at fun o z => kp it (List.mem_cons_of_mem _ List.mem_cons_self) o z⟩, ne⟩
  · intro X hP hw hK calm i pins s σ H E I hf st ⟨xs, x, hq, hx⟩
    cases hP; cases hw; cases hK
    obtain ⟨items, rv, tup, _⟩ := I.tuple hq
    have W := walk_enumT (prog := X.prog) (w := X.w) (elts := elts) (k := k) (pos := pos) (I.ok.hd calm) st.2 items.toArray
    have lt : i < items.toArray.size := by
      obtain ⟨u, hu, _⟩ := rv.get hx
      rw [List.size_toArray]
      exact (List.getElem?_eq_some_iff.mp hu).1
    refine wpAny_mono (W.goes i s (fun u s2 => ∃ y H', Inv X pins σ H' s2 ∧ RelV y u ∧ (IteT X.K a).yld i H y H' ∧ TnT a e it (i + 1) s2.heap ∧ ∀ b ∈ [e, it], H' b = none) E lt ⟨st.1.1, st.1.2, tup⟩ fun u h' tk hy st' kp _ => ?_) (fun _ _ z => z) fun _ _ z => z
    obtain ⟨T, t, y, rfl, hT, hyi, isT⟩ := hy
    obtain ⟨y', hy', ry⟩ := rv.get hx
    have ey : y = y' := by
      have z : items[i]? = some y := by simpa using hyi
      rw [z] at hy'
      exact Option.some.inj hy'
    subst ey
    have nT : H T = none := I.hok.fresh hT
    have new : ObjOk X.prog X.w (upd H T (.tup [.int (i : Nat), x])) h' T (.tup [.int (i : Nat), x]) := ⟨by show 2 ≤ sizeLine; decide, [.int (0 + (i : Int)) t, y], .cons ⟨t, by rw [Int.zero_add]⟩ (.cons ry .nil), isT⟩
    refine ⟨.ref T, _, I.turnedNew (ch := [e, it]) (fun b ob hb z => kp b ob hb z) hf hT new, rfl, ⟨T, x, rfl, nT, rfl, fun ys hys => by rw [I.tuple_inj hys hq]; exact hx⟩, ⟨⟨st'.1, st'.2.1⟩, st.2⟩, fun b hb => ?_⟩
    obtain ⟨o, ho, _⟩ : ∃ o, s.heap.get? b = some o ∧ True := by
      rcases List.mem_cons.mp hb with rfl | tl
      · obtain ⟨old, he⟩ := st.1.1
        exact ⟨_, he, trivial⟩
      · cases List.mem_singleton.mp tl
        obtain ⟨o, ho, _⟩ := st.1.2
        exact ⟨o, ho, trivial⟩
    rw [upd_ne (Nat.ne_of_lt (Nat.lt_of_lt_of_le (Heap.lt_size ho) hT))]
    exact (hf b hb).1
  · intro X hP hw hK calm i pins s σ H E I hf st ⟨xs, hq, hx⟩
    cases hP; cases hw; cases hK
    obtain ⟨items, rv, tup, _⟩ := I.tuple hq
    obtain ⟨n1, n2, _, n4, n5, n6⟩ := hf it (List.mem_cons_of_mem _ List.mem_cons_self)
    have W := walk_enumT (prog := X.prog) (w := X.w) (elts := elts) (k := k) (pos := pos) (I.ok.hd calm) st.2 items.toArray
    have ei : i = items.toArray.size := by rw [List.size_toArray, ← hx, rv.length]
    subst ei
    refine W.stops s (fun s1 => Inv X pins σ H s1) E ⟨st.1.1, st.1.2, tup⟩ fun h' tk kp _ => ?_
    exact I.turnedL kp hf
  · obtain ⟨⟨⟨old, he⟩, _⟩, _⟩ := st
    exact wpAny_pyIter_enum he q
/-- a walk through enumerate(e), e a list or a tuple -/
def iEnumA (K : PySem.W.Frag) (ta : TA) : TI := fun σ H R => ta σ H fun vs H1 => ∃ a xs, vs = [.ref a] ∧ ((SqL K H1 a xs ∧ R (Ite K a) H1) ∨ (SqT K H1 a xs ∧ R (IteT K a) H1))
theorem pi_enumA {X : Cx} {e : Expr} {ta : TA} {p pos tpos : Pos} {elts : List Expr} {k : Nat} (hg : Gl X "enumerate") (hm : X.mg "enumerate" = none) (ha : PA X [e] ta) (hs : starEach [e] X.env = [(false, eval e X.env)] := by rfl) :
    PI X (.Tuple elts k tpos) (.Call (.Name "enumerate" p) [e] [] pos) (iEnumA X.K ta) := by
  refine ⟨fun pins s σ H R I hyp => Call_ (ld_blt I hg hm boot_enumerate (PyProof.Rows.callWith_type1 (thn (ha.run pos pins s σ H _ I hyp) fun us s1 ⟨vs, H1, I1, r1, a, xs, ev, q⟩ => ?_) hs rfl))⟩
  subst ev
  obtain ⟨av, rfl, ra⟩ := vals1 r1
  cases ra
  -- both kinds: two new cells, the turns begin
  have fin : ∀ {ob : Obj} {P : Heap → Prop} {J : It} {tn : Nat → Heap → Prop}, Begins (.ref a) ob P → P s1.heap → Turn X.prog X.w X.K (.Tuple elts k tpos) J [s1.heap.objs.size + 1, s1.heap.objs.size] (s1.heap.objs.size + 1) tn → tn 0 (twoCells s1.heap ob) → R J H1 →
      wpAny (model X.prog X.w) X.A (call (.type "enumerate") [.ref a]) (fun v s2 => wpAny (model X.prog X.w) X.A (pyIter v) (PIE X pins σ (.Tuple elts k tpos) R) X.xe s2) X.xe s1 := fun {ob P J tn} B hP tu t0 hR => by
    refine enum_call B hP (wpAny_pyIter_enum (twoCells_enum s1.heap ob) ⟨_, _, tn, J, H1, rfl, I1.kept (t' := s1.toks) (fun b o z => twoCells_keep z), tu, t0, fun b hb => ?_, hR⟩)
    have le : s1.heap.objs.size ≤ b := by
      rcases List.mem_cons.mp hb with rfl | tl
      · exact Nat.le_succ _
      · rw [List.mem_singleton.mp tl]; exact Nat.le_refl _
    exact I1.fpOk le (I1.hok.fresh le)
  rcases q with ⟨hq, hR⟩ | ⟨hq, hR⟩
  · obtain ⟨items, _, isl, _⟩ := I1.list hq
    exact fin (begins_list a items.toArray) isl.isList (turn_enum a _ _) ⟨⟨_, twoCells_enum _ _⟩, ⟨_, twoCells_inner _ rfl, rfl, rfl⟩, Nat.succ_ne_self _⟩ hR
  · obtain ⟨items, _, ist, _⟩ := I1.tuple hq
    have la : a < s1.heap.objs.size := by obtain ⟨o, z, _⟩ := ist; exact Heap.lt_size z
    exact fin (begins_tuple a items.toArray) ist (turn_enumT a _ _) ⟨⟨⟨_, twoCells_enum _ _⟩, ⟨_, twoCells_inner _ rfl, rfl, rfl⟩⟩, Nat.succ_ne_self _, Nat.ne_of_gt (Nat.lt_succ_of_lt la), Nat.ne_of_gt la⟩ hR
end AxT
namespace Ax
open PySem PySem.Spec L2
variable [TabC]
section
variable {X : Cx} {C : Kx} {a : Expr} {fl : SL} {p pos : Pos}
theorem walks_enumT {K : PySem.W.Frag} {Z : Hp} {a : Addr} {vs : List V} {ds : List D} (h : ∀ Z' H, Same Z Z' → Same Z' H → SqT K H a vs) (r : Reps C.G Z vs ds) : Walks C Z (AxT.IteT K a) (enumD ds) := by
  refine ⟨fun i d hd Z' H s1 s2 => ?_, fun Z' H s1 s2 => ⟨vs, h _ _ s1 s2, by rw [r.length]; simp [enumD]⟩⟩
  unfold enumD at hd
  rw [List.getElem?_map] at hd
  obtain ⟨⟨d0, j⟩, h1, rfl⟩ := Option.map_eq_some_iff.mp hd
  rw [List.getElem?_zipIdx] at h1
  obtain ⟨d1, h2, h3⟩ := Option.map_eq_some_iff.mp h1
  cases h3
  obtain ⟨v, h4, h5⟩ := r.get h2
  refine ⟨⟨vs, v, h _ _ s1 s2, h4⟩, fun x H' ⟨T, y, e1, nT, e2, q⟩ => ?_⟩
  subst e1
  subst e2
  have := q vs (h _ _ s1 s2)
  rw [h4] at this
  cases this
  have st := Step.new (o := .tup [.int (i : Nat), v]) s2 nT
  exact ⟨_, st, .tup upd_same (.cons (by rw [Nat.zero_add]; exact .int _) (.cons ((h5.mono s1).mono st.fz) .nil))⟩
def sEnA (fl : SL) : SL := fun env => (fl env).bind fun ds e => match ds with | [d] => .of (d.itrS.map enumD) e | _ => .bad
theorem pw_enA {elts : List Expr} {kk : Nat} {tpos : Pos} (hg : Gl X "enumerate") (hm : X.mg "enumerate" = none) (ha : PA X [a] (tL C fl)) (hs : starEach [a] X.env = [(false, eval a X.env)] := by rfl) (hK : X.K = C.G.K := by rfl) :
    PI X (.Tuple elts kk tpos) (.Call (.Name "enumerate" p) [a] [] pos) (tI C (sEnA fl)) := PI.imp (AxT.pi_enumA hg hm ha hs) fun σ H R ⟨Z, env, g, q⟩ => by
  refine ⟨Z, env, g, (Wish.bind (S := Reps C.G) q).mono fun v H1 ⟨Z1, x, e1, t1, g1, r1, w1⟩ => ?_⟩
  split at w1
  · rename_i d
    obtain ⟨v, rfl, h⟩ := reps1 r1
    cases h with
    | mk h u r => exact ⟨_, _, rfl, .inl ⟨sub_l g1.sub h, w1.ret0 g1 (walks_enum (fun _ _ s1 s2 => sub_l s2 (s1 _ _ h)) r)⟩⟩
    | lst h u r => exact ⟨_, _, rfl, .inl ⟨sub_l g1.sub h, w1.ret0 g1 (walks_enum (fun _ _ s1 s2 => sub_l s2 (s1 _ _ h)) r)⟩⟩
    | frl h u r => exact ⟨_, _, rfl, .inl ⟨sub_f hK g1.sub h, w1.ret0 g1 (walks_enum (fun _ _ s1 s2 => sub_f hK (s1.trans s2) h) r)⟩⟩
    | tup h r => exact ⟨_, _, rfl, .inr ⟨sub_t g1.sub h, w1.ret0 g1 (walks_enumT (fun _ _ s1 s2 => sub_t s2 (s1 _ _ h)) r)⟩⟩
    | _ => exact w1.elim
  · exact w1.elim
end
end Ax
set_option Elab.async false
set_option linter.all false
set_option maxRecDepth 100000
set_option maxHeartbeats 2000000
/-! Ax10: parallel assignments, owned lists read, owned results of calls, instances. -/
namespace Ax
open PySem PySem.Spec L2
variable [TabC]

/-! ### several values, some owned -/
abbrev SM := En → O (List SV)
inductive MRep (G : GW) (H0 Z H : Hp) (env : En) (σ : St) : List Addr → List V → List SV → Prop
  | nil : MRep G H0 Z H env σ [] [] []
  | sh {v : V} {d : D} {as : List Addr} {vs : List V} {ss : List SV} (r : Rep G Z v d) (t : MRep G H0 Z H env σ as vs ss) : MRep G H0 Z H env σ as (v :: vs) (.sh d :: ss)
  | own {p : Addr} {o : OV} {ho : HO} {as : List Addr} {vs : List V} {ss : List SV} (n : H0 p = none) (no : ¬ Own env σ p) (z : Z p = none) (h : H p = some ho) (r : RepO G Z ho o) (na : p ∉ as) (t : MRep G H0 Z H env σ as vs ss) : MRep G H0 Z H env σ (p :: as) (.ref p :: vs) (.own false o :: ss)
theorem MRep.fresh {G : GW} {H0 Z H : Hp} {env : En} {σ : St} : ∀ {as : List Addr} {vs : List V} {ss : List SV}, MRep G H0 Z H env σ as vs ss → ∀ p ∈ as, H0 p = none
  | _, _, _, .nil, _, h => by cases h
  | _, _, _, .sh _ t, p, h => MRep.fresh t p h
  | _, _, _, .own n _ _ _ _ _ t, p, h => by
    rcases List.mem_cons.mp h with here | h
    · subst here; exact n
    · exact MRep.fresh t p h
theorem MRep.back {G : GW} {H0 H1 Z H : Hp} {env : En} {σ : St} (d : ∀ a, H1 a = none → H0 a = none) : ∀ {as : List Addr} {vs : List V} {ss : List SV}, MRep G H1 Z H env σ as vs ss → MRep G H0 Z H env σ as vs ss
  | _, _, _, .nil => .nil
  | _, _, _, .sh r t => .sh r (t.back d)
  | _, _, _, .own n no z h r na t => .own (d _ n) no z h r na (t.back d)
section
variable {X : Cx} {C : Kx} {e a b c : Expr} {es : List Expr} {fa fb fe : SE} {fl : SL} {pos : Pos} {st : Stmt}
def WishM (C : Kx) (σ : St) (Z H : Hp) (env : En) (r : O (List SV)) (Q : List V → Hp → Prop) : Prop := match r with
  | .ok ss env' => ∀ as vs H' Z', Tr Z H env σ Z' H' env' σ → Gd C.G C.io Z' H' env' σ → MRep C.G H Z' H' env' σ as vs ss → Q vs H'
  | .ex c p env' => ∀ H' Z' od, Tr Z H env σ Z' H' env' σ → Gd C.G C.io Z' H' env' σ → XOb C.G Z' H' c p od → C.W (.ref (C.G.cls c)) od σ H'
  | .bad => False
def tM (C : Kx) (f : SM) : TA := fun σ H Q => ∃ Z env, Gd C.G C.io Z H env σ ∧ WishM C σ Z H env (f env) Q
theorem WishM.shift {σ : St} {Z H Z1 H1 : Hp} {env env1 : En} {Q : List V → Hp → Prop} {r : O (List SV)} (t : Tr Z H env σ Z1 H1 env1 σ) (h : WishM C σ Z H env r Q) : WishM C σ Z1 H1 env1 r Q := by
  cases r with
  | ok x e => exact fun as vs H' Z' t' g m => h as vs H' Z' (t.trans t') g (m.back t.dom)
  | ex c p e => exact fun H' Z' od t' g q => h H' Z' od (t.trans t') g q
  | bad => exact h
theorem WishM.bind {γ β : Type} {S : Hp → γ → β → Prop} {σ : St} {Z H : Hp} {env : En} {Q : List V → Hp → Prop} {o : O β} {k : β → En → O (List SV)} (h : WishM C σ Z H env (o.bind k) Q) :
    Wish C S σ Z H env o (fun v H1 => ∃ Z1 x env1, Tr Z H env σ Z1 H1 env1 σ ∧ Gd C.G C.io Z1 H1 env1 σ ∧ S Z1 v x ∧ WishM C σ Z1 H1 env1 (k x env1) Q) := by
  cases o with
  | ok x e => exact fun v H' Z' t g q => ⟨Z', x, e, t, g, q, h.shift t⟩
  | ex c p e => exact h
  | bad => exact h
theorem WishM.bindM {σ : St} {Z H : Hp} {env : En} {Q : List V → Hp → Prop} {o : O (List SV)} {k : List SV → En → O (List SV)} (h : WishM C σ Z H env (o.bind k) Q) :
    WishM C σ Z H env o (fun vs H1 => ∃ Z1 ss env1 as, Tr Z H env σ Z1 H1 env1 σ ∧ Gd C.G C.io Z1 H1 env1 σ ∧ MRep C.G H Z1 H1 env1 σ as vs ss ∧ WishM C σ Z H env (k ss env1) Q) := by
  cases o with
  | ok x e => exact fun as vs H' Z' t g q => ⟨Z', x, e, as, t, g, q, h⟩
  | ex c p e => exact h
  | bad => exact h
theorem WishM.mono {σ : St} {Z H : Hp} {env : En} {Q Q' : List V → Hp → Prop} {r : O (List SV)} (h : WishM C σ Z H env r Q) (m : ∀ v H', Q v H' → Q' v H') : WishM C σ Z H env r Q' := by
  cases r with
  | ok x e => exact fun as v H' Z' t g q => m _ _ (h as v H' Z' t g q)
  | ex c p e => exact h
  | bad => exact h
def mN : SM := fun env => .ok [] env
def mS (f : SE) (fm : SM) : SM := fun env => (f env).bind fun d e => (fm e).bind fun ss e2 => .ok (.sh d :: ss) e2
def mO (f : SO) (fm : SM) : SM := fun env => (f env).bind fun o e => (fm e).bind fun ss e2 => .ok (.own false o :: ss) e2
theorem pm_n : PA X [] (tM C mN) := PA.imp pa_nil fun σ H Q ⟨Z, env, g, q⟩ => q [] _ _ Z .refl g .nil
theorem pm_s {fm : SM} (ha : PE X e (tE C fa)) (hr : PA X es (tM C fm)) (hs : starEach (e :: es) X.env = (false, eval e X.env) :: starEach es X.env := by rfl) : PA X (e :: es) (tM C (mS fa fm)) := PA.imp (pa_cons ha hr hs) fun σ H Q ⟨Z, env, g, q⟩ =>
  ⟨Z, env, g, (WishM.bind (S := Rep C.G) q).mono fun v H1 ⟨Z1, x, e1, t1, g1, r1, w1⟩ => ⟨Z1, e1, g1, (WishM.bindM w1).mono fun vs H2 ⟨Z2, ss, e2, as, t2, g2, r2, w2⟩ => w2 as _ H2 Z2 t2 g2 (.sh (r1.mono t2.fz) r2)⟩⟩
theorem WishO.bindM {σ : St} {Z H : Hp} {env : En} {Q : List V → Hp → Prop} {o : O OV} {k : OV → En → O (List SV)} (h : WishM C σ Z H env (o.bind k) Q) :
    WishO C σ Z H env o (fun v H1 => ∃ Z1 x env1 p ho, v = .ref p ∧ Tr Z H env σ Z1 H1 env1 σ ∧ Gd C.G C.io Z1 H1 env1 σ ∧ H p = none ∧ ¬ Own env1 σ p ∧ Z1 p = none ∧ H1 p = some ho ∧ RepO C.G Z1 ho x ∧ WishM C σ Z H env (k x env1) Q) := by
  cases o with
  | ok x e => exact fun p ho H' Z' t g n no z hp r => ⟨Z', x, e, p, ho, rfl, t, g, n, no, z, hp, r, h⟩
  | ex c p e => exact h
  | bad => exact h
theorem WishO.mono {σ : St} {Z H : Hp} {env : En} {Q Q' : VK} {r : O OV} (h : WishO C σ Z H env r Q) (m : ∀ v H', Q v H' → Q' v H') : WishO C σ Z H env r Q' := by
  cases r with
  | ok x e => exact fun p ho H' Z' t g n no z hp r => m _ _ (h p ho H' Z' t g n no z hp r)
  | ex c p e => exact h
  | bad => exact h
/-- an object that was made stays through a transition -/
theorem Tr.kept {Z H Z' H' : Hp} {env env' : En} {σ σ' : St} (t : Tr Z H env σ Z' H' env' σ') {p : Addr} {ho : HO} (h : H p = some ho) (no : ¬ Own env σ p) (z : Z p = none) (nt : ∀ ps, ho ≠ .tbl ps) : H' p = some ho ∧ ¬ Own env' σ' p ∧ Z' p = none := by
  refine ⟨t.keep p ho h no nt, fun q => ?_, ?_⟩
  · rcases t.own p q with q | q
    · exact no q
    · rw [h] at q; cases q
  · cases q : Z' p with
    | none => rfl
    | some o =>
      rcases t.nw p o q with q | q | q
      · rw [z] at q; cases q
      · rw [h] at q; cases q
      · exact absurd q no
theorem pm_o {fo : SO} {fm : SM} (ha : PE X e (tO C fo)) (hr : PA X es (tM C fm)) (hs : starEach (e :: es) X.env = (false, eval e X.env) :: starEach es X.env := by rfl) : PA X (e :: es) (tM C (mO fo fm)) := PA.imp (pa_cons ha hr hs) fun σ H Q ⟨Z, env, g, q⟩ => by
  refine ⟨Z, env, g, (WishO.bindM q).mono fun v H1 ⟨Z1, x, e1, p, ho, ev, t1, g1, n1, no1, z1, hp1, r1, w1⟩ => ?_⟩
  subst ev
  refine ⟨Z1, e1, g1, ?_⟩
  revert w1
  generalize fm e1 = rm
  intro w1
  cases rm with
  | bad => exact w1
  | ex c p e => exact fun H' Z' od t' g' x => w1 H' Z' od (t1.trans t') g' x
  | ok ss e2 =>
    intro as vs H2 Z2 t2 g2 r2
    obtain ⟨k1, k2, k3⟩ := t2.kept hp1 no1 z1 r1.ob.nt
    refine w1 (p :: as) _ H2 Z2 (t1.trans t2) g2 (.own n1 k2 k3 k1 (r1.mono t2.fz) (fun q => ?_) (r2.back t1.dom))
    have := r2.fresh p q
    rw [hp1] at this
    cases this
/-! the stores -/
def setAll : List Nat → List SV → En → Option En
  | [], [], e => some e
  | i :: is, s :: ss, e => setAll is ss (e.set i s)
  | _, _, _ => none
theorem MRep.setSh {G : GW} {H0 Z H : Hp} {env : En} {σ : St} {i : Nat} {v0 : V} {d0 : D} : ∀ {as : List Addr} {vs : List V} {ss : List SV}, MRep G H0 Z H env σ as vs ss → MRep G H0 Z H (env.set i (.sh d0)) (σ.set i (some v0)) as vs ss
  | _, _, _, .nil => .nil
  | _, _, _, .sh r t => .sh r (MRep.setSh t)
  | _, _, _, .own n no z h r na t => .own n (fun q => no (own_setSh q)) z h r na (MRep.setSh t)
theorem MRep.setOwn {G : GW} {H0 Z H : Hp} {env : En} {σ : St} {i : Nat} {p : Addr} {o : OV} : ∀ {as : List Addr} {vs : List V} {ss : List SV}, p ∉ as → MRep G H0 Z H env σ as vs ss → MRep G H0 Z H (env.set i (.own false o)) (σ.set i (some (.ref p))) as vs ss
  | _, _, _, _, .nil => .nil
  | _, _, _, np, .sh r t => .sh r (MRep.setOwn np t)
  | _, _, _, np, .own n no z h r na t => .own n (fun q => by
      rcases own_setOwn q with q | q
      · exact no q
      · subst q; exact np List.mem_cons_self) z h r na (MRep.setOwn (fun q => np (List.mem_cons_of_mem _ q)) t)
def setV : List Nat → List V → St → St
  | i :: is, v :: vs, σ => setV is vs (σ.set i (some v))
  | _, _, σ => σ
theorem setAll_ok {G : GW} {io : Option Addr} {H0 Z H : Hp} : ∀ {is : List Nat} {as : List Addr} {vs : List V} {ss : List SV} {env env' : En} {σ : St}, Gd G io Z H env σ → MRep G H0 Z H env σ as vs ss → setAll is ss env = some env' →
    Gd G io Z H env' (setV is vs σ) ∧ vs.length = is.length ∧ ∀ a, Own env' (setV is vs σ) a → Own env σ a ∨ H0 a = none
  | [], _, _, _, _, _, _, g, .nil, e => by cases e; exact ⟨g, rfl, fun _ h => .inl h⟩
  | i :: is, _, _, _, _, _, _, g, .sh r t, e => by
    obtain ⟨h1, h2, h3⟩ := setAll_ok (g.setSh (i := i) r) t.setSh e
    refine ⟨h1, congrArg (· + 1) h2, fun a h => ?_⟩
    rcases h3 a h with q | q
    · exact .inl (own_setSh q)
    · exact .inr q
  | i :: is, _, _, _, _, _, _, g, .own n no z h r na t, e => by
    obtain ⟨h1, h2, h3⟩ := setAll_ok (g.setOwn (i := i) h z no r) (t.setOwn na) e
    refine ⟨h1, congrArg (· + 1) h2, fun a h => ?_⟩
    rcases h3 a h with q | q
    · rcases own_setOwn q with q | q
      · exact .inl q
      · subst q; exact .inr n
    · exact .inr q
  | [], _, _, _, _, _, _, _, .sh _ _, e => by cases e
  | [], _, _, _, _, _, _, _, .own _ _ _ _ _ _ _, e => by cases e
  | _ :: _, _, _, _, _, _, _, _, .nil, e => by cases e
def sPar (is : List Nat) (fm : SM) : SS := fun env => bindS (fm env) fun ss e => match setAll is ss e with
  | some e' => .nx e'
  | none => .bad
theorem par_core {is : List Nat} {fm : SM} {Dn : Ends} {σ : St} {H : Hp} (h : tS C (sPar is fm) Dn σ H) : tM C fm σ H fun vs H1 => vs.length = is.length ∧ Dn.nx (setV is vs σ) H1 := by
  obtain ⟨Z, env, g, q⟩ := h
  refine ⟨Z, env, g, ?_⟩
  unfold sPar at q
  revert q
  generalize fm env = r
  intro q
  cases r with
  | bad => exact q
  | ex c p e => exact fun H' Z' od t g' x => q σ H' Z' od t g' x
  | ok ss e =>
    intro as vs H' Z' t g' m
    replace q : WishS C Dn σ Z H env (match setAll is ss e with | some e' => .nx e' | none => .bad) := q
    cases hs : setAll is ss e with
    | none => rw [hs] at q; exact q.elim
    | some e' =>
      rw [hs] at q
      obtain ⟨h1, h2, h3⟩ := setAll_ok g' m hs
      refine ⟨h2, q _ H' Z' ⟨t.fz, t.keep, t.nw, fun a ha => ?_, t.dom⟩ h1⟩
      rcases h3 a ha with q | q
      · exact t.own a q
      · exact .inr q
theorem q_par2 {i j : Nat} {fm : SM} (h : PS X st (tPar i j (tM C fm))) : PS X st (tS C (sPar [i, j] fm)) := PS.imp h fun Dn σ H h => by
  obtain ⟨Z, env, g, w⟩ := par_core h
  refine ⟨Z, env, g, w.mono fun vs H1 ⟨hl, q⟩ => ?_⟩
  match vs, hl with
  | [v, w'], _ => exact ⟨v, w', rfl, q⟩
theorem q_par3 {i j l : Nat} {fm : SM} (h : PS X st (tPar3 i j l (tM C fm))) : PS X st (tS C (sPar [i, j, l] fm)) := PS.imp h fun Dn σ H h => by
  obtain ⟨Z, env, g, w⟩ := par_core h
  refine ⟨Z, env, g, w.mono fun vs H1 ⟨hl, q⟩ => ?_⟩
  match vs, hl with
  | [v, w', u], _ => exact ⟨v, w', u, rfl, q⟩
/-! ### owned lists read -/
def sIxO (i : Nat) (fb : SE) : SE := fun env => match ownL env i with
  | none => .bad
  | some _ => (fb env).bind fun y e => match ownL e i, y with
    | some (_, ds), .int k => .of (atI ds k) e
    | _, _ => .bad
theorem pd_ixO {i : Nat} (hv : PE X a (tVar i)) (hb : PE X b (tE C fb)) (hs : PlainIx b) : PE X (.Subscript a b pos) (tE C (sIxO i fb)) := PE.imp (pe_ix ix_list hv hb hs) fun σ H Q ⟨Z, env, g, q⟩ => by
  unfold sIxO at q
  split at q
  · exact q.elim
  rename_i p0 hl0
  obtain ⟨m0, s0⟩ := p0
  obtain ⟨a, vs0, h1, h2, h3, h4⟩ := g.lst (ownL_get hl0)
  refine ⟨.ref a, h1, Z, env, g, (Wish.bind (S := Rep C.G) q).mono fun v H1 ⟨Z1, y, e1, t1, g1, r1, w1⟩ => ?_⟩
  split at w1
  · rename_i m ds k hl
    obtain ⟨b, vs, k1, k2, k3, k4⟩ := g1.lst (ownL_get hl)
    rw [h1] at k1
    cases k1
    cases r1
    unfold O.of at w1
    split at w1
    · rename_i d hd
      obtain ⟨v, j1, j2⟩ := reps_at k4 hd
      exact ⟨a, vs, k, v, rfl, rfl, .inl (.inl k3), j1, w1.ret0 g1 j2⟩
    · exact w1.elim
  · exact w1.elim
def sLenO (i : Nat) : SE := fun env => match ownL env i with
  | some (_, ds) => .ok (.int (ds.length : Int)) env
  | none => .bad
theorem pd_lenO {i : Nat} {p : Pos} (hg : Gl X "len") (hm : X.mg "len" = none) (hv : PE X a (tVar i)) (he : starEach [a] X.env = (false, eval a X.env) :: starEach [] X.env := by rfl) (hpl : (backTo pos (starEach [] X.env)).any (·.1) = false := by rfl) : PE X (.Call (.Name "len" p) [a] [] pos) (tE C (sLenO i)) :=
  PE.imp (pe_callB call_len_seq hg hm PySem.boot_len (pa_cons hv pa_nil he) (by decide) (by decide) he hpl) fun σ H Q ⟨Z, env, g, q⟩ => by
    unfold sLenO at q
    split at q
    · rename_i m ds hl
      obtain ⟨a, vs, h1, h2, h3, h4⟩ := g.lst (ownL_get hl)
      exact ⟨.ref a, h1, a, vs, rfl, .inl (.inl (.inl h3)), by rw [h4.length]; exact q.ret0 g (.int _)⟩
    · exact q.elim
/-- x == e, x != e: the list with what e gives -/
def sEqO (neg : Bool) (i : Nat) (fb : SE) : SE := fun env => match ownL env i with
  | none => .bad
  | some _ => (fb env).bind fun y e => match ownL e i with
    | some (_, ds) => .of (eqD neg (.lst ds) y) e
    | none => .bad
theorem eqO_imp {neg : Bool} {i : Nat} {r : R2} (hr : ∀ {x y : V} {d e : PyData} {H : Hp} {Q : VK}, Dp X.K H x d → Dp X.K H y e → SeqAt.shaped d = true → SeqAt.shaped e = true → Q (.bl (if neg then !PyData.eqv d e else PyData.eqv d e)) H → r x y H Q)
    {σ : St} {H : Hp} {Q : VK} (h : tE C (sEqO neg i fb) σ H Q) : tOp r (tVar i) (tE C fb) σ H Q := by
  obtain ⟨Z, env, g, q⟩ := h
  unfold sEqO at q
  split at q
  · exact q.elim
  rename_i p0 hl0
  obtain ⟨m0, s0⟩ := p0
  obtain ⟨a, vs0, h1, h2, h3, h4⟩ := g.lst (ownL_get hl0)
  refine ⟨.ref a, h1, Z, env, g, (Wish.bind (S := Rep C.G) q).mono fun v H1 ⟨Z1, y, e1, t1, g1, r1, w1⟩ => ?_⟩
  split at w1
  · rename_i m ds hl
    obtain ⟨b, vs, k1, k2, k3, k4⟩ := g1.lst (ownL_get hl)
    rw [h1] at k1
    cases k1
    unfold O.of at w1
    split at w1
    · rename_i d hd
      unfold eqD at hd
      split at hd
      · rename_i p1 p2 e1' e2'
        split at hd
        · rename_i c
          cases hd
          have z : Same (upd Z1 a (.lst vs)) H1 := fun b o hb => by
            by_cases q : b = a
            · subst q; rw [upd_same] at hb; cases hb; exact k3
            · rw [upd_ne q] at hb; exact g1.sub.s _ _ hb
          exact hr (rep_dp z (rep_frozen k2 (g1.sub.un k2) (.lst k4) rfl) e1') (rep_dp g1.sub r1 e2') c.1 c.2 (w1.ret0 g1 (.bl _))
        · cases hd
      · cases hd
    · exact w1.elim
  · exact w1.elim
theorem pd_eqO {i : Nat} (hu : X.A.units + 64 < cLine) (hv : PE X a (tVar i)) (hb : PE X b (tE C fb)) (hm : behindInMarks .Eq b = false) : PE X (.Compare a [.Eq] [b] pos) (tE C (sEqO false i fb)) := PE.imp (pe_cmpR (op_eqD hu) hv hb hm) fun _ _ _ h => eqO_imp (fun {_ _ d e _ _} a b c d' q => ⟨d, e, a, b, c, d', q⟩) h
theorem pd_neO {i : Nat} (hu : X.A.units + 64 < cLine) (hv : PE X a (tVar i)) (hb : PE X b (tE C fb)) (hm : behindInMarks .NotEq b = false) : PE X (.Compare a [.NotEq] [b] pos) (tE C (sEqO true i fb)) := PE.imp (pe_cmpR (op_neD hu) hv hb hm) fun _ _ _ h => eqO_imp (fun {_ _ d e _ _} a b c d' q => ⟨d, e, a, b, c, d', q⟩) h
theorem testO_imp {f : SE} {r : R2} {i : Nat} (m : ∀ σ H Q, tE C f σ H Q → tOp r (tVar i) (tE C fb) σ H Q) {σ : St} {H : Hp} {Q : Bool → Hp → Prop} (h : tBo C (sTb f) σ H Q) : tTest (tOp r (tVar i) (tE C fb)) σ H Q := by
  obtain ⟨Z, env, g, q⟩ := h
  refine m σ H _ ⟨Z, env, g, (Wish.bind (S := Rep C.G) q).mono fun v H1 ⟨Z1, x, e1, t1, g1, r1, w1⟩ => ?_⟩
  cases r1 <;> first
    | exact w1.elim
    | exact ⟨_, rfl, w1.ret0 g1 rfl⟩
theorem pt_eqO {i : Nat} (hu : X.A.units + 64 < cLine) (hv : PE X a (tVar i)) (hb : PE X b (tE C fb)) (hm : behindInMarks .Eq b = false) : PT X (.Compare a [.Eq] [b] pos) (tBo C (sTb (sEqO false i fb))) :=
  PT.imp (pt_cmpR (op_eqD hu) hv hb hm) fun _ _ _ h => testO_imp (fun _ _ _ h => eqO_imp (fun {_ _ d e _ _} a b c d' q => ⟨d, e, a, b, c, d', q⟩) h) h
theorem pt_neO {i : Nat} (hu : X.A.units + 64 < cLine) (hv : PE X a (tVar i)) (hb : PE X b (tE C fb)) (hm : behindInMarks .NotEq b = false) : PT X (.Compare a [.NotEq] [b] pos) (tBo C (sTb (sEqO true i fb))) :=
  PT.imp (pt_cmpR (op_neD hu) hv hb hm) fun _ _ _ h => testO_imp (fun _ _ _ h => eqO_imp (fun {_ _ d e _ _} a b c d' q => ⟨d, e, a, b, c, d', q⟩) h) h
/-- the truth of an owned list -/
def sTO (i : Nat) : SB := fun env => match ownL env i with
  | some (_, ds) => .ok (!ds.isEmpty) env
  | none => .bad
theorem pt_tO {i : Nat} (hv : PE X a (tVar i)) (he : ∀ whole, isTrue a X.env whole = (do let v ← whole; standAt a.pos; holding [v] (truthy v)) := by intro _; rfl) : PT X a (tBo C (sTO i)) := PT.imp (pt_truth hv he) fun σ H Q ⟨Z, env, g, q⟩ => by
  unfold sTO at q
  split at q
  · rename_i m ds hl
    obtain ⟨a, vs, h1, h2, h3, h4⟩ := g.lst (ownL_get hl)
    exact ⟨.ref a, h1, _, .inl ⟨vs, .inl (.inl h3), rfl⟩, by rw [reps_empty h4]; exact q.ret0 g rfl⟩
  · exact q.elim
/-- x[lo:hi] of an owned list: a new list -/
def sSlOO (i : Nat) (lo hi : SP) : SO := fun env => match ownL env i with
  | none => .bad
  | some _ => (lo env).bind fun l e2 => (hi e2).bind fun h e3 => match ownL e3 i with
    | some (_, ds) => .ok (.lst (cut ds l h)) e3
    | none => .bad
theorem po_slO {i : Nat} {lo hi : Option Expr} {p2 : Pos} {fl fh : SP} (hv : PE X a (tVar i)) (hl : PO X lo (tP C fl)) (hh : PO X hi (tP C fh)) : PE X (.Subscript a (.Slice lo hi none p2) pos) (tO C (sSlOO i fl fh)) := PE.imp (pe_slice sl_list hv hl hh) fun σ H Q ⟨Z, env, g, q⟩ => by
  unfold sSlOO at q
  split at q
  · exact q.elim
  rename_i p0 hl0
  obtain ⟨m0, s0⟩ := p0
  obtain ⟨a, vs0, h1, h2, h3, h4⟩ := g.lst (ownL_get hl0)
  refine ⟨.ref a, h1, Z, env, g, (WishO.bind (S := fun _ (a b : Option Int) => a = b) q).mono fun l H2 ⟨Z2, l', e2, t2, g2, r2, w2⟩ =>
    ⟨Z2, e2, g2, (WishO.bind (S := fun _ (a b : Option Int) => a = b) w2).mono fun h H3 ⟨Z3, h', e3, t3, g3, r3, w3⟩ => ?_⟩⟩
  subst r2
  subst r3
  split at w3
  · rename_i m ds hl
    obtain ⟨b, vs, k1, k2, k3, k4⟩ := g3.lst (ownL_get hl)
    rw [h1] at k1
    cases k1
    exact ⟨a, vs, rfl, .inl (.inl k3), fun p np => w3.ret g3 np (.lst (reps_cut k4 _ _))⟩
  · exact w3.elim
/-- x[k] = e -/
def sSetIx (i : Nat) (fk fe : SE) : SS := fun env => bindS (fe env) fun d e1 => match ownL e1 i with
  | none => .bad
  | some _ => bindS (fk e1) fun k e2 => match ownL e2 i, k with
    | some (m, ds), .int z => (match ixN ds.length z with
      | some j => .nx (e2.set i (.own m (.lst (ds.set j d))))
      | none => .bad)
    | _, _ => .bad
theorem q_setIx {i : Nat} {fk : SE} (h : PS X st (tAsg (tE C fe) (gSub (tVar i) (tE C fk) rSetL))) : PS X st (tS C (sSetIx i fk fe)) := PS.imp h fun Dn σ H ⟨Z, env, g, q⟩ => by
  refine ⟨Z, env, g, (WishS.bind (R := Rep C.G) q).mono fun v H1 ⟨Z1, d, e1, t1, g1, r1, w1⟩ => ?_⟩
  split at w1
  · exact w1.elim
  rename_i p0 hl0
  obtain ⟨m0, s0⟩ := p0
  obtain ⟨a, vs0, h1, h2, h3, h4⟩ := g1.lst (ownL_get hl0)
  refine ⟨.ref a, h1, Z1, e1, g1, (WishS.bind (R := Rep C.G) w1).mono fun k H2 ⟨Z2, kd, e2, t2, g2, r2, w2⟩ => ?_⟩
  split at w2
  rotate_left
  · exact w2.elim
  rename_i m ds z hl
  cases r2
  have he := ownL_get hl
  obtain ⟨b, vs, k1, k2, k3, k4⟩ := g2.lst he
  rw [h1] at k1
  cases k1
  split at w2
  · rename_i j hj
    rw [← k4.length] at hj
    exact ⟨a, vs, z, j, rfl, rfl, k3, hj, w2 σ _ Z2 (.write he h1) (g2.write he h1 (.lst (Reps.set (r1.mono t2.fz) j k4)))⟩
  · exact w2.elim
/-! ### a made list, changed and dropped -/
def sDropApp (fo : SO) (fe : SE) : SS := fun env => bindS (fo env) fun o e => match o with
  | .lst ds => bindS (fe e) fun _ e2 => if ds.length < sizeLine then .nx e2 else .bad
  | _ => .bad
def sDropClr (fo : SO) : SS := fun env => bindS (fo env) fun o e => match o with
  | .lst _ => .nx e
  | _ => .bad
theorem WishSO.mono {Dn : Ends} {σ : St} {Z H : Hp} {env : En} {o : O OV} {k : OV → En → OS} (h : WishS C Dn σ Z H env (bindS o k)) {Q' : VK}
    (m : ∀ p ho H1 Z1 x env1, Tr Z H env σ Z1 H1 env1 σ → Gd C.G C.io Z1 H1 env1 σ → H p = none → ¬ Own env1 σ p → Z1 p = none → H1 p = some ho → RepO C.G Z1 ho x → WishS C Dn σ Z H env (k x env1) → Q' (.ref p) H1) : WishO C σ Z H env o Q' := by
  cases o with
  | ok x e => exact fun p ho H' Z' t g n no z hp r => m p ho H' Z' x e t g n no z hp r h
  | ex c p e => exact fun H' Z' od t g q => h σ H' Z' od t g q
  | bad => exact h
theorem q_dropClr {fo : SO} (h : PS X st (tDrop (tBM0 X.K "list" rClear (tO C fo)))) : PS X st (tS C (sDropClr fo)) := PS.imp h fun Dn σ H ⟨Z, env, g, q⟩ => by
  refine ⟨Z, env, g, WishSO.mono q fun p ho H1 Z1 x e1 t1 g1 n no z hp r w => ?_⟩
  cases r with
  | lst r => exact ⟨.inl ⟨rfl, _, .inl (.inl hp)⟩, p, _, rfl, rfl, hp, w σ _ Z1 (t1.pokeNew n) (g1.poke z no (fun _ q => by rw [hp] at q; cases q; exact .inl ⟨_, rfl⟩))⟩
  | ins r => exact w.elim
  | dt l r => exact w.elim
  | dk l r => exact w.elim
theorem q_dropApp {fo : SO} (h : PS X st (tDrop (tBM X.K "list" rAppend (tO C fo) (tCons (tE C fe) tNil)))) : PS X st (tS C (sDropApp fo fe)) := PS.imp h fun Dn σ H ⟨Z, env, g, q⟩ => by
  refine ⟨Z, env, g, WishSO.mono q fun p ho H1 Z1 x e1 t1 g1 n no z hp r w => ?_⟩
  cases r with
  | ins r => exact w.elim
  | dt l r => exact w.elim
  | dk l r => exact w.elim
  | lst r =>
    rename_i vs ds
    refine ⟨.inl ⟨rfl, _, .inl (.inl hp)⟩, Z1, e1, g1, ?_⟩
    replace w : WishS C Dn σ Z H env (bindS (fe e1) fun _ e2 => if ds.length < sizeLine then .nx e2 else .bad) := w
    revert w
    generalize fe e1 = rf
    intro w
    cases rf with
    | bad => exact w
    | ex c p e => exact fun H' Z' od t' g' x => w σ H' Z' od (t1.trans t') g' x
    | ok y e2 =>
      intro v H2 Z2 t2 g2 r2
      obtain ⟨k1, k2, k3⟩ := t2.kept hp no z (fun _ q => by cases q)
      replace w : WishS C Dn σ Z H env (if ds.length < sizeLine then .nx e2 else .bad) := w
      split at w
      · rename_i hz
        rw [← r.length] at hz
        exact ⟨p, vs, v, rfl, rfl, k1, hz, w σ _ Z2 ((t1.trans t2).pokeNew n) (g2.poke k3 k2 (fun _ q => by rw [k1] at q; cases q; exact .inl ⟨_, rfl⟩))⟩
      · exact w.elim
end
end Ax
set_option Elab.async false
set_option linter.all false
set_option maxRecDepth 100000
set_option maxHeartbeats 2000000
/-! AxF: isinstance of a def. -/
namespace PySem
open Sem (wp)
/-- how a def's attributes are looked up: by object's own __getattribute__ -/
theorem fn_slot : Slot "function" "__getattribute__" "object.__getattribute__" := by
  refine .of (owner := "object") (n := "__getattribute__") ?_ (by decide +kernel) (by decide +kernel) (by decide +kernel) ?_ ?_
  · rw [typeLookup_type, builtinLookup_eq_fast]; kernel_rfl
  · first | exact .inl (by decide +kernel) | exact .inr (by decide +kernel)
  · rw [isSubtype_type]; kernel_rfl
theorem fn_entry : entryFor table "object.__getattribute__" = some Builtin.«object.__getattribute__» := entryFor_of_tree (by kernel_rfl)
theorem fn_args (x y : Value) : argsOk "object.__getattribute__" ⟨[x, y], []⟩ := by unfold argsOk; kernel_rfl
theorem fn_lookup : typeLookup (.type "function") "__class__" = pure (some (.builtin "object.__class__")) := by
  rw [typeLookup_type]
  rw [builtinLookup_eq_fast]
  kernel_rfl
theorem fn_below : isSubtype (.type "function") (.type (".".intercalate ("object.__class__".cutAt '.').dropLast)) = pure true := by
  rw [F.owner_object_class]
  rw [isSubtype_type]
  kernel_rfl
/-- the class of a def, asked as an attribute -/
theorem fn_class {prog : Program} {w : World} {A : Around} {E : Value → Shared → Prop} {h : Heap} {gs : Array GenState} {dn : Drawn} {n : Nat} {os : OsState} {f : Addr} {fo : Obj} {Q : Option Value → Shared → Prop}
    (stands : h.get? f = some fo) (kind : fo.cls = .type "function") (q : Q (some (.type "function")) ⟨h, gs, dn, n + 1, os⟩) : wpAny (model prog w) A (getAttr? (.ref f) "__class__") Q E ⟨h, gs, dn, n, os⟩ := by
  have isFn (k : Nat) : Shared.TypeIs ⟨h, gs, dn, k, os⟩ (.ref f) "function" := ⟨_, stands, kind⟩
  have isGs (k : Nat) : Shared.TypeIs ⟨h, gs, dn, k, os⟩ (.builtin "object.__class__") "getset_descriptor" := F.typeOf_object_class
  have facts := And.intro fn_lookup (And.intro F.slot_gs_get.lookup (And.intro F.slot_gs_set.lookup (And.intro fn_slot.lookup (fn_slot.bind (.ref f)))))
  obtain ⟨look, lookGet, lookSet, lookGa, bindGa⟩ := facts
  -- the descriptor tells the class
  have told {k : Nat} {A' : Around} {R : Result → Shared → Prop} (r : R (.ok (.ret (.type "function"))) ⟨h, gs, dn, k, os⟩) : codeAny (model prog w) A' (.call (.builtin "getset_descriptor.__get__") ⟨[.builtin "object.__class__", .ref f, .type "function"], []⟩) R ⟨h, gs, dn, k, os⟩ := by
    have isFnK := isFn k
    have below := fn_below
    have isGsK := isGs k
    have args := F.args_gs_get (.builtin "object.__class__") (.ref f) (.type "function")
    refine codeAny_call_builtin F.slot_gs_get.plain F.entry_gs_get ?_
    refine F.slot_gs_get.check _ _ _ _ _ _ _ _ isGsK args ?_
    repeat' first | assumption | wp_step
    exact ⟨Code.quiet_builtin _ (by decide +kernel), codeAny_builtin F.entry_object_class (by repeat' first | assumption | wp_step)⟩
  -- object's __getattribute__ finds the descriptor
  have found {k : Nat} {tk : Tok} {A' : Around} {E' : Value → Shared → Prop} {P : Fin → Shared → Prop} (r : P (.done (.ret (.type "function"))) ⟨h, gs, dn, k, os⟩) : wpAny (model prog w) A' (Builtin.«object.__getattribute__» ⟨[.ref f, .str "__class__" tk], []⟩) P E' ⟨h, gs, dn, k, os⟩ := by
    have isFnK := isFn k
    have isGsK := isGs k
    have isGsT := F.typeOf_object_class
    repeat' first | assumption | wp_step
    exact told (by repeat' first | assumption | wp_step)
  have asked {k : Nat} {tk : Tok} {A' : Around} {E' : Value → Shared → Prop} {P : Value → Shared → Prop} (r : P (.type "function") ⟨h, gs, dn, k, os⟩) : wpAny (model prog w) A' (getAttrBy (.ref f) (.str "__class__" tk) false) P E' ⟨h, gs, dn, k, os⟩ := by
    have isFnK := isFn k
    repeat' first | assumption | wp_step
    refine codeAny_call_builtin fn_slot.plain fn_entry (fn_slot.check _ _ _ _ _ _ _ _ isFnK (fn_args _ _) (found ?_))
    repeat' first | assumption | wp_step
  unfold getAttr? getAttrBy?
  repeat' first | assumption | with_reducible apply asked | wp_step
end PySem
namespace PySem.W
theorem kitx_fn {K : Frag} {a : Addr} : KitX K (.ref a) (.type "function") (KitAt a "function") := kitx_of kitAt_ty (fun {_ _ _ _ _ s} p k => by obtain ⟨h, g, d, t, os⟩ := s; obtain ⟨o, h1, h2⟩ := p; exact fn_class h1 h2 k)
end PySem.W
namespace Ax
open PySem PySem.Spec L2
/-- a def stands there -/
def FnAt (K : PySem.W.Frag) (f : Addr) : Prop := ∃ o, K.lookup f = some o ∧ o.cls = .type "function"
inductive TyY (K : PySem.W.Frag) (H : Hp) : V → Value → Prop where
  | x {v : V} {t : Value} (h : TyX K H v t) : TyY K H v t
  | fn {f : Addr} (h : FnAt K f) : TyY K H (.ref f) (.type "function")
section
variable {X : Cx} {s : Shared} {σ : St} {H : Hp} {pins : List (Addr × Obj)}
theorem kit_ofY {x : V} {u t : Value} (I : Inv X pins σ H s) (rx : RelV x u) : TyY X.K H x t → ∃ P : Heap → Prop, PySem.W.KitX X.K u t P ∧ P s.heap ∧ u ≠ .builtin "__main__.__loader__#opaque"
  | .x known => kit_of I rx known
  | .fn ⟨fo, there, kind⟩ => by
    have e : u = Value.ref _ := rx
    subst e
    exact ⟨_, PySem.W.kitx_fn, ⟨fo, I.kIn _ _ there, kind⟩, fun z => nomatch z⟩
/-- isinstance(x, c) -/
def rIsiY (K : PySem.W.Frag) : List V → Hp → VK → Prop := fun args H Q => ∃ (x c : V) (t cv : Value) (yes : Bool), args = [x, c] ∧ ClsV c cv ∧ TyY K H x t ∧ PySem.W.kitOne K t cv = some yes ∧ Q (.bl yes) H
/-- isinstance(x, (c, ..)) -/
def rIsiTY (K : PySem.W.Frag) : List V → Hp → VK → Prop := fun args H Q => ∃ (x : V) (tp : Addr) (cs : List V) (t : Value) (cvs : List Value) (yes : Bool), args = [x, .ref tp] ∧ H tp = some (.tup cs) ∧ Paired ClsV cs cvs ∧ TyY K H x t ∧ PySem.W.kitAny K t cvs = some yes ∧ Q (.bl yes) H
theorem call_isiY : CallR X (.builtin "isinstance") (rIsiY X.K) := fun pins s σ H args us Q I rel ⟨x, c, t, cv, yes, ea, isC, ty, one, q⟩ => by
  subst ea
  obtain ⟨ux, uc, eu, rx, rc⟩ := vals2 rel
  subst eu
  have ec := isC.eq rc
  subst ec
  obtain ⟨P, kit, holds, notLoader⟩ := kit_ofY I rx ty
  exact PySem.W.kia_one kit I.kIn holds one notLoader fun k => ⟨.bl yes, H, I.tok k, rfl, q⟩
theorem call_isiTY : CallR X (.builtin "isinstance") (rIsiTY X.K) := fun pins s σ H args us Q I rel ⟨x, tp, cs, t, cvs, yes, ea, there, isCs, ty, any, q⟩ => by
  subst ea
  obtain ⟨ux, ut, eu, rx, rt⟩ := vals2 rel
  subst eu
  have et : ut = Value.ref tp := rt
  subst et
  obtain ⟨P, kit, holds, notLoader⟩ := kit_ofY I rx ty
  obtain ⟨_, items, ri, ⟨oc, od, dt, sl⟩, stands, isTup, n, dat⟩ := (I.hok tp _ there : ObjOk X.prog X.w H s.heap tp (.tup cs))
  have ei := ClsV.all isCs ri
  dsimp only at isTup dat
  subst ei isTup dat
  exact PySem.W.kia_tup kit I.kIn holds stands any notLoader fun k => ⟨.bl yes, H, I.tok k, rfl, q⟩
end
end Ax
set_option Elab.async false
set_option linter.all false
set_option maxRecDepth 100000
set_option maxHeartbeats 2000000
/-! Ax11: owned results of calls, instances, isinstance, own ==, calls of held defs, code that is not reached. -/
namespace Ax
open PySem PySem.Spec L2
variable [TabC]

/-! ### a def that hands back a new object -/
abbrev FO := List D → Option OV
def spO (G : GW) (n : Nat) (F : FO) : Sp := fun vs H Q E => ∃ Z ds o, Sub Z H ∧ Reps G Z vs ds ∧ ds.length = n ∧ F ds = some o ∧ ∀ p ho H' Z', Step Z H Z' H' → H p = none → Z' p = none → H' p = some ho → RepO G Z' ho o → Q (.ref p) H'
def runO (N : Nat) (f : SS) : FO := fun ds => match f (env0 N ds) with
  | .rto o _ => some o
  | _ => none
section
variable {P : Program} {w : World} {K : PySem.W.Frag} {mg : Str → Option Value} {base : Heap}
theorem ok_fnO {G : GW} {x qual : Str} {st : Stmt} {f : Addr} {fd : FuncData} {N ps : List Str} {k : Nat} {sf : SS} (F : Fun K x qual st f fd) (S : FnScope N ps (defScope st))
    (hbody : ∀ (cdv : Value) (A : Around) (outer : List Env) (s : Shared) (H : Hp) (E : XK), Room k (A.deeper (PyProof.Rows.envOfC qual (defScope st) s.heap.objs.size f cdv)) →
      PSs (cxOf (L2.CX P w) P w K mg base N qual (defScope st) f cdv A outer s H E) (defBody st) (tS (kxP G E) sf)) : FnOk P w K mg base (L2.CX P w) (k + 1) f fd ps (spO G ps.length (runO N.length sf)) := by
  refine F.okX S (fun vs H Q E ⟨Z, ds, o, s, r, n, _⟩ => by rw [r.length]; exact n) fun cdv A outer s H vs Q E hr ⟨Z, ds, o, sub, r, n, hF, h⟩ => ⟨_, hbody cdv A outer s H E hr, Z, _, env0_gd sub r, ?_⟩
  unfold runO at hF
  revert hF
  generalize sf (env0 N.length ds) = rr
  intro hF
  cases rr with
  | rto o' e =>
    cases hF
    exact fun p ho σ' H' Z' t g n no z hp r => h p ho H' Z' (step_of t g) n z hp r
  | _ => cases hF
end
section
variable {X : Cx} {C : Kx} {e o a b : Expr} {es : List Expr} {fa fb fe : SE} {fl : SL} {p pos apos : Pos} {x m : Str} {k n : Nat} {f Ca : Addr} {fd : FuncData} {ps : List Str}
def sCallO (n : Nat) (F : FO) (fl : SL) : SO := fun env => (fl env).bind fun ds e => if ds.length = n then .of (F ds) e else .bad
theorem callO_imp {F : FO} {W : St → XK} {σ : St} {H : Hp} {Q : VK} (h : tO C (sCallO n F fl) σ H Q) : tCallS (spO C.G n F) W (tL C fl) σ H Q := by
  obtain ⟨Z, env, g, q⟩ := h
  refine ⟨Z, env, g, (WishO.bind (S := Reps C.G) q).mono fun vs H1 ⟨Z1, ds, e1, t1, g1, r1, w1⟩ => ?_⟩
  split at w1
  rotate_left
  · exact w1.elim
  rename_i hn
  unfold O.of at w1
  split at w1
  · rename_i o ho
    refine ⟨Z1, ds, o, g1.sub, r1, hn, ho, fun p ho H' Z' s np z hp r => ?_⟩
    have no : ¬ Own e1 σ p := g1.notOwnN np
    exact w1 p ho H' Z' (.step s) (g1.step s) np no z hp r
  · exact w1.elim
theorem po_call {F : FO} (FOk : FnOk X.prog X.w X.K X.mg X.base (L2.CX X.prog X.w) k f fd ps (spO C.G n F)) (tk : Takes X C.W) (hr : Room k X.A) (hg : Gl X x) (hm : X.mg x = some (.ref f)) (hk : PySem.W.keepIn X.K (.ref f) = true) (hb : Binds X.K fd ps [])
    (ha : PA X (e :: es) (tL C fl)) (hdb : (x == ("__debug__" : Str)) = false := by decide) (he : starEach (e :: es) X.env = (false, eval e X.env) :: starEach es X.env := by rfl) (hpl : (backTo pos (starEach es X.env)).any (·.1) = false := by rfl) :
    PE X (.Call (.Name x p) (e :: es) [] pos) (tO C (sCallO n F fl)) := PE.imp (pe_callS FOk hr hg hm hk hb (fun σ => passAt tk σ) ha hdb he hpl) fun _ _ _ h => callO_imp h
/-! ### code that is not reached -/
def sBad {α : Type} : En → O α := fun _ => .bad
def sBadS : SS := fun _ => .bad
theorem pe_none {t : TE} (h : ∀ σ H Q, ¬ t σ H Q) : PE X e t := ⟨fun _ _ σ H Q _ q => absurd q (h σ H Q)⟩
theorem pd_bad : PE X e (tE C sBad) := pe_none fun _ _ _ ⟨_, _, _, q⟩ => q
theorem po_bad : PE X e (tO C sBad) := pe_none fun _ _ _ ⟨_, _, _, q⟩ => q
theorem q_bad {st : Stmt} : PS X st (tS C sBadS) := ⟨fun _ _ _ _ _ _ ⟨_, _, _, q⟩ => q.elim⟩
theorem qs_bad {st : List Stmt} : PSs X st (tS C sBadS) := ⟨fun _ _ _ _ _ _ ⟨_, _, _, q⟩ => q.elim⟩
theorem pt_bad : PT X e (tBo C sBad) := ⟨fun _ _ _ _ _ _ ⟨_, _, _, q⟩ => q.elim⟩
/-! ### instances: attributes, methods -/
theorem zip_lookup {α : Type} {f : Str} : ∀ {ns : List Str} {vs : List α} {j : Nat}, ns.Nodup → ns[j]? = some f → (ns.zip vs).lookup f = vs[j]?
  | [], _, _, _, gone => by simp at gone
  | n :: ns, [], j, _, _ => by simp
  | n :: ns, v :: vs, 0, _, h => by
    simp at h
    subst h
    simp
  | n :: ns, v :: vs, j + 1, nd, h => by
    have h' : ns[j]? = some f := by simpa using h
    have ne : (f == n) = false := beq_eq_false_iff_ne.mpr fun q => (List.nodup_cons.mp nd).1 (by rw [← q]; exact List.mem_of_getElem? h')
    rw [List.zip_cons_cons, List.lookup_cons, ne]
    simpa using zip_lookup (List.nodup_cons.mp nd).2 h'
theorem zip_lookup_none {α : Type} {f : Str} : ∀ {ns : List Str} {vs : List α}, f ∉ ns → (ns.zip vs).lookup f = none
  | [], _, _ => by simp
  | n :: ns, [], _ => by simp
  | n :: ns, v :: vs, h => by
    have ne : (f == n) = false := beq_eq_false_iff_ne.mpr fun q => h (by rw [q]; exact List.mem_cons_self)
    rw [List.zip_cons_cons, List.lookup_cons, ne]
    exact zip_lookup_none fun q => h (List.mem_cons_of_mem _ q)
def sFld (c j : Nat) (fa : SE) : SE := fun env => (fa env).bind fun d e => match d with
  | .obj c' fs => if c' = c then .of (fs[j]?) e else .bad
  | _ => .bad
theorem pd_fld {c j : Nat} (ha : PE X a (tE C fa)) (hb : attributeBase a x X.env (eval a X.env) = eval a X.env) (hc : Cls X.K (C.G.cls c)) (hn : NoAttr X.K (C.G.cls c) x) (nd : (C.G.flds c).Nodup) (hj : (C.G.flds c)[j]? = some x) : PE X (.Attribute a x pos) (tE C (sFld c j fa)) :=
  PE.imp (pe_fld ha hb) fun σ H Q ⟨Z, env, g, q⟩ => by
    refine ⟨Z, env, g, (Wish.bind (S := Rep C.G) q).mono fun v H1 ⟨Z1, d, e1, t1, g1, r1, w1⟩ => ?_⟩
    cases r1 with
    | obj kn h n r =>
      simp only at w1
      split at w1
      · rename_i hcc
        subst hcc
        unfold O.of at w1
        split at w1
        · rename_i d hd
          obtain ⟨v, h1, h2⟩ := r.get hd
          exact ⟨_, _, _, _, v, rfl, g1.sub.s _ _ h, hc, hn, by rw [zip_lookup nd hj]; exact h1, w1.ret0 g1 h2⟩
        · exact w1.elim
      · exact w1.elim
    | _ => exact w1.elim
def sMeth (c n : Nat) (F : FS) (fa : SE) (fl : SL) : SE := fun env => (fa env).bind fun d e => match d with
  | .obj c' fs => if c' = c then ((fl e).bind fun ds e2 => if ds.length + 1 = n then (match F (.obj c' fs :: ds) with
    | .ok d _ => .ok d e2
    | _ => .bad) else .bad) else .bad
  | _ => .bad
theorem meth_imp {c : Nat} {F : FS} {σ : St} {H : Hp} {Q : VK} (hl : m ∉ C.G.flds c) (h : tE C (sMeth c n F fa fl) σ H Q) : tMeth (C.G.cls c) m (spP C.G n F) [] E0 (tE C fa) (tL C fl) σ H Q := by
  obtain ⟨Z, env, g, q⟩ := h
  refine ⟨Z, env, g, (Wish.bind (S := Rep C.G) q).mono fun v H1 ⟨Z1, d, e1, t1, g1, r1, w1⟩ => ?_⟩
  cases r1 with
  | obj kn h nn r =>
    simp only at w1
    split at w1
    · rename_i hcc
      subst hcc
      refine ⟨_, _, _, rfl, g1.sub.s _ _ h, zip_lookup_none hl, Z1, e1, g1, (Wish.bind (S := Reps C.G) w1).mono fun vs H2 ⟨Z2, ds, e2, t2, g2, r2, w2⟩ => ?_⟩
      split at w2
      · rename_i hn
        rename_i fs _ _
        refine ⟨Z2, _ :: ds, g2.sub, .cons ((Rep.obj kn h nn r).mono t2.fz) (by rw [List.append_nil]; exact r2), hn, ?_⟩
        revert w2
        generalize F (_ :: ds) = rr
        intro w2
        cases rr with
        | ok d' _ => exact fun v' H' Z' s r' => w2.ret g2 s r'
        | ex c p _ => exact w2.elim
        | bad => exact w2
      · exact w2.elim
    · exact w1.elim
  | _ => exact w1.elim
theorem pd_meth {c : Nat} {F : FS} {pl : Sem Bool} (ho : PE X o (tE C fa)) (hc : Cls X.K (C.G.cls c)) (hl : m ∉ C.G.flds c) (hm : Meth X.K (C.G.cls c) m f) (FOk : FnOk X.prog X.w X.K X.mg X.base (L2.CX X.prog X.w) k f fd ps (spP C.G n F)) (hr : Room k X.A) (hb : Binds X.K fd ps []) (ha : PA X (e :: es) (tL C fl))
    (hst : starEach (e :: es) X.env = (false, eval e X.env) :: starEach es X.env := by rfl) (hpl : (backTo pos (starEach es X.env)).any (·.1) = false := by rfl)
    (ht : eval (.Call (.Attribute o m apos) (e :: es) [] pos) X.env = (do let ov ← eval o X.env; standAt apos.atName; let (f, first) ← holding [ov] (getMethod ov m pl); callWith pos f first (backTo pos (starEach (e :: es) X.env)) (backToKw pos (keywordEach [] X.env))) := by rfl) :
    PE X (.Call (.Attribute o m apos) (e :: es) [] pos) (tE C (sMeth c n F fa fl)) := PE.imp (pe_meth ho hc hm FOk hr hb .nil passL ha hst hpl ht) fun _ _ _ h => meth_imp hl h
theorem pd_meth0 {c : Nat} {F : FS} {pl : Sem Bool} (ho : PE X o (tE C fa)) (hc : Cls X.K (C.G.cls c)) (hl : m ∉ C.G.flds c) (hm : Meth X.K (C.G.cls c) m f) (FOk : FnOk X.prog X.w X.K X.mg X.base (L2.CX X.prog X.w) k f fd ps (spP C.G n F)) (hr : Room k X.A) (hb : Binds X.K fd ps [])
    (ht : eval (.Call (.Attribute o m apos) [] [] pos) X.env = (do let ov ← eval o X.env; standAt apos.atName; let (f, first) ← holding [ov] (getMethod ov m pl); callWith pos f first (backTo pos (starEach [] X.env)) (backToKw pos (keywordEach [] X.env))) := by rfl) :
    PE X (.Call (.Attribute o m apos) [] [] pos) (tE C (sMeth c n F fa sN)) := PE.imp (pe_meth0 ho hc hm FOk hr hb .nil passL ht) fun σ H Q h => by
  obtain ⟨Z, env, g, q⟩ := meth_imp (m := m) (fl := sN) hl h
  refine ⟨Z, env, g, q.mono fun v H1 ⟨a, dx, fs, e1, e2, e3, h4⟩ => ⟨a, dx, fs, e1, e2, e3, ?_⟩⟩
  obtain ⟨Z2, env2, g2, q2⟩ := h4
  exact q2.ret0 g2 .nil
/-! a method that hands back a new object -/
def sMethO (c n : Nat) (F : FO) (fa : SE) (fl : SL) : SO := fun env => (fa env).bind fun d e => match d with
  | .obj c' fs => if c' = c then ((fl e).bind fun ds e2 => if ds.length + 1 = n then .of (F (.obj c' fs :: ds)) e2 else .bad) else .bad
  | _ => .bad
theorem methO_imp {c : Nat} {F : FO} {σ : St} {H : Hp} {Q : VK} (hl : m ∉ C.G.flds c) (h : tO C (sMethO c n F fa fl) σ H Q) : tMeth (C.G.cls c) m (spO C.G n F) [] E0 (tE C fa) (tL C fl) σ H Q := by
  obtain ⟨Z, env, g, q⟩ := h
  refine ⟨Z, env, g, (WishO.bind (S := Rep C.G) q).mono fun v H1 ⟨Z1, d, e1, t1, g1, r1, w1⟩ => ?_⟩
  cases r1 with
  | obj kn h nn r =>
    simp only at w1
    split at w1
    · rename_i hcc
      subst hcc
      refine ⟨_, _, _, rfl, g1.sub.s _ _ h, zip_lookup_none hl, Z1, e1, g1, (WishO.bind (S := Reps C.G) w1).mono fun vs H2 ⟨Z2, ds, e2, t2, g2, r2, w2⟩ => ?_⟩
      split at w2
      · rename_i hn
        unfold O.of at w2
        split at w2
        · rename_i o ho
          refine ⟨Z2, _ :: ds, o, g2.sub, .cons ((Rep.obj kn h nn r).mono t2.fz) (by rw [List.append_nil]; exact r2), hn, ho, fun p ho H' Z' s np z hp r => w2 p ho H' Z' (.step s) (g2.step s) np (g2.notOwnN np) z hp r⟩
        · exact w2.elim
      · exact w2.elim
    · exact w1.elim
  | _ => exact w1.elim
theorem po_meth0 {c : Nat} {F : FO} {pl : Sem Bool} (ho : PE X o (tE C fa)) (hc : Cls X.K (C.G.cls c)) (hl : m ∉ C.G.flds c) (hm : Meth X.K (C.G.cls c) m f) (FOk : FnOk X.prog X.w X.K X.mg X.base (L2.CX X.prog X.w) k f fd ps (spO C.G n F)) (hr : Room k X.A) (hb : Binds X.K fd ps [])
    (ht : eval (.Call (.Attribute o m apos) [] [] pos) X.env = (do let ov ← eval o X.env; standAt apos.atName; let (f, first) ← holding [ov] (getMethod ov m pl); callWith pos f first (backTo pos (starEach [] X.env)) (backToKw pos (keywordEach [] X.env))) := by rfl) :
    PE X (.Call (.Attribute o m apos) [] [] pos) (tO C (sMethO c n F fa sN)) := PE.imp (pe_meth0 ho hc hm FOk hr hb .nil passL ht) fun σ H Q h => by
  obtain ⟨Z, env, g, q⟩ := methO_imp (m := m) (fl := sN) hl h
  refine ⟨Z, env, g, q.mono fun v H1 ⟨a, dx, fs, e1, e2, e3, h4⟩ => ⟨a, dx, fs, e1, e2, e3, ?_⟩⟩
  obtain ⟨Z2, env2, g2, q2⟩ := h4
  exact q2.ret0 g2 .nil
/-! ### a new instance -/
def putG {α : Type} (f : Str) (v : α) : List (Str × α) → List (Str × α)
  | [] => [(f, v)]
  | (g, w) :: r => if g = f then (f, v) :: r else (g, w) :: putG f v r
theorem putF_eq (f : Str) (v : V) : ∀ l, putF f v l = putG f v l
  | [] => rfl
  | (g, w) :: r => by
    unfold putF putG
    rw [putF_eq f v r]
    by_cases h : g = f
    · simp [h]
    · simp [h]
theorem RepF.put {G : GW} {Z : Hp} {f : Str} {v : V} {d : D} (h : Rep G Z v d) : ∀ {vs : List (Str × V)} {ds : List (Str × D)}, RepF G Z vs ds → RepF G Z (putG f v vs) (putG f d ds)
  | _, _, .nil => .cons h .nil
  | _, _, .cons (f := g) k r => by
    unfold putG
    split
    · exact .cons h r
    · exact .cons k (RepF.put h r)
theorem RepF.len {G : GW} {Z : Hp} : ∀ {vs : List (Str × V)} {ds : List (Str × D)}, RepF G Z vs ds → vs.length = ds.length
  | _, _, .nil => rfl
  | _, _, .cons _ r => congrArg (· + 1) (RepF.len r)
theorem RepF.zip {G : GW} {Z : Hp} : ∀ {vs : List (Str × V)} {ds : List (Str × D)}, RepF G Z vs ds → vs = (ds.map (·.1)).zip (vs.map (·.2)) ∧ Reps G Z (vs.map (·.2)) (ds.map (·.2))
  | _, _, .nil => ⟨rfl, .nil⟩
  | _, _, .cons h r => by
    obtain ⟨a, b⟩ := RepF.zip r
    refine ⟨?_, .cons h b⟩
    rw [List.map_cons, List.map_cons, List.zip_cons_cons, ← a]
/-- self.f = v in a target, self the owned instance of slot i -/
def gFldT (i c : Nat) (f : Str) : SG := fun d env => match env[i]? with
  | some (SV.own m (OV.ins c' fs)) => if c' = c ∧ fs.length < 1000 then some (env.set i (.own m (.ins c' (putG f d fs)))) else none
  | _ => none
def gFld (K : PySem.W.Frag) (i : Nat) (f : Str) : TG := fun v σ H Q => ∃ a C dx fs, σ[i]? = some (some (.ref a)) ∧ H a = some (.ins C dx fs) ∧ Cls K C ∧ NoAttr K C f ∧ fs.length < 1000 ∧ Q σ (upd H a (.ins C dx (putF f v fs)))
theorem pg_fld {i : Nat} {f : Str} (ho : PE X o (tVar i)) : PG X (.Attribute o f pos) (gFld X.K i f) := by
  refine ⟨fun pins s σ H v u Q I r wish => ?_⟩
  obtain ⟨a, C, dx, fs, e1, e2, c, n, l, q⟩ := wish
  rw [PySem.assign_Attribute]
  refine wpAny_bind (wpAny_holding (thn (ho.run pins s σ H (fun x H1 => x = .ref a ∧ H1 = H) I ⟨.ref a, e1, rfl, rfl⟩) fun ov s1 ⟨x, H1, I1, r1, e3, e4⟩ => ?_))
  subst e3
  subst e4
  cases r1
  refine wpAny_bind (wpAny_standAt (wpAny_bind (wpAny_holding (setattr_ok I1 e2 c n l r fun s3 I3 => ?_))))
  exact wpAny_release ⟨σ, _, I3, q⟩
theorem pg_f {i c : Nat} {f : Str} (ho : PE X o (tVar i)) (hc : Cls X.K (C.G.cls c)) (hn : NoAttr X.K (C.G.cls c) f) : PG X (.Attribute o f pos) (tG C [] (gFldT i c f)) := PG.imp (pg_fld ho) fun v σ H Q ⟨Z, env, d, env', g, r, e, q⟩ => by
  unfold gFldT at e
  split at e
  · rename_i m c' fs he
    split at e
    · rename_i hh
      obtain ⟨rfl, hl⟩ := hh
      cases e
      obtain ⟨a, ho, h1, h2, h3, h4, _⟩ := g.own i m _ he
      cases h4 with
      | ins rf =>
        rw [← rf.len] at hl
        refine ⟨a, _, _, _, h1, h3, hc, hn, hl, ?_⟩
        rw [putF_eq]
        exact q σ _ .refl (.write he h1) (g.write he h1 (.ins (rf.put r)))
    · cases e
  · cases e
/-- C(..) -/
def sMake (c n : Nat) (names : List Str) (F : FI) (fl : SL) : SE := fun env => (fl env).bind fun ds e => if ds.length = n then (match F (.ins c []) ds with
  | .ok .non (.ins c' fs) => if c' = c ∧ fs.map (·.1) = names then .ok (.obj c (fs.map (·.2))) e else .bad
  | _ => .bad) else .bad
theorem make_imp {c : Nat} (kn : C.G.kn c) {F : FI} {σ : St} {H : Hp} {Q : VK} (h : tE C (sMake c n (C.G.flds c) F fl) σ H Q) : tMake (C.G.cls c) (spI C.G n F) [] E0 (tL C fl) σ H Q := by
  obtain ⟨Z, env, g, q⟩ := h
  refine ⟨Z, env, g, (Wish.bind (S := Reps C.G) q).mono fun vs H1 ⟨Z1, ds, e1, t1, g1, r1, w1⟩ x dx nx ndx nex => ?_⟩
  split at w1
  rotate_left
  · exact w1.elim
  rename_i hn
  have zx := g1.sub.free nx
  have s1 : Same H1 (upd (upd H1 dx (.own x)) x (.ins (C.G.cls c) dx [])) := fun b o hb => by
    rw [upd_ne (ne_of_none hb nx), upd_ne (ne_of_none hb ndx)]
    exact hb
  refine ⟨Z1, x, vs, _, .ins c [], ds, by rw [List.append_nil], ⟨g1.sub.s.trans s1, g1.sub.ml, g1.sub.nt, g1.sub.tb.ext fun b o e => s1 b o e⟩, zx, upd_same, .ins .nil, r1, hn, ?_⟩
  revert w1
  generalize F (.ins c []) ds = rr
  intro w1
  split at w1
  · rename_i c' fs
    split at w1
    rotate_left
    · exact w1.elim
    rename_i hh
    obtain ⟨rfl, hnm⟩ := hh
    intro v H' Z' ho' st hx ro rv
    cases rv
    refine ⟨rfl, ?_⟩
    cases ro with
    | ins rf =>
      rename_i dx' vs'
      obtain ⟨z1, z2⟩ := rf.zip
      have z0 := st.za
      have st' : Step Z1 H1 (upd Z' x (.ins (C.G.cls c') dx' vs')) H' := by
        refine ⟨⟨fun b o hb nt => st.hp b o (ne_of_none hb nx) (s1 b o hb) nt, fun b hb => s1.free (st.dom b hb)⟩, st.fz.trans (same_upd z0), fun b o hb => ?_, ⟨fun b o hb => ?_, ml_mono (same_upd z0) st.sub.ml, nt_upd' st.sub.nt (fun _ q => by cases q), st.sub.tb⟩⟩
        · by_cases hbx : b = x
          · subst hbx; exact .inr nx
          · rw [upd_ne hbx] at hb
            rcases st.nw b o hb with k | k
            · exact .inl k
            · exact .inr (s1.free k)
        · by_cases hbx : b = x
          · subst hbx; rw [upd_same] at hb; cases hb; exact hx
          · rw [upd_ne hbx] at hb; exact st.sub.s b o hb
      refine w1.ret g1 st' (.obj (dx := dx') (vs := vs'.map (·.2)) kn ?_ ?_ (z2.mono (same_upd z0)))
      · rw [upd_same, ← hnm, ← z1]
      · rw [List.length_map, rf.len, ← hnm, List.length_map]
  · exact w1.elim
theorem pd_make {c : Nat} {F : FI} (kn : C.G.kn c) (M : Mk X.K (C.G.cls c) f) (FOk : FnOk X.prog X.w X.K X.mg X.base (L2.CX X.prog X.w) k f fd ps (spI C.G n F)) (hr : Room (k + 1) X.A) (hg : Gl X x) (hm : X.mg x = some (.ref (C.G.cls c))) (hb : Binds X.K fd ps [])
    (ha : PA X (e :: es) (tL C fl)) (hdb : (x == ("__debug__" : Str)) = false := by decide) (he : starEach (e :: es) X.env = (false, eval e X.env) :: starEach es X.env := by rfl) (hpl : (backTo pos (starEach es X.env)).any (·.1) = false := by rfl) :
    PE X (.Call (.Name x p) (e :: es) [] pos) (tE C (sMake c n (C.G.flds c) F fl)) := PE.imp (pe_make M FOk hr hg hm hb .nil passL ha hdb he hpl) fun _ _ _ h => make_imp kn h
/-! ### isinstance -/
def tyNs : List String := ["NoneType", "bool", "int", "str", "list", "tuple", "dict", "function"]
def isaB (a b : String) : Bool := a == b || (a == "bool" && b == "int")
theorem kitB_ok : ∀ a ∈ tyNs, ∀ b ∈ tyNs, kitB a b = some (isaB a b) := by decide +kernel
def tyN : D → Option String
  | .non => some "NoneType"
  | .bl _ => some "bool"
  | .int _ => some "int"
  | .str _ => some "str"
  | .tup _ => some "tuple"
  | .lst _ => some "list"
  | .mk _ _ => some "list"
  | .dic _ _ => some "dict"
  | .fn _ => some "function"
  | _ => none
theorem tyN_in {d : D} {a : String} (h : tyN d = some a) : a ∈ tyNs := by
  cases d <;> simp [tyN] at h <;> subst h <;> decide
def isi1 : D → D → Option Bool
  | .obj c' _, .cl c => some (c' == c)
  | .obj _ _, .ty b => if tyNs.contains b = true then some false else none
  | d, .cl _ => if (tyN d).isSome = true then some false else none
  | d, .ty b => if tyNs.contains b = true then (tyN d).map fun a => isaB a b else none
  | _, _ => none
structure KitOk (K : PySem.W.Frag) (G : GW) : Prop where
  oo : ∀ c c', G.kn c → G.kn c' → PySem.W.kitOne K (.ref (G.cls c)) (.ref (G.cls c')) = some (c == c')
  ob : ∀ c, G.kn c → ∀ b ∈ tyNs, PySem.W.kitOne K (.ref (G.cls c)) (.type b) = some false
  bo : ∀ c, G.kn c → ∀ a ∈ tyNs, PySem.W.kitOne K (.type a) (.ref (G.cls c)) = some false
  ins : ∀ (c : Nat), G.kn c → ∀ (a dx : Addr) (fs : List (Str × V)) (H : Hp), H a = some (.ins (G.cls c) dx fs) → TyX K H (.ref a) (.ref (G.cls c))
  fns : ∀ i, G.kf i → FnAt K (G.fns i)
/-- the class that a value is taken to be of -/
def tyV (G : GW) : D → Value
  | .obj c _ => .ref (G.cls c)
  | d => .type ((tyN d).getD "")
theorem isi1_ok {G : GW} {K : PySem.W.Frag} {Z H : Hp} {v vc : V} {d dc : D} {b : Bool} (ok : KitOk K G) (s : Same Z H) (r : Rep G Z v d) (rc : Rep G Z vc dc) (h : isi1 d dc = some b) :
    ∃ u, ClsV vc u ∧ TyY K H v (tyV G d) ∧ PySem.W.kitOne K (tyV G d) u = some b := by
  have tyb : ∀ {a : String}, tyN d = some a → TyY K H v (.type a) := fun {a} h => by
    cases r <;> simp [tyN] at h <;> subst h
    · exact .x (.base .non)
    · exact .x (.base (.bl _))
    · exact .x (.base (.int _))
    · exact .x (.base (.str _))
    · exact .fn (ok.fns _ ‹_›)
    · exact .x (.base (.tup (s _ _ ‹_›)))
    · exact .x (.base (.lst (s _ _ ‹_›)))
    · exact .x (.base (.lst (s _ _ ‹_›)))
    · exact .x (.fDict (s _ _ ‹_›))
  unfold isi1 at h
  split at h
  · rename_i c' fs c
    cases h
    cases rc with
    | cl _ kc =>
    cases r with
    | obj k h1 h2 h3 => exact ⟨_, .own _, .x (ok.ins _ k _ _ _ _ (s _ _ h1)), ok.oo _ _ k kc⟩
  · rename_i c' fs b'
    split at h
    · rename_i hc
      cases h
      cases rc
      cases r with
      | obj k h1 h2 h3 => exact ⟨_, .ty _, .x (ok.ins _ k _ _ _ _ (s _ _ h1)), ok.ob _ k _ (List.contains_iff_mem.mp hc)⟩
    · cases h
  · rename_i hno
    split at h
    · rename_i hc
      cases h
      obtain ⟨a, ha⟩ := Option.isSome_iff_exists.mp hc
      cases rc with
      | cl _ kc =>
      have et : tyV G d = .type a := by
        cases d <;> simp [tyN] at ha <;> subst ha <;> rfl
      rw [et]
      exact ⟨_, .own _, tyb ha, ok.bo _ kc _ (tyN_in ha)⟩
    · cases h
  · split at h
    · rename_i hc
      obtain ⟨a, ha, rfl⟩ := Option.map_eq_some_iff.mp h
      cases rc
      have et : tyV G d = .type a := by
        cases d <;> simp [tyN] at ha <;> subst ha <;> rfl
      rw [et]
      exact ⟨_, .ty _, tyb ha, kit_ty (kitB_ok _ (tyN_in ha) _ (List.contains_iff_mem.mp hc))⟩
    · cases h
  · cases h
def isiAll (d : D) : List D → Option Bool
  | [] => some false
  | c :: r => match isi1 d c, isiAll d r with
    | some a, some b => some (a || b)
    | _, _ => none
theorem isiAll_ok {G : GW} {K : PySem.W.Frag} {Z H : Hp} {v : V} {d : D} (ok : KitOk K G) (s : Same Z H) (r : Rep G Z v d) : ∀ {vs : List V} {cs : List D} {b : Bool}, Reps G Z vs cs → isiAll d cs = some b → ∃ us, Paired ClsV vs us ∧ PySem.W.kitAny K (tyV G d) us = some b
  | _, _, _, .nil, h => by cases h; exact ⟨[], .nil, kitAny_nil⟩
  | _, _, b, .cons h rr, e => by
    rw [isiAll] at e
    split at e
    · rename_i x y h1 h2
      cases e
      obtain ⟨u, a1, _, a3⟩ := isi1_ok ok s r h h1
      obtain ⟨us, b1, b2⟩ := isiAll_ok ok s r rr h2
      refine ⟨u :: us, .cons a1 b1, kitAny_cons a3 (fun z => ?_) fun z => ?_⟩
      · subst z; rw [Bool.false_or]; exact b2
      · subst z; rfl
    · cases e
def isiT : List D → Option D
  | [d, .tup (c :: cs)] => (isiAll d (c :: cs)).map .bl
  | [d, c] => (isi1 d c).map .bl
  | _ => none
theorem cb_isi {G : GW} (ok : KitOk X.K G) : CallR X (.builtin "isinstance") (rCD G isiT) := by
  intro pins s σ H vs us Q I r ⟨Z, ds, d, sub, rs, e, q⟩
  unfold isiT at e
  split at e
  · rename_i d0 c cs
    obtain ⟨v0, v1, rfl, h1, h2⟩ := reps2 rs
    obtain ⟨b, hb, rfl⟩ := Option.map_eq_some_iff.mp e
    cases h2 with
    | tup ha hr =>
    have hr' := hr
    cases hr with
    | cons k1 k2 =>
    obtain ⟨u0, _, t0, _⟩ : ∃ u, ClsV _ u ∧ TyY X.K H v0 (tyV G d0) ∧ True := by
      rw [isiAll] at hb
      split at hb
      · rename_i x y j1 j2
        obtain ⟨u, a1, a2, _⟩ := isi1_ok ok sub.s h1 k1 j1
        exact ⟨u, a1, a2, trivial⟩
      · cases hb
    obtain ⟨us', a1, a2⟩ := isiAll_ok ok sub.s h1 hr' hb
    exact call_isiTY pins s σ H _ us Q I r ⟨v0, _, _, _, us', b, rfl, sub.s _ _ ha, a1, t0, a2, q _ _ _ (.refl sub) (.bl _)⟩
  · rename_i d0 c _
    obtain ⟨v0, v1, rfl, h1, h2⟩ := reps2 rs
    obtain ⟨b, hb, rfl⟩ := Option.map_eq_some_iff.mp e
    obtain ⟨u, a1, a2, a3⟩ := isi1_ok ok sub.s h1 h2 hb
    exact call_isiY pins s σ H _ us Q I r ⟨v0, v1, _, u, b, rfl, a1, a2, a3, q _ _ _ (.refl sub) (.bl _)⟩
  · cases e
/-! ### == of two instances by their own def -/
def eqC (c : Nat) (F : FS) : D → D → Option D
  | .obj c1 a, .obj c2 b => if c1 = c ∧ c2 = c then (match F [.obj c1 a, .obj c2 b] with
    | .ok (.bl k) _ => some (.bl k)
    | _ => none) else none
  | _, _ => none
theorem opd_eqC {c : Nat} {F : FS} (FOk : FnOk X.prog X.w X.K X.mg X.base (L2.CX X.prog X.w) k f fd ps (spP C.G 2 F)) (hr : Room k X.A) (hs : PySem.W.findIn X.K (.ref (C.G.cls c)) "__eq__" = some (some (.ref f))) (hf : PySem.W.isFn X.K (.ref f) = true) (hb : Binds X.K fd ps []) : OpR X (compareOp .Eq) (rD C.G (eqC c F)) := by
  intro pins s σ H x y v u Q I rx ry ⟨Z, d1, d2, d, sub, r1, r2, e, q⟩
  unfold eqC at e
  split at e
  rotate_left
  · cases e
  rename_i c1 a c2 b
  split at e
  rotate_left
  · cases e
  rename_i hcc
  obtain ⟨rfl, rfl⟩ := hcc
  have r1' := r1
  have r2' := r2
  cases r1 with
  | obj kn1 h1 n1 rr1 =>
  cases r2 with
  | obj kn2 h2 n2 rr2 =>
  cases rx
  cases ry
  obtain ⟨mA, J, _⟩ := ins_get I.hok (sub.s _ _ h1)
  obtain ⟨mB, J', _⟩ := ins_get I.hok (sub.s _ _ h2)
  obtain ⟨od, J, _⟩ := J.look
  obtain ⟨od2, J', _⟩ := J'.look
  obtain ⟨m, hF⟩ := I.fr
  show wpAny (model X.prog X.w) X.A (richCompare .Eq _ _) (EP X pins σ Q) X.xe s
  refine PySem.W.cmp_K (op := .Eq) (tb := .ref _) hr.units0 hF I.ok.mod.kin J J'.type (by simp [PySem.W.notFirst]) hs hf ?_
  have key := run_fn (Q := fun z H' => ∃ k Z', z = .bl k ∧ d = .bl k ∧ Step Z H Z' H') FOk hr hb (dvs := []) .nil (passL (X := X)) I (us := [.ref _, .ref _]) (vs := [.ref _, .ref _]) (.cons rfl (.cons rfl .nil)) ⟨Z, _, sub, .cons r1' (.cons r2' .nil), rfl, by
    split at e
    · rename_i kk io hk
      cases e
      rw [hk]
      intro z H' Z' st rz
      cases rz
      exact ⟨kk, Z', rfl, rfl, st⟩
    · cases e⟩
  refine wpAny_mono key (fun z s' hz => ?_) fun _ _ x => x
  obtain ⟨zv, H', I', rz, kk, Z', rfl, rfl, st⟩ := hz
  cases rz
  exact ⟨.bl kk, H', I', rfl, q _ _ _ st (.bl _)⟩
/-! ### a def that a slot holds -/
def sCallL (i j : Nat) (n : Nat) (F : FS) (fl : SL) : SE := fun env => match env[i]? with
  | some (SV.sh (D.fn a)) => if a = j then ((fl env).bind fun ds e => if ds.length = n then (match F ds with
    | .ok d _ => .ok d e
    | _ => .bad) else .bad) else .bad
  | _ => .bad
theorem pd_callL {i j : Nat} {F : FS} (hf : C.G.fns j = f) (FOk : FnOk X.prog X.w X.K X.mg X.base (L2.CX X.prog X.w) k f fd ps (spP C.G n F)) (hr : Room k X.A) (hN : X.N[i]? = some x) (hv : Vis X.env.scope x) (hk : PySem.W.keepIn X.K (.ref f) = true) (hb : Binds X.K fd ps []) (ha : PA X (e :: es) (tL C fl))
    (hcd : (x == ("__classdict__" : Str)) = false := by decide) (hdb : (x == ("__debug__" : Str)) = false := by decide)
    (he : starEach (e :: es) X.env = (false, eval e X.env) :: starEach es X.env := by rfl) (hpl : (backTo pos (starEach es X.env)).any (·.1) = false := by rfl) : PE X (.Call (.Name x p) (e :: es) [] pos) (tE C (sCallL i j n F fl)) :=
  PE.imp (pe_callL (i := i) FOk hr hN hv hk hb .nil passL ha hdb hcd he hpl) fun σ H Q ⟨Z, env, g, q⟩ => by
    unfold sCallL at q
    split at q
    rotate_left
    · exact q.elim
    rename_i a he
    split at q
    rotate_left
    · exact q.elim
    rename_i ha
    subst ha
    obtain ⟨v, h1, h2⟩ := g.sh i _ he
    cases h2
    rw [hf] at h1
    refine ⟨h1, Z, env, g, (Wish.bind (S := Reps C.G) q).mono fun vs H1 ⟨Z1, ds, e1, t1, g1, r1, w1⟩ => ?_⟩
    split at w1
    rotate_left
    · exact w1.elim
    rename_i hn
    refine ⟨Z1, ds, g1.sub, by rw [List.append_nil]; exact r1, hn, ?_⟩
    revert w1
    generalize F ds = r
    intro w1
    cases r with
    | ok d _ => exact fun v H' Z' s r => w1.ret g1 s r
    | ex c p _ => exact w1.elim
    | bad => exact w1
end
end Ax
set_option Elab.async false
set_option linter.all false
set_option maxRecDepth 100000
set_option maxHeartbeats 2000000
/-! Ax12: a promise of nothing; the law's own head. -/
namespace Ax
open PySem PySem.Spec L2
variable [TabC]
section
variable {P : Program} {w : World} {K : PySem.W.Frag} {mg : Str → Option Value} {base : Heap} {CX : CXT} {k n : Nat} {f : Addr} {fd : FuncData} {ps : List Str} {G : GW}
theorem ok_none : FnOk P w K mg base CX k f fd ps (spP G n (fun _ => .bad)) := ⟨fun vs H Q E ⟨_, _, _, _, _, h⟩ => h.elim, fun A outer s H args us vs Q E _ _ _ _ ⟨_, _, _, _, _, h⟩ => h.elim⟩
theorem ok_noneI : FnOk P w K mg base CX k f fd ps (spI G n (fun _ _ => .bad)) := ⟨fun vs H Q E ⟨_, _, _, _, _, _, _, _, _, _, _, _, _, h⟩ => h.elim, fun A outer s H args us vs Q E _ _ _ _ ⟨_, _, _, _, _, _, _, _, _, _, _, _, _, h⟩ => h.elim⟩
end
/-- all but the tables -/
def unt (H : Hp) : Hp := fun a => match H a with
  | some (.tbl _) => none
  | x => x
theorem unt_get {H : Hp} {a : Addr} {o : HO} (h : H a = some o) (n : ∀ ps, o ≠ .tbl ps) : unt H a = some o := by
  unfold unt
  rw [h]
  cases o <;> first
    | rfl
    | exact absurd rfl (n _)
theorem unt_sub {H : Hp} (t : LamX.Tabs TabC.T H) (hm : ∀ n, TabC.m n = none) (hc : TabC.zb = fun _ => none) : Sub (unt H) H := by
  refine ⟨fun b o h => ?_, ⟨fun n a e => (by rw [hm n] at e; cases e), fun c q e => (by rw [hc] at e; cases e)⟩, fun a ps h => ?_, t⟩
  · unfold unt at h
    split at h
    · cases h
    · exact h
  · unfold unt at h
    split at h
    · cases h
    · rename_i n
      exact n _ h
theorem unt_seq {K : PySem.W.Frag} {H : Hp} {a : Addr} {xs : List V} (h : SqL K H a xs) : SqL K (unt H) a xs := by
  rcases h with (h | ⟨ob, h⟩) | h
  · exact .inl (.inl (unt_get h (fun _ q => by cases q)))
  · exact .inl (.inr ⟨ob, unt_get h (fun _ q => by cases q)⟩)
  · exact .inr h
/-- the law: a list of at most 63 ints is handed in, True comes out -/
def spLaw (K : PySem.W.Frag) : Sp := fun vs H Q _ => ∃ (a : Addr) (ns : List Int), vs = [.ref a] ∧ SqL K H a (ns.map V.int) ∧ LamX.Tabs TabC.T H ∧ ns.length ≤ 63 ∧ (∀ z ∈ ns, Builtin.Int.intBits z ≤ 1048576) ∧ ∀ H', Q (.bl true) H'
theorem ok_law' (hm : ∀ n, TabC.m n = none) (hc : TabC.zb = fun _ => none) {P : Program} {w : World} {K : PySem.W.Frag} {mg : Str → Option Value} {base : Heap} {CX : CXT} {k : Nat} {f : Addr} {fd : FuncData} {ps : List Str} {G : GW} {F : FS} (hK : K = G.K) (FOk : FnOk P w K mg base CX k f fd ps (spP G 1 F))
    (hF : ∀ ns : List Int, ns.length ≤ 63 → (∀ z ∈ ns, Builtin.Int.intBits z ≤ 1048576) → ∃ io, F [.frl (ns.map .int)] = .ok (.bl true) io) : FnOk P w K mg base CX k f fd ps (spLaw K) :=
  FOk.imp fun vs H Q E ⟨a, ns, e, hs, ht, hl, hb, q⟩ => by
    subst e
    obtain ⟨io, hF⟩ := hF ns hl hb
    refine ⟨unt H, [.frl (ns.map .int)], unt_sub ht hm hc, .cons (.frl (by rw [← hK]; exact unt_seq hs) (fun n e => by rw [hm n] at e; cases e) .ints) .nil, rfl, ?_⟩
    rw [hF]
    intro v H' Z' _ r
    cases r
    exact q H'
/-! ### what the top has written -/
theorem def_fact {K : PySem.W.Frag} {h : Heap} {mg : Str → Option Value} (x : Str) (st : Stmt) {f : Addr} {od an : Option Addr} {sl : Array (Option Value)} {oc kV dc pm cd ct : Value} (X : K.In h) (G : h.Ns mainGlobals mg)
    (a : PySem.W.nsIn K mainGlobals x = some (some (.ref f))) (l : K.lookup f = some ⟨oc, od, .func (PySem.W.fnOf x x (defArgs st) (defBody st) (defScope st) .none kV dc pm an cd ct), sl⟩) (c : PySem.W.codeIn K cd x = true) (k : PySem.W.keepIn K (.ref f) = true) :
    ∃ f d, Fun K x x st f d ∧ mg x = some (.ref f) := ⟨f, _, fun_mk l c k, PySem.W.mg_of X G a⟩
theorem meth_fact {K : PySem.W.Frag} {C : Addr} (m q : Str) (st : Stmt) {f : Addr} {od an : Option Addr} {sl : Array (Option Value)} {oc kV dc pm cd ct : Value}
    (a : PySem.W.findIn K (.ref C) m = some (some (.ref f))) (i : PySem.W.isFn K (.ref f) = true) (l : K.lookup f = some ⟨oc, od, .func (PySem.W.fnOf m q (defArgs st) (defBody st) (defScope st) .none kV dc pm an cd ct), sl⟩) (c : PySem.W.codeIn K cd q = true) (k : PySem.W.keepIn K (.ref f) = true) :
    ∃ f d, Fun K m q st f d ∧ Meth K C m f := ⟨f, _, fun_mk l c k, a, i, k⟩
/-- what a class of the text has to be -/
structure ClsF (K : PySem.W.Frag) (mg : Str → Option Value) (x : Str) (C : Addr) : Prop where
  g : mg x = some (.ref C)
  cl : Cls K C
  mks : PySem.W.makesIn K C = true
  kp : PySem.W.keepIn K (Value.ref C) = true
  ins : ∀ (a dx : Addr) (fs : List (Str × V)) (H : Hp), H a = some (.ins C dx fs) → TyX K H (.ref a) (.ref C)
theorem cls_fact {K : PySem.W.Frag} {h : Heap} {mg : Str → Option Value} (x : Str) {C : Addr} (X : K.In h) (G : h.Ns mainGlobals mg) (a : PySem.W.nsIn K mainGlobals x = some (some (.ref C)))
    (pg : PySem.W.plainGet K C Str.empty = true) (hd : PySem.W.hasDictIn K C = true) (po : PySem.W.plainOver K C = true) (sa : PySem.W.findIn K (.ref C) "__setattr__" = some (some (.builtin "object.__setattr__"))) (mk : PySem.W.makesIn K C = true) (kc : PySem.W.keepIn K (.ref C) = true)
    (ic : PySem.W.findIn K (.ref C) "__class__" = some (some (.builtin "object.__class__"))) (ig : PySem.W.specialIn K (.builtin "object.__class__") "__get__" = some (some (.builtin "getset_descriptor.__get__"))) (it : PySem.W.takesIn K (.builtin "object.__class__") = some true) (im : PySem.W.mroIn K C (.type "object") = some true) :
    ClsF K mg x C := ⟨PySem.W.mg_of X G a, ⟨pg, hd, po, sa⟩, mk, kc, fun a dx fs H e => .base (.ins e ⟨pg, hd, po, sa⟩ ic ig it im)⟩
/-- one class alone -/
theorem kit_one {K : PySem.W.Frag} {G : GW} {C : Addr} {k : Nat} (hk : ∀ c, G.kn c → c = k) (hC : G.cls k = C) (ins : ∀ (a dx : Addr) (fs : List (Str × V)) (H : Hp), H a = some (.ins C dx fs) → TyX K H (.ref a) (.ref C)) (oo : PySem.W.kitOne K (.ref C) (.ref C) = some true)
    (ob : ∀ b ∈ tyNs, PySem.W.kitOne K (.ref C) (.type b) = some false) (bo : ∀ a ∈ tyNs, PySem.W.kitOne K (.type a) (.ref C) = some false) (fns : ∀ i, G.kf i → FnAt K (G.fns i)) : KitOk K G := by
  subst hC
  exact ⟨fun c c' h h' => by rw [hk c h, hk c' h', beq_self_eq_true]; exact oo, fun c h => by rw [hk c h]; exact ob, fun c h => by rw [hk c h]; exact bo, fun c h => by rw [hk c h]; exact ins, fns⟩
/-- no class at all -/
theorem kit_none {K : PySem.W.Frag} {G : GW} (hk : ∀ c, ¬ G.kn c) (fns : ∀ i, G.kf i → FnAt K (G.fns i)) : KitOk K G :=
  ⟨fun c c' h h' => absurd h (hk c), fun c h => absurd h (hk c), fun c h => absurd h (hk c), fun c h => absurd h (hk c), fns⟩
end Ax
set_option Elab.async false
set_option linter.all false
set_option maxRecDepth 100000
set_option maxHeartbeats 2000000
/-! Ax13: a, b, c = x, y, z where one of the names is kept in a cell: the tuple is made and dropped. -/
namespace Ax
open PySem PySem.Spec L2
variable [TabC]
section
variable {X : Cx} {C : Kx} {es ts : List Expr} {pos pos2 pos3 : Pos} {st : Stmt} {js : List Nat}
theorem par_coreG {is : List Nat} {fm : SM} {Dn : Ends} {σ : St} {H : Hp} (h : tS C (sPar is fm) Dn σ H) : tM C fm σ H fun vs H1 => vs.length = is.length ∧ ∀ p o, H1 p = none → Dn.nx (setV is vs σ) (upd H1 p o) := by
  obtain ⟨Z, env, g, q⟩ := h
  refine ⟨Z, env, g, ?_⟩
  unfold sPar at q
  revert q
  generalize fm env = r
  intro q
  cases r with
  | bad => exact q
  | ex c p e => exact fun H' Z' od t g' x => q σ H' Z' od t g' x
  | ok ss e =>
    intro as vs H' Z' t g' m
    replace q : WishS C Dn σ Z H env (match setAll is ss e with | some e' => .nx e' | none => .bad) := q
    cases hs : setAll is ss e with
    | none => rw [hs] at q; exact q.elim
    | some e' =>
      rw [hs] at q
      obtain ⟨h1, h2, h3⟩ := setAll_ok g' m hs
      refine ⟨h2, fun p o np => ?_⟩
      have st : Step Z' H' Z' (upd H' p o) := ⟨.of (same_upd np), Same.refl _, fun _ _ h => .inl h, h1.sub.updH np⟩
      have T : Tr Z H env σ Z' H' e' (setV is vs σ) := ⟨t.fz, t.keep, t.nw, fun a ha => by
        rcases h3 a ha with q | q
        · exact t.own a q
        · exact .inr q, t.dom⟩
      exact q _ _ Z' (T.trans (Tr.step st)) (h1.step st)
def gNames : List Nat → TGs
  | [] => gNil
  | i :: is => gCons (gName i) (gNames is)
theorem gNames_ok {Q : St → Hp → Prop} {H : Hp} : ∀ {is : List Nat} {vs : List V} {σ : St}, vs.length = is.length → Q (setV is vs σ) H → gNames is vs σ H Q
  | [], [], _, _, q => ⟨rfl, q⟩
  | i :: is, v :: vs, σ, l, q => ⟨v, vs, rfl, gNames_ok (is := is) (Nat.succ.inj l) q⟩
  | [], _ :: _, _, l, _ => by cases l
  | _ :: _, [], _, l, _ => by cases l
theorem q_parG {is : List Nat} {fm : SM} (hz : is.length ≤ 100) (h : PS X st (tAsg (tTup (tM C fm)) (gTup X.K is.length (gNames is)))) : PS X st (tS C (sPar is fm)) := PS.imp h fun Dn σ H h => by
  obtain ⟨Z, env, g, w⟩ := par_coreG h
  refine ⟨Z, env, g, w.mono fun vs H1 ⟨hl, q⟩ => ⟨?_, fun p np => ⟨p, vs, rfl, ?_, hl, gNames_ok hl (q p _ np)⟩⟩⟩
  · rw [hl, sizeLine_eq]; omega
  · exact sub_t (Z := upd H1 p (.tup vs)) (Same.refl _) upd_same
end
end Ax
set_option Elab.async false
set_option linter.all false
set_option maxRecDepth 100000
set_option maxHeartbeats 2000000
/-! Ax14: the meanings run by hand: what a piece of code must end with. -/
namespace Ax
open PySem PySem.Spec L2
@[irreducible] def OK {α : Type} (o : O α) (P : α → En → Prop) : Prop := match o with | .ok x e => P x e | _ => False
@[irreducible] def WS (r : OS) (N : En → Prop) (R : D → En → Prop) (Ro : OV → En → Prop) : Prop := match r with | .nx e => N e | .rt d e => R d e | .rto o e => Ro o e | _ => False
@[irreducible] def OR (r : RS) (P : D → OV → Prop) : Prop := match r with | .ok d s => P d s | _ => False
section
variable {α β : Type} {P : α → En → Prop} {N : En → Prop} {R : D → En → Prop} {Ro : OV → En → Prop} {env e : En}
@[simp] theorem OK_ok (x : α) : OK (.ok x e) P = P x e := by unfold OK; rfl
theorem OK_ex (c : Nat) (p : List D) : OK (α := α) (.ex c p e) P = False := by unfold OK; rfl
theorem OK_bad : OK (α := α) .bad P = False := by unfold OK; rfl
@[simp] theorem WS_nx : WS (.nx e) N R Ro = N e := by unfold WS; rfl
@[simp] theorem WS_rt (d : D) : WS (.rt d e) N R Ro = R d e := by unfold WS; rfl
@[simp] theorem WS_rto (o : OV) : WS (.rto o e) N R Ro = Ro o e := by unfold WS; rfl
theorem WS_bk : WS (.bk e) N R Ro = False := by unfold WS; rfl
theorem WS_ct : WS (.ct e) N R Ro = False := by unfold WS; rfl
theorem WS_ex (c : Nat) (p : List D) : WS (.ex c p e) N R Ro = False := by unfold WS; rfl
theorem WS_bad : WS .bad N R Ro = False := by unfold WS; rfl
@[simp] theorem OR_ok {P : D → OV → Prop} (d : D) (s : OV) : OR (.ok d s) P = P d s := by unfold OR; rfl
theorem OR_ex {P : D → OV → Prop} (c : Nat) (p : List D) (s : OV) : OR (.ex c p s) P = False := by unfold OR; rfl
theorem OR_bad {P : D → OV → Prop} : OR .bad P = False := by unfold OR; rfl
theorem OK_eq {o : O α} {x : α} (h : o = .ok x e) (p : P x e) : OK o P := by rw [h, OK_ok]; exact p
theorem OK.ex {o : O α} (h : OK o P) : ∃ x e, o = .ok x e ∧ P x e := by
  cases o with
  | ok x e => rw [OK_ok] at h; exact ⟨x, e, rfl, h⟩
  | ex c p e => rw [OK_ex] at h; exact h.elim
  | bad => rw [OK_bad] at h; exact h.elim
theorem OR.ex {r : RS} {P : D → OV → Prop} (h : OR r P) : ∃ d s, r = .ok d s ∧ P d s := by
  cases r with
  | ok d s => rw [OR_ok] at h; exact ⟨d, s, rfl, h⟩
  | ex c p s => rw [OR_ex] at h; exact h.elim
  | bad => rw [OR_bad] at h; exact h.elim
/-- the three ways a piece of code may end -/
theorem WS.cases {r : OS} (h : WS r N R Ro) : (∃ e, r = .nx e ∧ N e) ∨ (∃ d e, r = .rt d e ∧ R d e) ∨ (∃ o e, r = .rto o e ∧ Ro o e) := by
  cases r with
  | nx e => rw [WS_nx] at h; exact .inl ⟨e, rfl, h⟩
  | rt d e => rw [WS_rt] at h; exact .inr (.inl ⟨d, e, rfl, h⟩)
  | rto d e => rw [WS_rto] at h; exact .inr (.inr ⟨d, e, rfl, h⟩)
  | bk e => rw [WS_bk] at h; exact h.elim
  | ct e => rw [WS_ct] at h; exact h.elim
  | ex c p e => rw [WS_ex] at h; exact h.elim
  | bad => rw [WS_bad] at h; exact h.elim
@[simp] theorem OK_bind (o : O β) (k : β → En → O α) : OK (o.bind k) P = OK o (fun x e => OK (k x e) P) := by
  cases o with
  | ok x e => rw [OK_ok]; rfl
  | ex c p e => rw [OK_ex]; exact OK_ex c p
  | bad => rw [OK_bad]; exact OK_bad
@[simp] theorem OK_some (x : α) : OK (.of (some x) e) P = P x e := OK_ok x
@[simp] theorem bind_ok (x : β) (k : β → En → O α) : (O.ok x e).bind k = k x e := (rfl)
@[simp] theorem of_some (x : α) : O.of (some x) e = .ok x e := (rfl)
@[simp] theorem bindS_ok (x : β) (k : β → En → OS) : bindS (O.ok x e) k = k x e := (rfl)
@[simp] theorem WS_bindS (o : O α) (k : α → En → OS) : WS (bindS o k) N R Ro = OK o (fun x e => WS (k x e) N R Ro) := by
  cases o with
  | ok x e => rw [OK_ok]; rfl
  | ex c p e => rw [OK_ex]; exact WS_ex c p
  | bad => rw [OK_bad]; exact WS_bad
theorem OK.mono {o : O α} {P' : α → En → Prop} (h : OK o P) (m : ∀ x e, P x e → P' x e) : OK o P' := by
  obtain ⟨x, e, rfl, h2⟩ := h.ex
  rw [OK_ok]; exact m _ _ h2
theorem WS.mono {r : OS} {N' : En → Prop} {R' : D → En → Prop} {Ro' : OV → En → Prop} (h : WS r N R Ro) (m1 : ∀ e, N e → N' e) (m2 : ∀ d e, R d e → R' d e) (m3 : ∀ d e, Ro d e → Ro' d e) : WS r N' R' Ro' := by
  rcases h.cases with ⟨e, rfl, h2⟩ | ⟨d, e, rfl, h2⟩ | ⟨d, e, rfl, h2⟩
  · rw [WS_nx]; exact m1 _ h2
  · rw [WS_rt]; exact m2 _ _ h2
  · rw [WS_rto]; exact m3 _ _ h2
/-- one statement, then the rest (kept out of sight) -/
theorem wq {f g : SS} (h : ∀ K : En → Prop, K = (fun e => WS (g e) N R Ro) → WS (f env) K R Ro) : WS (sSeq f g env) N R Ro := by
  have := h _ rfl
  unfold sSeq
  rcases this.cases with ⟨e, q, h⟩ | ⟨d, e, q, h⟩ | ⟨d, e, q, h⟩
  · rw [q]; exact h
  · rw [q, WS_rt]; exact h
  · rw [q, WS_rto]; exact h
theorem runP_of {n : Nat} {f : SS} {ds : List D} {P : D → OV → Prop} (h : WS (f (env0 n ds)) (fun _ => P .non nil0) (fun d _ => P d nil0) (fun o _ => ∃ d, o.fz = some d ∧ P d nil0)) : OR (runP n f ds) P := by
  unfold runP
  rcases h.cases with ⟨e, q, h⟩ | ⟨d, e, q, h⟩ | ⟨o, e, q, d, h1, h2⟩
  · rw [q, OR_ok]; exact h
  · rw [q, OR_ok]; exact h
  · rw [q]; simp only [h1]; rw [OR_ok]; exact h2
theorem runI_of {n : Nat} {f : SS} {ss : OV} {ds : List D} {P : D → OV → Prop} (h : WS (f (.own true ss :: env0 (n - 1) ds)) (fun e => ∃ s, e[0]? = some (.own true s) ∧ P .non s) (fun d e => ∃ s, e[0]? = some (.own true s) ∧ P d s) (fun o e => ∃ d s, o.fz = some d ∧ e[0]? = some (.own true s) ∧ P d s)) : OR (runI n f ss ds) P := by
  unfold runI
  rcases h.cases with ⟨e, q, s, h1, h⟩ | ⟨d, e, q, s, h1, h⟩ | ⟨o, e, q, d, s, h0, h1, h2⟩
  · rw [q]; simp only [io0, h1]; rw [OR_ok]; exact h
  · rw [q]; simp only [io0, h1]; rw [OR_ok]; exact h
  · rw [q]; simp only [io0, h1, h0]; rw [OR_ok]; exact h2
theorem runO_of {n : Nat} {f : SS} {ds : List D} {P : OV → Prop} (h : WS (f (env0 n ds)) (fun _ => False) (fun d _ => False) (fun o _ => P o)) : ∃ o, runO n f ds = some o ∧ P o := by
  unfold runO
  rcases h.cases with ⟨e, q, h⟩ | ⟨d, e, q, h⟩ | ⟨o, e, q, h⟩
  · exact h.elim
  · exact h.elim
  · rw [q]; exact ⟨o, rfl, h⟩
theorem OR_eq {r : RS} {P : D → OV → Prop} {d : D} {s : OV} (h : r = .ok d s) (p : P d s) : OR r P := by rw [h, OR_ok]; exact p
/-! ### the rules, unfolded -/
@[simp] theorem sC_ap (d : D) : sC d env = .ok d env := (rfl)
@[simp] theorem sV_ap (i : Nat) : sV i env = (match env[i]? with
  | some (.sh d) => .ok d env
  | some (.own false o) => (match o.fz with
    | some d => .ok d (env.set i (.sh d))
    | none => .bad)
  | _ => .bad) := (rfl)
@[simp] theorem s2_ap (op : D → D → Option D) (fa fb : SE) : s2 op fa fb env = (fa env).bind fun x e1 => (fb e1).bind fun y e2 => .of (op x y) e2 := (rfl)
@[simp] theorem s1_ap (op : D → Option D) (fa : SE) : s1 op fa env = (fa env).bind fun x e1 => .of (op x) e1 := (rfl)
@[simp] theorem sSh_ap (f : SO) : sSh f env = (f env).bind fun o e => .of o.fz e := (rfl)
@[simp] theorem sT_ap (f : SE) : sT f env = (f env).bind fun d e => .of (truth d) e := (rfl)
@[simp] theorem sTb_ap (f : SE) : sTb f env = (f env).bind fun d e => .of (blOf d) e := (rfl)
@[simp] theorem sNot_ap (t : SB) : sNot t env = (t env).bind fun k e => .ok (!k) e := (rfl)
@[simp] theorem sAnd_ap (t u : SB) : sAnd t u env = (t env).bind fun k e => if k = true then u e else .ok false e := (rfl)
@[simp] theorem sOr_ap (t u : SB) : sOr t u env = (t env).bind fun k e => if k = true then .ok true e else u e := (rfl)
@[simp] theorem sNotV_ap (f : SE) : sNotV f env = (f env).bind fun d e => .of ((truth d).map fun k => D.bl (!k)) e := (rfl)
@[simp] theorem sAndV_ap (f g : SE) : sAndV f g env = (f env).bind fun d e => match truth d with | some true => g e | some false => .ok d e | none => .bad := (rfl)
@[simp] theorem sOrV_ap (f g : SE) : sOrV f g env = (f env).bind fun d e => match truth d with | some true => .ok d e | some false => g e | none => .bad := (rfl)
@[simp] theorem sIf_ap (t : SB) (f g : SE) : sIf t f g env = (t env).bind fun k e => if k = true then f e else g e := (rfl)
@[simp] theorem sN_ap : sN env = .ok [] env := (rfl)
@[simp] theorem sK_ap (f : SE) (fl : SL) : sK f fl env = (f env).bind fun d e => (fl e).bind fun ds e2 => .ok (d :: ds) e2 := (rfl)
@[simp] theorem sKs_ap (f : SE) (fl : SL) : sKs f fl env = (f env).bind fun d e => match d.items with
  | some xs => (fl e).bind fun ds e2 => .ok (xs ++ ds) e2
  | none => .bad := (rfl)
@[simp] theorem sTup_ap (fl : SL) : sTup fl env = (fl env).bind fun ds e => if ds.length ≤ sizeLine then .ok (.tup ds) e else .bad := (rfl)
@[simp] theorem sLst_ap (fl : SL) : sLst fl env = (fl env).bind fun ds e => if ds.length ≤ sizeLine then .ok (.lst ds) e else .bad := (rfl)
@[simp] theorem sP0_ap : sP0 env = .ok none env := (rfl)
@[simp] theorem sP1_ap (f : SE) : sP1 f env = (f env).bind fun d e => match d with | .int i => .ok (some i) e | _ => .bad := (rfl)
@[simp] theorem sSl_ap (fa : SE) (lo hi : SP) : sSl fa lo hi env = (fa env).bind fun d e => (lo e).bind fun l e2 => (hi e2).bind fun h e3 => .of (cutD d l h) e3 := (rfl)
@[simp] theorem sSlO_ap (fa : SE) (lo hi : SP) : sSlO fa lo hi env = (fa env).bind fun d e => (lo e).bind fun l e2 => (hi e2).bind fun h e3 => .of (cutL d l h) e3 := (rfl)
@[simp] theorem gV_ap (i : Nat) (d : D) : gV i d env = some (env.set i (.sh d)) := (rfl)
@[simp] theorem gsN_ap : gsN [] env = some env := (rfl)
@[simp] theorem gsK_ap (f : SG) (fs : SGs) (d : D) (r : List D) : gsK f fs (d :: r) env = (f d env).bind fun e => fs r e := (rfl)
@[simp] theorem gT_ap (n : Nat) (fs : SGs) (xs : List D) : gT n fs (.tup xs) env = if xs.length = n then fs xs env else none := (rfl)
@[simp] theorem sIt_ap (f : SE) : sIt f env = (f env).bind fun d e => .of d.itr e := (rfl)
@[simp] theorem sR1_ap (fl : SL) : sR1 fl env = (fl env).bind fun ds e => match ds with | [.int j] => if rngOk j then .ok (rangeD 0 j.toNat) e else .bad | _ => .bad := (rfl)
@[simp] theorem sR2_ap (fl : SL) : sR2 fl env = (fl env).bind fun ds e => match ds with | [.int i, .int j] => if rngOk i && rngOk j then .ok (rangeD i (j - i).toNat) e else .bad | _ => .bad := (rfl)
@[simp] theorem sEnA_ap (fl : SL) : sEnA fl env = (fl env).bind fun ds e => match ds with | [d] => .of (d.itrS.map enumD) e | _ => .bad := (rfl)
@[simp] theorem sZip_ap (fl : SL) : sZip fl env = (fl env).bind fun ds e => match ds with | [x, y] => .of (zipOf x y) e | _ => .bad := (rfl)
@[simp] theorem sNop_ap : sNop env = .nx env := (rfl)
@[simp] theorem sBreak_ap : sBreak env = .bk env := (rfl)
@[simp] theorem sCont_ap : sCont env = .ct env := (rfl)
@[simp] theorem sRet_ap (f : SE) : sRet f env = bindS (f env) fun d e => .rt d e := (rfl)
@[simp] theorem sRetO_ap (f : SO) : sRetO f env = bindS (f env) fun o e => .rto o e := (rfl)
@[simp] theorem sRetN_ap : sRetN env = .rt .non env := (rfl)
@[simp] theorem sExpr_ap (f : SE) : sExpr f env = bindS (f env) fun _ e => .nx e := (rfl)
@[simp] theorem sIfS_ap (t : SB) (f g : SS) : sIfS t f g env = bindS (t env) fun k e => if k = true then f e else g e := (rfl)
@[simp] theorem sSet_ap (i : Nat) (f : SE) : sSet i f env = bindS (f env) fun d e => .nx (e.set i (.sh d)) := (rfl)
@[simp] theorem sSetO_ap (i : Nat) (f : SO) : sSetO i f env = bindS (f env) fun o e => .nx (e.set i (.own false o)) := (rfl)
@[simp] theorem sAsg_ap (f : SE) (fg : SG) : sAsg f fg env = bindS (f env) fun d e => match fg d e with | some e' => .nx e' | none => .bad := (rfl)
@[simp] theorem sAug_ap (i : Nat) (op : D → D → Option D) (f : SE) : sAug i op f env = (match env[i]? with
  | some (.sh x) => bindS (f env) fun y e => match op x y with | some d => .nx (e.set i (.sh d)) | none => .bad
  | _ => .bad) := (rfl)
@[simp] theorem ownL_ap (i : Nat) : ownL env i = (match env[i]? with
  | some (.own m (.lst ds)) => some (m, ds)
  | _ => none) := (rfl)
@[simp] theorem ownO_ap (i : Nat) : ownO env i = (match env[i]? with
  | some (SV.own m o) => some (m, o)
  | _ => none) := (rfl)
@[simp] theorem sApp_ap (i : Nat) (f : SE) : sApp i f env = (match env[i]? with
  | some (.own _ (.lst _)) => bindS (f env) fun d e => match ownL e i with
    | some (m, ds) => if ds.length < sizeLine then .nx (e.set i (.own m (.lst (ds ++ [d])))) else .bad
    | none => .bad
  | _ => .bad) := (rfl)
@[simp] theorem sPop_ap (i : Nat) : sPop i env = (match ownL env i with
  | some (m, ds) => match ds.getLast? with
    | some d => .ok d (env.set i (.own m (.lst ds.dropLast)))
    | none => .bad
  | none => .bad) := (rfl)
@[simp] theorem sFor_ap (fi : SL) (fg : SG) (fb : SS) : sFor fi fg fb env = bindS (fi env) fun ds e => loopF fg fb ds e := (rfl)
@[simp] theorem sComp_ap (fi : SL) (js : List Nat) (fg : SG) (ft : SB) (fe : SE) : sComp fi js fg ft fe env = (fi env).bind fun ds e => if plainE e js = true then loopC js fg ft fe ds e [] else .bad := (rfl)
@[simp] theorem sYes_ap : sYes env = .ok true env := (rfl)
@[simp] theorem sB_ap (op : List D → Option D) (fl : SL) : sB op fl env = (fl env).bind fun ds e => .of (op ds) e := (rfl)
@[simp] theorem sList_ap (fl : SL) : sList fl env = (fl env).bind fun ds e => match ds with | [d] => .of (d.itr.map .lst) e | _ => .bad := (rfl)
@[simp] theorem mN_ap : mN env = .ok [] env := (rfl)
@[simp] theorem mS_ap (f : SE) (fm : SM) : mS f fm env = (f env).bind fun d e => (fm e).bind fun ss e2 => .ok (.sh d :: ss) e2 := (rfl)
@[simp] theorem mO_ap (f : SO) (fm : SM) : mO f fm env = (f env).bind fun o e => (fm e).bind fun ss e2 => .ok (.own false o :: ss) e2 := (rfl)
@[simp] theorem setAll_nil : setAll [] [] e = some e := (rfl)
@[simp] theorem setAll_cons (i : Nat) (is : List Nat) (s : SV) (ss : List SV) : setAll (i :: is) (s :: ss) e = setAll is ss (e.set i s) := (rfl)
@[simp] theorem sPar_ap (is : List Nat) (fm : SM) : sPar is fm env = bindS (fm env) fun ss e => match setAll is ss e with
  | some e' => .nx e'
  | none => .bad := (rfl)
@[simp] theorem sIxO_ap (i : Nat) (fb : SE) : sIxO i fb env = (match ownL env i with
  | none => .bad
  | some _ => (fb env).bind fun y e => match ownL e i, y with
    | some (_, ds), .int k => .of (atI ds k) e
    | _, _ => .bad) := (rfl)
@[simp] theorem sLenO_ap (i : Nat) : sLenO i env = (match ownL env i with
  | some (_, ds) => .ok (.int (ds.length : Int)) env
  | none => .bad) := (rfl)
@[simp] theorem sEqO_ap (neg : Bool) (i : Nat) (fb : SE) : sEqO neg i fb env = (match ownL env i with
  | none => .bad
  | some _ => (fb env).bind fun y e => match ownL e i with
    | some (_, ds) => .of (eqD neg (.lst ds) y) e
    | none => .bad) := (rfl)
@[simp] theorem sTO_ap (i : Nat) : sTO i env = (match ownL env i with
  | some (_, ds) => .ok (!ds.isEmpty) env
  | none => .bad) := (rfl)
@[simp] theorem sSlOO_ap (i : Nat) (lo hi : SP) : sSlOO i lo hi env = (match ownL env i with
  | none => .bad
  | some _ => (lo env).bind fun l e2 => (hi e2).bind fun h e3 => match ownL e3 i with
    | some (_, ds) => .ok (.lst (cut ds l h)) e3
    | none => .bad) := (rfl)
@[simp] theorem sSetIx_ap (i : Nat) (fk fe : SE) : sSetIx i fk fe env = bindS (fe env) fun d e1 => match ownL e1 i with
  | none => .bad
  | some _ => bindS (fk e1) fun k e2 => match ownL e2 i, k with
    | some (m, ds), .int z => (match ixN ds.length z with
      | some j => .nx (e2.set i (.own m (.lst (ds.set j d))))
      | none => .bad)
    | _, _ => .bad := (rfl)
@[simp] theorem sDropApp_ap (fo : SO) (fe : SE) : sDropApp fo fe env = bindS (fo env) fun o e => match o with
  | .lst ds => bindS (fe e) fun _ e2 => if ds.length < sizeLine then .nx e2 else .bad
  | _ => .bad := (rfl)
@[simp] theorem sDropClr_ap (fo : SO) : sDropClr fo env = bindS (fo env) fun o e => match o with
  | .lst _ => .nx e
  | _ => .bad := (rfl)
@[simp] theorem sFld_ap (c j : Nat) (fa : SE) : sFld c j fa env = (fa env).bind fun d e => match d with
  | .obj c' fs => if c' = c then .of (fs[j]?) e else .bad
  | _ => .bad := (rfl)
@[simp] theorem env0_ap (n : Nat) (ds : List D) : env0 n ds = ds.map .sh ++ List.replicate (n - ds.length) .un := (rfl)
@[simp] theorem fz_lst (ds : List D) : (OV.lst ds).fz = some (.lst ds) := (rfl)
/-! calls -/
theorem wCall {n : Nat} {F : FS} {fl : SL} {P : D → En → Prop} (h : OK (fl env) fun ds e => ds.length = n ∧ OR (F ds) fun d _ => P d e) : OK (sCall n F fl env) P := by
  unfold sCall
  rw [OK_bind]
  refine h.mono fun ds e ⟨h1, h2⟩ => ?_
  rw [if_pos h1]
  obtain ⟨d, s, hF, h2⟩ := h2.ex
  rw [hF]; exact OK_eq rfl h2
theorem wCallI {n i : Nat} {F : FI} {fl : SL} {P : D → En → Prop} {m : Bool} {s : OV} (h0 : env[i]? = some (.own m s)) (h : OK (fl env) fun ds e => e = env ∧ ds.length = n ∧ OR (F s ds) fun d s' => P d (env.set i (.own m s'))) : OK (sCallI n F i fl env) P := by
  unfold sCallI
  simp only [ownO_ap, h0, OK_bind]
  refine h.mono fun ds e ⟨h3, h1, h2⟩ => ?_
  subst h3
  simp only [h0]
  rw [if_pos h1]
  obtain ⟨d, s', hF, h2⟩ := h2.ex
  rw [hF]; exact OK_eq rfl h2
end
/-! ### operators -/
@[simp] theorem addD_i (i j : Int) : addD (.int i) (.int j) = some (.int (i + j)) := (rfl)
@[simp] theorem subD_i (i j : Int) : subD (.int i) (.int j) = some (.int (i - j)) := (rfl)
@[simp] theorem mulD_i (i j : Int) : mulD (.int i) (.int j) = if mulOk i j then some (.int (i * j)) else none := (rfl)
@[simp] theorem divD_i (i j : Int) : divD (.int i) (.int j) = if 0 < j ∧ j < 2 ^ 64 then some (.int (i / j)) else none := (rfl)
@[simp] theorem modD_i (i j : Int) : modD (.int i) (.int j) = if 0 < j then some (.int (i % j)) else none := (rfl)
@[simp] theorem powD_i (i j : Int) : powD (.int i) (.int j) = if 0 ≤ j ∧ j ≤ 1000000 ∧ i.natAbs < 2 ^ 64 then some (.int (i ^ j.toNat)) else none := (rfl)
@[simp] theorem negD_i (i : Int) : negD (.int i) = some (.int (-i)) := (rfl)
@[simp] theorem cmpD_i (p : Int → Int → Bool) (i j : Int) : cmpD p (.int i) (.int j) = some (.bl (p i j)) := (rfl)
@[simp] theorem blOf_b (b : Bool) : blOf (.bl b) = some b := (rfl)
@[simp] theorem truth_b (b : Bool) : truth (.bl b) = some b := (rfl)
@[simp] theorem truth_i (i : Int) : truth (.int i) = some (i != 0) := (rfl)
@[simp] theorem truth_l (xs : List D) : truth (.lst xs) = some (!xs.isEmpty) := (rfl)
@[simp] theorem truth_t (xs : List D) : truth (.tup xs) = some (!xs.isEmpty) := (rfl)
@[simp] theorem truth_n : truth .non = some false := (rfl)
@[simp] theorem ixD_l (xs : List D) (i : Int) : ixD (.lst xs) (.int i) = atI xs i := (rfl)
@[simp] theorem ixD_f (xs : List D) (i : Int) : ixD (.frl xs) (.int i) = atI xs i := (rfl)
@[simp] theorem ixD_t (xs : List D) (i : Int) : ixD (.tup xs) (.int i) = atI xs i := (rfl)
@[simp] theorem cutD_l (xs : List D) (a b : Option Int) : cutD (.lst xs) a b = some (.lst (cut xs a b)) := (rfl)
@[simp] theorem cutD_f (xs : List D) (a b : Option Int) : cutD (.frl xs) a b = some (.lst (cut xs a b)) := (rfl)
@[simp] theorem cutD_t (xs : List D) (a b : Option Int) : cutD (.tup xs) a b = some (.tup (cut xs a b)) := (rfl)
@[simp] theorem items_l (xs : List D) : (D.lst xs).items = some xs := (rfl)
@[simp] theorem items_t (xs : List D) : (D.tup xs).items = some xs := (rfl)
@[simp] theorem itr_d (ks : List Key) (xs : List D) : (D.dic ks xs).itr = some (ks.map keyD) := (rfl)
@[simp] theorem itrS_l (xs : List D) : (D.lst xs).itrS = some xs := (rfl)
@[simp] theorem itrS_t (xs : List D) : (D.tup xs).itrS = some xs := (rfl)
@[simp] theorem itrS_f (xs : List D) : (D.frl xs).itrS = some xs := (rfl)
@[simp] theorem itr_l (xs : List D) : (D.lst xs).itr = some xs := (rfl)
@[simp] theorem itr_t (xs : List D) : (D.tup xs).itr = some xs := (rfl)
@[simp] theorem itr_f (xs : List D) : (D.frl xs).itr = some xs := (rfl)
@[simp] theorem lenD_l (xs : List D) : lenD [.lst xs] = some (.int xs.length) := (rfl)
@[simp] theorem lenD_t (xs : List D) : lenD [.tup xs] = some (.int xs.length) := (rfl)
@[simp] theorem lenD_f (xs : List D) : lenD [.frl xs] = some (.int xs.length) := (rfl)
@[simp] theorem absD_i (i : Int) : absD [.int i] = some (.int (if i < 0 then -i else i)) := (rfl)
@[simp] theorem intD_i (i : Int) : intD [.int i] = some (.int i) := (rfl)
@[simp] theorem ints_mapS (ns : List Int) : D.ints (ns.map .int) = some ns := by
  induction ns with
  | nil => rfl
  | cons n r ih => rw [List.map_cons, D.ints, ih]; rfl
@[simp] theorem bls_mapS (ns : List Bool) : D.bls (ns.map .bl) = some ns := by
  induction ns with
  | nil => rfl
  | cons n r ih => rw [List.map_cons, D.bls, ih]; rfl
@[simp] theorem sumD_l (ns : List Int) : sumD [.lst (ns.map .int)] = some (.int ns.sum) := by unfold sumD; simp [D.lsf, D.lis]
@[simp] theorem sumD_f (ns : List Int) : sumD [.frl (ns.map .int)] = some (.int ns.sum) := by unfold sumD; simp [D.lsf, D.lis]
@[simp] theorem allD_l (ns : List Bool) : allD [.lst (ns.map .bl)] = some (.bl (ns.all id)) := by unfold allD; simp [D.lis]
@[simp] theorem anyD_l (ns : List Bool) : anyD [.lst (ns.map .bl)] = some (.bl (ns.any id)) := by unfold anyD; simp [D.lis]
@[simp] theorem maxD_2 (i j : Int) : maxD [.int i, .int j] = some (.int (if j > i then j else i)) := (rfl)
@[simp] theorem minD_2 (i j : Int) : minD [.int i, .int j] = some (.int (if j < i then j else i)) := (rfl)
theorem maxD_l (m : Int) (ns : List Int) : maxD [.lst ((m :: ns).map .int)] = some (.int (maxI m ns)) := by have := ints_mapS (m :: ns); rw [List.map_cons] at this ⊢; simp only [maxD, D.lis, Option.bind_some, this]
theorem minD_l (m : Int) (ns : List Int) : minD [.lst ((m :: ns).map .int)] = some (.int (minI m ns)) := by have := ints_mapS (m :: ns); rw [List.map_cons] at this ⊢; simp only [minD, D.lis, Option.bind_some, this]
@[simp] theorem gcdD_i (i j : Int) : gcdD [.int i, .int j] = some (.int ((Nat.gcd i.natAbs j.natAbs : Nat) : Int)) := (rfl)
@[simp] theorem tupleD_l (xs : List D) : tupleD [.lst xs] = some (.tup xs) := (rfl)
@[simp] theorem tupleD_t (xs : List D) : tupleD [.tup xs] = some (.tup xs) := (rfl)
theorem mul_l {i j : Int} (h1 : -(2 ^ 64) < i) (h2 : i < 2 ^ 64) : mulOk i j = true := by unfold mulOk; simp only [Bool.or_eq_true, Bool.and_eq_true, decide_eq_true_eq]; exact .inl ⟨h1, h2⟩
theorem mul_r {i j : Int} (h1 : -(2 ^ 64) < j) (h2 : j < 2 ^ 64) : mulOk i j = true := by unfold mulOk; simp only [Bool.or_eq_true, Bool.and_eq_true, decide_eq_true_eq]; exact .inr ⟨h1, h2⟩
theorem rng_ok {i : Int} (h1 : -1000000000 ≤ i) (h2 : i ≤ 1000000000) : rngOk i = true := by unfold rngOk; simp; omega
/-! ### numbers and lists of numbers compared -/
@[simp] theorem pyAll_ints (ns : List Int) : pyAll (ns.map .int) = some (ns.map PyData.int) := by
  induction ns with
  | nil => rfl
  | cons n r ih => rw [List.map_cons, pyAll, ih]; rfl
theorem lay_ints : ∀ ns : List Int, PyData.canLayAll0 (ns.map PyData.int) = true
  | [] => rfl
  | n :: r => by rw [List.map_cons, PyData.canLayAll0, lay_ints r]; rfl
theorem depth_ints : ∀ ns : List Int, PyData.depthAll (ns.map PyData.int) ≤ 1
  | [] => by decide
  | n :: r => by
    rw [PyData.depthAll.eq_def, List.map_cons]
    exact Nat.max_le.mpr ⟨by simp [PyData.depth], depth_ints r⟩
theorem shaped_l (ns : List Int) : SeqAt.shaped (.list (ns.map .int)) = true := by
  unfold SeqAt.shaped
  have := depth_ints ns
  simp [PyData.canLay0, lay_ints, PyData.depth]
  omega
theorem shaped_t (ns : List Int) : SeqAt.shaped (.tuple (ns.map .int)) = true := by
  unfold SeqAt.shaped
  have := depth_ints ns
  simp [PyData.canLay0, lay_ints, PyData.depth]
  omega
@[simp] theorem eqD_i (neg : Bool) (i j : Int) : eqD neg (.int i) (.int j) = some (.bl (if neg then !decide (i = j) else decide (i = j))) := by
  unfold eqD
  simp [D.py, SeqAt.shaped, PyData.canLay0, PyData.depth, PyData.eqv]
  cases neg <;> by_cases h : i = j <;> simp [h]
@[simp] theorem eqD_b (neg : Bool) (i j : Bool) : eqD neg (.bl i) (.bl j) = some (.bl (if neg then !decide (i = j) else decide (i = j))) := by
  cases neg <;> cases i <;> cases j <;> rfl
theorem eqD_l (neg : Bool) (x y : List Int) : eqD neg (.lst (x.map .int)) (.lst (y.map .int)) = some (.bl (if neg then !decide (x = y) else decide (x = y))) := by
  unfold eqD
  simp only [D.py, pyAll_ints, Option.map_some, shaped_l, true_and, if_true, PyData.eqv, PySem.W.ked_eqvAll]
theorem eqD_t (neg : Bool) (x y : List Int) : eqD neg (.tup (x.map .int)) (.tup (y.map .int)) = some (.bl (if neg then !decide (x = y) else decide (x = y))) := by
  unfold eqD
  simp only [D.py, pyAll_ints, Option.map_some, shaped_t, true_and, if_true, PyData.eqv, PySem.W.ked_eqvAll]
end Ax
set_option Elab.async false
set_option linter.all false
set_option maxRecDepth 100000
set_option maxHeartbeats 2000000
/-! Ax15: loops and comprehensions whose bodies are plain; places in lists. -/
namespace Ax
open PySem PySem.Spec L2
theorem atI_nat {α : Type} (xs : List α) (n : Nat) : atI xs (n : Int) = xs[n]? := by
  unfold atI ixN
  by_cases h : n < xs.length
  · simp [h]
  · rw [if_pos (by omega), if_neg (by omega)]
    rw [List.getElem?_eq_none (by omega)]; rfl
theorem atI_of {α : Type} {xs : List α} {i : Int} {x : α} (n : Nat) (e : i = n) (h : xs[n]? = some x) : atI xs i = some x := by rw [e, atI_nat, h]
theorem get_int {ns : List Int} {n : Nat} (h : n < ns.length) : (ns.map D.int)[n]? = some (.int (ns.getD n 0)) := by
  rw [List.getElem?_map, List.getElem?_eq_getElem h, Option.map_some]
  simp [List.getD_eq_getElem?_getD, h]
theorem atI_int {ns : List Int} {i : Int} (n : Nat) (e : i = n) (h : n < ns.length) : atI (ns.map D.int) i = some (.int (ns.getD n 0)) := atI_of n e (get_int h)
theorem atI_last {α : Type} (xs : List α) : atI xs (-1) = xs.getLast? := by
  unfold atI ixN
  rw [if_neg (by omega), List.getLast?_eq_getElem?]
  by_cases h : 0 < xs.length
  · rw [if_pos (by omega)]
    show xs[(-1 + (xs.length : Int)).toNat]? = _
    congr 1; omega
  · rw [if_neg (by omega), List.getElem?_eq_none (by omega)]; rfl
theorem atI_lastI {ns : List Int} (h : 0 < ns.length) : atI (ns.map D.int) (-1) = some (.int (ns.getLastD 0)) := by
  rw [atI_last, List.getLast?_map, List.getLastD_eq_getLast?, List.getLast?_eq_getElem?, List.getElem?_eq_getElem (by omega)]
  rfl
/-! slices -/
theorem sIx_nat' {n d : Nat} (k : Nat) : HT.sIx n d (some (k : Int)) = min k n := HT.sIx_nat n d k
theorem cut_to {α : Type} (xs : List α) (k : Nat) : cut xs none (some (k : Int)) = xs.take k := by
  unfold cut
  rw [sIx_nat', HT.sIx_none]
  simp [List.take_eq_take_iff]
theorem cut_from {α : Type} (xs : List α) (k : Nat) : cut xs (some (k : Int)) none = xs.drop k := by
  unfold cut
  rw [sIx_nat', HT.sIx_none]
  by_cases h : k ≤ xs.length
  · rw [Nat.min_eq_left h, List.take_of_length_le (by simp; done)]
  · rw [List.drop_eq_nil_of_le (by omega), List.drop_eq_nil_of_le (by omega)]; simp
theorem cut_mid {α : Type} (xs : List α) (k l : Nat) (h : k ≤ xs.length) : cut xs (some (k : Int)) (some ((l : Int))) = (xs.drop k).take (l - k) := by
  unfold cut
  rw [sIx_nat', sIx_nat', Nat.min_eq_left h, List.take_eq_take_iff]
  simp; omega
theorem cut_init {α : Type} (xs : List α) : cut xs none (some (-1)) = xs.dropLast := by
  unfold cut HT.sIx
  rw [List.dropLast_eq_take]
  simp [List.take_eq_take_iff]; omega
/-! loops -/
@[irreducible] def GO (o : Option En) (P : En → Prop) : Prop := match o with | some e => P e | none => False
@[simp] theorem GO_some (e : En) (P : En → Prop) : GO (some e) P = P e := by unfold GO; rfl
theorem GO_none (P : En → Prop) : GO none P = False := by unfold GO; rfl
theorem GO.ex {o : Option En} {P : En → Prop} (h : GO o P) : ∃ e, o = some e ∧ P e := by
  cases o with
  | none => rw [GO_none] at h; exact h.elim
  | some e => rw [GO_some] at h; exact ⟨e, rfl, h⟩
theorem back_nil (e0 e : En) : back e0 [] e = e := (rfl)
section
variable {α : Type} {js : List Nat} {fg : SG} {ft : SB} {fe : SE} {fb : SS}
theorem loopC_filter {e : En} (inj : α → D) (p : α → Bool) (g : α → D) : ∀ (xs : List α) (acc : List D),
    (∀ x ∈ xs, ∃ e1 e2, fg (inj x) (wipeE e js) = some e1 ∧ ft e1 = .ok (p x) e2 ∧ (p x = false → back e js e2 = e) ∧ (p x = true → ∃ e3, fe e2 = .ok (g x) e3 ∧ back e js e3 = e)) → acc.length + xs.length ≤ sizeLine →
    loopC js fg ft fe (xs.map inj) e acc = .ok (.lst (acc ++ (xs.filter p).map g)) e
  | [], acc, _, _ => by simp [loopC]
  | x :: xs, acc, h, hl => by
    obtain ⟨e1, e2, h1, h2, h3, h4⟩ := h x List.mem_cons_self
    rw [List.map_cons, loopC]
    simp only [h1, h2]
    rw [List.length_cons] at hl
    cases hp : p x with
    | true =>
      obtain ⟨e3, h5, h6⟩ := h4 hp
      simp only [h5, h6]
      rw [if_pos (by omega), loopC_filter inj p g xs (acc ++ [g x]) (fun y hy => h y (List.mem_cons_of_mem _ hy)) (by rw [List.length_append]; simp; omega), List.filter_cons_of_pos hp]
      simp
    | false =>
      simp only [h3 hp]
      rw [loopC_filter inj p g xs acc (fun y hy => h y (List.mem_cons_of_mem _ hy)) (by omega), List.filter_cons_of_neg (by simp [hp])]
theorem loopC_map {e : En} (inj : α → D) (g : α → D) (xs : List α) (acc : List D) (h : ∀ x ∈ xs, ∃ e1 e2, fg (inj x) (wipeE e js) = some e1 ∧ ft e1 = .ok true e2 ∧ ∃ e3, fe e2 = .ok (g x) e3 ∧ back e js e3 = e) (hl : acc.length + xs.length ≤ sizeLine) :
    loopC js fg ft fe (xs.map inj) e acc = .ok (.lst (acc ++ xs.map g)) e := by
  have := loopC_filter (fg := fg) (ft := ft) (fe := fe) (js := js) (e := e) inj (fun _ => true) g xs acc (fun x hx => by
    obtain ⟨e1, e2, h1, h2, h3⟩ := h x hx
    exact ⟨e1, e2, h1, h2, fun q => (by cases q), fun _ => h3⟩) hl
  rw [this, List.filter_eq_self.mpr (fun _ _ => rfl)]
/-- as a wish -/
theorem wComp {e : En} {P : OV → En → Prop} (inj : α → D) (g : α → D) (xs : List α) (hl : xs.length ≤ sizeLine) (h : ∀ x ∈ xs, GO (fg (inj x) (wipeE e js)) fun e1 => OK (ft e1) fun b e2 => b = true ∧ OK (fe e2) fun d e3 => d = g x ∧ back e js e3 = e) (p : P (.lst (xs.map g)) e) :
    OK (loopC js fg ft fe (xs.map inj) e []) P := by
  rw [loopC_map inj g xs [] (fun x hx => ?_) (by simpa using hl)]
  · rw [List.nil_append, OK_ok]; exact p
  · obtain ⟨e1, h1, h2⟩ := (h x hx).ex
    obtain ⟨b, e2, h3, rfl, h4⟩ := h2.ex
    obtain ⟨d, e3, h5, rfl, h6⟩ := h4.ex
    exact ⟨e1, e2, h1, h3, e3, h5, h6⟩
theorem wCompF {e : En} {P : OV → En → Prop} (inj : α → D) (p : α → Bool) (g : α → D) (xs : List α) (hl : xs.length ≤ sizeLine) (h : ∀ x ∈ xs, GO (fg (inj x) (wipeE e js)) fun e1 => OK (ft e1) fun b e2 => b = p x ∧ (p x = false → back e js e2 = e) ∧ (p x = true → OK (fe e2) fun d e3 => d = g x ∧ back e js e3 = e)) (q : P (.lst ((xs.filter p).map g)) e) :
    OK (loopC js fg ft fe (xs.map inj) e []) P := by
  rw [loopC_filter inj p g xs [] (fun x hx => ?_) (by simpa using hl)]
  · rw [List.nil_append, OK_ok]; exact q
  · obtain ⟨e1, h1, h2⟩ := (h x hx).ex
    obtain ⟨b, e2, hf, rfl, h3, h4⟩ := h2.ex
    refine ⟨e1, e2, h1, hf, h3, fun hp => ?_⟩
    obtain ⟨d, e3, hg, rfl, h6⟩ := (h4 hp).ex
    exact ⟨e3, hg, h6⟩
/-- numbers, truth values -/
theorem wCompN {e : En} {P : OV → En → Prop} (inj : α → D) (g : α → Int) (xs : List α) (hl : xs.length ≤ sizeLine) (h : ∀ x ∈ xs, GO (fg (inj x) (wipeE e js)) fun e1 => OK (ft e1) fun b e2 => b = true ∧ OK (fe e2) fun d e3 => d = .int (g x) ∧ back e js e3 = e) (p : P (.lst ((xs.map g).map .int)) e) :
    OK (loopC js fg ft fe (xs.map inj) e []) P := wComp inj (fun x => .int (g x)) xs hl h (by rw [List.map_map] at p; exact p)
theorem wCompB {e : En} {P : OV → En → Prop} (inj : α → D) (g : α → Bool) (xs : List α) (hl : xs.length ≤ sizeLine) (h : ∀ x ∈ xs, GO (fg (inj x) (wipeE e js)) fun e1 => OK (ft e1) fun b e2 => b = true ∧ OK (fe e2) fun d e3 => d = .bl (g x) ∧ back e js e3 = e) (p : P (.lst ((xs.map g).map .bl)) e) :
    OK (loopC js fg ft fe (xs.map inj) e []) P := wComp inj (fun x => .bl (g x)) xs hl h (by rw [List.map_map] at p; exact p)
/-- with something that goes on -/
theorem wCompI {P : OV → En → Prop} {I : List D → En → Prop} : ∀ (ds : List D) (e : En) (acc : List D), acc.length + ds.length ≤ sizeLine → I acc e →
    (∀ d ∈ ds, ∀ acc e, acc.length < sizeLine → I acc e → GO (fg d (wipeE e js)) fun e1 => OK (ft e1) fun b e2 => b = true ∧ OK (fe e2) fun y e3 => I (acc ++ [y]) (back e js e3)) → (∀ acc' e', acc'.length = acc.length + ds.length → I acc' e' → P (.lst acc') e') →
    OK (loopC js fg ft fe ds e acc) P
  | [], e, acc, _, i, _, p => OK_eq (x := .lst acc) rfl (p acc e rfl i)
  | d :: ds, e, acc, hl, i, h, p => by
    rw [List.length_cons] at hl
    obtain ⟨e1, h1, h2⟩ := (h d List.mem_cons_self acc e (by omega) i).ex
    obtain ⟨b, e2, h2, rfl, h3⟩ := h2.ex
    rw [loopC]
    simp only [h1, h2]
    obtain ⟨y, e3, hf, h3⟩ := h3.ex
    simp only [hf]
    rw [if_pos (by omega)]
    exact wCompI ds _ _ (by rw [List.length_append]; simp; omega) h3 (fun d hd => h d (List.mem_cons_of_mem _ hd)) (fun acc' e' hl' i' => p acc' e' (by rw [hl', List.length_append]; simp; omega) i')
/-- a loop that only goes on -/
theorem wFor {N : En → Prop} {R : D → En → Prop} {Ro : OV → En → Prop} {I : Nat → En → Prop} : ∀ (ds : List D) (e : En) (k : Nat), I k e →
    (∀ (i : Nat) (d : D) (e : En), ds[i]? = some d → I (k + i) e → ∀ Kn : En → Prop, (∀ e2, I (k + i + 1) e2 → Kn e2) → GO (fg d e) fun e1 => WS (fb e1) Kn R Ro) → (∀ e, I (k + ds.length) e → N e) →
    WS (loopF fg fb ds e) N R Ro
  | [], e, k, i, _, p => by rw [loopF, WS_nx]; exact p e i
  | d :: ds, e, k, i, h, p => by
    obtain ⟨e1, h1, h2⟩ := (h 0 d e rfl i _ (fun _ h => h)).ex
    rw [loopF]
    simp only [h1]
    rcases h2.cases with ⟨e2, hf, h2⟩ | ⟨d, e, hf, h2⟩ | ⟨d, e, hf, h2⟩
    · rw [hf]
      refine wFor ds e2 (k + 1) h2 (fun i d e hd hi => ?_) (fun e he => p e (by rw [List.length_cons]; rwa [Nat.add_assoc, Nat.add_comm 1] at he))
      have := h (i + 1) d e hd (by rwa [Nat.add_assoc, Nat.add_comm 1] at hi)
      rwa [Nat.add_assoc k 1 i, Nat.add_comm 1 i]
    · rw [hf, WS_rt]; exact h2
    · rw [hf, WS_rto]; exact h2
theorem wFor0 {N : En → Prop} {R : D → En → Prop} {Ro : OV → En → Prop} (I : Nat → En → Prop) (ds : List D) (e : En) (h0 : I 0 e) (h : ∀ (i : Nat) (d : D) (e : En), ds[i]? = some d → I i e → ∀ Kn : En → Prop, (∀ e2, I (i + 1) e2 → Kn e2) → GO (fg d e) fun e1 => WS (fb e1) Kn R Ro) (p : ∀ e, I ds.length e → N e) : WS (loopF fg fb ds e) N R Ro :=
  wFor ds e 0 h0 (fun i d e hd hi => by rw [Nat.zero_add] at hi ⊢; exact h i d e hd hi) (fun e he => p e (by rwa [Nat.zero_add] at he))
/-- a loop over the numbers that a filter lets through -/
theorem wForR {N : En → Prop} {R : D → En → Prop} {Ro : OV → En → Prop} (I : Nat → En → Prop) (p : Nat → Bool) (inj : Nat → D) : ∀ (n a : Nat) (e : En), I a e →
    (∀ (i : Nat) (e : En), a ≤ i → i < a + n → I i e → p i = true → ∀ Kn : En → Prop, (∀ e2, I (i + 1) e2 → Kn e2) → GO (fg (inj i) e) fun e1 => WS (fb e1) Kn R Ro) → (∀ i e, I i e → p i = false → I (i + 1) e) → (∀ e, I (a + n) e → N e) →
    WS (loopF fg fb (((List.range' a n).filter p).map inj) e) N R Ro
  | 0, a, e, i, _, _, q => by
    rw [List.range'_zero, List.filter_nil, List.map_nil, loopF, WS_nx]
    exact q e i
  | n + 1, a, e, i, h, s, q => by
    rw [List.range'_succ]
    cases hp : p a with
    | false =>
      rw [List.filter_cons_of_neg (by rw [hp]; decide)]
      exact wForR I p inj n (a + 1) e (s a e i hp) (fun j e h1 h2 => h j e (by omega) (by omega)) s (fun e he => q e (by rwa [Nat.add_assoc, Nat.add_comm 1] at he))
    | true =>
      rw [List.filter_cons_of_pos hp, List.map_cons, loopF]
      obtain ⟨e1, h1, h2⟩ := (h a e (Nat.le_refl _) (by omega) i hp _ (fun _ h => h)).ex
      simp only [h1]
      rcases h2.cases with ⟨e2, hf, h2⟩ | ⟨d, e, hf, h2⟩ | ⟨d, e, hf, h2⟩
      · rw [hf]
        exact wForR I p inj n (a + 1) e2 h2 (fun j e h1 h2 => h j e (by omega) (by omega)) s (fun e he => q e (by rwa [Nat.add_assoc, Nat.add_comm 1] at he))
      · rw [hf, WS_rt]; exact h2
      · rw [hf, WS_rto]; exact h2
/-- a while loop with a measure -/
theorem wWhile {fc : SB} {N : En → Prop} {R : D → En → Prop} {Ro : OV → En → Prop} (I : Nat → En → Prop) (h : ∀ m e, I m e → ∀ Kn : En → Prop, (∀ m' e2, m' < m → I m' e2 → Kn e2) → OK (fc e) fun b e1 => (b = true → WS (fb e1) Kn R Ro) ∧ (b = false → N e1)) : ∀ (n m : Nat) (e : En), m < n → I m e → WS (loopW fc fb n e) N R Ro
  | 0, m, e, hm, _ => by omega
  | n + 1, m, e, hm, i => by
    obtain ⟨b, e1, hc, q⟩ := (h m e i (fun e2 => ∃ m', m' < m ∧ I m' e2) (fun m' e2 h1 h2 => ⟨m', h1, h2⟩)).ex
    rw [loopW]
    rw [hc]
    cases b with
    | false => rw [WS_nx]; exact q.2 rfl
    | true =>
      simp only []
      rcases (q.1 rfl).cases with ⟨e2, hf, m', h1, h2⟩ | ⟨d, e, hf, h2⟩ | ⟨d, e, hf, h2⟩
      · rw [hf]; exact wWhile I h n m' e2 (by omega) h2
      · rw [hf, WS_rt]; exact h2
      · rw [hf, WS_rto]; exact h2
end
theorem rangeD_map (lo : Int) (n : Nat) : rangeD lo n = (List.range n).map fun (i : Nat) => D.int (lo + (i : Int)) := (rfl)
@[simp] theorem rangeD_length (lo : Int) (n : Nat) : (rangeD lo n).length = n := by simp [rangeD]
theorem rangeD_get {lo : Int} {n i : Nat} {d : D} (h : (rangeD lo n)[i]? = some d) : i < n ∧ d = .int (lo + i) := by
  unfold rangeD at h
  rw [List.getElem?_map] at h
  by_cases q : i < n
  · simp [q] at h
    exact ⟨q, h.symm⟩
  · simp [q] at h
theorem rangeD_mem {lo : Int} {n : Nat} {d : D} (h : d ∈ rangeD lo n) : ∃ i : Nat, i < n ∧ d = .int (lo + i) := by
  unfold rangeD at h
  simp only [List.mem_map, List.mem_range] at h
  obtain ⟨i, h1, h2⟩ := h
  exact ⟨i, h1, h2.symm⟩
theorem enumD_ints (ns : List Int) : enumD (ns.map D.int) = ns.zipIdx.map fun p => D.tup [.int (p.2 : Int), .int p.1] := by
  unfold enumD
  rw [List.zipIdx_map, List.map_map]
  rfl
theorem cut_to1 {α : Type} (xs : List α) : cut xs none (some 1) = xs.take 1 := cut_to xs 1
theorem maxI_ge : ∀ (m : Int) (r : List Int), m ≤ maxI m r ∧ ∀ x ∈ r, x ≤ maxI m r
  | m, [] => ⟨Int.le_refl _, fun x h => by cases h⟩
  | m, n :: r => by
    rw [maxI]
    obtain ⟨h1, h2⟩ := maxI_ge (if n > m then n else m) r
    generalize maxI (if n > m then n else m) r = z at h1 h2
    refine ⟨by split at h1 <;> omega, fun x hx => ?_⟩
    rcases List.mem_cons.mp hx with e | e
    · subst e; split at h1 <;> omega
    · exact h2 x e
theorem minI_le : ∀ (m : Int) (r : List Int), minI m r ≤ m ∧ ∀ x ∈ r, minI m r ≤ x
  | m, [] => ⟨Int.le_refl _, fun x h => by cases h⟩
  | m, n :: r => by
    rw [minI]
    obtain ⟨h1, h2⟩ := minI_le (if n < m then n else m) r
    generalize minI (if n < m then n else m) r = z at h1 h2
    refine ⟨by split at h1 <;> omega, fun x hx => ?_⟩
    rcases List.mem_cons.mp hx with e | e
    · subst e; split at h1 <;> omega
    · exact h2 x e
theorem maxI_mem : ∀ (m : Int) (r : List Int), maxI m r ∈ m :: r
  | m, [] => by simp [maxI]
  | m, n :: r => by
    rw [maxI]
    have := maxI_mem (if n > m then n else m) r
    split at this
    · rename_i h; rw [if_pos h]; exact List.mem_cons_of_mem _ this
    · rename_i h; rw [if_neg h]
      rcases List.mem_cons.mp this with e | e
      · rw [e]; exact List.mem_cons_self
      · exact List.mem_cons_of_mem _ (List.mem_cons_of_mem _ e)
theorem minI_mem : ∀ (m : Int) (r : List Int), minI m r ∈ m :: r
  | m, [] => by simp [minI]
  | m, n :: r => by
    rw [minI]
    have := minI_mem (if n < m then n else m) r
    split at this
    · rename_i h; rw [if_pos h]; exact List.mem_cons_of_mem _ this
    · rename_i h; rw [if_neg h]
      rcases List.mem_cons.mp this with e | e
      · rw [e]; exact List.mem_cons_self
      · exact List.mem_cons_of_mem _ (List.mem_cons_of_mem _ e)
/-- the least and the greatest of some numbers -/
theorem minmax_of {ns : List Int} (h : 0 < ns.length) : ∃ mi ma, minD [.lst (ns.map .int)] = some (.int mi) ∧ maxD [.lst (ns.map .int)] = some (.int ma) ∧ mi ∈ ns ∧ ma ∈ ns ∧ ∀ x ∈ ns, mi ≤ x ∧ x ≤ ma := by
  cases ns with
  | nil => simp at h
  | cons m r =>
    refine ⟨_, _, minD_l m r, maxD_l m r, minI_mem m r, maxI_mem m r, fun x hx => ?_⟩
    rcases List.mem_cons.mp hx with e | e
    · subst e; exact ⟨(minI_le _ r).1, (maxI_ge _ r).1⟩
    · exact ⟨(minI_le m r).2 x e, (maxI_ge m r).2 x e⟩
theorem minmax_range {f : Nat → Int} {w : Nat} (h : 0 < w) : ∃ mi ma, minD [.lst (((List.range w).map f).map .int)] = some (.int mi) ∧ maxD [.lst (((List.range w).map f).map .int)] = some (.int ma) ∧ (mi = ma ↔ ∃ q, ∀ k, k < w → f k = q) := by
  obtain ⟨mi, ma, h1, h2, h3, h4, h5⟩ := minmax_of (ns := (List.range w).map f) (by simpa using h)
  refine ⟨mi, ma, h1, h2, fun e => ⟨mi, fun k hk => ?_⟩, fun ⟨q, hq⟩ => ?_⟩
  · have := h5 (f k) (List.mem_map.mpr ⟨k, List.mem_range.mpr hk, rfl⟩)
    omega
  · obtain ⟨a, ha, e1⟩ := List.mem_map.mp h3
    obtain ⟨b, hb, e2⟩ := List.mem_map.mp h4
    rw [← e1, ← e2, hq a (List.mem_range.mp ha), hq b (List.mem_range.mp hb)]
end Ax
set_option Elab.async false
set_option linter.all false
set_option maxRecDepth 100000
set_option maxHeartbeats 2000000
/-! Ax16: more wishes: defs held by a slot, objects made, methods. -/
namespace Ax
open PySem PySem.Spec L2
section
variable {env : En} {P : D → En → Prop}
theorem wCallL {i j n : Nat} {F : FS} {fl : SL} (h0 : env[i]? = some (.sh (.fn j))) (h : OK (fl env) fun ds e => ds.length = n ∧ OR (F ds) fun d _ => P d e) : OK (sCallL i j n F fl env) P := by
  unfold sCallL
  simp only [h0, if_true, OK_bind]
  refine h.mono fun ds e ⟨h1, h2⟩ => ?_
  rw [if_pos h1]
  obtain ⟨d, s, hF, h2⟩ := h2.ex
  rw [hF]; exact OK_eq rfl h2
theorem wMake {c n : Nat} {names : List Str} {F : FI} {fl : SL} (h : OK (fl env) fun ds e => ds.length = n ∧ OR (F (.ins c []) ds) fun d s => d = .non ∧ ∃ fs, s = .ins c fs ∧ fs.map (·.1) = names ∧ P (.obj c (fs.map (·.2))) e) : OK (sMake c n names F fl env) P := by
  unfold sMake
  rw [OK_bind]
  refine h.mono fun ds e ⟨h1, h2⟩ => ?_
  rw [if_pos h1]
  obtain ⟨d, s, hF, rfl, fs, rfl, h3, h4⟩ := h2.ex
  rw [hF]
  simp only [h3, and_self, if_true]
  exact OK_eq rfl h4
theorem wMeth {c n : Nat} {F : FS} {fa : SE} {fl : SL} (h : OK (fa env) fun d e => ∃ fs, d = .obj c fs ∧ OK (fl e) fun ds e2 => ds.length + 1 = n ∧ OR (F (.obj c fs :: ds)) fun d _ => P d e2) : OK (sMeth c n F fa fl env) P := by
  unfold sMeth
  rw [OK_bind]
  refine h.mono fun d e ⟨fs, h1, h2⟩ => ?_
  subst h1
  simp only [if_true, OK_bind]
  refine h2.mono fun ds e2 ⟨h3, h4⟩ => ?_
  rw [if_pos h3]
  obtain ⟨d, s, hF, h5⟩ := h4.ex
  rw [hF]; exact OK_eq rfl h5
theorem wMethO {c n : Nat} {F : FO} {fa : SE} {fl : SL} {P : OV → En → Prop} (h : OK (fa env) fun d e => ∃ fs, d = .obj c fs ∧ OK (fl e) fun ds e2 => ds.length + 1 = n ∧ ∃ o, F (.obj c fs :: ds) = some o ∧ P o e2) : OK (sMethO c n F fa fl env) P := by
  unfold sMethO
  rw [OK_bind]
  refine h.mono fun d e ⟨fs, h1, h2⟩ => ?_
  subst h1
  simp only [if_true, OK_bind]
  refine h2.mono fun ds e2 ⟨h3, o, h4, h5⟩ => ?_
  rw [if_pos h3, h4]
  exact OK_eq rfl h5
theorem wCallO {n : Nat} {F : FO} {fl : SL} {P : OV → En → Prop} (h : OK (fl env) fun ds e => ds.length = n ∧ ∃ o, F ds = some o ∧ P o e) : OK (sCallO n F fl env) P := by
  unfold sCallO
  rw [OK_bind]
  refine h.mono fun ds e ⟨h3, o, h4, h5⟩ => ?_
  rw [if_pos h3, h4]
  exact OK_eq rfl h5
end
@[simp] theorem isND_n (b : Bool) : isND b .non .non = some (.bl (!b)) := (rfl)
@[simp] theorem isND_i (b : Bool) (i : Int) : isND b (.int i) .non = some (.bl b) := (rfl)
@[simp] theorem isi_l1 (xs : List D) : isiT [.lst xs, .tup [.ty "list", .ty "tuple"]] = some (.bl true) := (rfl)
@[simp] theorem isi_t1 (xs : List D) : isiT [.tup xs, .tup [.ty "list", .ty "tuple"]] = some (.bl true) := (rfl)
@[simp] theorem isi_i1 (i : Int) : isiT [.int i, .tup [.ty "list", .ty "tuple"]] = some (.bl false) := (rfl)
@[simp] theorem isi_b1 (i : Bool) : isiT [.bl i, .tup [.ty "list", .ty "tuple"]] = some (.bl false) := (rfl)
@[simp] theorem isi_i2 (i : Int) : isiT [.int i, .tup [.ty "bool", .ty "int"]] = some (.bl true) := (rfl)
@[simp] theorem isi_b2 (i : Bool) : isiT [.bl i, .tup [.ty "bool", .ty "int"]] = some (.bl true) := (rfl)
@[simp] theorem isi_ll (xs : List D) : isiT [.lst xs, .ty "list"] = some (.bl true) := (rfl)
@[simp] theorem isi_lt (xs : List D) : isiT [.lst xs, .ty "tuple"] = some (.bl false) := (rfl)
@[simp] theorem isi_tl (xs : List D) : isiT [.tup xs, .ty "list"] = some (.bl false) := (rfl)
@[simp] theorem isi_tt (xs : List D) : isiT [.tup xs, .ty "tuple"] = some (.bl true) := (rfl)
@[simp] theorem isi_ii (i : Int) : isiT [.int i, .ty "int"] = some (.bl true) := (rfl)
@[simp] theorem isi_ib (i : Int) : isiT [.int i, .ty "bool"] = some (.bl false) := (rfl)
@[simp] theorem isi_id (i : Int) : isiT [.int i, .ty "dict"] = some (.bl false) := (rfl)
@[simp] theorem isi_bi (i : Bool) : isiT [.bl i, .ty "int"] = some (.bl true) := (rfl)
@[simp] theorem isi_bb (i : Bool) : isiT [.bl i, .ty "bool"] = some (.bl true) := (rfl)
@[simp] theorem isi_bd (i : Bool) : isiT [.bl i, .ty "dict"] = some (.bl false) := (rfl)
end Ax
set_option Elab.async false
set_option linter.all false
set_option maxRecDepth 100000
set_option maxHeartbeats 4000000
/-! AxE: an own exception whose __init__ says super().__init__(p) and self.f = p. -/
namespace AxE
open PySem PySem.W PySem.Calls PyProof.Rows L2

/-- the text of such an __init__ -/
def initBody (p f : Str) (p0 p1 p2 p3 p4 p5 p6 p7 p8 p9 : Pos) : List Stmt :=
  [.Expr (.Call (.Attribute (.Call (.Name "super" p0) [] [] p1) "__init__" p2) [.Name p p3] [] p4) p5, .Assign [.Attribute (.Name "self" p6) f p7] (.Name p p8) p9]

/-- what the written part says of the class and its __init__ -/
structure BadC (K : Frag) (mfile : Str) (C fI : Addr) (p f : Str) : Prop where
  T : OexC K C
  ini : findIn K (.ref C) "__init__" = some (some (.ref fI))
  typ : typeIn K (.ref fI) = some (.type "function")
  no : findIn K (.ref C) f = some none
  sup : ks_superIn K C C "__init__" = some (some (.builtin "ValueError.__init__"))
  sVE : subIn K (.ref C) (.type "ValueError") = some true
  own : mroIn K C (.ref C) = some true
  xin : excInitIn K C HandSPX.veTail "ValueError.__new__" = true
  opq : nsIn K cStatics "thirdparty.any" = some none
  fn : ∃ (qual : Str) (params : Arguments) (p0 p1 p2 p3 p4 p5 p6 p7 p8 p9 : Pos) (scope : Scope) (dV kV doc pm ct oc ccl cl : Value) (an od cdd cld : Option Addr) (osl ccs csl : Array (Option Value)) (cda cc : Addr) (vs : Array Value) (tf : Tok) (ar : Arg),
    K.lookup fI = some ⟨oc, od, .func (ksFn "__init__" qual params (initBody p f p0 p1 p2 p3 p4 p5 p6 p7 p8 p9) scope dV kV doc pm an (.ref cda) ct cc), osl⟩ ∧ codeIn K (.ref cda) qual = true ∧
    (params.posonlyargs ++ params.args).head? = some ar ∧ ar.arg = "self" ∧ K.lookup cda = some ⟨ccl, cdd, .fields vs, ccs⟩ ∧ vs[2]? = some (.str mfile tf) ∧ K.lookup cc = some ⟨cl, cld, .cell (some (.ref C)), csl⟩ ∧
    scope.names.lookup ("super" : Str) = some .globalImplicit ∧ scope.names.lookup ("__class__" : Str) = some .free ∧ scope.names.lookup ("self" : Str) = some .local ∧ scope.names.lookup p = some .local ∧ scope.kind = .function ∧
    scope.isCoroutine = false ∧ scope.isGenerator = false ∧ (∀ x ∈ scope.names, x.2 ≠ .cell) ∧
    (∀ (s : Shared) (a u : Value), BindsTo s (ksFn "__init__" qual params (initBody p f p0 p1 p2 p3 p4 p5 p6 p7 p8 p9) scope dV kV doc pm an (.ref cda) ct cc) ⟨[a, u], []⟩ [("self", a), (p, u)]) ∧
    (∀ env : Env, ∃ pl : Sem Bool, eval (.Call (.Attribute (.Call (.Name "super" p0) [] [] p1) "__init__" p2) [.Name p p3] [] p4) env = (do
      let ov ← attributeBase (.Call (.Name "super" p0) [] [] p1) "__init__" env (eval (.Call (.Name "super" p0) [] [] p1) env)
      standAt p2.atName
      let (fn, pre) ← holding [ov] (getMethod ov "__init__" pl)
      callWith p4 fn pre (backTo p4 (starEach [.Name p p3] env)) []))

section
variable {prog : Program} {w : World} {E : Value → Shared → Prop} {A : Around}
/-- the bound __init__ called, by the library's kxs_call over the heap that lacks the exception: all else is kept -/
theorem call_mw {h0 : Heap} {s : Shared} {K : Frag} {m : Str → Option Value} {L C u e t0 : Addr} {rest : List Value} {Q : Value → Shared → Prop} (hx : excInitIn K C HandSPX.veTail "ValueError.__new__" = true) (hn : s.heap.Ns L m) (neL : e ≠ L) (neu : u ≠ e) (uL : u ≠ L)
    (old : ∀ b o, h0.get? b = some o → s.heap.get? b = some o) (aboveL : h0.objs.size ≤ L) (hu0 : h0.get? u = none) (he : s.heap.get? e = some (HandSPX.excO C t0)) (hu : s.heap.get? u = some (kxs_mw "ValueError.__init__" e)) (few : rest.length ≤ sizeLine) (X0 : K.In (hideAll h0 [e]))
    (q : ∀ h' t1, (∀ b o, b ≠ e → h0.get? b = some o → h'.get? b = some o) → h'.Ns L m → h'.get? e = some (HandSPX.excO C t1) → Q .none { s with heap := h' }) :
    wpAny (model prog w) A (call (Value.ref u) rest) Q E s := by
  have stays : ∀ b o, (hideAll h0 [e]).get? b = some o → s.heap.get? b = some o := fun b o z => old _ _ (of_hideAll _ z)
  have hid : ∀ {b : Addr}, h0.get? b = none → (hideAll h0 [e]).get? b = none := fun {b} n => by
    cases z : (hideAll h0 [e]).get? b with
    | none => rfl
    | some o => rw [of_hideAll _ z] at n; cases n
  have Fm : Fr (hideAll h0 [e]) L s.heap m := ⟨hn, stays, by rw [hideAll_size]; exact aboveL⟩
  have N : News (hideAll h0 [e]) L s.heap [(u, kxs_mw "ValueError.__init__" e), (e, excObj C t0 none .none)] := fun p hp => by
    rcases List.mem_cons.mp hp with rfl | tl
    · exact ⟨hu, uL, hid hu0⟩
    · cases List.mem_singleton.mp tl
      exact ⟨he, neL, hideAll_none _ List.mem_cons_self⟩
  refine kxs_call Fm X0 N F.excBase_ValueError hx List.mem_cons_self (.tail neu (.head fun p hp => nomatch hp)) few fun t' h' F' N' _ => ?_
  exact q h' t' (fun b o ne z => F'.keep b o (hideAll_get _ z fun y => ne (List.mem_singleton.mp y))) F'.ns (N' (e, excObj C t' none .none) (List.mem_cons_of_mem _ (List.mem_cons_of_mem _ List.mem_cons_self))).1
theorem nameL {M : Model} {s : Shared} {env : Env} {m : Str → Option Value} {x : Str} {pos : Pos} {v : Value} {Q : Value → Shared → Prop} (hn : s.heap.Ns env.locals m) (hv : m x = some v) (hk : env.scope.kind = .function) (hl : env.kindOf x = some .local) (hd : (x == ("__debug__" : Str)) = false) (h : Q v s) :
    wpAny M A (eval (.Name x pos) env) Q E s := wpAny_Name (wpAny_loadName_local hk hl hn hv h) hd
end

section
variable {prog : Program} {w : World} {A : Around} {R : Result → Shared → Prop} {K : Frag} {mg : Str → Option Value} {base h : Heap} {g : Array GenState} {d : Drawn} {t : Nat} {os : OsState} {C fI a t0 : Addr} {p f : Str} {u : Value}
theorem init_raw (B : BadC K prog.main.file C fI p f) (M : Mod K mg base) (kb : ∀ b o, base.get? b = some o → h.get? b = some o) (hs : mg "super" = none) (htop : (prog.main.scope.names.lookup ("super" : Str)).isSome = false)
    (ps : (p == ("self" : Str)) = false) (pd : (p == ("__debug__" : Str)) = false) (ha : h.get? a = some (HandSPX.excO C t0)) (hna : base.get? a = none) (hroom : A.depth < recursionLimit)
    (hq : ∀ h' t' t1 dx, (∀ b o, b ≠ a → h.get? b = some o → h'.get? b = some o) → h.objs.size ≤ dx → dx ≠ a → h'.get? a = some { cls := .ref C, dict := some dx, data := .fields #[.ref t1, .none, .none, .none, .bool false, .none] } →
      h'.Ns1 dx (fun y => if y = f then some u else none) → R (.ok (.ret .none)) ⟨h', g, d, t', os⟩) : codeAny (model prog w) A (.call (.ref fI) ⟨[.ref a, u], []⟩) R ⟨h, g, d, t, os⟩ := by
  obtain ⟨qual, params, p0, p1, p2, p3, p4, p5, p6, p7, p8, p9, scope, dV, kV, doc, pm, ct, oc, ccl, cl, an, od, cdd, cld, osl, ccs, csl, cda, cc, vs, tf, ar, hf, hcd, hp, har, hcode, hvs, hcell, l1, l2, l3, l4, hk, hco, hgen, hnc, hbind, hev⟩ := B.fn
  obtain ⟨nm, q, N, bs, bm, sn, sub, ab, col, dd, k0, k1, k2, k3, k5, hC, hbm⟩ := B.T.cls
  have hcl : clsIn K C = some { name := nm, bases := bs, mro := .ref C :: bm, ns := N, qualname := q, hasDict := true, slotNames := sn, subclasses := sub, abstract := ab, collection := col, hasDel := false } := by unfold clsIn; rw [hC] <;> rfl
  obtain ⟨mb, hb1, hb2⟩ := M.blt
  have X : K.In h := M.kin.keeps kb
  have par : ∀ x ∈ [(("self" : Str), Value.ref a), (p, u)], scope.names.lookup x.1 = some .local := fun x hx => by
    rcases List.mem_cons.mp hx with e | tl
    · subst e; exact l3
    · cases List.mem_singleton.mp tl; exact l4
  refine ks_codeAny_call_defAt (fd := ksFn "__init__" qual params (initBody p f p0 p1 p2 p3 p4 p5 p6 p7 p8 p9) scope dV kV doc pm an (.ref cda) ct cc) (body := initBody p f p0 p1 p2 p3 p4 p5 p6 p7 p8 p9) (binds := [("self", .ref a), (p, u)]) hroom (X _ _ hf) rfl
    (M.nolimit.keeps kb) (codeRec_of X hcd) rfl (hbind _ _ _) hnc par (fun h₁ hns hk₁ => ?_) hco hgen hk
  show _root_.PySem.wpAt (model prog w) (A.deeper (ksEnv qual scope h.objs.size fI (.ref cda) cc)) (.func (initBody p f p0 p1 p2 p3 p4 p5 p6 p7 p8 p9) (ksEnv qual scope h.objs.size fI (.ref cda) cc)) (execs (initBody p f p0 p1 p2 p3 p4 p5 p6 p7 p8 p9) (ksEnv qual scope h.objs.size fI (.ref cda) cc)) _ _ _
  have X1 : K.In h₁ := X.keeps hk₁
  have ha1 := hk₁ _ _ ha
  have kb1 : ∀ b o, base.get? b = some o → h₁.get? b = some o := fun b o e => hk₁ _ _ (kb b o e)
  have v1 : ([(("self" : Str), Value.ref a), (p, u)] : List (Str × Value)).reverse.lookup ("self" : Str) = some (.ref a) := by
    have z : (("self" : Str) == p) = false := by
      rw [Bool.eq_false_iff] at ps ⊢
      intro z
      exact ps (by rw [beq_iff_eq] at z ⊢; exact z.symm)
    simp [List.lookup, z]
  have v2 : ([(("self" : Str), Value.ref a), (p, u)] : List (Str × Value)).reverse.lookup p = some u := by
    simp [List.lookup]
  have aL : h.objs.size ≠ a := Nat.ne_of_gt (Heap.lt_size ha)
  obtain ⟨pl, hev⟩ := hev (ksEnv qual scope h.objs.size fI (.ref cda) cc)
  refine ks_wpAt_execs_cons (ks_wpAt_Expr_any (ks_wpAt_MethodCall (pl := pl) ?_ hev) (by unfold interactive; simp [ksEnv, envX, hk]))
  refine ks_wpAt_super_base (env := ksEnv qual scope h.objs.size fI (.ref cda) cc) l1 l2 rfl rfl (X1 _ _ hf) rfl hp rfl (X1 _ _ hcode) rfl hvs (by simp) htop ?_
  refine ks_loadName_global hk l1 (loadGlobal_builtin (env := ksEnv qual scope h.objs.size fI (.ref cda) cc) (M.glob.keeps kb1) hs (hb1.keeps kb1) ((hb2 _ (by decide +kernel)).trans (by decide +kernel)) ⟨rfl, ?_⟩)
  refine wpAny_loadName_free hk l2 rfl ⟨_, X1 _ _ hcell, rfl⟩ ?_
  rw [har]
  refine wpAny_loadName_local hk l3 hns v1 ?_
  refine ks_wpAny_isType_cls (X1 _ _ hC) rfl ⟨rfl, ?_⟩
  refine ks_wpAny_call_super (X1 _ _ hC) rfl ha1 rfl (fun c e => nomatch e) (looks_mroIn X1 B.own) (fun h2 e2 k2 => ?_)
  have X2 : K.In h2 := X1.keeps k2
  have hsup := B.sup
  unfold ks_superIn at hsup
  rw [hcl] at hsup
  have ia : InstAt h2 a (HandSPX.excO C t0) C none := ⟨k2 _ _ ha1, rfl, rfl, trivial⟩
  refine kxs_getMethod kxs_ValueError e2 (looks_opaque X2 B.opq) (l₀ := .ref C :: bm) (fun A Q E s k q => wpAny_bind ((looks_clsIn X2 hcl) A _ E s k (wpAny_pure q))) rfl X2 hsup (ia.type.andThen (looks_subIn X2 B.sVE)) (ks_ne X2 ia hcl) rfl ?_
  have k3 : ∀ b o, h2.get? b = some o → (h2.push (kxs_mw "ValueError.__init__" a)).get? b = some o := fun b o e => Heap.get?_push_of_some _ e
  have hu : (h2.push (kxs_mw "ValueError.__init__" a)).get? h2.objs.size = some (kxs_mw "ValueError.__init__" a) := Heap.get?_push_at rfl rfl
  have hns3 : (h2.push (kxs_mw "ValueError.__init__" a)).Ns h.objs.size (fun x => ([(("self" : Str), Value.ref a), (p, u)] : List (Str × Value)).reverse.lookup x) := (hns.keeps k2).keeps k3
  refine kxs_callWith (i := "ValueError.__init__") (u := h2.objs.size) (x := a) rfl (evalArgs_plain (spliced_cons (nameL hns3 v2 hk l4 pd (spliced_nil ⟨hu, ?_⟩))))
  have ltL : h.objs.size < h2.objs.size := by
    obtain ⟨o, _, _, ho, _⟩ := hns
    exact Heap.lt_size (k2 _ _ ho)
  have u0 : h.get? h2.objs.size = none := by
    cases z : h.get? h2.objs.size with
    | none => rfl
    | some o => exact absurd (Heap.lt_size z) (Nat.not_lt.mpr (Nat.le_of_lt ltL))
  have ua : h2.objs.size ≠ a := fun z => by rw [z, ha] at u0; cases u0
  refine call_mw (h0 := h) (L := h.objs.size) (m := fun x => ([(("self" : Str), Value.ref a), (p, u)] : List (Str × Value)).reverse.lookup x) B.xin hns3 (Ne.symm aL) ua (Nat.ne_of_gt ltL) (fun b o z => k3 _ _ (k2 _ _ (hk₁ _ _ z))) (Nat.le_refl _) u0 (k3 _ _ (k2 _ _ ha1)) hu
    (by show 1 ≤ sizeLine; rw [sizeLine_eq]; omega) (M.kin.keeps fun b o z => hideAll_get _ (kb _ _ z) fun y => by rw [List.mem_singleton.mp y, hna] at z; cases z) fun h4 t4 kk hns4 e4 => ?_
  -- the field is stored
  have X4 : K.In h4 := M.kin.keeps fun b o z => kk b o (fun y => by rw [y, hna] at z; cases z) (kb b o z)
  refine ks_wpAt_execs_cons (ks_wpAt_Assign_Attr (wpAt_of_wpAny (nameL hns4 v2 hk l4 pd (nameL hns4 v1 hk l3 rfl ?_))))
  refine set_plain X4 (ox := HandSPX.excO C t4) (od := none) ⟨e4, rfl, rfl, trivial⟩ B.T.sa ?_
  refine HandSPX.exc_osa X4 e4 hcl (show HandSPX.refsVE (.ref C :: bm) = true from hbm) rfl B.no (fun h' tk' dx k dn dne hx hn => ?_)
  refine wpAt_of_wpAny (wpAny_execs_nil ?_)
  refine hq h' _ _ dx (fun b o hb e => k b o hb (kk b o hb e)) (Nat.le_trans ?_ dn) dne hx hn
  obtain ⟨oL, _, _, hoL, _⟩ := hns4
  exact Nat.le_of_lt (Heap.lt_size hoL)
end
end AxE
set_option Elab.async false
set_option linter.all false
set_option maxRecDepth 100000
set_option maxHeartbeats 4000000
/-! AxG: raise BadX(v); try with several clauses that name the error. -/
namespace AxE
open PySem PySem.W PySem.Calls PyProof.Rows L2
theorem pmk_bad {X : Cx} {C fI : Addr} {p f x : Str} {e : Expr} {ta : TA} {pn pos : Pos} (B : BadC X.K X.prog.main.file C fI p f) (hs : X.mg "super" = none) (htop : (X.prog.main.scope.names.lookup ("super" : Str)).isSome = false)
    (ps : (p == ("self" : Str)) = false) (pd : (p == ("__debug__" : Str)) = false) (hr : Room 1 X.A) (hg : Gl X x) (hm : X.mg x = some (.ref C)) (ha : PA X [e] ta)
    (hdb : (x == ("__debug__" : Str)) = false := by decide) (he : starEach [e] X.env = (false, eval e X.env) :: starEach [] X.env := by rfl) (hpl : (backTo pos (starEach [] X.env)).any (·.1) = false := by rfl) :
    PMk X (.Call (.Name x pn) [e] [] pos) (fun σ H Q => ta σ H fun vs H1 => ∃ v, vs = [v] ∧ ∀ d, H1 d = none → Q (.ref C) (some d) (upd H1 d (.xd [(f, v)]))) := by
  intro pins s σ H Q I h
  obtain ⟨nm, q, N, bs, bm, sn, sub, ab, col, dd, k0, k1, k2, k3, k5, hC, hbm⟩ := B.T.cls
  refine wpAny_Call_Name_kw (ld_glob I hg hm (Q := _) ?_ hdb)
  refine callWith_K (h₀ := X.base) I.ok.mod.kin B.T.kC (thn (ha.run pos pins s σ H _ I h) fun us s1 ⟨vs, H1, I1, r1, v, ev, q1⟩ => ⟨I1.kIn, ?_⟩) he hpl
  show wpAny _ _ (call (Value.ref C) us) _ _ _
  subst ev
  obtain ⟨u, eu, ru⟩ := vals1 r1
  subst eu
  obtain ⟨hp, g, dr, tk, os⟩ := s1
  have kk : ∀ b o, hp.get? b = some o → ((hp.push (kdv_tup [u])).push (HandSPX.excO C hp.objs.size)).get? b = some o := fun b o e => Heap.get?_push_of_some _ (Heap.get?_push_of_some _ e)
  have hget : ((hp.push (kdv_tup [u])).push (HandSPX.excO C hp.objs.size)).get? (hp.objs.size + 1) = some (HandSPX.excO C hp.objs.size) := by heap_get
  have szz : ((hp.push (kdv_tup [u])).push (HandSPX.excO C hp.objs.size)).objs.size = hp.objs.size + 2 := by rw [Heap.size_push, Heap.size_push]
  refine wpAny_call (HandSPX.call_own F.excBase_ValueError (fun Y => HandSPX.refsVE_contains Y bm hbm) (I1.kIn _ _ hC) (looks_findIn I1.kIn B.ini) (fun self => bind_fn I1.kIn self B.typ) (by show 1 ≤ sizeLine; rw [sizeLine_eq]; omega)
    (init_raw B I1.mod (fun b o e => kk b o (I1.bk b o e)) hs htop ps pd hget (by
      cases z : X.base.get? (hp.objs.size + 1) with
      | none => rfl
      | some o => exact absurd (Heap.lt_size (show hp.get? _ = some o from I1.bk _ _ z)) (Nat.not_lt.mpr (Nat.le_succ _))) (hr.make C [u] []).depth fun h' t' t1 dx k dn dne hx hn => ⟨rfl, ?_⟩))
  -- the exception is let go, its dict stands
  obtain ⟨G, g1, g2⟩ := restrict h' fun b => decide (b ≠ hp.objs.size + 1)
  have gk : ∀ b, b ≠ hp.objs.size + 1 → G.get? b = h'.get? b := fun b hb => g1 b (decide_eq_true hb)
  have ge : G.get? (hp.objs.size + 1) = none := g2 _ (by simp)
  have nha : ∀ {b : Addr} {o : Obj}, hp.get? b = some o → b ≠ hp.objs.size + 1 := fun {b o} z e => by
    have := Heap.lt_size z
    rw [e] at this
    exact Nat.not_lt.mpr (Nat.le_succ _) this
  have kG : ∀ b o, hp.get? b = some o → G.get? b = some o := fun b o e => (gk b (nha e)).trans (k b o (nha e) (kk b o e))
  have dsz : hp.objs.size ≤ dx := Nat.le_trans (Nat.le_add_right _ 2) (by rw [szz] at dn; exact dn)
  have nd : H1 dx = none := I1.hok.fresh dsz
  have ob : ObjOk X.prog X.w (upd H1 dx (.xd [(f, v)])) G dx (.xd [(f, v)]) := ⟨_, hn.at fun o y => (gk dx dne).trans y, fun y => by
    rw [lookup_put]
    by_cases e : y = f
    · rw [if_pos e, if_pos e]; exact ru
    · rw [if_neg e, if_neg e]; exact True.intro⟩
  have J : Inv X pins σ (upd H1 dx (.xd [(f, v)])) ⟨G, g, dr, t', os⟩ := I1.laid (t' := t') (a := dx) (o := .xd [(f, v)]) (h' := G) kG dsz ob
  refine ⟨hp.objs.size + 1, _, _, ⟨G, g, dr, t', os⟩, _, .ref C, some dx, rfl, J, fun b o e => ?_, ge, hx, ⟨rfl, rfl⟩, rfl, rfl, ?_, rfl, J.bare, raises_own B.T.exC B.T.tyC, q1 dx nd⟩
  · by_cases hb : b = hp.objs.size + 1
    · rw [hb, ge] at e; cases e
    · exact (gk b hb).symm.trans e
  · rw [upd_ne (Ne.symm dne)]
    exact I1.hok.fresh (Nat.le_succ _)

/-! ### try with several clauses, of which some name the error -/
/-- one clause: the class, whether it names the error, what its suite makes of an error (where it stands, its class, its dict) -/
abbrev HL := List (Value × Bool × (Addr → Value → Option Addr → TS))
/-- the name is taken away at each end but a return -/
def endsUn (i : Nat) (D : Ends) : Ends := ⟨fun σ H => D.nx (σ.set i none) H, D.rt, fun σ H => D.bk (σ.set i none) H, fun σ H => D.ct (σ.set i none) H⟩
/-- what the suite of a clause is asked -/
def oneA (i : Nat) (D : Ends) (ts : Addr → Value → Option Addr → TS) (cls : Value) (d : Option Addr) (σ : L2.St) (H : Hp) : Bool → Prop
  | true => ∀ a, H a = none → ts a cls d (endsUn i D) (σ.set i (some (.ref a))) H
  | false => ∀ a, H a = none → ts a cls d D σ H
/-- what is wished of an error of the body -/
def wManyA (K : Frag) (i : Nat) (Wout : WX) (D : Ends) : HL → WX
  | [] => Wout
  | (c, named, ts) :: more => fun cls d σ H => ∃ takes, exmOne K cls c = some takes ∧ (takes = true → oneA i D ts cls d σ H named) ∧ (takes = false → wManyA K i Wout D more cls d σ H)
/-- the clauses of the text are told by the list -/
inductive HdsA (X : Cx) (n : Str) : List ExceptHandler → HL → Prop
  | nil : HdsA X n [] []
  | cons {x : Str} {c : Value} {named : Bool} {ts : Addr → Value → Option Addr → TS} {first : Stmt} {rest : List Stmt} {np hp : Pos} {hds : List ExceptHandler} {l : HL} (hc : Names X x c)
      (suite : ∀ a oe cls d pn, Zc cls d oe → (∃ vs, oe.data = .fields vs) → PSs (X.suite a ((a, oe) :: pn)) (first :: rest) (ts a cls d)) (r : HdsA X n hds l) :
      HdsA X n (.ExceptHandler (some (.Name x np)) (if named then some n else none) (first :: rest) hp :: hds) ((c, named, ts) :: l)
/-- an error has come to the clauses: without it the state is sI -/
structure Come (X : Cx) (pins : List (Addr × Obj)) (σ : L2.St) (H : Hp) (cls : Value) (d : Option Addr) (a : Addr) (B : Heap) (sI s : Shared) : Prop where
  inv : L2.Inv X pins σ H sI
  ground : ∀ b o, sI.heap.get? b = some o → b ∉ frs X.stack → B.get? b = some o
  near : sI.heap.UpToSlots s.heap
  fly : HandSPX.FlyingZ B (X.env :: X.outer) a (Zc cls d) s.heap
  apart : H a = none
  world : s.os = sI.os
  gens : AllBare s.gens
section
variable {X : Cx} {pins : List (Addr × Obj)} {σ : L2.St} {H : Hp} {cls : Value} {d : Option Addr} {a : Addr} {B : Heap} {sI s : Shared} {D : Ends} {n : Str} {i : Nat}
theorem Come.on (k : Come X pins σ H cls d a B sI s) {h' : Heap} (f : HandSPX.FlyingZ B (X.env :: X.outer) a (Zc cls d) h') (u : s.heap.UpToSlots h') : Come X pins σ H cls d a B sI { s with heap := h' } :=
  ⟨k.inv, k.ground, k.near.trans u, f, k.apart, k.world, k.gens⟩
/-- within the clauses the error is an object of the state -/
theorem Come.within (k : Come X pins σ H cls d a B sI s) (hf : X.env.frame = some X.env.locals) : ∃ oe vs, s.heap.get? a = some oe ∧ Zc cls d oe ∧ oe.data = .fields vs ∧ L2.Inv (X.suite a ((a, oe) :: (X.pn ++ pins))) [] σ H s := by
  obtain ⟨oe, vs, at_, kind, dat⟩ := k.fly.there
  have noFrame : a ∉ frs (X.env :: X.outer) := fun m => by
    obtain ⟨_, o', at', other⟩ := k.fly.2.2.1.mem m
    rw [at_] at at'
    exact other vs (by rw [← Option.some.inj at']; exact dat)
  refine ⟨oe, vs, at_, kind, dat, (k.inv.landed k.ground k.fly.1 k.near k.world k.gens).suite at_ dat k.apart (fun z => noFrame ?_) fun m => noFrame ?_⟩
  · exact List.mem_filterMap.mpr ⟨X.env, List.mem_cons_self, by rw [z]; exact hf⟩
  · obtain ⟨e, there, fr⟩ := List.mem_filterMap.mp m
    exact List.mem_filterMap.mpr ⟨e, List.mem_cons_of_mem _ there, fr⟩
/-- the end of a suite whose clause names nothing -/
theorem end_bare {fl : Flow} {s6 : Shared} {oe : Obj} (ok : X.Ok) (h : SP (X.suite a ((a, oe) :: (X.pn ++ pins))) [] D fl s6) : SP X pins D fl s6 := by
  cases fl with
  | ret u => exact let ⟨v, σ', H', J, r, q⟩ := h; ⟨v, σ', H', J.unsuite ok, r, q⟩
  | _ => exact let ⟨σ', H', J, q⟩ := h; ⟨σ', H', J.unsuite ok, q⟩
/-- the end of a suite whose clause names the error -/
theorem end_named {fl : Flow} {s6 : Shared} {oe : Obj} {hp : Pos} (ok : X.Ok) (nd : X.N.Nodup) (hi : X.N[i]? = some n) (loc : X.env.kindOf n = some .local) (h : SP (X.suite a ((a, oe) :: (X.pn ++ pins))) [] (endsUn i D) fl s6) :
    wpAny (model X.prog X.w) X.A (do bindName X.env n .none; unbindBehindTheSuite X.env n hp) (fun _ s7 => SP X pins D fl s7) X.xe s6 := by
  cases fl with
  | ret u => exact let ⟨v, σ', H', J, r, q⟩ := h; gone_ok (J.unsuite ok) nd hi loc fun s7 J7 => ⟨v, _, H', J7, r, q⟩
  | _ => exact let ⟨σ', H', J, q⟩ := h; gone_ok (J.unsuite ok) nd hi loc fun s7 J7 => ⟨_, H', J7, q⟩
/-- the clauses, one behind another -/
theorem handled_by {Wout : WX} (hs : X.stack = X.env :: X.outer) (hf : X.env.frame = some X.env.locals) (nd : X.N.Nodup) (hi : X.N[i]? = some n) (loc : X.env.kindOf n = some .local) (tk : Takes X Wout) (k : Come X pins σ H cls d a B sI s) :
    ∀ {hds : List ExceptHandler} {l : HL}, HdsA X n hds l → wManyA X.K i Wout D l cls d σ H → wpAny (model X.prog X.w) X.A (handleBy (.ref a) X.env hds) (SP X pins D) X.xe s
  | _, _, .nil, wish => by
    obtain ⟨_, _, _, oe, vs, T, oT, ts, at_, kind, dat, slot1, _⟩ := id k.fly
    have out : wpAny (model X.prog X.w) X.A (setFlight (.ref a) X.env.frame) (fun _ s4 => wpAny (model X.prog X.w) X.A (throw (.ref a) : Sem Flow) (SP X pins D) X.xe s4) X.xe s := by
      rw [hf]
      exact HandSPX.setFlight_upZ k.fly fun h4 held u => wpAny_throw (tk _ _ ⟨a, B, sI, pins, σ, H, cls, d, rfl, k.inv, k.ground, k.near.trans u, .inr (.inr (by rw [hs]; exact held)), k.apart, k.world, k.gens, wish⟩)
    refine wpAny_handleBy_nil ?_
    unfold PySem.passOn
    refine wpAny_bind (wpAny_field at_ dat slot1 ?_)
    have notNone : ¬ ((Value.ref T == Value.none) = true) := by simp
    rw [if_neg notNone]
    first | exact wpAny_bind (wpAny_pure (wpAny_bind out)) | exact wpAny_bind out
  | _, _, @HdsA.cons _ _ x c named ts first rest np hp hds l hc suite more, ⟨takes, test, yes, no⟩ => by
    obtain ⟨oe, vs, at_, kind, dat, S⟩ := k.within hf
    have asked : Looks (model X.prog X.w) s.heap (typeOf (.ref a)) cls := fun A Q E s k q => wpAny_typeOf_ref (k _ _ at_) (by rw [kind.1]; exact q)
    have answer := exm_one (M := model X.prog X.w) S.kIn asked test
    have named_ {Q E : Value → Shared → Prop} (q : Q c s) : wpAny (model X.prog X.w) (X.A.mark (some (.ref a))) (eval (.Name x np) X.env) Q E s := by
      obtain ⟨gl, nodebug, stands | ⟨free, boot, noname⟩⟩ := hc
      · exact ld_glob S gl stands q nodebug
      · exact ld_blt S gl free boot q noname nodebug
    refine wpAny_handleBy_cons (codeAny_handlers_test (named_ (answer.here ?_))) (by intro z; cases z)
    cases takes with
    | false => exact handled_by hs hf nd hi loc tk k more (no rfl)
    | true =>
      have asks := yes rfl
      cases named with
      | false =>
        refine codeAny_handlers_suite (HandSPX.lands_againZ k.fly fun h4 f u => ?_)
        obtain ⟨oe4, vs4, _, kind4, dat4, S4⟩ := (k.on f u).within hf
        exact wpAny_mono ((suite a oe4 cls d _ kind4 ⟨vs4, dat4⟩).run [] _ σ H _ S4 (asks a k.apart)) (fun fl s6 z => end_bare k.inv.ok z) fun _ _ z => z.elim
      | true =>
        refine codeAny_handlers_suite_as (HandSPX.lands_againZ k.fly fun h4 f u => ?_)
        obtain ⟨oe4, vs4, _, kind4, dat4, S4⟩ := (k.on f u).within hf
        refine store_ok (X := X.suite a ((a, oe4) :: (X.pn ++ pins))) (v := .ref a) S4 nd hi (.inl loc) rfl (fun s5 S5 => ?_) (.inr loc)
        exact wpAny_mono ((suite a oe4 cls d _ kind4 ⟨vs4, dat4⟩).run [] s5 _ H _ S5 (asks a k.apart)) (fun fl s6 z => end_named k.inv.ok nd hi loc z) fun _ _ z => z.elim
end
theorem ps_try_manyA {X : Cx} {n : Str} {i : Nat} {body : List Stmt} {h0 : ExceptHandler} {hds : List ExceptHandler} {l : HL} {pos : Pos} {tb : WX → TS} {Wout : WX} (hs : X.stack = X.env :: X.outer) (hf : X.env.frame = some X.env.locals) (nd : X.N.Nodup)
    (hi : X.N[i]? = some n) (loc : X.env.kindOf n = some .local) (tk : Takes X Wout) (hb : ∀ (W : WX) (pn : List (Addr × Obj)) (xe : Value → Shared → Prop), Takes (X.tr pn xe) W → PassesOwn (model X.prog X.w) X.A X.env xe → PSs (X.tr pn xe) body (tb W))
    (hh : HdsA X n (h0 :: hds) l) : PS X (.Try body (h0 :: hds) [] [] pos) (fun D σ H => tb (wManyA X.K i Wout D l) D σ H) := by
  refine ⟨fun pins s σ H D I wish => wpAny_Try_except ?_⟩
  have frames : X.A.frames = some (X.env :: X.outer) := hs ▸ I.ok.frames
  let catch_ : Value → Shared → Prop := fun e s1 => wpAny (model X.prog X.w) X.A (noteFrame e X.env) (fun _ s2 => wpAny (model X.prog X.w) X.A (setFlight e none) (fun _ s3 => wpAny (model X.prog X.w) X.A (handleBy e X.env (h0 :: hds)) (SP X pins D) X.xe s3) X.xe s2) X.xe s1
  have caught : Takes (X.tr (X.pn ++ pins) catch_) (wManyA X.K i Wout D l) := fun u s1 ⟨a, B, sI, pins2, σ2, H2, cls, d, eu, J, ground, near, sky, apart, world, gens, asks⟩ => by
    subst eu
    have sky2 : Sky B (X.env :: X.outer) a (Zc cls d) X.env.locals s1.heap := hs ▸ sky
    refine Sky.land Zc.steady frames hf sky2 fun h3 f u => ?_
    have k : Come X pins σ2 H2 cls d a B sI { s1 with heap := h3 } := ⟨J.ofTry I.ok, ground, near.trans u, f, apart, world, gens⟩
    exact handled_by hs hf nd hi loc tk k hh asks
  refine wpAny_mono ((hb _ (X.pn ++ pins) catch_ caught PassesOwn.looking).run [] s σ H D (I.toTry _) wish) (fun fl s1 done => ?_) fun e s1 z => z
  cases fl with
  | next => exact let ⟨σ2, H2, J, q⟩ := done; wpAny_execs_nil ⟨σ2, H2, J.ofTry I.ok, q⟩
  | ret u => exact let ⟨v, σ2, H2, J, r, q⟩ := done; ⟨v, σ2, H2, J.ofTry I.ok, r, q⟩
  | _ => exact let ⟨σ2, H2, J, q⟩ := done; ⟨σ2, H2, J.ofTry I.ok, q⟩
end AxE
set_option Elab.async false
set_option linter.all false
set_option maxRecDepth 100000
set_option maxHeartbeats 400000
/-! AxH: the layer's raise, try, and the call of a def with a lambda. -/
namespace Ax
open PySem PySem.Spec L2
open LamX (CodeO Tabs TabS TabB LamS lamEnv lamCx GivesTo)
variable [TabC]
/-! ### raise -/
def sRaise (c : Nat) (f : SE) : SS := fun env => bindS (f env) fun d e => .ex c [d] e
theorem Step.newH {Z H : Hp} {p : Addr} {o : HO} (s : Sub Z H) (h : H p = none) : Step Z H Z (upd H p o) := ⟨.of (same_upd h), Same.refl _, fun _ _ z => .inl z, s.updH h⟩
theorem q_raise {X : Cx} {C : Kx} {c : Nat} {f p x : Str} {fI : Addr} {e : Expr} {fe : SE} {pn pos pos2 : Pos} (B : AxE.BadC X.K X.prog.main.file (C.G.cls c) fI p f) (hfl : C.G.flds c = [f]) (hs : X.mg "super" = none) (htop : (X.prog.main.scope.names.lookup ("super" : Str)).isSome = false)
    (hr : Room 1 X.A) (tk : Takes X C.W) (hg : Gl X x) (hm : X.mg x = some (.ref (C.G.cls c))) (he : PE X e (tE C fe)) (calm : X.calm = true := by rfl) (ps : (p == ("self" : Str)) = false := by decide) (pd : (p == ("__debug__" : Str)) = false := by decide)
    (hdb : (x == ("__debug__" : Str)) = false := by decide) (hst : starEach [e] X.env = (false, eval e X.env) :: starEach [] X.env := by rfl) (hpl : (backTo pos (starEach [] X.env)).any (·.1) = false := by rfl) :
    PS X (.Raise (some (.Call (.Name x pn) [e] [] pos)) none pos2) (tS C (sRaise c fe)) := by
  refine PS.imp (ps_raise calm tk (AxE.pmk_bad B hs htop ps pd hr hg hm (pl_k he pl_n hst) hdb hst hpl)) fun Dn σ H ⟨Z, env, g, q⟩ => ⟨Z, env, g, ?_⟩
  unfold sRaise at q
  unfold sK sN
  revert q
  generalize fe env = r
  intro q
  cases r with
  | bad => exact q
  | ex c2 p2 e2 => exact fun H' Z' od t g' x => q σ H' Z' od t g' x
  | ok d e2 =>
    intro vs H' Z' t g' rs
    obtain ⟨v, rfl, rv⟩ := reps1 rs
    refine ⟨v, rfl, fun dd nd => q σ _ Z' (some dd) (t.trans (.step (.newH g'.sub nd))) (g'.step (.newH g'.sub nd)) (.inl ⟨dd, [v], rfl, ?_, by rw [hfl]; rfl, .one rv⟩)⟩
    rw [hfl, upd_same]
    rfl
/-! ### try -/
/-- a clause: its class, and what its suite returns: 0 [s, e.f], 1 (s, e.f), 2 [s, None], 3 (s, None), 4 s -/
structure HK where
  c : Nat
  k : Nat
  s : Str
def hOut (h : HK) (p : List D) (e : En) : OS := match h.k, p with
  | 0, [x] => .rto (.lst [.str h.s, x]) e
  | 1, [x] => .rt (.tup [.str h.s, x]) e
  | 2, _ => .rto (.lst [.str h.s, .non]) e
  | 3, _ => .rt (.tup [.str h.s, .non]) e
  | 4, _ => .rt (.str h.s) e
  | _, _ => .bad
def HK.named (h : HK) : Bool := h.k == 0 || h.k == 1
def hTake (i : Nat) : List HK → Nat → List D → En → OS
  | [], c, p, e => .ex c p e
  | h :: hs, c, p, e => if c == h.c then hOut h p (if h.named then e.set i .un else e) else hTake i hs c p e
def sTry (i : Nat) (es : List Nat) (fb : SS) (hs : List HK) : SS := fun env => match fb env with
  | .ex c p e => if es.contains c = true ∧ i < e.length then hTake i hs c p e else .bad
  | r => r
/-- what a clause's suite is, by its kind -/
def hTs (G : GW) (i : Nat) (h : HK) (f : Str) (a : Addr) (cls : Value) (d : Option Addr) : TS := fun D σ H => match h.k with
  | 0 => σ[i]? = some (some (.ref a)) ∧ cls = .ref (G.cls h.c) ∧ ∃ dd fs v, d = some dd ∧ H dd = some (.xd fs) ∧ fs.lookup f = some v ∧ ∀ p, H p = none → D.rt (.ref p) (upd H p (.lst [.str h.s, v]))
  | 1 => σ[i]? = some (some (.ref a)) ∧ cls = .ref (G.cls h.c) ∧ ∃ dd fs v, d = some dd ∧ H dd = some (.xd fs) ∧ fs.lookup f = some v ∧ ∀ p, H p = none → D.rt (.ref p) (upd H p (.tup [.str h.s, v]))
  | 2 => ∀ p, H p = none → D.rt (.ref p) (upd H p (.lst [.str h.s, .non]))
  | 3 => ∀ p, H p = none → D.rt (.ref p) (upd H p (.tup [.str h.s, .non]))
  | 4 => D.rt (.str h.s) H
  | _ => False
theorem two_le : 2 ≤ sizeLine := by rw [sizeLine_eq]; omega
section
variable {X : Cx} {G : GW} {i c : Nat} {f n s : Str} {a : Addr} {cls : Value} {d : Option Addr} {oe : Obj} {pn : List (Addr × Obj)} {j j2 k : Nat} {p1 p2 p3 p4 p5 : Pos}
theorem h_fl (T : XfC X.K (G.cls c)) (no : PySem.W.findIn X.K (.ref (G.cls c)) f = some none) (hz : Zc cls d oe) (hf : ∃ vs, oe.data = .fields vs) (hv : PE (X.suite a ((a, oe) :: pn)) (.Name n p1) (tVar i)) :
    PSs (X.suite a ((a, oe) :: pn)) [.Return (some (.List [.Constant (.str s) j p2, .Attribute (.Name n p1) f p3] p4)) p5] (hTs G i ⟨c, 0, s⟩ f a cls d) :=
  PSs.imp (pss_one (ps_ret (pe_lst (pa_cons pe_str (pa_cons (pe_xf T no hz hf hv) pa_nil))))) fun D σ H ⟨h1, h2, dd, fs, v, h3, h4, h5, q⟩ => ⟨.ref a, h1, rfl, h2, dd, fs, v, h3, h4, h5, two_le, q⟩
theorem h_ft (T : XfC X.K (G.cls c)) (no : PySem.W.findIn X.K (.ref (G.cls c)) f = some none) (hz : Zc cls d oe) (hf : ∃ vs, oe.data = .fields vs) (hv : PE (X.suite a ((a, oe) :: pn)) (.Name n p1) (tVar i)) :
    PSs (X.suite a ((a, oe) :: pn)) [.Return (some (.Tuple [.Constant (.str s) j p2, .Attribute (.Name n p1) f p3] k p4)) p5] (hTs G i ⟨c, 1, s⟩ f a cls d) :=
  PSs.imp (pss_one (ps_ret (pe_tup (pa_cons pe_str (pa_cons (pe_xf T no hz hf hv) pa_nil))))) fun D σ H ⟨h1, h2, dd, fs, v, h3, h4, h5, q⟩ => ⟨.ref a, h1, rfl, h2, dd, fs, v, h3, h4, h5, two_le, q⟩
theorem h_cl : PSs (X.suite a ((a, oe) :: pn)) [.Return (some (.List [.Constant (.str s) j p2, .Constant .none j2 p3] p4)) p5] (hTs G i ⟨c, 2, s⟩ f a cls d) :=
  PSs.imp (pss_one (ps_ret (pe_lst (pa_cons pe_str (pa_cons pe_non pa_nil))))) fun D σ H q => ⟨two_le, q⟩
theorem h_ct : PSs (X.suite a ((a, oe) :: pn)) [.Return (some (.Tuple [.Constant (.str s) j p2, .Constant .none j2 p3] k p4)) p5] (hTs G i ⟨c, 3, s⟩ f a cls d) :=
  PSs.imp (pss_one (ps_ret (pe_tup (pa_cons pe_str (pa_cons pe_non pa_nil))))) fun D σ H q => ⟨two_le, q⟩
theorem h_cs : PSs (X.suite a ((a, oe) :: pn)) [.Return (some (.Constant (.str s) j p2)) p5] (hTs G i ⟨c, 4, s⟩ f a cls d) :=
  PSs.imp (pss_one (ps_ret pe_str)) fun D σ H q => q
end
/-- the clauses of the text -/
inductive HdsH (X : Cx) (G : GW) (n : Str) (i : Nat) : List ExceptHandler → List HK → AxE.HL → Prop
  | nil : HdsH X G n i [] [] []
  | cons {x f : Str} {h : HK} {first : Stmt} {rest : List Stmt} {np hp : Pos} {hds : List ExceptHandler} {hs : List HK} {l : AxE.HL} (hc : Names X x (.ref (G.cls h.c))) (hfl : h.named = true → G.flds h.c = [f])
      (suite : ∀ a oe cls d pn, Zc cls d oe → (∃ vs, oe.data = .fields vs) → PSs (X.suite a ((a, oe) :: pn)) (first :: rest) (hTs G i h f a cls d)) (r : HdsH X G n i hds hs l) :
      HdsH X G n i (.ExceptHandler (some (.Name x np)) (if h.named then some n else none) (first :: rest) hp :: hds) (h :: hs) ((.ref (G.cls h.c), h.named, hTs G i h f) :: l)
theorem HdsH.hds {X : Cx} {G : GW} {n : Str} {i : Nat} : ∀ {hds : List ExceptHandler} {hs : List HK} {l : AxE.HL}, HdsH X G n i hds hs l → AxE.HdsA X n hds l
  | _, _, _, .nil => .nil
  | _, _, _, .cons hc _ suite r => .cons hc suite r.hds
theorem hout_ok {C : Kx} {Dn : Ends} {σ : St} {Z H : Hp} {env : En} {i : Nat} {h : HK} {f : Str} {p : List D} {od : Option Addr} (hi : i < env.length) (g : Gd C.G C.io Z H env σ) (xo : XOb C.G Z H h.c p od) (hfl : h.named = true → C.G.flds h.c = [f])
    (q : WishS C Dn σ Z H env (hOut h p (if h.named then env.set i .un else env))) : AxE.oneA i Dn (hTs C.G i h f) (.ref (C.G.cls h.c)) od σ H h.named := by
  have hl : i < σ.length := by rw [g.len]; exact hi
  have stp : ∀ {pa : Addr} {o : HO} {e' : En} {σ' : St}, Gd C.G C.io Z H e' σ' → Tr Z H env σ Z H e' σ' → H pa = none → Gd C.G C.io Z (upd H pa o) e' σ' ∧ Tr Z H env σ Z (upd H pa o) e' σ' := fun {pa o e' σ'} g t n => ⟨g.step (.newH g.sub n), t.trans (.step (.newH g.sub n))⟩
  obtain ⟨c, k, s⟩ := h
  match k, p with
  | 0, [x] =>
    have hfl : C.G.flds c = [f] := hfl rfl
    rcases xo with ⟨dd, vs, rfl, hd, hn, rp⟩ | ⟨_, hp⟩
    · obtain ⟨v, rfl, rv⟩ := reps1 rp
      rw [hfl] at hd
      refine fun a na => ⟨get_set hl, rfl, dd, _, v, rfl, hd, by simp [List.lookup], fun pa npa => ?_⟩
      obtain ⟨g2, t2⟩ := stp (o := .lst [.str s, v]) (g.setUn (i := i) (v := some (.ref a))) .setUn npa
      exact q pa _ _ _ Z t2 g2 npa (g.setUn (i := i) (v := some (.ref a)) |>.notOwnN npa) (g.sub.free npa) upd_same (.lst (.cons (.str s) (.one rv)))
    · cases hp
  | 1, [x] =>
    have hfl : C.G.flds c = [f] := hfl rfl
    rcases xo with ⟨dd, vs, rfl, hd, hn, rp⟩ | ⟨_, hp⟩
    · obtain ⟨v, rfl, rv⟩ := reps1 rp
      rw [hfl] at hd
      refine fun a na => ⟨get_set hl, rfl, dd, _, v, rfl, hd, by simp [List.lookup], fun pa npa => ?_⟩
      have st := Step.new (o := .tup [.str s, v]) g.sub npa
      have g2 := (g.setUn (i := i) (v := some (.ref a))).step st
      exact q _ _ _ _ (Tr.setUn.trans (.step st)) g2 (.tup upd_same (.cons (.str s) (.one (rv.mono st.fz))))
    · cases hp
  | 2, p =>
    refine fun a na pa npa => ?_
    obtain ⟨g2, t2⟩ := stp (o := .lst [.str s, .non]) g .refl npa
    exact q pa _ _ _ Z t2 g2 npa (g.notOwnN npa) (g.sub.free npa) upd_same (.lst (.cons (.str s) (.one .non)))
  | 3, p =>
    refine fun a na pa npa => ?_
    have st := Step.new (o := .tup [.str s, .non]) g.sub npa
    exact q _ _ _ _ (.step st) (g.step st) (.tup upd_same (.cons (.str s) (.one .non)))
  | 4, p => exact fun a na => q _ _ _ Z .refl g (.str s)
  | 0, [] => exact q.elim
  | 0, _ :: _ :: _ => exact q.elim
  | 1, [] => exact q.elim
  | 1, _ :: _ :: _ => exact q.elim
  | _ + 5, _ => exact q.elim
theorem htake_ok {X : Cx} {C : Kx} {Dn : Ends} {σ : St} {Z H : Hp} {env : En} {n : Str} {i c : Nat} {p : List D} {od : Option Addr} (hi : i < env.length) (g : Gd C.G C.io Z H env σ) (xo : XOb C.G Z H c p od) :
    ∀ {hds : List ExceptHandler} {hs : List HK} {l : AxE.HL}, HdsH X C.G n i hds hs l → (∀ h ∈ hs, PySem.W.exmOne X.K (.ref (C.G.cls c)) (.ref (C.G.cls h.c)) = some (c == h.c)) → WishS C Dn σ Z H env (hTake i hs c p env) → AxE.wManyA X.K i C.W Dn l (.ref (C.G.cls c)) od σ H
  | _, _, _, .nil, _, q => q σ H Z od .refl g xo
  | _, _, _, @HdsH.cons _ _ _ _ x f h first rest np hp hds hs l hc hfl suite r, ex, q => by
    refine ⟨c == h.c, ex h List.mem_cons_self, fun e => ?_, fun e => ?_⟩
    · rw [hTake, if_pos e] at q
      have e' : c = h.c := beq_iff_eq.mp e
      subst e'
      exact hout_ok hi g xo hfl q
    · rw [hTake, if_neg (by rw [e]; decide)] at q
      exact htake_ok hi g xo r (fun h' hm => ex h' (List.mem_cons_of_mem _ hm)) q
theorem q_try {X : Cx} {C : Kx} {n : Str} {i N : Nat} {es : List Nat} {body : List Stmt} {h0 : ExceptHandler} {hds : List ExceptHandler} {hs : List HK} {l : AxE.HL} {pos : Pos} {fb : SS} (hst : X.stack = X.env :: X.outer) (hf : X.env.frame = some X.env.locals) (nd : X.N.Nodup)
    (hi : X.N[i]? = some n) (loc : X.env.kindOf n = some .local) (tk : Takes X C.W) (hb : ∀ (W : WX) (pn : List (Addr × Obj)) (xe : Value → Shared → Prop), Takes (X.tr pn xe) W → PSs (X.tr pn xe) body (tS { C with W := W } fb))
    (hh : HdsH X C.G n i (h0 :: hds) hs l) (ex : ∀ c ∈ es, ∀ h ∈ hs, PySem.W.exmOne X.K (.ref (C.G.cls c)) (.ref (C.G.cls h.c)) = some (c == h.c)) :
    PS X (.Try body (h0 :: hds) [] [] pos) (tS C (sTry i es fb hs)) := by
  refine PS.imp (AxE.ps_try_manyA hst hf nd hi loc tk (fun W pn xe t _ => hb W pn xe t) hh.hds) fun Dn σ H w => ?_
  obtain ⟨Z, env, g, q⟩ := w
  refine ⟨Z, env, g, ?_⟩
  unfold sTry at q
  revert q
  generalize fb env = r
  intro q
  cases r with
  | ex c p e =>
    intro σ' H' Z' od t g' xo
    replace q : WishS C Dn σ Z H env (if es.contains c = true ∧ i < e.length then hTake i hs c p e else .bad) := q
    split at q
    · rename_i hc
      exact htake_ok (C := C) hc.2 g' xo hh (ex c (List.contains_iff_mem.mp hc.1)) (WishS.shift (C := C) t q)
    · exact q.elim
  | _ => exact q
/-! ### the call of a def with a lambda -/
section
variable {X : Cx} {pins : List (Addr × Obj)} {σ : St}
variable {H : Hp} {s : Shared}
/-- a lambda is made: but for the tables all stays -/
theorem lam_new {T : List (Addr × Str)} {c P : Addr} {params : Arguments} {body : Expr} {scope : Scope} {pos : Pos} {E : Value → Shared → Prop} {Q : Value → Shared → Prop} (I : Inv X pins σ H s) (B : TabB X.base X.mg c P) (code : X.env.code = .ref c)
    (mine : (P, X.env.qual ++ "<lambda>") ∈ T) (alone : ∀ p ∈ T, p.1 = P → p.2 = X.env.qual ++ "<lambda>") (tabs : Tabs T H) (plain : defaultsOf params X.env = ([], [])) (free : ∀ y ∈ scope.names, y.2 = .free → ∃ c, X.env.cells.lookup y.1 = some c)
    (q : ∀ (f c2 : Addr) (pm ct : Value) (H2 : Hp) (s2 : Shared), Inv X pins σ H2 s2 → Kp H H2 → Tabs T H2 → s2.heap.get? f = some (PySem.W.kla_obj "<lambda>" (X.env.qual ++ "<lambda>") params body scope (cloFrom X.env.cells scope.names []) pm c2 ct) →
      H2 f = none → f ∉ frs X.stack → H2 c2 = some (CodeO c2 (X.env.qual ++ "<lambda>")) → Q (.ref f) s2) : wpAny (model X.prog X.w) X.A (eval (.Lambda params body scope pos) X.env) Q E s := by
  obtain ⟨ps, hP, triples, codes⟩ := tabs _ mine
  have tab : s.heap.get? P = some { cls := .none, data := .fields ps } := (show ObjOk X.prog X.w H s.heap P (.tbl ps) from I.hok P _ hP)
  have beyond {f : Addr} (big : s.heap.objs.size ≤ f) : f ∉ frs X.stack := fun m => by
    rcases List.mem_cons.mp (I.stkSub _ m) with here | there
    · subst here; exact absurd I.lt (Nat.not_lt.mpr big)
    · exact I.nofs big there
  have clo := closure_ok (env := X.env) free
  have globs := I.mod.glob.keeps I.bk
  refine PySem.W.kla_eval plain ?_
  rcases known : codeAmong pos ps.toList with _ | cv
  · refine PySem.W.kla_makeFunction (mg := X.mg) clo I.ok.glob globs code (B.code.keeps I.bk) tab triples known B.gP (B.bm.keeps I.bk) fun c2 ct h2 tk ext new lt ⟨c3, oc, vs, t, e3, at3, dat, nm⟩ grown => ?_
    cases e3
    have nc : H c2 = none := I.hok.fresh new
    have big : s.heap.objs.size ≤ h2.objs.size := Nat.le_trans new (Nat.le_of_lt lt)
    have push {b : Addr} {o fo : Obj} (z : h2.get? b = some o) : (h2.push fo).get? b = some o := Heap.get?_push_of_some _ z
    have J := LamX.inv_table (q := X.env.qual ++ "<lambda>") (t' := tk) (more := #[rawInt pos.line, rawInt pos.col, .ref c2]) (h' := h2.push (PySem.W.kla_obj "<lambda>" (X.env.qual ++ "<lambda>") params body scope (cloFrom X.env.cells scope.names []) ((X.mg "__name__").getD .none) c2 ct)) I hP
      (fun b o ne z => push (ext b o ne z)) (push grown) new ⟨oc, vs, t, push at3, dat, nm⟩
    have PneC : P ≠ c2 := ne_of_none hP nc
    -- but for the table nothing changes
    have keep : Kp H (upd (upd H P (.tbl (ps ++ #[rawInt pos.line, rawInt pos.col, .ref c2]))) c2 (CodeO c2 (X.env.qual ++ "<lambda>"))) := by
      refine ⟨fun b o z nt => ?_, fun b z => ?_⟩
      · rw [upd_ne (ne_of_none z nc), upd_ne (fun e => nt ps (by rw [e, hP] at z; exact (Option.some.inj z).symm))]
        exact z
      · by_cases e1 : b = c2
        · rw [e1]; exact nc
        · rw [upd_ne e1] at z
          by_cases e2 : b = P
          · rw [e2, upd_same] at z; cases z
          · rw [upd_ne e2] at z; exact z
    have codeK {b : Addr} (z : H b = some (CodeO b (X.env.qual ++ "<lambda>"))) := keep.k b _ z (fun ps' => LamX.codeO_ne ps')
    refine q h2.objs.size c2 _ ct _ _ J keep (fun p hp => ?_) (Heap.get?_push_size _ rfl) ?_ (beyond big) upd_same
    · by_cases e : p.1 = P
      · rw [alone p hp e, e]
        refine ⟨_, by rw [upd_ne PneC, upd_same], ?_, fun pos2 cv hcv => ?_⟩
        · rw [Array.toList_append]; exact PySem.TriplesOk_snoc _ _ _ _ triples
        · rw [Array.toList_append] at hcv
          rcases LamX.among_app _ triples hcv with old | rfl
          · obtain ⟨c4, e4, z4⟩ := codes pos2 cv old
            exact ⟨c4, e4, codeK z4⟩
          · exact ⟨c2, rfl, upd_same⟩
      · obtain ⟨ps2, at2, tr2, co2⟩ := tabs p hp
        refine ⟨ps2, by rw [upd_ne (ne_of_none at2 nc), upd_ne e]; exact at2, tr2, fun pos2 cv hcv => ?_⟩
        obtain ⟨c4, e4, z4⟩ := co2 pos2 cv hcv
        exact ⟨c4, e4, keep.k _ _ z4 fun ps' => LamX.codeO_ne ps'⟩
    · have ltP : P < h2.objs.size := Nat.lt_of_lt_of_le (Heap.lt_size tab) big
      rw [upd_ne (Nat.ne_of_gt lt), upd_ne (Nat.ne_of_gt ltP)]
      exact I.hok.fresh big
  · obtain ⟨c2, rfl, z2⟩ := codes pos cv known
    refine PySem.W.kla_makeFunctionHit (mg := X.mg) clo I.ok.glob globs code (B.code.keeps I.bk) tab triples known (B.bm.keeps I.bk) fun ct h2 tk ext big => ?_
    exact q h2.objs.size c2 _ ct H _ (I.kept fun b o z => Heap.get?_push_of_some _ (ext b o z)) .refl tabs (Heap.get?_push_size _ rfl) (I.hok.fresh big) (beyond big) z2
end
/-- the context of a def that got a lambda -/
abbrev metCx (X : Cx) (Ng : List Str) (x : Str) (sg : Scope) (g : Addr) (cdg : Value) (s : Shared) (H : Hp) : Cx := cxOf C8.CX0 X.prog X.w X.K X.mg X.base Ng x sg g cdg X.A X.stack s H C8.E0
section
variable {X : Cx} {pins : List (Addr × Obj)} {σ : St} {H H2 : Hp} {s s2 : Shared} {k : Nat} {f c2 : Addr} {pm ct : Value} {params : Arguments} {body : Expr} {scope : Scope}
/-- the lambda runs, called from the frames A, outer -/
theorem lam_run {A : Around} {outer : List Env} {E : XK} {tb : TE} {Q : VK} (I : Inv X pins σ H s) (L : LamS X.env.scope scope) (made : s2.heap.get? f = some (PySem.W.kla_obj "<lambda>" (X.env.qual ++ "<lambda>") params body scope (cloFrom X.env.cells scope.names []) pm c2 ct))
    (coded : s2.heap.CodeRec (.ref c2) (X.env.qual ++ "<lambda>")) (nobinds : bindArgs (PySem.W.kla_fn "<lambda>" (X.env.qual ++ "<lambda>") params body scope (cloFrom X.env.cells scope.names []) pm (.ref c2) ct) ⟨[], []⟩ = pure []) (room : Room (k + 1) A)
    (e0 : Env0 X.prog X.w X.K X.mg X.base A outer s2 H2) (un : Un (frs X.stack) [] H H2 s.heap s2.heap) (free : s2.heap.NoLimit) (walk : Room k (A.deeper (lamEnv X scope s2.heap.objs.size f c2)) → PE (lamCx X A outer s2 H2 E scope f c2) body tb) (wish : tb σ H2 Q) :
    codeAny (model X.prog X.w) A (.call (.ref f) ⟨[], []⟩) (CR (L2.CX X.prog X.w) outer X.prog X.w H2 s2 Q E) s2 := by
  refine PySem.W.kla_callFunE room.depth made rfl L.co L.gen rfl coded (nobinds ▸ wpAny_pure ?_)
  refine wpAny_newFunctionEnv (fun y m => (L.own y m).2) (fun y m => nomatch m) (fun h3 ns sb => ⟨free.fresh _ sb, ?_⟩) L.kind
  have keep {b : Addr} {o : Obj} (z : s2.heap.get? b = some o) : h3.get? b = some o := sb.extBut b o (Nat.ne_of_lt (Heap.lt_size z)) (Heap.get?_push_of_some _ z)
  have J := LamX.lam_start2 (E := E) (tk := s2.toks + ([] : List (Str × Value)).length) (c' := c2) (f := f) I L e0 room.hd un ns (fun b o z => keep z)
  refine PySem.W.kla_codeExpr (wpAny_mono ((walk (room.deeper _)).run [] _ σ H2 Q J wish) (fun v s3 ⟨u, H3, J3, rv, q⟩ => ?_) fun _ _ z => z)
  exact ⟨u, H3, J3.os, J3.bare, J3.base, J3.hok, rv, q⟩
/-- a(), a the parameter that holds the lambda -/
theorem lam_called {Ng : List Str} {x a : Str} {sg : Scope} {g : Addr} {cdg : Value} {pn : List (Addr × Obj)} {xe : Value → Shared → Prop} {W : WX} {t : XK → TE} {p1 p2 : Pos} (I : Inv X pins σ H s) (L : LamS X.env.scope scope)
    (made : s.heap.get? f = some (PySem.W.kla_obj "<lambda>" (X.env.qual ++ "<lambda>") params body scope (cloFrom X.env.cells scope.names []) pm c2 ct)) (nf : H f = none) (apart : f ∉ frs X.stack)
    (nobinds : bindArgs (PySem.W.kla_fn "<lambda>" (X.env.qual ++ "<lambda>") params body scope (cloFrom X.env.cells scope.names []) pm (.ref c2) ct) ⟨[], []⟩ = pure []) (tk : Takes ((metCx X Ng x sg g cdg s H).tr pn xe) W) (room : Room (k + 1) (X.A.deeper (PyProof.Rows.envOfC x sg s.heap.objs.size g cdg)))
    (walk : ∀ (A : Around) (outer : List Env) (s : Shared) (H : Hp) (E : XK), Room k (A.deeper (lamEnv X scope s.heap.objs.size f c2)) → PE (lamCx X A outer s H E scope f c2) body (t E)) (first : Ng[0]? = some a) (vis : Vis sg a) (d2 : (a == ("__debug__" : Str)) = false) (d3 : (a == ("__classdict__" : Str)) = false) :
    PE ((metCx X Ng x sg g cdg s H).tr pn xe) (.Call (.Name a p1) [] [] p2) (fun σZ HZ Q => σZ[0]? = some (some (.ref f)) ∧ HZ c2 = some (CodeO c2 (X.env.qual ++ "<lambda>")) ∧ t (fun cls d H' => W cls d σZ H') σ HZ Q) := by
  refine ⟨fun pz sz σZ HZ Q IZ ⟨slot, coded, wish⟩ => wpAny_Call_Name_kw (thn ((pe_var (i := 0) first vis d2 d3).run pz sz σZ HZ (fun v H3 => v = .ref f ∧ H3 = HZ) IZ ⟨_, slot, rfl, rfl⟩) fun u s2 ⟨v, H3, I2, ru, ev, eH⟩ => ?_)⟩
  subst ev eH
  have eu : u = Value.ref f := ru
  subst eu
  have made2 := I2.base.keep f _ made nf apart (fun m => nomatch (show f ∈ ([] : List Addr) from m))
  obtain ⟨⟨oc, vs, tok, at_, dat, nm⟩, _⟩ := (I2.hok c2 _ coded : ObjOk X.prog X.w H3 s2.heap c2 (CodeO c2 (X.env.qual ++ "<lambda>")))
  have ran := lam_run (X := X) (E := fun cls d H' => W cls d σZ H') (tb := t fun cls d H' => W cls d σZ H') I L made2 ⟨c2, oc, vs, tok, rfl, at_, dat, nm⟩ nobinds room I2.env0 I2.base I2.nolimit (fun r => walk _ _ s2 H3 _ r) wish
  refine PySem.W.callWith_F0 ⟨_, _, _, _, made2⟩ (wpAny_call (codeAny_mono ran fun r s3 ended => ?_))
  match r, ended with
  | .ok (.ret _), back => exact I2.after back
  | .ok .next, no => exact no.elim
  | .ok .brk, no => exact no.elim
  | .ok .cont, no => exact no.elim
  | .error e, out => exact passAt tk σZ pz H3 s2 e s3 I2 out
end
/-- what the body of a def makes of the lambda that it is handed -/
def GivesK (X : Cx) (Ng : List Str) (x : Str) (sg : Scope) (g : Addr) (cdg : Value) (bg : List Stmt) (a q : Str) (TT : (XK → Hp → VK → Prop) → Hp → VK → Prop) : Prop := ∀ (f c2 : Addr) (s : Shared) (H : Hp) (Q : VK) (tl : XK → Hp → VK → Prop),
  (∀ (W : WX) (pn : List (Addr × Obj)) (xe : Value → Shared → Prop) (p1 p2 : Pos), Takes ((metCx X Ng x sg g cdg s H).tr pn xe) W → PE ((metCx X Ng x sg g cdg s H).tr pn xe) (.Call (.Name a p1) [] [] p2) (fun σZ HZ Q => σZ[0]? = some (some (.ref f)) ∧ HZ c2 = some (CodeO c2 q) ∧ tl (fun cls d H' => W cls d σZ H') HZ Q)) →
  H c2 = some (CodeO c2 q) → TT tl H Q → ∃ t, PSs (metCx X Ng x sg g cdg s H).nox bg t ∧ t { nx := fun _ H' => Q .non H', rt := Q } (L2.start Ng [.ref f]) H
/-- x(lambda: body): what TT makes of the body's reading, from a heap in which but for the tables all stays -/
def tLamK (T : List (Addr × Str)) (TT : (XK → Hp → VK → Prop) → Hp → VK → Prop) (t : XK → TE) : TE := fun σ H Q => Tabs T H ∧ ∀ H2, Kp H H2 → Tabs T H2 → TT (fun E H3 Q3 => t E σ H3 Q3) H2 Q
theorem pe_lamK {X : Cx} {T : List (Addr × Str)} {TT : (XK → Hp → VK → Prop) → Hp → VK → Prop} {x a : Str} {g c P : Addr} {k : Nat} {pg : Arguments} {bg : List Stmt} {sg : Scope} {dV kV doc pm cdv ct oc : Value} {an od : Option Addr} {osl : Array (Option Value)} {Ng : List Str}
    {params : Arguments} {body : Expr} {scope : Scope} {t : XK → TE} {p lpos pos : Pos} (gl : Gl X x) (is : X.mg x = some (.ref g)) (kp : PySem.W.keepIn X.K (.ref g) = true) (lk : X.K.lookup g = some ⟨oc, od, .func (PySem.W.fnOf x x pg bg sg dV kV doc pm an cdv ct), osl⟩)
    (cod : PySem.W.codeIn X.K cdv x = true) (binds : Binds X.K (PySem.W.fnOf x x pg bg sg dV kV doc pm an cdv ct) [a] []) (Sg : FnScope Ng [a] sg) (first : Ng[0]? = some a) (vis : Vis sg a) (gives : GivesK X Ng x sg g cdv bg a (X.env.qual ++ "<lambda>") TT) (B : TabB X.base X.mg c P) (code : X.env.code = .ref c)
    (mine : (P, X.env.qual ++ "<lambda>") ∈ T) (alone : ∀ p ∈ T, p.1 = P → p.2 = X.env.qual ++ "<lambda>") (room : Room (k + 2) X.A) (L : LamS X.env.scope scope) (plain : defaultsOf params X.env = ([], []))
    (nobinds : ∀ (q : Str) (cl : List (Str × Addr)) (pm cv ctv : Value), bindArgs (PySem.W.kla_fn "<lambda>" q params body scope cl pm cv ctv) ⟨[], []⟩ = pure [])
    (walk : ∀ (A : Around) (outer : List Env) (s : Shared) (H : Hp) (E : XK) (f c2 : Addr), Room k (A.deeper (lamEnv X scope s.heap.objs.size f c2)) → PE (lamCx X A outer s H E scope f c2) body (t E))
    (d1 : (x == ("__debug__" : Str)) = false := by decide) (d2 : (a == ("__debug__" : Str)) = false := by decide) (d3 : (a == ("__classdict__" : Str)) = false := by decide) : PE X (.Call (.Name x p) [.Lambda params body scope lpos] [] pos) (tLamK T TT t) := by
  refine ⟨fun pins s σ H Q I ⟨tabs, wish⟩ => wpAny_Call_Name_kw (ld_glob I gl is (PySem.W.callWith_K (h₀ := X.base) I.ok.mod.kin kp ?_ (by rfl) (by rfl)) d1)⟩
  refine PySem.Calls.spliced_cons (lam_new I B code mine alone tabs plain (L.has I.ok) fun f c2 pm2 ct2 H2 s2 I2 keep tabs2 made nf apart is2 => PySem.Calls.spliced_nil ⟨I2.kIn, ?_⟩)
  have run : codeAny (model X.prog X.w) X.A (.call (.ref g) ⟨[.ref f], []⟩) (CR C8.CX0 X.stack X.prog X.w H2 s2 Q C8.E0) s2 :=
    LamX.run_ofS (us := [.ref f]) (vs := [.ref f]) lk cod Sg room I2.env0 (binds s2 [.ref f] I2.kIn rfl) (.cons rfl .nil) rfl fun r2 => by
      obtain ⟨tb, hb, q⟩ := gives f c2 s2 H2 Q (fun E H3 Q3 => t E σ H3 Q3) (fun W pn xe p1 p2 tk => lam_called (t := t) I2 L made nf apart (nobinds _ _ _ _ _) tk r2 (fun A outer s H E r3 => walk A outer s H E f c2 r3) first vis d2 d3) is2 (wish H2 keep tabs2)
      exact ⟨tb, hb.nox, q⟩
  refine wpAny_call (codeAny_mono run fun r s3 ended => ?_)
  match r, ended with
  | .ok (.ret u), back => exact I2.after back
  | .ok .next, no => exact no.elim
  | .ok .brk, no => exact no.elim
  | .ok .cont, no => exact no.elim
  | .error e, no => exact no.elim
end Ax
set_option Elab.async false
set_option linter.all false
set_option maxRecDepth 100000
set_option maxHeartbeats 400000
/-! AxL: a def that calls the lambda it is handed, once. -/
namespace Ax
open PySem PySem.Spec L2
open LamX (CodeO Tabs TabS TabB LamS lamEnv lamCx GivesTo)
/-! ### another table -/
section
variable [T0 : TabC] {t1 : List (Addr × Str)} {x1 : Option V} {z1 : Hp} {G : GW} {Z : Hp}
abbrev Tm (t1 : List (Addr × Str)) (x1 : Option V) (z1 : Hp) : TabC := TabC.mk t1 T0.m x1 z1
mutual
theorem Rep.tab : ∀ {v : V} {d : D}, Rep G Z v d → @Rep (Tm t1 x1 z1) G Z v d
  | _, _, .non => @Rep.non (Tm t1 x1 z1) G Z
  | _, _, .bl b => @Rep.bl (Tm t1 x1 z1) G Z b
  | _, _, .int i => @Rep.int (Tm t1 x1 z1) G Z i
  | _, _, .str s => @Rep.str (Tm t1 x1 z1) G Z s
  | _, _, .ty n => @Rep.ty (Tm t1 x1 z1) G Z n
  | _, _, .cl c k => @Rep.cl (Tm t1 x1 z1) G Z c k
  | _, _, .fn i k => @Rep.fn (Tm t1 x1 z1) G Z i k
  | _, _, .tup h r => @Rep.tup (Tm t1 x1 z1) G Z _ _ _ h (Reps.tab r)
  | _, _, .lst h u r => @Rep.lst (Tm t1 x1 z1) G Z _ _ _ h u (Reps.tab r)
  | _, _, .mk h u r => @Rep.mk (Tm t1 x1 z1) G Z _ _ _ _ h u (Reps.tab r)
  | _, _, .dic h l r => @Rep.dic (Tm t1 x1 z1) G Z _ _ _ _ _ h l (Reps.tab r)
  | _, _, .frl h u r => @Rep.frl (Tm t1 x1 z1) G Z _ _ _ h u (Reps.tab r)
  | _, _, .obj k h n r => @Rep.obj (Tm t1 x1 z1) G Z _ _ _ _ _ k h n (Reps.tab r)
theorem Reps.tab : ∀ {vs : List V} {ds : List D}, Reps G Z vs ds → @Reps (Tm t1 x1 z1) G Z vs ds
  | _, _, .nil => @Reps.nil (Tm t1 x1 z1) G Z
  | _, _, .cons h r => @Reps.cons (Tm t1 x1 z1) G Z _ _ _ _ (Rep.tab h) (Reps.tab r)
end
theorem Rep.unt {v : V} {d : D} (h : @Rep (Tm t1 x1 z1) G Z v d) : Rep G Z v d := @Rep.tab (Tm t1 x1 z1) T0.T T0.fx T0.zb G Z v d h
theorem Reps.unt {v : List V} {d : List D} (h : @Reps (Tm t1 x1 z1) G Z v d) : Reps G Z v d := @Reps.tab (Tm t1 x1 z1) T0.T T0.fx T0.zb G Z v d h
end
/-! ### a part of the frozen heap -/
/-- Z' but at c, where it is Z -/
def without (Z Z' : Hp) (c : Addr) : Hp := fun b => if b = c then Z b else Z' b
/-- at c stands nothing that a value is made of -/
def Odd (Z : Hp) (c : Addr) : Prop := ∀ o, Z c = some o → ∃ φ, o = .ext φ
theorem odd_of {Z H : Hp} {c : Addr} {q : Str} (s : Same Z H) (h : H c = some (CodeO c q)) : Odd Z c := fun o e => by
  have := s _ _ e
  rw [h] at this
  cases this
  exact ⟨_, rfl⟩
section
variable [TabC] {G : GW} {Z Z' : Hp} {c : Addr}
theorem without_ne {b : Addr} (h : b ≠ c) : without Z Z' c b = Z' b := if_neg h
theorem Odd.ne {b : Addr} {o : HO} (h : Odd Z' c) (e : Z' b = some o) (n : ∀ φ, o ≠ .ext φ) : b ≠ c := fun q => by
  rw [q] at e
  obtain ⟨φ, z⟩ := h o e
  exact n φ z
theorem wo {b : Addr} {o : HO} (h : Odd Z' c) (e : Z' b = some o) (n : ∀ φ, o ≠ .ext φ) : without Z Z' c b = some o := by rw [without_ne (h.ne e n)]; exact e
mutual
theorem Rep.wo (h : Odd Z' c) : ∀ {v : V} {d : D}, Rep G Z' v d → Rep G (without Z Z' c) v d
  | _, _, .non => .non
  | _, _, .bl b => .bl b
  | _, _, .int i => .int i
  | _, _, .str s => .str s
  | _, _, .ty n => .ty n
  | _, _, .cl c k => .cl c k
  | _, _, .fn i k => .fn i k
  | _, _, .tup e r => .tup (Ax.wo h e fun _ q => by cases q) (Reps.wo h r)
  | _, _, .lst e u r => .lst (Ax.wo h e fun _ q => by cases q) u (Reps.wo h r)
  | _, _, .mk e u r => .mk (Ax.wo h e fun _ q => by cases q) u (Reps.wo h r)
  | _, _, .dic e l r => .dic (Ax.wo h e fun _ q => by cases q) l (Reps.wo h r)
  | _, _, .frl e u r => .frl (by
      rcases e with (e | ⟨o, e⟩) | e
      · exact .inl (.inl (Ax.wo h e fun _ q => by cases q))
      · exact .inl (.inr ⟨o, Ax.wo h e fun _ q => by cases q⟩)
      · exact .inr e) u (Reps.wo h r)
  | _, _, .obj k e n r => .obj k (Ax.wo h e fun _ q => by cases q) n (Reps.wo h r)
theorem Reps.wo (h : Odd Z' c) : ∀ {vs : List V} {ds : List D}, Reps G Z' vs ds → Reps G (without Z Z' c) vs ds
  | _, _, .nil => .nil
  | _, _, .cons a r => .cons (Rep.wo h a) (Reps.wo h r)
end
end
/-! ### meanings -/
/-- the call of the lambda: what comes of it is r -/
def sThunk (r : RS) : SE := fun env => match env[0]? with
  | some SV.fx => (match r with
    | .ok d _ => .ok d env
    | .ex c p _ => .ex c p env
    | .bad => .bad)
  | _ => .bad
def runL (N : Nat) (f : RS → SS) : RS → RS := fun r => match f r (SV.fx :: env0 (N - 1) []) with
  | .nx _ => .ok .non nil0
  | .rt d _ => .ok d nil0
  | .rto o _ => (match o.fz with | some d => .ok d nil0 | none => .bad)
  | _ => .bad
section
variable [T0 : TabC]
def ThW (G : GW) (E : XK) (Z1 H1 : Hp) (r : RS) (Q : VK) : Prop := match r with
  | .ok d _ => ∀ v H' Z', Step Z1 H1 Z' H' → Rep G Z' v d → Q v H'
  | .ex c p _ => ∀ H' Z' od, Step Z1 H1 Z' H' → XOb G Z' H' c p od → E (.ref (G.cls c)) od H'
  | .bad => False
def TTm (G : GW) (F : RS → RS) : (XK → Hp → VK → Prop) → Hp → VK → Prop := fun tl H Q => ∃ Z r, Sub Z H ∧ (∀ E Z1 H1 Q1, Same Z Z1 → Sub Z1 H1 → ThW G E Z1 H1 r Q1 → tl E H1 Q1) ∧ match F r with
  | .ok d _ => ∀ v H' Z', Step Z H Z' H' → Rep G Z' v d → Q v H'
  | _ => False
/-- the table within the def that got the lambda f with its code object at c -/
abbrev tabL (f : Addr) (zb : Hp) : TabC := Tm T0.T (some (.ref f)) zb
theorem Sub.parts {Z H : Hp} (s : Sub Z H) : Same Z H ∧ (∀ n a, T0.m n = some a → ∃ vs, Z a = some (.lst vs)) ∧ Same T0.zb Z ∧ (∀ a ps, Z a ≠ some (.tbl ps)) ∧ Tabs T0.T H := ⟨s.s, s.ml.1, s.ml.2, s.nt, s.tb⟩
theorem Tr.parts {Z H Z2 H2 : Hp} {env e2 : En} {σ σ2 : St} (t : Tr Z H env σ Z2 H2 e2 σ2) : (∀ a o, H a = some o → ¬ Own env σ a → (∀ ps, o ≠ .tbl ps) → H2 a = some o) ∧ (∀ a o, Z2 a = some o → Z a = some o ∨ H a = none ∨ Own env σ a) ∧ ∀ a, H2 a = none → H a = none := ⟨t.keep, t.nw, t.dom⟩
theorem Gd.parts {G : GW} {io : Option Addr} {Z H : Hp} {env : En} {σ : St} (g : Gd G io Z H env σ) : Sub Z H ∧ ∀ i : Nat, env[i]? = some SV.fx → ∃ v, T0.fx = some v ∧ σ[i]? = some (some v) := ⟨g.sub, g.fx⟩
theorem met_gives {X : Cx} {G : GW} {Ng : List Str} {x : Str} {sg : Scope} {g : Addr} {cdg : Value} {bg : List Stmt} {a q : Str} {sf : RS → SS} (hN : 0 < Ng.length)
    (hbody : ∀ (T1 : TabC), T1.T = T0.T → ∀ (s : Shared) (H : Hp) (r : RS), (∀ (W : WX) (pn : List (Addr × Obj)) (xe : Value → Shared → Prop) (p1 p2 : Pos), Takes ((metCx X Ng x sg g cdg s H).tr pn xe) W → PE ((metCx X Ng x sg g cdg s H).tr pn xe) (.Call (.Name a p1) [] [] p2) (@tE T1 ⟨G, none, W⟩ (sThunk r))) →
      PSs (metCx X Ng x sg g cdg s H).nox bg (@tS T1 ⟨G, none, fun _ _ _ _ => False⟩ (sf r))) : GivesK X Ng x sg g cdg bg a q (TTm G (runL Ng.length sf)) := by
  intro f c s H Q tl act hc ⟨Z, r, sub, th, hF⟩
  let zb : Hp := upd Z c (CodeO c q)
  have sameZ : Same Z zb := fun b o e => by
    by_cases h : b = c
    · subst h
      have := sub.s _ _ e
      rw [hc] at this
      cases this
      exact upd_same
    · show upd Z c _ b = some o
      rw [upd_ne h]; exact e
  have zbH : Same zb H := fun b o e => by
    by_cases h : b = c
    · subst h
      have e' : upd Z b (CodeO b q) b = some o := e
      rw [upd_same] at e'
      cases e'
      exact hc
    · have e' : upd Z c (CodeO c q) b = some o := e
      rw [upd_ne h] at e'
      exact sub.s _ _ e'
  have sub1 : @Sub (tabL f zb) zb H := by
    refine @Sub.mk (tabL f zb) zb H zbH ⟨fun n b e => ?_, Same.refl zb⟩ (fun b ps e => ?_) sub.tb
    · obtain ⟨vs, z⟩ := sub.ml.1 n b e
      exact ⟨vs, sameZ _ _ z⟩
    · by_cases h : b = c
      · subst h
        have e' : upd Z b (CodeO b q) b = some (.tbl ps) := e
        rw [upd_same] at e'
        exact LamX.codeO_ne ps (Option.some.inj e')
      · have e' : upd Z c (CodeO c q) b = some (.tbl ps) := e
        rw [upd_ne h] at e'
        exact sub.nt _ _ e'
  -- back from the table within
  have out : ∀ {Z2 H2 : Hp}, @Sub (tabL f zb) Z2 H2 → Same Z (without Z Z2 c) ∧ Sub (without Z Z2 c) H2 ∧ Odd Z2 c := fun {Z2 H2} s2 => by
    obtain ⟨p1, p2, p3, p4, p5⟩ := @Sub.parts (tabL f zb) _ _ s2
    have od : Odd Z2 c := fun o e => by
      have z := p3 _ _ (upd_same : upd Z c (CodeO c q) c = _)
      rw [z] at e
      cases e
      exact ⟨_, rfl⟩
    have zz : Same Z Z2 := sameZ.trans p3
    have sw : Same Z (without Z Z2 c) := fun b o e => by
      unfold without
      split
      · exact e
      · exact zz _ _ e
    refine ⟨sw, ⟨fun b o e => ?_, ⟨fun n b e => ?_, sub.ml.2.trans sw⟩, fun b ps e => ?_, p5⟩, od⟩
    · unfold without at e
      split at e
      · exact p1 _ _ (zz _ _ e)
      · exact p1 _ _ e
    · obtain ⟨vs, z⟩ := p2 n b e
      exact ⟨vs, Ax.wo od z fun _ y => by cases y⟩
    · unfold without at e
      split at e
      · exact sub.nt _ _ e
      · exact p4 _ _ e
  refine ⟨_, hbody (tabL f zb) rfl s H r fun W pn xe p1 p2 tk => PE.imp (act W pn xe p1 p2 tk) fun σZ HZ QZ hh => ?_, ?_⟩
  · obtain ⟨Z2, env, g2, w⟩ := hh
    unfold sThunk at w
    split at w
    rotate_left
    · exact w.elim
    rename_i e0
    obtain ⟨sub2, fx2⟩ := @Gd.parts (tabL f zb) _ _ _ _ _ _ g2
    obtain ⟨p1, p2, p3, p4, p5⟩ := @Sub.parts (tabL f zb) _ _ sub2
    obtain ⟨v, ev, slot⟩ := fx2 0 e0
    have ev' : some (V.ref f) = some v := ev
    cases ev'
    obtain ⟨sw, subw, odd⟩ := out sub2
    refine ⟨slot, p1 _ _ (p3 _ _ (upd_same : upd Z c (CodeO c q) c = _)), th _ _ HZ QZ sw subw ?_⟩
    have cz : Z2 c = some (CodeO c q) := p3 _ _ (upd_same : upd Z c (CodeO c q) c = _)
    have ch : HZ c = some (CodeO c q) := p1 _ _ cz
    -- a step without the code object, told within
    have into : ∀ {Z3 H3 : Hp}, Step (without Z Z2 c) HZ Z3 H3 → @Step (tabL f zb) Z2 HZ (without Z2 Z3 c) H3 ∧ Odd Z3 c := fun {Z3 H3} st => by
      have ch3 : H3 c = some (CodeO c q) := st.hp.k _ _ ch fun ps => LamX.codeO_ne ps
      have fz : Same Z2 (without Z2 Z3 c) := fun b o e => by
        unfold without
        split
        · exact e
        · rename_i ne
          exact st.fz _ _ (by rw [without_ne ne]; exact e)
      refine ⟨@Step.mk (tabL f zb) _ _ _ _ st.hp fz (fun b o e => ?_) (@Sub.mk (tabL f zb) _ _ (fun b o e => ?_) (@ml_mono (tabL f zb) _ _ fz ⟨p2, p3⟩) (fun b ps e => ?_) st.sub.tb), odd_of st.sub.s ch3⟩
      · unfold without at e
        split at e
        · exact .inl e
        · rename_i ne
          rcases st.nw b o e with z | z
          · rw [without_ne ne] at z; exact .inl z
          · exact .inr z
      · unfold without at e
        split at e
        · rename_i eb
          subst eb
          rw [cz] at e
          cases e
          exact ch3
        · exact st.sub.s _ _ e
      · unfold without at e
        split at e
        · exact p4 _ _ e
        · exact st.sub.nt _ _ e
    revert w
    cases r with
    | bad => exact fun w => w
    | ok d io =>
      intro w v H3 Z3 st rv
      obtain ⟨st1, od⟩ := into st
      exact @Wish.ret (tabL f zb) _ _ _ _ _ _ _ _ _ _ _ _ _ w g2 st1 (rv.wo (Z := Z2) od).tab
    | ex cl p io =>
      intro w H3 Z3 dd st xo
      obtain ⟨st1, od⟩ := into st
      refine w H3 _ dd (@Tr.step (tabL f zb) _ _ _ _ _ _ st1) (@Gd.step (tabL f zb) _ _ _ _ _ _ _ _ g2 st1) ?_
      rcases xo with ⟨a1, vs, h1, h2, h3, h4⟩ | h
      · exact .inl ⟨a1, vs, h1, h2, h3, (h4.wo (Z := Z2) od).tab⟩
      · exact .inr h
  · -- the start
    have noOwn : ∀ {σ : St} {b : Addr}, Own (SV.fx :: env0 (Ng.length - 1) []) σ b → False := fun {σ b} ⟨i, m, o, e, _⟩ => by
      cases i with
      | zero => cases e
      | succ i => rcases env0_get (show (env0 (Ng.length - 1) [])[i]? = _ from e) with ⟨d, z, _⟩ | z <;> cases z
    have g0 : @Gd (tabL f zb) G none zb H (SV.fx :: env0 (Ng.length - 1) []) (L2.start Ng [.ref f]) := by
      refine @Gd.mk (tabL f zb) G none zb H _ _ sub1 ?_ (fun i d e => ?_) (fun i m o e => ?_) (fun i j m n y z b e1 e2 _ _ => ?_) (fun i e => ?_)
      · unfold L2.start env0
        simp <;> omega
      · cases i with
        | zero => cases e
        | succ i => rcases env0_get (show (env0 (Ng.length - 1) [])[i]? = _ from e) with ⟨d, z, _⟩ | z <;> cases z
      · cases i with
        | zero => cases e
        | succ i => rcases env0_get (show (env0 (Ng.length - 1) [])[i]? = _ from e) with ⟨d, z, _⟩ | z <;> cases z
      · cases i with
        | zero => cases e1
        | succ i => rcases env0_get (show (env0 (Ng.length - 1) [])[i]? = _ from e1) with ⟨d, z, _⟩ | z <;> cases z
      · cases i with
        | zero => exact ⟨.ref f, rfl, start_get rfl⟩
        | succ i => rcases env0_get (show (env0 (Ng.length - 1) [])[i]? = _ from e) with ⟨d, z, _⟩ | z <;> cases z
    have fin : ∀ {Z2 H2 : Hp} {e2 : En} {σ2 : St}, Tr zb H (SV.fx :: env0 (Ng.length - 1) []) (L2.start Ng [.ref f]) Z2 H2 e2 σ2 → @Sub (tabL f zb) Z2 H2 → Step Z H (without Z Z2 c) H2 ∧ Odd Z2 c := fun {Z2 H2 e2 σ2} t s2 => by
      obtain ⟨sw, subw, od⟩ := out s2
      obtain ⟨k1, k2, k3⟩ := @Tr.parts (tabL f zb) _ _ _ _ _ _ _ _ t
      refine ⟨⟨⟨fun b o e n => k1 b o e (fun z => noOwn z) n, k3⟩, sw, fun b o e => ?_, subw⟩, od⟩
      unfold without at e
      split at e
      · exact .inl e
      · rename_i ne
        rcases k2 b o e with z | z | z
        · have z' : upd Z c (CodeO c q) b = some o := z
          rw [upd_ne ne] at z'
          exact .inl z'
        · exact .inr z
        · exact (noOwn z).elim
    refine ⟨zb, _, g0, ?_⟩
    unfold runL at hF
    revert hF
    generalize sf r (SV.fx :: env0 (Ng.length - 1) []) = rr
    intro hF
    cases rr with
    | nx e => exact fun σ2 H2 Z2 t g2 => hF .non H2 _ (fin t (@Gd.parts (tabL f zb) _ _ _ _ _ _ g2).1).1 .non
    | rt d e => exact fun v σ2 H2 Z2 t g2 rv => hF v H2 _ (fin t (@Gd.parts (tabL f zb) _ _ _ _ _ _ g2).1).1 (@Rep.wo (tabL f zb) G Z Z2 c (fin t (@Gd.parts (tabL f zb) _ _ _ _ _ _ g2).1).2 _ _ rv).unt
    | rto o e =>
      intro p ho σ2 H2 Z2 t g2 n no z hp ro
      dsimp only at hF
      cases hf : o.fz with
      | none => rw [hf] at hF; exact hF.elim
      | some d =>
        rw [hf] at hF
        have npc : p ≠ c := fun y => by rw [y, hc] at n; cases n
        obtain ⟨st, od⟩ := fin t (@Gd.parts (tabL f zb) _ _ _ _ _ _ g2).1
        have zp : without Z Z2 c p = none := by rw [without_ne npc]; exact z
        have eW : without Z (upd Z2 p ho) c = upd (without Z Z2 c) p ho := funext fun b => by
          unfold without
          by_cases eb : b = c
          · rw [if_pos eb, upd_ne (fun y => npc (y.symm.trans eb)), if_pos eb]
          · rw [if_neg eb]
            by_cases ep : b = p
            · rw [ep, upd_same, upd_same]
            · rw [upd_ne ep, upd_ne ep, if_neg eb]
        have od2 : Odd (upd Z2 p ho) c := fun o e => od o (by rw [upd_ne npc.symm] at e; exact e)
        have rv := (@rep_frozen (tabL f zb) G Z2 p ho o d z (@Sub.un (tabL f zb) _ _ (@Gd.parts (tabL f zb) _ _ _ _ _ _ g2).1 _ z) ro hf)
        have rv := @Rep.wo (tabL f zb) G Z _ c od2 _ _ rv
        rw [eW] at rv
        exact hF _ H2 _ (fz_step (G := G) st n zp hp (@RepO.ob (tabL f zb) _ _ _ _ ro).nt) rv.unt
    | _ => exact hF.elim
end
end Ax
set_option Elab.async false
set_option linter.all false
set_option maxRecDepth 100000
set_option maxHeartbeats 400000
/-! AxM: x(lambda: body) in the layer; an equality of several kinds; an empty dict. -/
namespace Ax
open PySem PySem.Spec L2
open LamX (CodeO Tabs TabS TabB LamS lamEnv lamCx)
variable [T0 : TabC]
/-- the environment as a lambda's body sees it: nothing that it could change -/
def roE (env : En) : En := env.map fun s => match s with
  | .sh d => .sh d
  | _ => .un
/-- what came of the body -/
def outR : O D → RS
  | .ok d _ => .ok d nil0
  | .ex c p _ => .ex c p nil0
  | .bad => .bad
def sLam (F : RS → RS) (fe : SE) : SE := fun env => match F (outR (fe (roE env))) with
  | .ok d _ => .ok d env
  | _ => .bad
section
variable {G : GW} {io : Option Addr} {Z H Z1 H1 : Hp} {env : En} {σ : St}
theorem roE_get {i : Nat} {s : SV} (h : (roE env)[i]? = some s) : (∃ d, s = .sh d ∧ env[i]? = some (.sh d)) ∨ s = .un := by
  unfold roE at h
  rw [List.getElem?_map] at h
  obtain ⟨s0, h1, h2⟩ := Option.map_eq_some_iff.mp h
  cases s0 with
  | sh d => exact .inl ⟨d, h2.symm, h1⟩
  | _ => exact .inr h2.symm
theorem roE_own {a : Addr} (h : Own (roE env) σ a) : False := by
  obtain ⟨i, m, o, h1, _⟩ := h
  rcases roE_get h1 with ⟨d, e, _⟩ | e <;> cases e
theorem Gd.ro (g : Gd G io Z H env σ) (sz : Same Z Z1) (sub : Sub Z1 H1) : Gd G none Z1 H1 (roE env) σ := by
  refine ⟨sub, by rw [g.len]; simp [roE], fun i d h => ?_, fun i m o h => ?_, fun i j m n x y a h1 => ?_, fun i h => ?_⟩
  · rcases roE_get h with ⟨d', e, e2⟩ | e
    · cases e
      obtain ⟨v, a, b⟩ := g.sh i _ e2
      exact ⟨v, a, b.mono sz⟩
    · cases e
  · rcases roE_get h with ⟨d, e, _⟩ | e <;> cases e
  · rcases roE_get h1 with ⟨d, e, _⟩ | e <;> cases e
  · rcases roE_get h with ⟨d, e, _⟩ | e <;> cases e
theorem ro_step {Z2 H2 : Hp} {e2 : En} {σ2 : St} (t : Tr Z H (roE env) σ Z2 H2 e2 σ2) (s2 : Sub Z2 H2) : Step Z H Z2 H2 :=
  ⟨⟨fun b o e n => t.keep b o e (fun z => roE_own z) n, t.dom⟩, t.fz, fun b o e => by
    rcases t.nw b o e with z | z | z
    · exact .inl z
    · exact .inr z
    · exact (roE_own z).elim, s2⟩
end
theorem lam_imp {C : Kx} {F : RS → RS} {fe : SE} {σ : St} {H : Hp} {Q : VK} (h : tE C (sLam F fe) σ H Q) : tLamK TabC.T (TTm C.G F) (fun E => tE ⟨C.G, none, fun cls d _ H' => E cls d H'⟩ fe) σ H Q := by
  obtain ⟨Z, env, g, w⟩ := h
  refine ⟨g.sub.tb, fun H2 kp tabs => ⟨Z, outR (fe (roE env)), ⟨fun b o e => kp.k b o (g.sub.s _ _ e) fun ps z => by subst z; exact g.sub.nt _ _ e, g.sub.ml, g.sub.nt, tabs⟩, fun E Z1 H1 Q1 sz sub th => ⟨Z1, roE env, g.ro sz sub, ?_⟩, ?_⟩⟩
  · unfold outR at th
    revert th
    generalize fe (roE env) = r
    intro th
    cases r with
    | bad => exact th
    | ok d e => exact fun v H3 Z3 t g3 rv => th v H3 Z3 (ro_step t g3.sub) rv
    | ex c p e => exact fun H3 Z3 od t g3 xo => th H3 Z3 od (ro_step t g3.sub) xo
  · unfold sLam at w
    revert w
    generalize F (outR (fe (roE env))) = r
    intro w
    cases r with
    | ok d io => exact fun v H3 Z3 st rv => w.ret g ⟨kp.trans st.hp, st.fz, fun b o e => by
        rcases st.nw b o e with z | z
        · exact .inl z
        · exact .inr (kp.dom _ z), st.sub⟩ rv
    | ex c p io => exact w.elim
    | bad => exact w.elim
/-- how a def that calls the lambda it got keeps its promise -/
structure MetOk (K : PySem.W.Frag) (G : GW) (x a : Str) (st : Stmt) (N : List Str) (g : Addr) (gd : FuncData) (sf : RS → SS) : Prop where
  F : Fun K x x st g gd
  b : Binds K gd [a] []
  S : FnScope N [a] (defScope st)
  kp : PySem.W.keepIn K (.ref g) = true
  n0 : N[0]? = some a
  vis : Vis (defScope st) a
theorem pd_lam {X : Cx} {C : Kx} {x a : Str} {st : Stmt} {N : List Str} {g c P : Addr} {gd : FuncData} {sf : RS → SS} {k : Nat} {params : Arguments} {body : Expr} {scope : Scope} {n : Nat} {fe : SE} {p lpos pos : Pos} (M : MetOk X.K C.G x a st N g gd sf) (hn : N.length = n) (gl : Gl X x) (is : X.mg x = some (.ref g))
    (mb : ∀ (cdv : Value) (T1 : TabC), T1.T = T0.T → ∀ (s : Shared) (H : Hp) (r : RS), (∀ (W : WX) (pn : List (Addr × Obj)) (xe : Value → Shared → Prop) (p1 p2 : Pos), Takes ((metCx X N x (defScope st) g cdv s H).tr pn xe) W → PE ((metCx X N x (defScope st) g cdv s H).tr pn xe) (.Call (.Name a p1) [] [] p2) (@tE T1 ⟨C.G, none, W⟩ (sThunk r))) →
      PSs (metCx X N x (defScope st) g cdv s H).nox (defBody st) (@tS T1 ⟨C.G, none, fun _ _ _ _ => False⟩ (sf r)))
    (B : TabB X.base X.mg c P) (code : X.env.code = .ref c) (mine : (P, X.env.qual ++ "<lambda>") ∈ (TabC.T : List (Addr × Str))) (alone : ∀ p ∈ (TabC.T : List (Addr × Str)), p.1 = P → p.2 = X.env.qual ++ "<lambda>") (room : Room (k + 2) X.A) (L : LamX.lamSB X.env.scope scope = true) (plain : defaultsOf params X.env = ([], []))
    (nobinds : ∀ (q : Str) (cl : List (Str × Addr)) (pm cv ctv : Value), bindArgs (PySem.W.kla_fn "<lambda>" q params body scope cl pm cv ctv) ⟨[], []⟩ = pure [])
    (walk : ∀ (A : Around) (outer : List Env) (s : Shared) (H : Hp) (E : XK) (f c2 : Addr), Room k (A.deeper (lamEnv X scope s.heap.objs.size f c2)) → PE (lamCx X A outer s H E scope f c2) body (tE ⟨C.G, none, fun cls d _ H' => E cls d H'⟩ fe))
    (d1 : (x == ("__debug__" : Str)) = false := by decide) (d2 : (a == ("__debug__" : Str)) = false := by decide) (d3 : (a == ("__classdict__" : Str)) = false := by decide) :
    PE X (.Call (.Name x p) [.Lambda params body scope lpos] [] pos) (tE C (sLam (runL n sf) fe))   := by
  subst hn
  obtain ⟨oc, od, kV, doc, pm, an, cdv, ct, osl, rfl, lk, cod⟩ := M.F.ex
  have hN : 0 < N.length := by
    have := M.n0
    rw [List.getElem?_eq_some_iff] at this
    exact this.1
  exact PE.imp (pe_lamK gl is M.kp lk cod M.b M.S M.n0 M.vis (met_gives hN (fun T1 e => mb cdv T1 e)) B code mine alone room (LamX.lamS_by L) plain nobinds walk d1 d2 d3) fun _ _ _ h => lam_imp h
/-! ### two ways to tell an operation -/
theorem OpR.alt {X : Cx} {G : GW} {f : Value → Value → Sem Value} {o1 o2 : D → D → Option D} (h1 : OpR X f (rD G o1)) (h2 : OpR X f (rD G o2)) : OpR X f (rD G fun x y => (o1 x y).or (o2 x y)) := by
  intro pins s σ H x y v u Q I rx ry ⟨Z, d1, d2, d, sub, r1, r2, e, q⟩
  dsimp only at e
  cases e1 : o1 d1 d2 with
  | some d' =>
    rw [e1] at e
    cases e
    exact h1 pins s σ H x y v u Q I rx ry ⟨Z, d1, d2, _, sub, r1, r2, e1, q⟩
  | none =>
    rw [e1] at e
    exact h2 pins s σ H x y v u Q I rx ry ⟨Z, d1, d2, d, sub, r1, r2, e, q⟩
end Ax
set_option Elab.async false
set_option linter.all false
set_option maxRecDepth 100000
set_option maxHeartbeats 400000
/-! AxN: calls of a def with all arguments by their names. -/
namespace Ax
open PySem PySem.Spec L2
variable [T0 : TabC]
/-- the parts of xs at the places π -/
def perm {α : Type} (π : List Nat) (xs : List α) : List α := π.filterMap (xs[·]?)
def sCallK (π : List Nat) (n : Nat) (F : FS) (fl : SL) : SE := fun env => (fl env).bind fun ds e => if ds.length = n ∧ (perm π ds).length = n then (match F (perm π ds) with
  | .ok d _ => .ok d e
  | .ex c p _ => .ex c p e
  | .bad => .bad) else .bad
/-- a def that is called with the names ks: the parameter j gets the value at place π j -/
structure KwB (K : PySem.W.Frag) (fd : FuncData) (ps ks : List Str) (π : List Nat) : Prop where
  to : ∀ (s : Shared) (us : List Value), K.In s.heap → us.length = ks.length → BindsTo s fd ⟨[], ks.zip us⟩ (ps.zip (perm π us))
theorem kw_of {K : PySem.W.Frag} {x q : Str} {st : Stmt} {f : Addr} {fd : FuncData} {ps ks : List Str} {π : List Nat} (F : Fun K x q st f fd)
    (h : ∀ (a b c : Value) (d : Option Addr) (e g : Value) (us : List Value), us.length = ks.length → bindArgs (PySem.W.fnOf x q (defArgs st) (defBody st) (defScope st) .none a b c d e g) ⟨[], ks.zip us⟩ = pure (ps.zip (perm π us))) : KwB K fd ps ks π := by
  obtain ⟨_, _, a, b, c, d, e, g, _, eq, _, _⟩ := F.ex
  exact ⟨fun s us _ hl => by rw [eq]; exact .of_eq (h a b c d e g us hl)⟩
/-- the values of names given in a call -/
abbrev tKw (C : Kx) (fl : SL) : TA := tL C fl
section
variable {X : Cx} {C : Kx} {e : Expr} {es : List Expr} {fa : SE} {fl : SL} {p pos kpos : Pos} {x : Str} {k n : Nat} {f : Addr} {fd : FuncData} {ps ks : List Str} {F : FS} {π : List Nat} {nm : Option Str} {kws : List Keyword}
theorem kw_n : PK X [] (tL C sN) := ⟨fun pos pins s σ H Q I ⟨Z, env, g, q⟩ => pk_nil.run pos pins s σ H Q I (q.ret0 g .nil)⟩
theorem kw_k (ha : PE X e (tE C fa)) (hr : PK X kws (tL C fl)) : PK X (⟨nm, e, kpos⟩ :: kws) (tL C (sK fa fl)) := ⟨fun pos pins s σ H Q I ⟨Z, env, g, q⟩ =>
  (pk_cons (nm := nm) (kpos := kpos) ha hr).run pos pins s σ H Q I ⟨Z, env, g, (Wish.bind (S := Rep C.G) q).mono fun v H1 ⟨Z1, x1, e1, t1, g1, r1, w1⟩ =>
    ⟨Z1, e1, g1, (Wish.bind (S := Reps C.G) w1).mono fun vs H2 ⟨Z2, y, e2, t2, g2, r2, w2⟩ => w2.ret0 g2 (.cons (r1.mono t2.fz) r2)⟩⟩⟩
theorem reps_get {G : GW} {Z : Hp} {vs : List V} {ds : List D} (r : Reps G Z vs ds) (i : Nat) : (∃ v d, vs[i]? = some v ∧ ds[i]? = some d ∧ Rep G Z v d) ∨ (vs[i]? = none ∧ ds[i]? = none) := by
  induction i generalizing vs ds with
  | zero => cases r with
    | nil => exact .inr ⟨rfl, rfl⟩
    | cons a b => exact .inl ⟨_, _, rfl, rfl, a⟩
  | succ i ih => cases r with
    | nil => exact .inr ⟨rfl, rfl⟩
    | cons a b => simpa using ih b
theorem perm_reps {G : GW} {Z : Hp} {vs : List V} {ds : List D} (r : Reps G Z vs ds) : ∀ π : List Nat, Reps G Z (perm π vs) (perm π ds)
  | [] => .nil
  | i :: π => by
    unfold perm
    rcases reps_get r i with ⟨v, d, h1, h2, r1⟩ | ⟨h1, h2⟩
    · rw [List.filterMap_cons_some h1, List.filterMap_cons_some h2]
      exact .cons r1 (perm_reps r π)
    · rw [List.filterMap_cons_none h1, List.filterMap_cons_none h2]
      exact perm_reps r π
theorem vals_get {vs : List V} {us : List Value} (r : Vals vs us) (i : Nat) : (∃ v u, vs[i]? = some v ∧ us[i]? = some u ∧ RelV v u) ∨ (vs[i]? = none ∧ us[i]? = none) := by
  induction i generalizing vs us with
  | zero => cases r with
    | nil => exact .inr ⟨rfl, rfl⟩
    | cons a b => exact .inl ⟨_, _, rfl, rfl, a⟩
  | succ i ih => cases r with
    | nil => exact .inr ⟨rfl, rfl⟩
    | cons a b => simpa using ih b
theorem perm_vals {vs : List V} {us : List Value} (r : Vals vs us) : ∀ π : List Nat, Vals (perm π vs) (perm π us)
  | [] => .nil
  | i :: π => by
    unfold perm
    rcases vals_get r i with ⟨v, d, h1, h2, r1⟩ | ⟨h1, h2⟩
    · rw [List.filterMap_cons_some h1, List.filterMap_cons_some h2]
      exact .cons r1 (perm_vals r π)
    · rw [List.filterMap_cons_none h1, List.filterMap_cons_none h2]
      exact perm_vals r π
theorem pd_callK (FO : FnOk X.prog X.w X.K X.mg X.base (L2.CX X.prog X.w) k f fd ps (spP C.G n F)) (tk : Takes X C.W) (hr : Room k X.A) (hg : Gl X x) (hm : X.mg x = some (.ref f)) (hk : PySem.W.keepIn X.K (.ref f) = true) (hb : KwB X.K fd ps ks π)
    (ha : PK X kws (tL C fl)) (hl : n = ks.length := by rfl) (hall : (backToKw pos (keywordEach kws X.env)).all (·.1.isSome) = true := by rfl) (hks : (backToKw pos (keywordEach kws X.env)).filterMap (·.1) = ks := by rfl)
    (hpl : ((backTo pos (starEach [] X.env)).any (·.1) || (backToKw pos (keywordEach kws X.env)).any (·.1.isNone)) = false := by rfl) (hdb : (x == ("__debug__" : Str)) = false := by decide) :
    PE X (.Call (.Name x p) [] kws pos) (tE C (sCallK π n F fl)) := by
  constructor
  intro pins s σ H Q I ⟨Z, env, g, q⟩
  refine wpAny_Call_Name_kw ?_
  refine ld_glob I hg hm ?_ hdb
  have q2 : tL C fl σ H fun vs H1 => vs.length = n ∧ spP C.G n F (perm π vs) H1 Q (WE C.W σ) := by
    refine ⟨Z, env, g, (Wish.bind (S := Reps C.G) q).mono fun vs H1 ⟨Z1, ds, e1, t1, g1, r1, w1⟩ => ?_⟩
    split at w1
    · rename_i hn
      refine ⟨r1.length.trans hn.1, Z1, perm π ds, g1.sub, perm_reps r1 π, hn.2, ?_⟩
      generalize F (perm π ds) = r at w1 ⊢
      cases r with
      | ok d _ => exact fun v H' Z' s r => w1.ret g1 s r
      | ex c p _ => exact fun H' Z' od s r => w1 H' Z' od (.step s) (g1.step s) r
      | bad => exact w1
    · exact w1.elim
  refine PySem.W.callWith_KW0 (h₀ := X.base) I.ok.mod.kin hk hall ?_ hpl
  rw [hks]
  refine thn (ha.run pos pins s σ H _ I q2) fun us s1 ⟨vs, H1, I1, r, ln, sp⟩ => ⟨I1.kIn, ?_⟩
  have b := hb.to s1 us I1.kIn (by rw [← r.length, ln, hl])
  have c := FO.run X.A X.stack s1 H1 _ _ (perm π vs) Q (WE C.W σ) hr I1.env0 b (perm_vals r π) sp
  refine wpAny_call (codeAny_mono c ?_)
  rintro (err | fl) s2 out
  · exact passAt tk σ pins H1 s1 err s2 I1 out
  · match fl, out with
    | .ret u, out => exact I1.after out
/-! ### a comprehension as the element of another one -/
/-- the names of a block within a def, as a block within it sees them -/
def relS (sc0 sc : Scope) : Scope := { sc0 with names := sc0.names.map fun (n, k) => if (k == .free && sc.kind == .function && sc.names.lookup n == some .cell) then (n, .cell) else (n, k) }
theorem po_compN {elt tg iter : Expr} {ifs : List Expr} {scope sc0 sc : Scope} {N : List Str} {own : List (Str × Nat)} {fi : SL} {fg : SG} {ft : SB} {fe : SE} {s : Shared} {H : Hp} {c : Addr} {cl : List (Str × Addr)} {fp : List Addr} (hc : X.calm = true) (hN : N.Nodup) (hi : PI (X.blk s H sc0 (compEnvC sc0 cl c X.env) fp) tg iter (tI C fi)) (eN : X.N = N) (eS : X.env.scope = sc) (ok : blkC N (relS sc0 sc) scope own = true)
    (hg : ∀ (s1 : Shared) (H1 : Hp) (c1 : Addr) (cl1 : List (Str × Addr)) (fp1 : List Addr), PG ((X.blk s H sc0 (compEnvC sc0 cl c X.env) fp).blk s1 H1 scope (compEnvC scope cl1 c1 (compEnvC sc0 cl c X.env)) fp1) tg (tG C.blk (own.map (·.2)) fg))
    (ht : ∀ (s1 : Shared) (H1 : Hp) (c1 : Addr) (cl1 : List (Str × Addr)) (fp1 : List Addr), PTs ((X.blk s H sc0 (compEnvC sc0 cl c X.env) fp).blk s1 H1 scope (compEnvC scope cl1 c1 (compEnvC sc0 cl c X.env)) fp1) ifs (tBo C.blk ft))
    (he : ∀ (s1 : Shared) (H1 : Hp) (c1 : Addr) (cl1 : List (Str × Addr)) (fp1 : List Addr), PE ((X.blk s H sc0 (compEnvC sc0 cl c X.env) fp).blk s1 H1 scope (compEnvC scope cl1 c1 (compEnvC sc0 cl c X.env)) fp1) elt (tE C.blk fe))
    (hs : ∀ x, foldedSetIterable iter (compEnvC sc0 cl c X.env) x = pure x := by intro _; rfl) :
    PE (X.blk s H sc0 (compEnvC sc0 cl c X.env) fp) (.ListComp elt [⟨tg, iter, ifs, 0⟩] scope pos) (tO C (sComp fi (own.map (·.2)) fg ft fe)) := by
  subst eN eS
  exact po_comp (X := X.blk s H sc0 (compEnvC sc0 cl c X.env) fp) hc hN hi (blkOk_by ok) hg ht he hs
/-! ### {} -/
theorem pd_dic0 : PE X (.Dict [] [] pos) (tE C (sC (.dic [] []))) := ⟨fun pins s σ H Q I ⟨Z, env, g, q⟩ => by
  refine thn (pe_dnewK.run pins s σ H (fun v H1 => ∃ p, H p = none ∧ v = .ref p ∧ H1 = upd H p (.dK [])) I fun p n => ⟨p, n, rfl, rfl⟩) ?_
  rintro u s1 ⟨v, H1, I1, rv, p, np, rfl, rfl⟩
  obtain ⟨od, I2⟩ := I1.lock upd_same True.intro
  rw [upd_upd] at I2
  have st := Step.new (o := .frz od (.dK [])) g.sub np
  exact ⟨_, _, I2, rv, q.ret g st (.dic (ks := []) (vs := []) upd_same rfl .nil)⟩⟩
end
end Ax
set_option Elab.async false
set_option linter.all false
set_option maxRecDepth 100000
set_option maxHeartbeats 400000
/-! AxO: a def is equal to itself. -/
namespace PySem
open Sem (wp)
theorem fn_eq : Slot "function" "__eq__" "object.__eq__" := by
  refine .of (owner := "object") (n := "__eq__") ?_ (by decide +kernel) (by decide +kernel) (by decide +kernel) ?_ ?_
  · rw [typeLookup_type, builtinLookup_eq_fast]; kernel_rfl
  · first | exact .inl (by decide +kernel) | exact .inr (by decide +kernel)
  · rw [isSubtype_type]; kernel_rfl
theorem fn_eq_self {prog : Program} {w : World} {A : Around} {E : Value → Shared → Prop} {s : Shared} {f : Addr} {o : Obj} {Q : Value → Shared → Prop} (there : s.heap.get? f = some o) (kind : o.cls = .type "function") (room : A.units < cLine) (q : Q (.bool true) s) :
    wpAny (model prog w) A (richCompare .Eq (.ref f) (.ref f)) Q E s := by
  have isFn : s.TypeIs (.ref f) "function" := ⟨o, there, kind⟩
  have called : wpAny (model prog w) A (call (.builtin "object.__eq__") [.ref f, .ref f]) (fun v s' => v ≠ .notImplemented ∧ Q v s') E s :=
    wpAny_call_entry fn_eq isFn F.cmpEntry_eq (objEq_entry_same ⟨_, rfl, ⟨fun z => (nomatch z), q⟩⟩) (F.cmpArgs_eq _ _)
  exact wpAny_richCompare_same_room isFn isFn fn_eq called room
end PySem
namespace Ax
open PySem PySem.Spec L2
variable [T0 : TabC]
def eqF : D → D → Option D
  | .fn i, .fn j => if i = j then some (.bl true) else none
  | _, _ => none
theorem opd_eqF {X : Cx} {G : GW} (ok : KitOk X.K G) (hu : X.A.units < cLine) : OpR X (compareOp .Eq) (rD G eqF) := by
  intro pins s σ H x y v u Q I rx ry ⟨Z, d1, d2, d, sub, r1, r2, e, q⟩
  unfold eqF at e
  split at e
  · split at e
    · rename_i hij
      subst hij
      cases e
      cases r1 with
      | fn i k =>
      cases r2
      cases rx
      cases ry
      obtain ⟨fo, lk, kind⟩ := ok.fns _ k
      exact fn_eq_self (I.kIn _ _ lk) kind hu ⟨.bl true, H, I, rfl, q _ _ _ (.refl sub) (.bl true)⟩
    · cases e
  · cases e
end Ax
set_option Elab.async false
set_option linter.all false
set_option maxRecDepth 100000
set_option maxHeartbeats 400000
/-! AxP: a list that is handed on and changed later: x = [..]; ..; x.append(c). -/
namespace Ax
open PySem PySem.Spec L2
/-! ### what a node of the marked list becomes -/
mutual
def um (y : D) : D → D
  | .tup xs => .tup (umA y xs)
  | .lst xs => .lst (umA y xs)
  | .frl xs => .frl (umA y xs)
  | .obj c fs => .obj c (umA y fs)
  | .mk _ xs => .lst (umA y xs ++ [y])
  | .dic ks xs => .dic ks (umA y xs)
  | .non => .non
  | .bl b => .bl b
  | .int i => .int i
  | .str s => .str s
  | .ty n => .ty n
  | .cl c => .cl c
  | .fn i => .fn i
def umA (y : D) : List D → List D
  | [] => []
  | d :: ds => um y d :: umA y ds
end
def umF (y : D) : List (Str × D) → List (Str × D)
  | [] => []
  | p :: ps => (p.1, um y p.2) :: umF y ps
def umO (y : D) : OV → OV
  | .lst ds => .lst (umA y ds)
  | .ins c fs => .ins c (umF y fs)
  | .dt ks ds => .dt ks (umA y ds)
  | .dk ks ds => .dk ks (umA y ds)
def umS (y : D) : SV → SV
  | .sh d => .sh (um y d)
  | .own m o => .own m (umO y o)
  | .un => .un
  | .fx => .fx
def Ow (env : En) (σ : St) (a : Addr) : Prop := ∃ (i : Nat) (m : Bool) (o : OV), env[i]? = some (SV.own m o) ∧ σ[i]? = some (some (V.ref a))
/-- what may change from where the list a is marked until it is changed -/
structure TrR (a : Addr) (Z H : Hp) (env : En) (σ : St) (Z' H' : Hp) (env' : En) (σ' : St) : Prop where
  fz : ∀ b o, b ≠ a → Z b = some o → Z' b = some o
  keep : ∀ b o, b ≠ a → H b = some o → ¬ Ow env σ b → (∀ ps, o ≠ .tbl ps) → H' b = some o
  nw : ∀ b o, Z' b = some o → b = a ∨ Z b = some o ∨ H b = none ∨ Ow env σ b
  own : ∀ b, Ow env' σ' b → Ow env σ b ∨ H b = none
  dom : ∀ b, H' b = none → H b = none
variable [T0 : TabC]
/-- nothing is marked, nothing is frozen all the time -/
structure NoMk : Prop where
  m : ∀ n, T0.m n = none
  z : ∀ b, T0.zb b = none
abbrev Tk (a : Addr) : TabC := TabC.mk T0.T (fun n => if n = 0 then some a else none) T0.fx T0.zb
section
variable {G : GW} {io : Option Addr} {Z H Z1 H1 Z2 H2 : Hp} {env e1 e2 : En} {σ σ1 σ2 : St} {a : Addr}
theorem Tr.thenR (t : Tr Z H env σ Z1 H1 e1 σ1) (r : TrR a Z1 H1 e1 σ1 Z2 H2 e2 σ2) : TrR a Z H env σ Z2 H2 e2 σ2 := by
  have back : ∀ {b}, Ow e1 σ1 b → Ow env σ b ∨ H b = none := fun h => t.own _ h
  refine ⟨fun b o n z => r.fz b o n (t.fz _ _ z), fun b o n h no nt => r.keep b o n (t.keep b o h no nt) (fun q => ?_) nt, fun b o z => ?_, fun b q => ?_, fun b h => t.dom b (r.dom b h)⟩
  · rcases back q with q | q
    · exact no q
    · rw [h] at q; cases q
  · rcases r.nw b o z with q | q | q | q
    · exact .inl q
    · rcases t.nw b o q with q | q | q
      · exact .inr (.inl q)
      · exact .inr (.inr (.inl q))
      · exact .inr (.inr (.inr q))
    · exact .inr (.inr (.inl (t.dom b q)))
    · rcases back q with q | q
      · exact .inr (.inr (.inr q))
      · exact .inr (.inr (.inl q))
  · rcases r.own b q with q | q
    · exact back q
    · exact .inr (t.dom b q)
/-- where the list has just been made -/
theorem TrR.start {o0 : HO} {i : Nat} {d : D} {v : V} (n : H a = none) (z : Z a = none) (r : TrR a (upd Z a o0) (upd H a o0) (env.set i (.sh d)) (σ.set i (some v)) Z2 H2 e2 σ2) : Tr Z H env σ Z2 H2 e2 σ2 := by
  have fresh : ∀ {b} {o : HO} {h : Hp}, h a = none → h b = some o → b ≠ a := fun e q => by rintro rfl; rw [e] at q; cases q
  refine ⟨fun b o q => ?_, fun b o q no nt => ?_, fun b o q => ?_, fun b q => ?_, fun b q => ?_⟩
  · have ne := fresh z q
    exact r.fz b o ne (by rw [upd_ne ne]; exact q)
  · have ne := fresh n q
    exact r.keep b o ne (by rw [upd_ne ne]; exact q) (fun w => no (own_setSh w)) nt
  · by_cases e : b = a
    · subst e; exact .inr (.inl n)
    · rcases r.nw b o q with w | w | w | w
      · exact absurd w e
      · rw [upd_ne e] at w; exact .inl w
      · rw [upd_ne e] at w; exact .inr (.inl w)
      · exact .inr (.inr (own_setSh w))
  · rcases r.own b q with w | w
    · exact .inl (own_setSh w)
    · by_cases e : b = a
      · subst e; exact .inr n
      · rw [upd_ne e] at w; exact .inr w
  · have w := r.dom b q
    by_cases e : b = a
    · subst e; exact n
    · rw [upd_ne e] at w; exact w
theorem umS_own {y : D} {b : Addr} : Ow (env.map (umS y)) σ b → Ow env σ b := fun ⟨i, m, o, h1, h2⟩ => by
  rw [List.getElem?_map] at h1
  obtain ⟨s, h3, h4⟩ := Option.map_eq_some_iff.mp h1
  cases s with
  | own m' o' => exact ⟨i, m', o', h3, h2⟩
  | _ => cases h4
/-- where the list has just been changed -/
theorem TrR.stop {o1 : HO} {y : D} (h : ∃ u, H a = some u) (t : Tr (upd Z a o1) (upd H a o1) (env.map (umS y)) σ Z2 H2 e2 σ2) : TrR a Z H env σ Z2 H2 e2 σ2 := by
  obtain ⟨u, h⟩ := h
  refine ⟨fun b o ne q => t.fz _ _ (by rw [upd_ne ne]; exact q), fun b o ne q no nt => t.keep b o (by rw [upd_ne ne]; exact q) (fun w => no (umS_own w)) nt, fun b o q => ?_, fun b q => ?_, fun b q => ?_⟩
  · by_cases e : b = a
    · exact .inl e
    · rcases t.nw b o q with w | w | w
      · rw [upd_ne e] at w; exact .inr (.inl w)
      · rw [upd_ne e] at w; exact .inr (.inr (.inl w))
      · exact .inr (.inr (.inr (umS_own w)))
  · rcases t.own b q with w | w
    · exact .inl (umS_own w)
    · by_cases e : b = a
      · subst e; rw [upd_same] at w; cases w
      · rw [upd_ne e] at w; exact .inr w
  · have w := t.dom b q
    by_cases e : b = a
    · subst e; rw [upd_same] at w; cases w
    · rw [upd_ne e] at w; exact w
theorem sql_ne {b : Addr} {vs : List V} (z : Z a = none) (k : G.K.lookup a = none) (h : SqL G.K Z b vs) : b ≠ a := fun e => by
  subst e
  rcases h with (h | ⟨_, h⟩) | ⟨o, _, _, h, _⟩
  · rw [z] at h; cases h
  · rw [z] at h; cases h
  · rw [k] at h; cases h
theorem tk_un {b : Addr} (ne : b ≠ a) : @Unm (Tk a) b := fun n e => by
  have e' : (if n = 0 then some a else none) = some b := e
  split at e'
  · cases e'; exact ne rfl
  · cases e'
theorem un_tk {b : Addr} (u : @Unm (Tk a) b) : b ≠ a := fun e => by subst e; exact u 0 rfl
theorem un_no (no : NoMk) {b : Addr} : Unm b := fun n e => by rw [no.m n] at e; cases e
mutual
theorem Rep.mark (no : NoMk) (z : Z a = none) (k : G.K.lookup a = none) : ∀ {v : V} {d : D}, Rep G Z v d → @Rep (Tk a) G Z v d
  | _, _, .non => @Rep.non (Tk a) G Z
  | _, _, .bl b => @Rep.bl (Tk a) G Z b
  | _, _, .int i => @Rep.int (Tk a) G Z i
  | _, _, .str s => @Rep.str (Tk a) G Z s
  | _, _, .ty n => @Rep.ty (Tk a) G Z n
  | _, _, .cl c h => @Rep.cl (Tk a) G Z c h
  | _, _, .fn i h => @Rep.fn (Tk a) G Z i h
  | _, _, .tup h r => @Rep.tup (Tk a) G Z _ _ _ h (Reps.mark no z k r)
  | _, _, .lst h u r => @Rep.lst (Tk a) G Z _ _ _ h (tk_un (by rintro rfl; rw [z] at h; cases h)) (Reps.mark no z k r)
  | _, _, .mk h u r => by rw [no.m] at u; cases u
  | _, _, .dic h l r => @Rep.dic (Tk a) G Z _ _ _ _ _ h l (Reps.mark no z k r)
  | _, _, .frl h u r => @Rep.frl (Tk a) G Z _ _ _ h (tk_un (sql_ne z k h)) (Reps.mark no z k r)
  | _, _, .obj q h n r => @Rep.obj (Tk a) G Z _ _ _ _ _ q h n (Reps.mark no z k r)
theorem Reps.mark (no : NoMk) (z : Z a = none) (k : G.K.lookup a = none) : ∀ {vs : List V} {ds : List D}, Reps G Z vs ds → @Reps (Tk a) G Z vs ds
  | _, _, .nil => @Reps.nil (Tk a) G Z
  | _, _, .cons h r => @Reps.cons (Tk a) G Z _ _ _ _ (Rep.mark no z k h) (Reps.mark no z k r)
end
theorem RepF.mark (no : NoMk) (z : Z a = none) (k : G.K.lookup a = none) : ∀ {vs : List (Str × V)} {ds : List (Str × D)}, RepF G Z vs ds → @RepF (Tk a) G Z vs ds
  | _, _, .nil => @RepF.nil (Tk a) G Z
  | _, _, .cons h r => @RepF.cons (Tk a) G Z _ _ _ _ _ (Rep.mark no z k h) (RepF.mark no z k r)
theorem RepO.mark (no : NoMk) (z : Z a = none) (k : G.K.lookup a = none) {o : HO} {x : OV} : RepO G Z o x → @RepO (Tk a) G Z o x
  | .lst r => @RepO.lst (Tk a) G Z _ _ (Reps.mark no z k r)
  | .ins r => @RepO.ins (Tk a) G Z _ _ _ _ (RepF.mark no z k r)
  | .dt l r => @RepO.dt (Tk a) G Z _ _ _ l (Reps.mark no z k r)
  | .dk l r => @RepO.dk (Tk a) G Z _ _ _ l (Reps.mark no z k r)
end
/-- the list as it was and the list as it is now; t2 ..: where nothing is marked -/
structure Turn2 (t2 : List (Addr × Str)) (m2 : Nat → Option Addr) (x2 : Option V) (z2 : Hp) (a : Addr) (y : D) (w : V) (xs : List V) (G : GW) (Z Z2 : Hp) : Prop where
  old : Z a = some (.lst xs)
  new : Z2 a = some (.lst (xs ++ [w]))
  same : ∀ b o, b ≠ a → Z b = some o → Z2 b = some o
  y : @Rep (TabC.mk t2 m2 x2 z2) G Z2 w y
  m : ∀ n b, T0.m n = some b → b = a
  u : ∀ b, Unm b → b ≠ a
  no : ∀ b, @Unm (TabC.mk t2 m2 x2 z2) b
section
variable {t2 : List (Addr × Str)} {m2 : Nat → Option Addr} {x2 : Option V} {z2 : Hp} {G : GW} {Z Z2 : Hp} {a : Addr} {y : D} {w : V} {xs : List V}
theorem Turn2.ne (t : Turn2 t2 m2 x2 z2 a y w xs G Z Z2) {b : Addr} {o : HO} (h : Z b = some o) (n : ∀ vs, o ≠ .lst vs) : Z2 b = some o := t.same b o (by rintro rfl; rw [t.old] at h; cases h; exact n _ rfl) h
theorem Turn2.sql (t : Turn2 t2 m2 x2 z2 a y w xs G Z Z2) {b : Addr} {vs : List V} (u : Unm b) (h : SqL G.K Z b vs) : SqL G.K Z2 b vs := by
  obtain (h | ⟨o, h⟩) | h := h
  · exact .inl (.inl (t.same _ _ (t.u b u) h))
  · exact .inl (.inr ⟨o, t.same _ _ (t.u b u) h⟩)
  · exact .inr h
theorem Turn2.grown (t : Turn2 t2 m2 x2 z2 a y w xs G Z Z2) {b : Addr} {n : Nat} {vs : List V} {ds : List D} (h : Z b = some (.lst vs)) (u : T0.m n = some b) (r : @Reps (TabC.mk t2 m2 x2 z2) G Z2 vs ds) : @Rep (TabC.mk t2 m2 x2 z2) G Z2 (.ref b) (.lst (ds ++ [y])) := by
  have e := t.m n b u
  subst e
  rw [t.old] at h
  cases h
  exact @Rep.lst (TabC.mk t2 m2 x2 z2) G Z2 _ _ _ t.new (t.no _) (@Reps.append (TabC.mk t2 m2 x2 z2) G Z2 _ _ _ _ r (@Reps.one (TabC.mk t2 m2 x2 z2) G Z2 _ _ t.y))
mutual
theorem Rep.unm (t : Turn2 t2 m2 x2 z2 a y w xs G Z Z2) : ∀ {v : V} {d : D}, Rep G Z v d → @Rep (TabC.mk t2 m2 x2 z2) G Z2 v (um y d)
  | _, _, .non => @Rep.non (TabC.mk t2 m2 x2 z2) G Z2
  | _, _, .bl b => @Rep.bl (TabC.mk t2 m2 x2 z2) G Z2 b
  | _, _, .int i => @Rep.int (TabC.mk t2 m2 x2 z2) G Z2 i
  | _, _, .str s => @Rep.str (TabC.mk t2 m2 x2 z2) G Z2 s
  | _, _, .ty n => @Rep.ty (TabC.mk t2 m2 x2 z2) G Z2 n
  | _, _, .cl c h => @Rep.cl (TabC.mk t2 m2 x2 z2) G Z2 c h
  | _, _, .fn i h => @Rep.fn (TabC.mk t2 m2 x2 z2) G Z2 i h
  | _, _, .tup h r => @Rep.tup (TabC.mk t2 m2 x2 z2) G Z2 _ _ _ (t.ne h fun _ q => nomatch q) (Reps.unm t r)
  | _, _, .lst h u r => @Rep.lst (TabC.mk t2 m2 x2 z2) G Z2 _ _ _ (t.same _ _ (t.u _ u) h) (t.no _) (Reps.unm t r)
  | _, _, .mk h u r => t.grown h u (Reps.unm t r)
  | _, _, .dic h l r => @Rep.dic (TabC.mk t2 m2 x2 z2) G Z2 _ _ _ _ _ (t.ne h fun _ q => nomatch q) l (Reps.unm t r)
  | _, _, .frl h u r => @Rep.frl (TabC.mk t2 m2 x2 z2) G Z2 _ _ _ (t.sql u h) (t.no _) (Reps.unm t r)
  | _, _, .obj q h n r => @Rep.obj (TabC.mk t2 m2 x2 z2) G Z2 _ _ _ _ _ q (t.ne h fun _ q => nomatch q) n (Reps.unm t r)
theorem Reps.unm (t : Turn2 t2 m2 x2 z2 a y w xs G Z Z2) : ∀ {vs : List V} {ds : List D}, Reps G Z vs ds → @Reps (TabC.mk t2 m2 x2 z2) G Z2 vs (umA y ds)
  | _, _, .nil => @Reps.nil (TabC.mk t2 m2 x2 z2) G Z2
  | _, _, .cons h r => @Reps.cons (TabC.mk t2 m2 x2 z2) G Z2 _ _ _ _ (Rep.unm t h) (Reps.unm t r)
end
theorem RepF.unm (t : Turn2 t2 m2 x2 z2 a y w xs G Z Z2) : ∀ {vs : List (Str × V)} {ds : List (Str × D)}, RepF G Z vs ds → @RepF (TabC.mk t2 m2 x2 z2) G Z2 vs (umF y ds)
  | _, _, .nil => @RepF.nil (TabC.mk t2 m2 x2 z2) G Z2
  | _, _, .cons h r => @RepF.cons (TabC.mk t2 m2 x2 z2) G Z2 _ _ _ _ _ (Rep.unm t h) (RepF.unm t r)
theorem RepO.unm (t : Turn2 t2 m2 x2 z2 a y w xs G Z Z2) {o : HO} {x : OV} : RepO G Z o x → @RepO (TabC.mk t2 m2 x2 z2) G Z2 o (umO y x)
  | .lst r => @RepO.lst (TabC.mk t2 m2 x2 z2) G Z2 _ _ (Reps.unm t r)
  | .ins r => @RepO.ins (TabC.mk t2 m2 x2 z2) G Z2 _ _ _ _ (RepF.unm t r)
  | .dt l r => @RepO.dt (TabC.mk t2 m2 x2 z2) G Z2 _ _ _ l (Reps.unm t r)
  | .dk l r => @RepO.dk (TabC.mk t2 m2 x2 z2) G Z2 _ _ _ l (Reps.unm t r)
end
end Ax
set_option Elab.async false
set_option linter.all false
set_option maxRecDepth 100000
set_option maxHeartbeats 400000
/-! AxQ: the statements of a block x = [..]; ..; x.append(c). -/
namespace Ax
open PySem PySem.Spec L2
variable [T0 : TabC]
section
variable {G : GW} {io : Option Addr} {Z H : Hp} {env : En} {σ : St} {a : Addr} {vs : List V}
theorem Gd.mark (no : NoMk) (g : Gd G io Z H env σ) (n : H a = none) (k : G.K.lookup a = none) : @Gd (Tk a) G io (upd Z a (.lst vs)) (upd H a (.lst vs)) env σ := by
  have z : Z a = none := g.sub.free n
  have grow : Same Z (upd Z a (.lst vs)) := same_upd z
  have sub : @Sub (Tk a) (upd Z a (.lst vs)) (upd H a (.lst vs)) := by
    refine @Sub.mk (Tk a) _ _ (same_upd2 g.sub.s) ⟨fun m b e => ?_, fun b o e => ?_⟩ (nt_upd' g.sub.nt fun ps q => nomatch q) (tb_upd g.sub.tb n)
    · have e' : (if m = 0 then some a else none) = some b := e
      split at e'
      · cases e'; exact ⟨vs, upd_same⟩
      · cases e'
    · have e' : T0.zb b = some o := e
      rw [no.z] at e'; cases e'
  refine @Gd.mk (Tk a) G io _ _ env σ sub g.len (fun i d e => ?_) (fun i m o e => ?_) g.dis g.fx
  · obtain ⟨v, h1, h2⟩ := g.sh i d e
    exact ⟨v, h1, @Rep.mono (Tk a) _ _ _ grow _ _ (Rep.mark no z k h2)⟩
  · obtain ⟨b, ho, h1, h2, h3, h4, h5⟩ := g.own i m o e
    have ne : b ≠ a := by rintro rfl; rw [n] at h3; cases h3
    exact ⟨b, ho, h1, by rw [upd_ne ne]; exact h2, by rw [upd_ne ne]; exact h3, @RepO.mono (Tk a) _ _ _ grow _ _ (RepO.mark no z k h4), h5⟩
theorem Gd.unm (no : NoMk) {y : D} {w : V} (g : @Gd (Tk a) G io Z H env σ) (z : Z a = some (.lst vs)) (yr : ∀ Z', Rep G Z' w y) : Gd G io (upd Z a (.lst (vs ++ [w]))) (upd H a (.lst (vs ++ [w]))) (env.map (umS y)) σ := by
  have gs : @Sub (Tk a) Z H := @Gd.sub (Tk a) _ _ _ _ _ _ g
  have gsh := @Gd.sh (Tk a) _ _ _ _ _ _ g
  have gown := @Gd.own (Tk a) _ _ _ _ _ _ g
  have gdis := @Gd.dis (Tk a) _ _ _ _ _ _ g
  have gfx := @Gd.fx (Tk a) _ _ _ _ _ _ g
  have t : @Turn2 (Tk a) T0.T T0.m T0.fx T0.zb a y w vs G Z (upd Z a (.lst (vs ++ [w]))) := @Turn2.mk (Tk a) T0.T T0.m T0.fx T0.zb a y w vs G Z _ z upd_same (fun b o ne q => by rw [upd_ne ne]; exact q) (yr _) (fun n b e => by
    have e' : (if n = 0 then some a else none) = some b := e
    split at e'
    · exact (Option.some.inj e').symm
    · cases e') (fun b u => un_tk u) (fun b => un_no no)
  have at_ : ∀ {i : Nat} {s : SV}, (env.map (umS y))[i]? = some s → ∃ s0, env[i]? = some s0 ∧ umS y s0 = s := fun {i s} h => by
    rw [List.getElem?_map] at h
    exact Option.map_eq_some_iff.mp h
  refine ⟨⟨same_upd2 (@Sub.s (Tk a) _ _ gs), ⟨fun m b e => ?_, fun b o e => ?_⟩, nt_upd' (@Sub.nt (Tk a) _ _ gs) (fun ps q => nomatch q), tb_poke (@Sub.tb (Tk a) _ _ gs) fun o e => ?_⟩, ?_, fun i d e => ?_, fun i m o e => ?_, fun i j m n x x' b h1 h2 h3 h4 => ?_, fun i e => ?_⟩
  · rw [no.m] at e; cases e
  · rw [no.z] at e; cases e
  · rw [@Sub.s (Tk a) _ _ gs _ _ z] at e
    cases e
    exact .inl ⟨_, rfl⟩
  · rw [List.length_map]; exact @Gd.len (Tk a) _ _ _ _ _ _ g
  · obtain ⟨s, h1, h2⟩ := at_ e
    cases s with
    | sh d0 =>
      cases h2
      obtain ⟨v, h3, h4⟩ := gsh i d0 h1
      exact ⟨v, h3, @Rep.unm (Tk a) T0.T T0.m T0.fx T0.zb G Z _ a y w vs t _ _ h4⟩
    | _ => cases h2
  · obtain ⟨s, h1, h2⟩ := at_ e
    cases s with
    | own m0 o0 =>
      cases h2
      obtain ⟨b, ho, h3, h4, h5, h6, h7⟩ := gown i _ o0 h1
      have ne : b ≠ a := by rintro rfl; rw [z] at h4; cases h4
      exact ⟨b, ho, h3, by rw [upd_ne ne]; exact h4, by rw [upd_ne ne]; exact h5, @RepO.unm (Tk a) T0.T T0.m T0.fx T0.zb G Z _ a y w vs t _ _ h6, h7⟩
    | _ => cases h2
  · obtain ⟨s1, a1, a2⟩ := at_ h1
    obtain ⟨s2, b1, b2⟩ := at_ h2
    cases s1 with
    | own m1 o1 =>
      cases s2 with
      | own m2 o2 => exact gdis i j m1 m2 o1 o2 b a1 b1 h3 h4
      | _ => cases b2
    | _ => cases a2
  · obtain ⟨s, h1, h2⟩ := at_ e
    cases s with
    | fx => exact gfx i h1
    | _ => cases h2
end
/-- what is wanted of the rest of the block -/
def WishR (C : Kx) (Dn : Ends) (σ : St) (a : Addr) (Z H : Hp) (env : En) (r : OS) : Prop := match r with
  | .nx e' => ∀ σ' H' Z', TrR a Z H env σ Z' H' e' σ' → Gd C.G C.io Z' H' e' σ' → Dn.nx σ' H'
  | .rt d e' => ∀ v σ' H' Z', TrR a Z H env σ Z' H' e' σ' → Gd C.G C.io Z' H' e' σ' → Rep C.G Z' v d → Dn.rt v H'
  | .bk e' => ∀ σ' H' Z', TrR a Z H env σ Z' H' e' σ' → Gd C.G C.io Z' H' e' σ' → Dn.bk σ' H'
  | .ct e' => ∀ σ' H' Z', TrR a Z H env σ Z' H' e' σ' → Gd C.G C.io Z' H' e' σ' → Dn.ct σ' H'
  | _ => False
def tR (C : Kx) (f : SS) : TS := fun Dn σ H => ∃ a Z env, @Gd (Tk a) C.G C.io Z H env σ ∧ WishR C Dn σ a Z H env (f env)
def sSeqM (f g : SS) : SS := fun env => match f env with
  | .nx e => g e
  | _ => .bad
def onlyR (r : OS) : OS := match r with
  | .rto _ _ => .bad
  | .ex _ _ _ => .bad
  | r => r
def sBegM (i : Nat) (fl : SL) (g : SS) : SS := fun env => match fl env with
  | .ok ds e => if ds.length ≤ sizeLine then onlyR (g (e.set i (.sh (.mk 0 ds)))) else .bad
  | _ => .bad
def sEndM (i : Nat) (y : D) (g : SS) : SS := fun env => match env[i]? with
  | some (.sh (.mk _ xs)) => if xs.length < sizeLine then onlyR (g (env.map (umS y))) else .bad
  | _ => .bad
def tLstK (K : PySem.W.Frag) (t : TA) : TE := fun σ H Q => t σ H fun vs H1 => vs.length ≤ sizeLine ∧ ∀ p, H1 p = none → K.lookup p = none → Q (.ref p) (upd H1 p (.lst vs))
section
variable {X : Cx} {C : Kx} {st : Stmt} {rest : List Stmt} {es : List Expr} {pos : Pos} {fl : SL} {f g : SS} {i : Nat} {t : TA}
theorem pe_lstK (h : PA X es t) : PE X (.List es pos) (tLstK X.K t) := by
  constructor
  intro pins s σ H Q I hq
  apply wpAny_List_spliced
  refine thn (h.run pos pins s σ H _ I hq) ?_
  rintro us s1 ⟨vs, H1, I1, r, size, q⟩
  have np := I1.hok.fresh (Nat.le_refl s1.heap.objs.size)
  have notK : X.K.lookup s1.heap.objs.size = none := by
    cases e : X.K.lookup s1.heap.objs.size with
    | none => rfl
    | some o => exact absurd (Heap.lt_size (I1.kIn _ _ e)) (Nat.lt_irrefl _)
  refine ⟨by rw [← r.length]; exact size, .ref _, upd H1 s1.heap.objs.size (.lst vs), ?_, rfl, q _ np notK⟩
  exact I1.laid (t' := s1.toks) (fun _ _ e => Heap.get?_push_of_some _ e) (Nat.le_refl _) ⟨size, us, 0, r, Heap.get?_push_size _ rfl⟩
theorem qm_beg (no : NoMk) (hK : X.K = C.G.K) (h : PS X st (tAsg (tLstK X.K (tL C fl)) (gName i))) (h2 : PSs X rest (tR C g)) : PSs X (st :: rest) (tS C (sBegM i fl g)) := PSs.imp (pss_cons h h2) fun Dn σ H ⟨Z, env, g0, w⟩ => by
  refine ⟨Z, env, g0, ?_⟩
  unfold sBegM at w
  revert w
  generalize fl env = r
  intro w
  cases r with
  | bad => exact False.elim w
  | ex c p e => exact False.elim w
  | ok ds e =>
  intro vs H1 Z1 t1 g1 r1
  dsimp only at w
  split at w
  rotate_left
  · exact w.elim
  rename_i hz
  refine ⟨by rw [r1.length]; exact hz, fun p np nk => ?_⟩
  rw [hK] at nk
  have zp := g1.sub.free np
  have gm := Gd.mark (vs := vs) no g1 np nk
  have rm : @Rep (Tk p) C.G (upd Z1 p (.lst vs)) (.ref p) (.mk 0 ds) := @Rep.mk (Tk p) C.G _ p 0 vs ds upd_same rfl (@Reps.mono (Tk p) _ _ _ (same_upd zp) _ _ (Reps.mark no zp nk r1))
  refine ⟨p, _, _, @Gd.setSh (Tk p) _ _ _ _ _ _ gm i _ _ rm, ?_⟩
  generalize g (e.set i (.sh (.mk 0 ds))) = r at w ⊢
  cases r with
  | nx e' => exact fun σ' H' Z' tr g' => w σ' H' Z' (t1.trans (tr.start np zp)) g'
  | rt d e' => exact fun v σ' H' Z' tr g' rv => w v σ' H' Z' (t1.trans (tr.start np zp)) g' rv
  | bk e' => exact fun σ' H' Z' tr g' => w σ' H' Z' (t1.trans (tr.start np zp)) g'
  | ct e' => exact fun σ' H' Z' tr g' => w σ' H' Z' (t1.trans (tr.start np zp)) g'
  | _ => exact w
theorem qm_k (h1 : ∀ a, PS X st (@tS (Tk a) C f)) (h2 : PSs X rest (tR C g)) : PSs X (st :: rest) (tR C (sSeqM f g)) :=
  PSs.imp (pss_cons (t := fun Dn σ H => ∃ a, @tS (Tk a) C f Dn σ H) ⟨fun pins s σ H D I ⟨a, q⟩ => (h1 a).run pins s σ H D I q⟩ h2) fun Dn σ H ⟨a, Z, env, g0, w⟩ => by
    refine ⟨a, Z, env, g0, ?_⟩
    unfold sSeqM at w
    revert w
    generalize f env = r
    intro w
    cases r with
    | nx e =>
      intro σ' H' Z' t' g'
      refine ⟨a, Z', e, g', ?_⟩
      have t2 : Tr Z H env σ Z' H' e σ' := t'
      dsimp only at w
      generalize g e = r at w ⊢
      cases r with
      | nx e' => exact fun σ2 H2 Z2 tr g2 => w σ2 H2 Z2 (t2.thenR tr) g2
      | rt d e' => exact fun v σ2 H2 Z2 tr g2 rv => w v σ2 H2 Z2 (t2.thenR tr) g2 rv
      | bk e' => exact fun σ2 H2 Z2 tr g2 => w σ2 H2 Z2 (t2.thenR tr) g2
      | ct e' => exact fun σ2 H2 Z2 tr g2 => w σ2 H2 Z2 (t2.thenR tr) g2
      | _ => exact w
    | _ => exact w.elim
theorem qm_end {v : V} {y : D} (no : NoMk) (h : PS X st (tDrop (tBM X.K "list" rAppend (tVar i) (tCons (tC v) tNil)))) (hy : ∀ Z, Rep C.G Z v y) (h2 : PSs X rest (tS C g)) : PSs X (st :: rest) (tR C (sEndM i y g)) := PSs.imp (pss_cons h h2) fun Dn σ H ⟨a, Z, env, g0, w⟩ => by
  unfold sEndM at w
  split at w
  rotate_left
  · exact w.elim
  rename_i n xs he
  split at w
  rotate_left
  · exact w.elim
  rename_i hz
  obtain ⟨v0, h1, r0⟩ := @Gd.sh (Tk a) _ _ _ _ _ _ g0 i _ he
  obtain ⟨vs, e0, zb, ln⟩ : ∃ vs, v0 = .ref a ∧ Z a = some (.lst vs) ∧ vs.length = xs.length := by
    cases r0 with
    | @mk b _ vs _ h u r =>
      have u' : (if n = 0 then some a else none) = some b := u
      split at u'
      · cases u'; exact ⟨vs, rfl, h, @Reps.length (Tk a) _ _ _ _ r⟩
      · cases u'
  subst e0
  have hb : H a = some (.lst vs) := @Sub.s (Tk a) _ _ (@Gd.sub (Tk a) _ _ _ _ _ _ g0) _ _ zb
  have gu := Gd.unm no g0 zb hy
  refine ⟨.ref a, h1, .inl ⟨rfl, _, .inl (.inl hb)⟩, ?_⟩
  refine ⟨a, vs, v, rfl, rfl, hb, by rw [ln]; exact hz, ?_⟩
  refine ⟨_, _, gu, ?_⟩
  generalize g (env.map (umS y)) = r at w ⊢
  cases r with
  | nx e' => exact fun σ2 H2 Z2 tr g2 => w σ2 H2 Z2 (TrR.stop ⟨_, hb⟩ tr) g2
  | rt d e' => exact fun v σ2 H2 Z2 tr g2 rv => w v σ2 H2 Z2 (TrR.stop ⟨_, hb⟩ tr) g2 rv
  | bk e' => exact fun σ2 H2 Z2 tr g2 => w σ2 H2 Z2 (TrR.stop ⟨_, hb⟩ tr) g2
  | ct e' => exact fun σ2 H2 Z2 tr g2 => w σ2 H2 Z2 (TrR.stop ⟨_, hb⟩ tr) g2
  | _ => exact w.elim
end
end Ax
set_option Elab.async false
set_option linter.all false
set_option maxRecDepth 100000
set_option maxHeartbeats 400000
/-! AxR: a def that makes lambdas; the end of a law that makes lambdas. -/
namespace Ax
open PySem PySem.Spec L2 PyProof.Rows
/-- a def whose code object stands at c -/
structure FunC (K : PySem.W.Frag) (x q : Str) (st : Stmt) (g : Addr) (fd : FuncData) (c : Addr) : Prop where
  ex : ∃ (oc : Value) (od : Option Addr) (kV doc pm : Value) (an : Option Addr) (ct : Value) (osl : Array (Option Value)), fd = PySem.W.fnOf x q (defArgs st) (defBody st) (defScope st) .none kV doc pm an (.ref c) ct ∧ K.lookup g = some ⟨oc, od, .func fd, osl⟩ ∧ PySem.W.codeIn K (.ref c) q = true
  kp : PySem.W.keepIn K (.ref g) = true
theorem FunC.fn {K : PySem.W.Frag} {x q : Str} {st : Stmt} {f c : Addr} {fd : FuncData} (F : FunC K x q st f fd c) : Fun K x q st f fd := by
  obtain ⟨oc, od, kV, doc, pm, an, ct, osl, e, l, k⟩ := F.ex
  exact ⟨⟨oc, od, kV, doc, pm, an, _, ct, osl, e, l, k⟩, F.kp⟩
/-- the name that the lambdas of a def bear -/
abbrev lamName (q : Str) : Str := q ++ ".<locals>." ++ "<lambda>"
/-- the one table, of the def at f -/
structure OneTab [T0 : TabC] (base : Heap) (mg : Str → Option Value) (c P : Addr) (q : Str) : Prop where
  T : (TabC.T : List (Addr × Str)) = [(P, lamName q)]
  B : LamX.TabB base mg c P
theorem OneTab.mine [T0 : TabC] {base : Heap} {mg : Str → Option Value} {c P : Addr} {q : Str} (t : OneTab base mg c P q) : (P, lamName q) ∈ (TabC.T : List (Addr × Str)) := by rw [t.T]; exact List.mem_singleton.mpr rfl
theorem OneTab.alone [T0 : TabC] {base : Heap} {mg : Str → Option Value} {c P : Addr} {q : Str} (t : OneTab base mg c P q) : ∀ p ∈ (TabC.T : List (Addr × Str)), p.1 = P → p.2 = lamName q := fun p hp e => by
  rw [t.T, List.mem_singleton] at hp
  rw [hp]
theorem OneTab.tk (T0 : TabC) {base : Heap} {mg : Str → Option Value} {c P : Addr} {q : Str} (t : @OneTab T0 base mg c P q) (a : Addr) : @OneTab (@Tk T0 a) base mg c P q := @OneTab.mk (@Tk T0 a) base mg c P q (@OneTab.T T0 base mg c P q t) (@OneTab.B T0 base mg c P q t)
section
variable [T0 : TabC] {P : Program} {w : World} {K : PySem.W.Frag} {mg : Str → Option Value} {base : Heap}
theorem ok_fnC {G : GW} {x qual : Str} {st : Stmt} {f c : Addr} {fd : FuncData} {N ps : List Str} {k : Nat} {sf : SS} (F : FunC K x qual st f fd c) (S : FnScope N ps (defScope st))
    (hbody : ∀ (A : Around) (outer : List Env) (s : Shared) (H : Hp) (E : XK), Room k (A.deeper (envOfC qual (defScope st) s.heap.objs.size f (.ref c))) →
      PSs (cxOf (L2.CX P w) P w K mg base N qual (defScope st) f (.ref c) A outer s H E) (defBody st) (tS (kxP G E) sf)) : FnOk P w K mg base (L2.CX P w) (k + 1) f fd ps (spP G ps.length (runP N.length sf)) := by
  obtain ⟨oc, od, kV, doc, pm, an, ct, osl, rfl, lk, cod⟩ := F.ex
  refine fn_of lk cod S (fun vs H Q E ⟨Z, ds, s, r, n, _⟩ => r.length.trans n) ?_
  intro A outer s H vs Q E hr ⟨Z, ds, sub, r, n, h⟩
  refine ⟨_, hbody A outer s H E hr, Z, _, env0_gd sub r, ?_⟩
  unfold runP at h
  generalize sf (env0 N.length ds) = o at h ⊢
  cases o with
  | nx e => exact fun σ' H' Z' t g => h _ _ _ (step_of t g) .non
  | rt d e => exact fun v σ' H' Z' t g q => h _ _ _ (step_of t g) q
  | ex c p e => exact fun σ' H' Z' od t g q => h _ _ _ (step_of t g) q
  | rto o e =>
    dsimp only at h
    intro p ho σ' H' Z' t g n no z hp r
    cases hf : o.fz with
    | none => rw [hf] at h; exact False.elim h
    | some d =>
      rw [hf] at h
      exact h _ _ _ (fz_step (G := G) (step_of t g) n z hp r.ob.nt) (rep_frozen z (g.sub.un z) r hf)
  | _ => exact False.elim h
end
theorem def_factC {K : PySem.W.Frag} {h : Heap} {mg : Str → Option Value} (x : Str) (st : Stmt) {f cc P : Addr} {od an dd : Option Addr} {sl csl : Array (Option Value)} {oc kV dc pm ct ccl : Value} {vs : Array Value} (X : K.In h) (G : h.Ns mainGlobals mg)
    (a : PySem.W.nsIn K mainGlobals x = some (some (.ref f))) (l : K.lookup f = some ⟨oc, od, .func (PySem.W.fnOf x x (defArgs st) (defBody st) (defScope st) .none kV dc pm an (.ref cc) ct), sl⟩) (c : PySem.W.codeIn K (.ref cc) x = true) (k : PySem.W.keepIn K (.ref f) = true)
    (lc : K.lookup cc = some ⟨ccl, dd, .fields vs, csl⟩) (p : vs[11]? = some (.ref P)) (hd : PySem.W.codeHdIn K cc P = true) (np : K.lookup P = none) :
    ∃ f d c P, FunC K x x st f d c ∧ mg x = some (.ref f) ∧ PySem.W.CodeHd h c P ∧ K.lookup P = none ∧ (LamX.OwnTab K f h → h.get? P = some { cls := .none, data := .fields #[] }) :=
  ⟨f, _, cc, P, ⟨⟨oc, od, kV, dc, pm, an, ct, sl, rfl, l, c⟩, k⟩, PySem.W.mg_of X G a, PySem.W.codeHd_of_K X hd, np, fun t => t cc P _ _ _ _ _ _ l rfl rfl lc p⟩
/-- a def that is used as a value -/
theorem def_factF {K : PySem.W.Frag} {h : Heap} {mg : Str → Option Value} (x : Str) (st : Stmt) {f : Addr} {od an : Option Addr} {sl : Array (Option Value)} {oc kV dc pm cd ct : Value} (X : K.In h) (G : h.Ns mainGlobals mg)
    (a : PySem.W.nsIn K mainGlobals x = some (some (.ref f))) (l : K.lookup f = some ⟨oc, od, .func (PySem.W.fnOf x x (defArgs st) (defBody st) (defScope st) .none kV dc pm an cd ct), sl⟩) (c : PySem.W.codeIn K cd x = true) (k : PySem.W.keepIn K (.ref f) = true) (t : oc = .type "function") :
    ∃ f d, Fun K x x st f d ∧ mg x = some (.ref f) ∧ FnAt K f := ⟨f, _, fun_mk l c k, PySem.W.mg_of X G a, _, l, t⟩
/-- the end: a law that makes lambdas -/
theorem law_at {l : PySem.W.OpenLaw} {w : World} {K : PySem.W.Frag} {k : Nat} {x : Str} {mg : Str → Option Value} {fa c P : Addr} {fd : FuncData} {h : Heap} {q : Str} (empty : h.get? P = some { cls := .none, data := .fields #[] }) (notK : K.lookup P = none) (code : PySem.W.CodeHd h c P)
    (b : ∀ (s : Shared) (u : Value), BindsTo s fd ⟨[u], []⟩ [(x, u)])
    (ok : ∀ base : Heap, @OneTab (TabC.mk [(P, lamName q)] (fun _ => none) none (fun _ => none)) base mg c P q → FnOk l.prog w K mg base (L2.CX l.prog w) k fa fd [x] (@spLaw (TabC.mk [(P, lamName q)] (fun _ => none) none (fun _ => none)) K)) :
    LamX.LawAtS l w K (L2.CX l.prog w) k 63 x mg fa h := by
  have one : ∀ {p : Addr × Addr}, p ∈ [(c, P)] → p = (c, P) := fun hp => List.mem_singleton.mp hp
  refine ⟨fd, [(c, P)], @spLaw (TabC.mk [(P, lamName q)] (fun _ => none) none (fun _ => none)) K, ?_, ?_, ?_, b, ?_, ?_⟩
  · intro p hp; rw [one hp]; exact empty
  · intro p hp; rw [one hp]; exact notK
  · intro p hp; rw [one hp]; exact code
  · intro H a ns hl hb ht hs
    refine ⟨a, ns, rfl, hs, ?_, hl, hb, fun _ => rfl⟩
    intro p hp
    have e : p = (P, lamName q) := List.mem_singleton.mp hp
    subst e
    exact LamX.TabS.nil (ht (c, P) (List.mem_singleton.mpr rfl))
  · intro base _ _ hB
    exact ok base (@OneTab.mk (TabC.mk [(P, lamName q)] (fun _ => none) none (fun _ => none)) base mg c P q rfl (hB (c, P) (List.mem_singleton.mpr rfl)))
end Ax
set_option Elab.async false
set_option linter.all false
set_option maxRecDepth 100000
set_option maxHeartbeats 400000
/-! AxS: the facts of an own error from what the top has written. -/
namespace AxE
open PySem PySem.Spec L2 PySem.W Ax
/-- the __init__ of an own error, as it is written -/
structure ShapeE (st : Stmt) (p f : Str) : Prop where
  body : ∃ (p0 p1 p2 p3 p4 p5 p6 p7 p8 p9 : Pos), defBody st = initBody p f p0 p1 p2 p3 p4 p5 p6 p7 p8 p9 ∧ ∀ env : Env, ∃ pl : Sem Bool, eval (.Call (.Attribute (.Call (.Name "super" p0) [] [] p1) "__init__" p2) [.Name p p3] [] p4) env = (do
      let ov ← attributeBase (.Call (.Name "super" p0) [] [] p1) "__init__" env (eval (.Call (.Name "super" p0) [] [] p1) env)
      standAt p2.atName
      let (fn, pre) ← holding [ov] (getMethod ov "__init__" pl)
      callWith p4 fn pre (backTo p4 (starEach [.Name p p3] env)) [])
  arg : ∃ ar : Arg, ((defArgs st).posonlyargs ++ (defArgs st).args).head? = some ar ∧ ar.arg = "self"
  sup : (defScope st).names.lookup ("super" : Str) = some .globalImplicit
  cls : (defScope st).names.lookup ("__class__" : Str) = some .free
  self : (defScope st).names.lookup ("self" : Str) = some .local
  par : (defScope st).names.lookup p = some .local
  kind : (defScope st).kind = .function
  co : (defScope st).isCoroutine = false
  gen : (defScope st).isGenerator = false
  cell : ∀ x ∈ (defScope st).names, x.2 ≠ .cell
  binds : ∀ (q : Str) (kV doc pm ct a u : Value) (an : Option Addr) (cda cc : Addr), bindArgs (ksFn "__init__" q (defArgs st) (defBody st) (defScope st) .none kV doc pm an (.ref cda) ct cc) ⟨[a, u], []⟩ = pure ([("self", a), (p, u)] : List (Str × Value))
theorem bad_fact {K : Frag} {h : Heap} {mg : Str → Option Value} (x p f : Str) (st : Stmt) (mf : Str) (S : ShapeE st p f) {C fI cda cc N : Addr} {nm q qual : Str} {bs bm sub : List Value} {sn : List Str} {ab : Bool} {col : Option Bool} {dd od an cdd cld : Option Addr} {k0 k1 k2 k3 k5 : Option Value}
    {oc kV doc pm ct ccl cl : Value} {osl ccs csl : Array (Option Value)} {vs : Array Value} {tf : Tok} (X : K.In h) (G : h.Ns mainGlobals mg)
    (aC : nsIn K mainGlobals x = some (some (.ref C))) (lC : K.lookup C = some (excClassObj nm q C N bs bm true sn sub ab col dd k0 k1 k2 k3 k5 "ValueError.__new__")) (rf : HandSPX.refsVE bm = true)
    (sa : findIn K (.ref C) "__setattr__" = some (some (.builtin "object.__setattr__"))) (ex : subIn K (.ref C) (.type "BaseException") = some true) (ty : typeIn K (.ref C) = some (.type "type")) (kC : keepIn K (.ref C) = true)
    (ini : findIn K (.ref C) "__init__" = some (some (.ref fI))) (typ : typeIn K (.ref fI) = some (.type "function")) (no : findIn K (.ref C) f = some none) (sup : ks_superIn K C C "__init__" = some (some (.builtin "ValueError.__init__")))
    (sVE : subIn K (.ref C) (.type "ValueError") = some true) (own : mroIn K C (.ref C) = some true) (xin : excInitIn K C HandSPX.veTail "ValueError.__new__" = true) (opq : nsIn K cStatics "thirdparty.any" = some none)
    (lI : K.lookup fI = some ⟨oc, od, .func (ksFn "__init__" qual (defArgs st) (defBody st) (defScope st) .none kV doc pm an (.ref cda) ct cc), osl⟩) (cod : codeIn K (.ref cda) qual = true) (lcd : K.lookup cda = some ⟨ccl, cdd, .fields vs, ccs⟩) (file : vs[2]? = some (.str mf tf)) (lcc : K.lookup cc = some ⟨cl, cld, .cell (some (.ref C)), csl⟩)
    (ga : findIn K (.ref C) "__getattribute__" = some (some (.builtin "BaseException.__getattribute__"))) (gg : findIn K (.ref C) "__getattr__" = some none) (hd : hasDictIn K C = true) :
    BadC K mf C fI p f ∧ mg x = some (.ref C) ∧ XfC K C := by
  obtain ⟨p0, p1, p2, p3, p4, p5, p6, p7, p8, p9, eb, ev⟩ := S.body
  obtain ⟨ar, a1, a2⟩ := S.arg
  refine ⟨⟨⟨⟨nm, q, N, bs, bm, sn, sub, ab, col, dd, k0, k1, k2, k3, k5, lC, rf⟩, sa, ex, ty, kC⟩, ini, typ, no, sup, sVE, own, xin, opq, ?_⟩, mg_of X G aC, ⟨ga, gg, ex, hd⟩⟩
  have bi := S.binds
  rw [eb] at lI bi
  exact ⟨qual, defArgs st, p0, p1, p2, p3, p4, p5, p6, p7, p8, p9, defScope st, .none, kV, doc, pm, ct, oc, ccl, cl, an, od, cdd, cld, osl, ccs, csl, cda, cc, vs, tf, ar, lI, cod, a1, a2, lcd, file, lcc, S.sup, S.cls, S.self, S.par, S.kind, S.co, S.gen, S.cell, fun s a u => .of_eq (bi _ _ _ _ _ _ _ _ _ _), ev⟩
theorem xm_of {K : Frag} {h : Heap} {mg : Str → Option Value} {x y : Str} {C1 C2 : Addr} {b : Bool} (_ : K.In h) (_ : mg x = some (.ref C1)) (_ : mg y = some (.ref C2)) (e1 : subIn K (.ref C2) (.type "BaseException") = some true) (e2 : (clsIn K C2).isSome = true)
    (e3 : typeIn K (.ref C2) = some (.type "type")) (e4 : subIn K (.ref C1) (.ref C2) = some b) : exmOne K (.ref C1) (.ref C2) = some b := by
  unfold exmOne kitCls
  simp [e1, e2, e3, e4]
abbrev cOf {K : Frag} {mf : Str} {C fI : Addr} {p f : Str} (_ : BadC K mf C fI p f) : Addr := C
abbrev iOf {K : Frag} {mf : Str} {C fI : Addr} {p f : Str} (_ : BadC K mf C fI p f) : Addr := fI
end AxE
set_option Elab.async false
set_option linter.all false
set_option maxRecDepth 100000
set_option maxHeartbeats 400000
/-! AxT: several defs that make lambdas; defs that draw and make lambdas; errors out of methods and makers. -/
namespace Ax
open PySem PySem.Spec L2 PyProof.Rows
/-- the tables of all defs that make lambdas: code object, table, name of the def -/
structure TabsOk [T0 : TabC] (base : Heap) (mg : Str → Option Value) (L : List (Addr × Addr × Str)) : Prop where
  T : (TabC.T : List (Addr × Str)) = L.map fun x => (x.2.1, lamName x.2.2)
  B : ∀ x ∈ L, LamX.TabB base mg x.1 x.2.1
  nd : (L.map fun x => x.2.1).Nodup
theorem nd_inj {α β : Type} {f : α → β} : ∀ {L : List α}, (L.map f).Nodup → ∀ {x y : α}, x ∈ L → y ∈ L → f x = f y → x = y
  | [], _, _, _, hx, _, _ => by cases hx
  | z :: L, nd, x, y, hx, hy, e => by
    rw [List.map_cons, List.nodup_cons] at nd
    cases hx with
    | head => cases hy with
      | head => rfl
      | tail _ hy => exact (nd.1 (e ▸ List.mem_map.mpr ⟨y, hy, rfl⟩)).elim
    | tail _ hx => cases hy with
      | head => exact (nd.1 (e ▸ List.mem_map.mpr ⟨x, hx, rfl⟩)).elim
      | tail _ hy => exact nd_inj nd.2 hx hy e
section
variable [T0 : TabC] {base : Heap} {mg : Str → Option Value} {L : List (Addr × Addr × Str)} {c P : Addr} {q : Str}
theorem TabsOk.b (t : TabsOk base mg L) (i : Nat) (h : L[i]? = some (c, P, q)) : LamX.TabB base mg c P := t.B _ (List.mem_of_getElem? h)
theorem TabsOk.mine (t : TabsOk base mg L) (i : Nat) (h : L[i]? = some (c, P, q)) : (P, lamName q) ∈ (TabC.T : List (Addr × Str)) := by
  rw [t.T]
  exact List.mem_map.mpr ⟨_, List.mem_of_getElem? h, rfl⟩
theorem TabsOk.alone (t : TabsOk base mg L) (i : Nat) (h : L[i]? = some (c, P, q)) : ∀ p ∈ (TabC.T : List (Addr × Str)), p.1 = P → p.2 = lamName q := fun p hp e => by
  rw [t.T] at hp
  obtain ⟨x, hx, rfl⟩ := List.mem_map.mp hp
  have := nd_inj t.nd hx (List.mem_of_getElem? h) e
  rw [this]
end
theorem TabsOk.tk (T0 : TabC) {base : Heap} {mg : Str → Option Value} {L : List (Addr × Addr × Str)} (t : @TabsOk T0 base mg L) (a : Addr) : @TabsOk (@Tk T0 a) base mg L :=
  @TabsOk.mk (@Tk T0 a) base mg L (@TabsOk.T T0 base mg L t) (@TabsOk.B T0 base mg L t) (@TabsOk.nd T0 base mg L t)
/-! the facts of such a def at the top; the table's address stays in sight -/
structure LamDef (K : PySem.W.Frag) (h : Heap) (mg : Str → Option Value) (x : Str) (st : Stmt) (P : Addr) : Prop where
  ex : ∃ f d c, FunC K x x st f d c ∧ mg x = some (.ref f) ∧ PySem.W.CodeHd h c P
  np : K.lookup P = none
abbrev pOf {K : PySem.W.Frag} {h : Heap} {mg : Str → Option Value} {x : Str} {st : Stmt} {P : Addr} (_ : LamDef K h mg x st P) : Addr := P
theorem lam_fact {K : PySem.W.Frag} {h : Heap} {mg : Str → Option Value} (x : Str) (st : Stmt) {f cc P : Addr} {od an dd : Option Addr} {sl csl : Array (Option Value)} {oc kV dc pm ct ccl : Value} {vs : Array Value} (X : K.In h) (G : h.Ns mainGlobals mg)
    (a : PySem.W.nsIn K mainGlobals x = some (some (.ref f))) (l : K.lookup f = some ⟨oc, od, .func (PySem.W.fnOf x x (defArgs st) (defBody st) (defScope st) .none kV dc pm an (.ref cc) ct), sl⟩) (c : PySem.W.codeIn K (.ref cc) x = true) (k : PySem.W.keepIn K (.ref f) = true)
    (lc : K.lookup cc = some ⟨ccl, dd, .fields vs, csl⟩) (p : vs[11]? = some (.ref P)) (hd : PySem.W.codeHdIn K cc P = true) (np : K.lookup P = none) : LamDef K h mg x st P :=
  ⟨⟨f, _, cc, ⟨⟨oc, od, kV, dc, pm, an, ct, sl, rfl, l, c⟩, k⟩, PySem.W.mg_of X G a, PySem.W.codeHd_of_K X hd⟩, np⟩
/-- the table class of a law -/
abbrev tabC (L : List (Addr × Addr × Str)) : TabC := TabC.mk (L.map fun x => (x.2.1, lamName x.2.2)) (fun _ => none) none (fun _ => none)
theorem law_atT {l : PySem.W.OpenLaw} {w : World} {K : PySem.W.Frag} {k : Nat} {x : Str} {mg : Str → Option Value} {fa : Addr} {fd : FuncData} {h : Heap} (L : List (Addr × Addr × Str)) (nd : (L.map fun x => x.2.1).Nodup) (empty : ∀ p ∈ L, h.get? p.2.1 = some { cls := .none, data := .fields #[] }) (notK : ∀ p ∈ L, K.lookup p.2.1 = none) (code : ∀ p ∈ L, PySem.W.CodeHd h p.1 p.2.1)
    (b : ∀ (s : Shared) (u : Value), BindsTo s fd ⟨[u], []⟩ [(x, u)])
    (ok : ∀ base : Heap, @TabsOk (tabC L) base mg L → FnOk l.prog w K mg base (L2.CX l.prog w) k fa fd [x] (@spLaw (tabC L) K)) :
    LamX.LawAtS l w K (L2.CX l.prog w) k 63 x mg fa h := by
  have bk : ∀ {p : Addr × Addr}, p ∈ (L.map fun x => (x.1, x.2.1)) → ∃ y ∈ L, (y.1, y.2.1) = p := fun hp => List.mem_map.mp hp
  refine ⟨fd, L.map fun x => (x.1, x.2.1), @spLaw (tabC L) K, fun p hp => ?_, fun p hp => ?_, fun p hp => ?_, b, fun H a ns hl hb ht hs => ?_, fun base _ _ hB => ?_⟩
  · obtain ⟨y, hy, rfl⟩ := bk hp; exact empty y hy
  · obtain ⟨y, hy, rfl⟩ := bk hp; exact notK y hy
  · obtain ⟨y, hy, rfl⟩ := bk hp; exact code y hy
  · refine ⟨a, ns, rfl, hs, fun p hp => ?_, hl, hb, fun _ => rfl⟩
    obtain ⟨y, hy, rfl⟩ := List.mem_map.mp (show p ∈ L.map fun x => (x.2.1, lamName x.2.2) from hp)
    exact LamX.TabS.nil (ht (y.1, y.2.1) (List.mem_map.mpr ⟨y, hy, rfl⟩))
  · exact ok base (@TabsOk.mk (tabC L) base mg L rfl (fun y hy => hB (y.1, y.2.1) (List.mem_map.mpr ⟨y, hy, rfl⟩)) nd)
/-! ### a def that draws and makes lambdas -/
section
variable [T0 : TabC] {P : Program} {w : World} {K : PySem.W.Frag} {mg : Str → Option Value} {base : Heap}
theorem ok_fnCI {G : GW} {x qual : Str} {st : Stmt} {f c : Addr} {fd : FuncData} {N : List Str} {p0 : Str} {ps : List Str} {k : Nat} {sf : SS} (F : FunC K x qual st f fd c) (S : FnScope N (p0 :: ps) (defScope st))
    (hbody : ∀ (A : Around) (outer : List Env) (s : Shared) (H : Hp) (E : XK) (a : Addr), Room k (A.deeper (envOfC qual (defScope st) s.heap.objs.size f (.ref c))) →
      PSs (cxOf (L2.CX P w) P w K mg base N qual (defScope st) f (.ref c) A outer s H E) (defBody st) (tS ⟨G, some a, fun cls d _ H => E cls d H⟩ sf)) : FnOk P w K mg base (L2.CX P w) (k + 1) f fd (p0 :: ps) (spI G ps.length (runI N.length sf)) := by
  have hN : 0 < N.length := by
    have h := congrArg List.length S.pre
    rw [List.length_take, List.length_cons] at h
    omega
  obtain ⟨oc, od, kV, doc, pm, an, ct, osl, rfl, lk, cod⟩ := F.ex
  refine fn_of lk cod S (fun vs H Q E ⟨Z, a, vs', ho, ss, ds, e, s, z, h, rw_, r, n, _⟩ => by rw [e, List.length_cons, List.length_cons, r.length, n]) ?_
  intro A outer s H vs Q E hr ⟨Z, a, vs', ho, ss, ds, e, sub, z, hh, rw_, r, n, h⟩
  subst e
  refine ⟨_, hbody A outer s H E a hr, Z, _, envI_gd hN sub z hh rw_ r, ?_⟩
  unfold runI at h
  revert h
  generalize sf (.own true ss :: env0 (N.length - 1) ds) = o
  intro h
  cases o with
  | nx e =>
    intro σ' H' Z' t g
    dsimp only at h
    cases hi : io0 e with
    | none => rw [hi] at h; exact h.elim
    | some s' =>
      rw [hi] at h
      obtain ⟨st, ws', h1, h2⟩ := stepI_of (r := (L2.start N (.ref a :: vs')).tail) t g hi
      exact h _ _ _ ws' st h1 h2 .non
  | rt d e =>
    intro v σ' H' Z' t g q
    dsimp only at h
    cases hi : io0 e with
    | none => rw [hi] at h; exact h.elim
    | some s' =>
      rw [hi] at h
      obtain ⟨st, ws', h1, h2⟩ := stepI_of (r := (L2.start N (.ref a :: vs')).tail) t g hi
      exact h _ _ _ ws' st h1 h2 q
  | rto o e =>
    intro p ho σ' H' Z' t g n no z hp r
    dsimp only at h
    cases hi : io0 e with
    | none => rw [hi] at h; exact h.elim
    | some s' =>
      rw [hi] at h
      cases hf : o.fz with
      | none => rw [hf] at h; exact h.elim
      | some d =>
        rw [hf] at h
        obtain ⟨st, ho', h1, h2⟩ := stepI_of (r := (L2.start N (.ref a :: vs')).tail) t g hi
        have na : p ≠ a := fun q => by subst q; rw [hh] at n; cases n
        exact h _ _ _ ho' (fz_stepI (G := G) st na n z hp r.ob.nt) h1 (h2.mono (same_upd z)) (rep_frozen z (g.sub.un z) r hf)
  | ex c p e =>
    intro σ' H' Z' od t g q
    dsimp only at h
    cases hi : io0 e with
    | none => rw [hi] at h; exact h.elim
    | some s' =>
      rw [hi] at h
      obtain ⟨st, ws', h1, h2⟩ := stepI_of (r := (L2.start N (.ref a :: vs')).tail) t g hi
      exact h _ _ _ ws' st h1 h2 q
  | _ => exact h.elim
end
/-! ### errors out of methods and makers, where what is wanted of them does not look at the slots -/
theorem passW {X : Cx} {W : WX} (tk : Takes X W) (E : XK) (hW : ∀ σ, WE W σ = E) : Passes (L2.CX X.prog X.w) X E := fun pins σ H s e s' I c => by
  have z := passAt tk σ pins H s e s' I
  rw [hW σ] at z
  exact z c
section
variable {X : Cx} {C : Kx} {e o a b : Expr} {es : List Expr} {fa fb fe : SE} {fl : SL} {p pos apos : Pos} {x m : Str} {k n : Nat} {f : Addr} {fd : FuncData} {ps : List Str} [T0 : TabC]
def sMethX (c n : Nat) (F : FS) (fa : SE) (fl : SL) : SE := fun env => (fa env).bind fun d e => match d with
  | .obj c' fs => if c' = c then ((fl e).bind fun ds e2 => if ds.length + 1 = n then (match F (.obj c' fs :: ds) with
    | .ok d _ => .ok d e2
    | .ex c p _ => .ex c p e2
    | .bad => .bad) else .bad) else .bad
  | _ => .bad
theorem methX_imp {c : Nat} {F : FS} {E : XK} (hW : ∀ σ, WE C.W σ = E) {σ : L2.St} {H : Hp} {Q : VK} (hl : m ∉ C.G.flds c) (h : tE C (sMethX c n F fa fl) σ H Q) : tMeth (C.G.cls c) m (spP C.G n F) [] E (tE C fa) (tL C fl) σ H Q := by
  obtain ⟨Z, env, g, q⟩ := h
  refine ⟨Z, env, g, (Wish.bind (S := Rep C.G) q).mono fun v H1 ⟨Z1, d, e1, t1, g1, r1, w1⟩ => ?_⟩
  cases r1 with
  | obj kn h nn r =>
    simp only at w1
    split at w1
    · rename_i hcc
      subst hcc
      refine ⟨_, _, _, rfl, g1.sub.s _ _ h, zip_lookup_none hl, Z1, e1, g1, (Wish.bind (S := Reps C.G) w1).mono fun vs H2 ⟨Z2, ds, e2, t2, g2, r2, w2⟩ => ?_⟩
      split at w2
      · rename_i hn
        rename_i fs _ _
        refine ⟨Z2, _ :: ds, g2.sub, .cons ((Rep.obj kn h nn r).mono t2.fz) (by rw [List.append_nil]; exact r2), hn, ?_⟩
        revert w2
        generalize F (_ :: ds) = rr
        intro w2
        cases rr with
        | ok d' _ => exact fun v' H' Z' s r' => w2.ret g2 s r'
        | ex c p _ =>
          intro H' Z' od s r'
          have := w2 H' Z' od (.step s) (g2.step s) r'
          rw [← hW]
          exact this
        | bad => exact w2
      · exact w2.elim
    · exact w1.elim
  | _ => exact w1.elim
theorem pd_methX {c : Nat} {F : FS} {E : XK} {pl : Sem Bool} (hW : ∀ σ, WE C.W σ = E) (tk : Takes X C.W) (ho : PE X o (tE C fa)) (hc : Cls X.K (C.G.cls c)) (hl : m ∉ C.G.flds c) (hm : Meth X.K (C.G.cls c) m f) (FOk : FnOk X.prog X.w X.K X.mg X.base (L2.CX X.prog X.w) k f fd ps (spP C.G n F)) (hr : Room k X.A) (hb : Binds X.K fd ps []) (ha : PA X (e :: es) (tL C fl))
    (hst : starEach (e :: es) X.env = (false, eval e X.env) :: starEach es X.env := by rfl) (hpl : (backTo pos (starEach es X.env)).any (·.1) = false := by rfl)
    (ht : eval (.Call (.Attribute o m apos) (e :: es) [] pos) X.env = (do let ov ← eval o X.env; standAt apos.atName; let (f, first) ← holding [ov] (getMethod ov m pl); callWith pos f first (backTo pos (starEach (e :: es) X.env)) (backToKw pos (keywordEach [] X.env))) := by rfl) :
    PE X (.Call (.Attribute o m apos) (e :: es) [] pos) (tE C (sMethX c n F fa fl)) := PE.imp (pe_meth ho hc hm FOk hr hb .nil (passW tk E hW) ha hst hpl ht) fun _ _ _ h => methX_imp hW hl h
theorem pd_methX0 {c : Nat} {F : FS} {E : XK} {pl : Sem Bool} (hW : ∀ σ, WE C.W σ = E) (tk : Takes X C.W) (ho : PE X o (tE C fa)) (hc : Cls X.K (C.G.cls c)) (hl : m ∉ C.G.flds c) (hm : Meth X.K (C.G.cls c) m f) (FOk : FnOk X.prog X.w X.K X.mg X.base (L2.CX X.prog X.w) k f fd ps (spP C.G n F)) (hr : Room k X.A) (hb : Binds X.K fd ps [])
    (ht : eval (.Call (.Attribute o m apos) [] [] pos) X.env = (do let ov ← eval o X.env; standAt apos.atName; let (f, first) ← holding [ov] (getMethod ov m pl); callWith pos f first (backTo pos (starEach [] X.env)) (backToKw pos (keywordEach [] X.env))) := by rfl) :
    PE X (.Call (.Attribute o m apos) [] [] pos) (tE C (sMethX c n F fa sN)) := PE.imp (pe_meth0 ho hc hm FOk hr hb .nil (passW tk E hW) ht) fun σ H Q h => by
  obtain ⟨Z, env, g, q⟩ := methX_imp hW (m := m) (fl := sN) hl h
  refine ⟨Z, env, g, q.mono fun v H1 ⟨a, dx, fs, e1, e2, e3, h4⟩ => ⟨a, dx, fs, e1, e2, e3, ?_⟩⟩
  obtain ⟨Z2, env2, g2, q2⟩ := h4
  exact q2.ret0 g2 .nil
def sMakeX (c n : Nat) (names : List Str) (F : FI) (fl : SL) : SE := fun env => (fl env).bind fun ds e => if ds.length = n then (match F (.ins c []) ds with
  | .ok .non (.ins c' fs) => if c' = c ∧ fs.map (·.1) = names then .ok (.obj c (fs.map (·.2))) e else .bad
  | .ex c p _ => .ex c p e
  | _ => .bad) else .bad
theorem makeX_imp {c : Nat} {E : XK} (hW : ∀ σ, WE C.W σ = E) (kn : C.G.kn c) {F : FI} {σ : L2.St} {H : Hp} {Q : VK} (h : tE C (sMakeX c n (C.G.flds c) F fl) σ H Q) : tMake (C.G.cls c) (spI C.G n F) [] E (tL C fl) σ H Q := by
  obtain ⟨Z, env, g, q⟩ := h
  refine ⟨Z, env, g, (Wish.bind (S := Reps C.G) q).mono fun vs H1 ⟨Z1, ds, e1, t1, g1, r1, w1⟩ x dx nx ndx nex => ?_⟩
  split at w1
  rotate_left
  · exact w1.elim
  rename_i hn
  have zx := g1.sub.free nx
  have s1 : Same H1 (upd (upd H1 dx (.own x)) x (.ins (C.G.cls c) dx [])) := fun b o hb => by
    rw [upd_ne (ne_of_none hb nx), upd_ne (ne_of_none hb ndx)]
    exact hb
  refine ⟨Z1, x, vs, _, .ins c [], ds, by rw [List.append_nil], ⟨g1.sub.s.trans s1, g1.sub.ml, g1.sub.nt, g1.sub.tb.ext fun b o e => s1 b o e⟩, zx, upd_same, .ins .nil, r1, hn, ?_⟩
  revert w1
  generalize F (.ins c []) ds = rr
  intro w1
  split at w1
  · rename_i c' fs
    split at w1
    rotate_left
    · exact w1.elim
    rename_i hh
    obtain ⟨rfl, hnm⟩ := hh
    intro v H' Z' ho' st hx ro rv
    cases rv
    refine ⟨rfl, ?_⟩
    cases ro with
    | ins rf =>
      rename_i dx' vs'
      obtain ⟨z1, z2⟩ := rf.zip
      have z0 := st.za
      have st' : Step Z1 H1 (upd Z' x (.ins (C.G.cls c') dx' vs')) H' := by
        refine ⟨⟨fun b o hb nt => st.hp b o (ne_of_none hb nx) (s1 b o hb) nt, fun b hb => s1.free (st.dom b hb)⟩, st.fz.trans (same_upd z0), fun b o hb => ?_, ⟨fun b o hb => ?_, ml_mono (same_upd z0) st.sub.ml, nt_upd' st.sub.nt (fun _ q => by cases q), st.sub.tb⟩⟩
        · by_cases hbx : b = x
          · subst hbx; exact .inr nx
          · rw [upd_ne hbx] at hb
            rcases st.nw b o hb with k | k
            · exact .inl k
            · exact .inr (s1.free k)
        · by_cases hbx : b = x
          · subst hbx; rw [upd_same] at hb; cases hb; exact hx
          · rw [upd_ne hbx] at hb; exact st.sub.s b o hb
      refine w1.ret g1 st' (.obj (dx := dx') (vs := vs'.map (·.2)) kn ?_ ?_ (z2.mono (same_upd z0)))
      · rw [upd_same, ← hnm, ← z1]
      · rw [List.length_map, rf.len, ← hnm, List.length_map]
  · rename_i c2 p2 s2
    intro H' Z' od ho' st hx ro r
    have st' : Step Z1 H1 Z' H' := ⟨⟨fun b o hb nt => st.hp b o (ne_of_none hb nx) (s1 b o hb) nt, fun b hb => s1.free (st.dom b hb)⟩, st.fz, fun b o hb => by
      rcases st.nw b o hb with k | k
      · exact .inl k
      · exact .inr (s1.free k), st.sub⟩
    have := w1 H' Z' od (.step st') (g1.step st') r
    rw [← hW]
    exact this
  · exact w1.elim
theorem pd_makeX {c : Nat} {E : XK} {F : FI} (hW : ∀ σ, WE C.W σ = E) (tk : Takes X C.W) (kn : C.G.kn c) (M : Mk X.K (C.G.cls c) f) (FOk : FnOk X.prog X.w X.K X.mg X.base (L2.CX X.prog X.w) k f fd ps (spI C.G n F)) (hr : Room (k + 1) X.A) (hg : Gl X x) (hm : X.mg x = some (.ref (C.G.cls c))) (hb : Binds X.K fd ps [])
    (ha : PA X (e :: es) (tL C fl)) (hdb : (x == ("__debug__" : Str)) = false := by decide) (he : starEach (e :: es) X.env = (false, eval e X.env) :: starEach es X.env := by rfl) (hpl : (backTo pos (starEach es X.env)).any (·.1) = false := by rfl) :
    PE X (.Call (.Name x p) (e :: es) [] pos) (tE C (sMakeX c n (C.G.flds c) F fl)) := PE.imp (pe_make M FOk hr hg hm hb .nil (passW tk E hW) ha hdb he hpl) fun _ _ _ h => makeX_imp hW kn h
end
end Ax
set_option Elab.async false
set_option linter.all false
set_option maxRecDepth 100000
set_option maxHeartbeats 400000
/-! AxZ: an owned list lent to an expression; methods with arguments that hand back a new object; != of an instance by its own ==. -/
namespace Ax
open PySem PySem.Spec L2
/-! ### free of the mark n -/
mutual
def nm (n : Nat) : D → Bool
  | .tup xs => nmA n xs
  | .lst xs => nmA n xs
  | .frl xs => nmA n xs
  | .obj _ fs => nmA n fs
  | .mk k xs => k != n && nmA n xs
  | .dic _ xs => nmA n xs
  | _ => true
def nmA (n : Nat) : List D → Bool
  | [] => true
  | d :: ds => nm n d && nmA n ds
end
def nmF (n : Nat) : List (Str × D) → Bool
  | [] => true
  | p :: ps => nm n p.2 && nmF n ps
def nmO (n : Nat) : OV → Bool
  | .lst ds => nmA n ds
  | .ins _ fs => nmF n fs
  | .dt _ ds => nmA n ds
  | .dk _ ds => nmA n ds
def nmS (n : Nat) : SV → Bool
  | .sh d => nm n d
  | .own _ o => nmO n o
  | _ => true
theorem nmA_all {n : Nat} : ∀ {ds : List D}, (∀ d ∈ ds, nm n d = true) → nmA n ds = true
  | [], _ => rfl
  | d :: ds, h => by
    simp only [nmA, Bool.and_eq_true]
    exact ⟨h d (List.mem_cons_self ..), nmA_all fun x hx => h x (List.mem_cons_of_mem _ hx)⟩
@[simp] theorem nmA_ints (n : Nat) (xs : List Int) : nmA n (xs.map D.int) = true := nmA_all fun d hd => by
  obtain ⟨i, _, rfl⟩ := List.mem_map.mp hd
  rfl
/-- what may have changed: nothing, or it is free of the mark -/
def chk (n : Nat) : En → En → Prop
  | [], [] => True
  | s :: r, s' :: r' => ((∃ d, s = .sh d ∧ s' = .sh d) ∨ nmS n s' = true) ∧ chk n r r'
  | _, _ => False
theorem chk_get {n : Nat} : ∀ {e e' : En} {i : Nat} {s' : SV}, chk n e e' → e'[i]? = some s' → (∃ d, e[i]? = some (.sh d) ∧ s' = .sh d) ∨ nmS n s' = true
  | [], [], i, s', _, h => by simp at h
  | s :: r, t :: r', 0, s', c, h => by
    simp at h; subst h
    rcases c.1 with ⟨d, a, b⟩ | a
    · exact .inl ⟨d, by simp [a], b⟩
    · exact .inr a
  | s :: r, t :: r', i + 1, s', c, h => by
    rcases chk_get c.2 (i := i) (by simpa using h) with ⟨d, a, b⟩ | a
    · exact .inl ⟨d, by simpa using a, b⟩
    · exact .inr a
  | [], _ :: _, _, _, c, _ => c.elim
  | _ :: _, [], _, _, c, _ => c.elim
@[simp] theorem chk_nil {n : Nat} : chk n [] [] = True := rfl
@[simp] theorem chk_cons {n : Nat} {s s' : SV} {r r' : En} : chk n (s :: r) (s' :: r') = (((∃ d, s = .sh d ∧ s' = .sh d) ∨ nmS n s' = true) ∧ chk n r r') := rfl
variable [T0 : TabC]
/-- the list at a bears the mark n -/
abbrev TkB (n : Nat) (a : Addr) : TabC := TabC.mk T0.T (fun k => if k = n then some a else T0.m k) T0.fx T0.zb
section
variable {G : GW} {io : Option Addr} {Z H Z1 H1 Z2 H2 : Hp} {env e1 e2 : En} {σ σ1 σ2 : St} {a : Addr} {n : Nat}
theorem tkb_un {b : Addr} (u : Unm b) (ne : b ≠ a) : @Unm (TkB n a) b := fun k e => by
  have e' : (if k = n then some a else T0.m k) = some b := e
  split at e'
  · cases e'; exact ne rfl
  · exact u k e'
theorem un_tkb {b : Addr} (hn : T0.m n = none) (u : @Unm (TkB n a) b) : b ≠ a ∧ Unm b := by
  have u' : ∀ k, (if k = n then some a else T0.m k) ≠ some b := u
  refine ⟨fun e => u' n (by rw [if_pos rfl, e]), fun k e => ?_⟩
  by_cases h : k = n
  · subst h; rw [hn] at e; cases e
  · exact u' k (by rw [if_neg h]; exact e)
mutual
theorem Rep.markB (hn : T0.m n = none) (z : Z a = none) (k : G.K.lookup a = none) : ∀ {v : V} {d : D}, Rep G Z v d → @Rep (TkB n a) G Z v d
  | _, _, .non => @Rep.non (TkB n a) G Z
  | _, _, .bl b => @Rep.bl (TkB n a) G Z b
  | _, _, .int i => @Rep.int (TkB n a) G Z i
  | _, _, .str s => @Rep.str (TkB n a) G Z s
  | _, _, .ty x => @Rep.ty (TkB n a) G Z x
  | _, _, .cl c h => @Rep.cl (TkB n a) G Z c h
  | _, _, .fn i h => @Rep.fn (TkB n a) G Z i h
  | _, _, .tup h r => @Rep.tup (TkB n a) G Z _ _ _ h (Reps.markB hn z k r)
  | _, _, .lst h u r => @Rep.lst (TkB n a) G Z _ _ _ h (tkb_un u (by rintro rfl; rw [z] at h; cases h)) (Reps.markB hn z k r)
  | _, _, .mk (n := j) h u r => @Rep.mk (TkB n a) G Z _ j _ _ h (by
      show (if j = n then some a else T0.m j) = some _
      rw [if_neg (by rintro rfl; rw [hn] at u; cases u)]; exact u) (Reps.markB hn z k r)
  | _, _, .dic h l r => @Rep.dic (TkB n a) G Z _ _ _ _ _ h l (Reps.markB hn z k r)
  | _, _, .frl h u r => @Rep.frl (TkB n a) G Z _ _ _ h (tkb_un u (sql_ne z k h)) (Reps.markB hn z k r)
  | _, _, .obj q h l r => @Rep.obj (TkB n a) G Z _ _ _ _ _ q h l (Reps.markB hn z k r)
theorem Reps.markB (hn : T0.m n = none) (z : Z a = none) (k : G.K.lookup a = none) : ∀ {vs : List V} {ds : List D}, Reps G Z vs ds → @Reps (TkB n a) G Z vs ds
  | _, _, .nil => @Reps.nil (TkB n a) G Z
  | _, _, .cons h r => @Reps.cons (TkB n a) G Z _ _ _ _ (Rep.markB hn z k h) (Reps.markB hn z k r)
end
theorem RepF.markB (hn : T0.m n = none) (z : Z a = none) (k : G.K.lookup a = none) : ∀ {vs : List (Str × V)} {ds : List (Str × D)}, RepF G Z vs ds → @RepF (TkB n a) G Z vs ds
  | _, _, .nil => @RepF.nil (TkB n a) G Z
  | _, _, .cons h r => @RepF.cons (TkB n a) G Z _ _ _ _ _ (Rep.markB hn z k h) (RepF.markB hn z k r)
theorem RepO.markB (hn : T0.m n = none) (z : Z a = none) (k : G.K.lookup a = none) {o : HO} {x : OV} : RepO G Z o x → @RepO (TkB n a) G Z o x
  | .lst r => @RepO.lst (TkB n a) G Z _ _ (Reps.markB hn z k r)
  | .ins r => @RepO.ins (TkB n a) G Z _ _ _ _ (RepF.markB hn z k r)
  | .dt l r => @RepO.dt (TkB n a) G Z _ _ _ l (Reps.markB hn z k r)
  | .dk l r => @RepO.dk (TkB n a) G Z _ _ _ l (Reps.markB hn z k r)
/-- Z without what stands at a -/
def hole (Z : Hp) (a : Addr) : Hp := fun b => if b = a then none else Z b
omit T0 in
theorem hole_ne {b : Addr} (h : b ≠ a) : hole Z a b = Z b := if_neg h
omit T0 in
theorem hole_of {b : Addr} {o : HO} (h : hole Z a b = some o) : b ≠ a ∧ Z b = some o := by
  unfold hole at h
  split at h
  · cases h
  · rename_i ne; exact ⟨ne, h⟩
/-- where the lent list stands; t, m, x, zb: the table without the loan -/
structure Lent (t : List (Addr × Str)) (m : Nat → Option Addr) (x : Option V) (zb : Hp) (G : GW) (Z : Hp) (a : Addr) (n : Nat) (vs : List V) : Prop where
  at_ : Z a = some (.lst vs)
  k : G.K.lookup a = none
  un : ∀ b, Unm b → b ≠ a ∧ @Unm (TabC.mk t m x zb) b
  oth : ∀ j b, j ≠ n → T0.m j = some b → m j = some b ∧ b ≠ a
section
variable {t : List (Addr × Str)} {m : Nat → Option Addr} {x : Option V} {zb : Hp} {vs : List V}
theorem Lent.ne (l : Lent t m x zb G Z a n vs) {b : Addr} {o : HO} (h : Z b = some o) (q : ∀ vs, o ≠ .lst vs) : hole Z a b = some o := by
  rw [hole_ne (by rintro rfl; rw [l.at_] at h; cases h; exact q _ rfl)]; exact h
theorem Lent.sql (l : Lent t m x zb G Z a n vs) {b : Addr} {ws : List V} (u : Unm b) (h : SqL G.K Z b ws) : SqL G.K (hole Z a) b ws := by
  have ne := (l.un b u).1
  obtain (h | ⟨o, h⟩) | h := h
  · exact .inl (.inl (by rw [hole_ne ne]; exact h))
  · exact .inl (.inr ⟨o, by rw [hole_ne ne]; exact h⟩)
  · exact .inr h
mutual
theorem Rep.freeB (l : Lent t m x zb G Z a n vs) : ∀ {v : V} {d : D}, nm n d = true → Rep G Z v d → @Rep (TabC.mk t m x zb) G (hole Z a) v d
  | _, _, _, .non => @Rep.non (TabC.mk t m x zb) G _
  | _, _, _, .bl b => @Rep.bl (TabC.mk t m x zb) G _ b
  | _, _, _, .int i => @Rep.int (TabC.mk t m x zb) G _ i
  | _, _, _, .str s => @Rep.str (TabC.mk t m x zb) G _ s
  | _, _, _, .ty y => @Rep.ty (TabC.mk t m x zb) G _ y
  | _, _, _, .cl c h => @Rep.cl (TabC.mk t m x zb) G _ c h
  | _, _, _, .fn i h => @Rep.fn (TabC.mk t m x zb) G _ i h
  | _, _, f, .tup h r => @Rep.tup (TabC.mk t m x zb) G _ _ _ _ (l.ne h fun _ q => nomatch q) (Reps.freeB l (by simpa [nm] using f) r)
  | _, _, f, .lst h u r => @Rep.lst (TabC.mk t m x zb) G _ _ _ _ (by rw [hole_ne (l.un _ u).1]; exact h) (l.un _ u).2 (Reps.freeB l (by simpa [nm] using f) r)
  | .ref _, .mk j _, f, .mk h u r => by
    simp only [nm, Bool.and_eq_true, bne_iff_ne] at f
    obtain ⟨p, q⟩ := l.oth j _ f.1 u
    exact @Rep.mk (TabC.mk t m x zb) G _ _ j _ _ (by rw [hole_ne q]; exact h) p (Reps.freeB l f.2 r)
  | _, _, f, .dic h e r => @Rep.dic (TabC.mk t m x zb) G _ _ _ _ _ _ (l.ne h fun _ q => nomatch q) e (Reps.freeB l (by simpa [nm] using f) r)
  | _, _, f, .frl h u r => @Rep.frl (TabC.mk t m x zb) G _ _ _ _ (l.sql u h) (l.un _ u).2 (Reps.freeB l (by simpa [nm] using f) r)
  | _, _, f, .obj q h e r => @Rep.obj (TabC.mk t m x zb) G _ _ _ _ _ _ q (l.ne h fun _ q => nomatch q) e (Reps.freeB l (by simpa [nm] using f) r)
theorem Reps.freeB (l : Lent t m x zb G Z a n vs) : ∀ {ws : List V} {ds : List D}, nmA n ds = true → Reps G Z ws ds → @Reps (TabC.mk t m x zb) G (hole Z a) ws ds
  | _, _, _, .nil => @Reps.nil (TabC.mk t m x zb) G _
  | _, _, f, .cons h r => by
    simp only [nmA, Bool.and_eq_true] at f
    exact @Reps.cons (TabC.mk t m x zb) G _ _ _ _ _ (Rep.freeB l f.1 h) (Reps.freeB l f.2 r)
end
theorem RepF.freeB (l : Lent t m x zb G Z a n vs) : ∀ {ws : List (Str × V)} {ds : List (Str × D)}, nmF n ds = true → RepF G Z ws ds → @RepF (TabC.mk t m x zb) G (hole Z a) ws ds
  | _, _, _, .nil => @RepF.nil (TabC.mk t m x zb) G _
  | _, _, f, .cons h r => by
    simp only [nmF, Bool.and_eq_true] at f
    exact @RepF.cons (TabC.mk t m x zb) G _ _ _ _ _ _ (Rep.freeB l f.1 h) (RepF.freeB l f.2 r)
theorem RepO.freeB (l : Lent t m x zb G Z a n vs) {o : HO} {y : OV} (f : nmO n y = true) : RepO G Z o y → @RepO (TabC.mk t m x zb) G (hole Z a) o y
  | .lst r => @RepO.lst (TabC.mk t m x zb) G _ _ _ (Reps.freeB l f r)
  | .ins r => @RepO.ins (TabC.mk t m x zb) G _ _ _ _ _ (RepF.freeB l f r)
  | .dt q r => @RepO.dt (TabC.mk t m x zb) G _ _ _ _ q (Reps.freeB l f r)
  | .dk q r => @RepO.dk (TabC.mk t m x zb) G _ _ _ _ q (Reps.freeB l f r)
end
/-! ### the loan -/
theorem own_sh {i : Nat} {d : D} {b : Addr} (h : Own (env.set i (.sh d)) σ b) : Own env σ b ∧ ∃ j m o, i ≠ j ∧ env[j]? = some (SV.own m o) ∧ σ[j]? = some (some (V.ref b)) := by
  obtain ⟨j, m, o, h1, h2⟩ := h
  have ij : i ≠ j := by
    rintro rfl
    by_cases hl : i < env.length
    · rw [get_set hl] at h1; cases h1
    · rw [List.getElem?_eq_none (by rw [List.length_set]; omega)] at h1; cases h1
  rw [get_set_ne ij] at h1
  exact ⟨⟨j, m, o, h1, h2⟩, j, m, o, ij, h1, h2⟩
theorem set_cases {i j : Nat} {s u : SV} {en : En} (h : (en.set i s)[j]? = some u) : (i = j ∧ u = s) ∨ (i ≠ j ∧ en[j]? = some u) := by
  by_cases q : i = j
  · subst q
    by_cases hl : i < en.length
    · rw [get_set hl] at h; cases h; exact .inl ⟨rfl, rfl⟩
    · rw [List.getElem?_eq_none (by rw [List.length_set]; omega)] at h; cases h
  · rw [get_set_ne q] at h; exact .inr ⟨q, h⟩
theorem Gd.lend {i : Nat} {ds : List D} {vs : List V} (hn : T0.m n = none) (g : Gd G io Z H env σ) (he : env[i]? = some (.own false (.lst ds))) (ha : σ[i]? = some (some (.ref a))) (za : Z a = none) (hh : H a = some (.lst vs)) (r : Reps G Z vs ds) (k : G.K.lookup a = none) :
    @Gd (TkB n a) G io (upd Z a (.lst vs)) H (env.set i (.sh (.mk n ds))) σ := by
  have grow : Same Z (upd Z a (.lst vs)) := same_upd za
  have ne_of : ∀ {b : Addr} {o : HO}, Z b = some o → b ≠ a := fun z e => by subst e; rw [za] at z; cases z
  have sub : @Sub (TkB n a) (upd Z a (.lst vs)) H := by
    refine @Sub.mk (TkB n a) _ _ (fun b o e => ?_) ⟨fun m b e => ?_, fun b o e => ?_⟩ (nt_upd' g.sub.nt fun ps q => nomatch q) g.sub.tb
    · by_cases q : b = a
      · subst q; rw [upd_same] at e; cases e; exact hh
      · rw [upd_ne q] at e; exact g.sub.s _ _ e
    · have e' : (if m = n then some a else T0.m m) = some b := e
      split at e'
      · cases e'; exact ⟨vs, upd_same⟩
      · obtain ⟨ws, z⟩ := g.sub.ml.1 m b e'
        exact ⟨ws, by rw [upd_ne (ne_of z)]; exact z⟩
    · have z := g.sub.ml.2 b o e
      rw [upd_ne (ne_of z)]; exact z
  refine @Gd.mk (TkB n a) G io _ _ _ σ sub (by rw [List.length_set]; exact g.len) (fun j d h => ?_) (fun j m o h => ?_) (fun j l m m' x y b h1 h2 h3 h4 => ?_) (fun j h => fx_set1 g h (by intro z; cases z))
  · rcases set_cases h with ⟨rfl, e⟩ | ⟨-, h⟩
    · cases e
      exact ⟨.ref a, ha, @Rep.mk (TkB n a) G _ a n vs ds upd_same (by show (if n = n then some a else _) = some a; rw [if_pos rfl]) (@Reps.mono (TkB n a) _ _ _ grow _ _ (Reps.markB hn za k r))⟩
    · obtain ⟨v, h1, h2⟩ := g.sh j d h
      exact ⟨v, h1, @Rep.mono (TkB n a) _ _ _ grow _ _ (Rep.markB hn za k h2)⟩
  · rcases set_cases h with ⟨rfl, e⟩ | ⟨ij, h⟩
    · cases e
    · obtain ⟨b, ho, h1, h2, h3, h4, h5⟩ := g.own j m o h
      have ne : b ≠ a := by rintro rfl; exact ij (g.dis i j _ _ _ _ _ he h ha h1)
      exact ⟨b, ho, h1, by rw [upd_ne ne]; exact h2, h3, @RepO.mono (TkB n a) _ _ _ grow _ _ (RepO.markB hn za k h4), h5⟩
  · rcases set_cases h1 with ⟨rfl, e⟩ | ⟨-, h1⟩
    · cases e
    · rcases set_cases h2 with ⟨rfl, e⟩ | ⟨-, h2⟩
      · cases e
      · exact g.dis j l m m' x y b h1 h2 h3 h4
end
open Classical in
/-- f with the list in slot i lent to it under the mark n; fr: what comes of it does not hold the list -/
noncomputable def sBorG {α : Type} (n i : Nat) (fr : α → Prop) (f : En → O α) : En → O α := fun env => match env[i]? with
  | some (.own false (.lst ds)) => (match f (env.set i (.sh (.mk n ds))) with
    | .ok d e => if fr d ∧ chk n (env.set i .un) (e.set i .un) ∧ e[i]? = some (.sh (.mk n ds)) then .ok d (e.set i (.own false (.lst ds))) else .bad
    | _ => .bad)
  | _ => .bad
noncomputable abbrev sBor (n i : Nat) (f : SE) : SE := sBorG n i (fun d => nm n d = true) f
noncomputable abbrev sBorT (n i : Nat) (f : SB) : SB := sBorG n i (fun _ => True) f
section
variable {X : Cx} {C : Kx} {e : Expr} {f : SE} {ft : SB} {i n : Nat}
theorem bor_core {γ α : Type} {R1 : Addr → Hp → γ → α → Prop} {R2 : Hp → γ → α → Prop} {fr : α → Prop} {f : En → O α} {pins : List (Addr × Obj)} {s : Shared} {σ : L2.St} {H : Hp} {Q : γ → Hp → Prop}
    (conv : ∀ {Z : Hp} {a : Addr} {vs : List V} {v : γ} {x : α}, @Lent (TkB n a) T0.T T0.m T0.fx T0.zb C.G Z a n vs → fr x → R1 a Z v x → R2 (hole Z a) v x)
    (hn : T0.m n = none) (hK : X.K = C.G.K) (I : Inv X pins σ H s) (q : tX C R2 (sBorG n i fr f) σ H Q) : ∃ a, @tX (TkB n a) _ _ C (R1 a) f σ H Q := by
  obtain ⟨Z, env, g, q⟩ := q
  unfold sBorG at q
  split at q
  rotate_left
  · exact q.elim
  rename_i ds he
  obtain ⟨a, ho, ha, za, hh, ro, -⟩ := g.own i false (.lst ds) he
  have k : C.G.K.lookup a = none := by
    rw [← hK]
    cases e : X.K.lookup a with
    | none => rfl
    | some o =>
      have := (I.bs a o (I.ok.mod.kin _ _ e)).2
      rw [hh] at this; cases this
  cases ro with
  | lst r =>
  rename_i vs
  have gB := g.lend hn he ha za hh r k
  refine ⟨a, _, _, gB, ?_⟩
  revert q
  generalize f (env.set i (.sh (.mk n ds))) = rr
  intro q
  cases rr with
  | bad => exact q.elim
  | ex c p e' => exact q.elim
  | ok d e' =>
  dsimp only at q
  split at q
  rotate_left
  · exact q.elim
  rename_i hc
  obtain ⟨f1, f2, f3⟩ := hc
  intro v H' Z' t g' rv
  have t : Tr (upd Z a (.lst vs)) H (env.set i (.sh (.mk n ds))) σ Z' H' e' σ := t
  have gs : @Sub (TkB n a) Z' H' := @Gd.sub (TkB n a) _ _ _ _ _ _ g'
  have gsh := @Gd.sh (TkB n a) _ _ _ _ _ _ g'
  have gown := @Gd.own (TkB n a) _ _ _ _ _ _ g'
  have gdis := @Gd.dis (TkB n a) _ _ _ _ _ _ g'
  have gfx := @Gd.fx (TkB n a) _ _ _ _ _ _ g'
  have ne_of : ∀ {b : Addr} {o : HO}, Z b = some o → b ≠ a := fun z e => by subst e; rw [za] at z; cases z
  have zz : Same Z (hole Z' a) := fun b o z => by
    rw [hole_ne (ne_of z)]
    exact t.fz b o (by rw [upd_ne (ne_of z)]; exact z)
  have at' : Z' a = some (.lst vs) := t.fz a _ upd_same
  have lent : @Lent (TkB n a) T0.T T0.m T0.fx T0.zb C.G Z' a n vs := @Lent.mk (TkB n a) _ _ _ _ _ _ _ _ _ at' k (fun b u => un_tkb hn u) (fun j b hj e => by
    have e' : (if j = n then some a else T0.m j) = some b := e
    rw [if_neg hj] at e'
    obtain ⟨ws, z⟩ := g.sub.ml.1 j b e'
    exact ⟨e', ne_of z⟩)
  have notA : ¬ Own (env.set i (.sh (.mk n ds))) σ a := fun w => by
    obtain ⟨-, j, m, o, ij, h1, h2⟩ := own_sh w
    exact ij (g.dis i j _ _ _ _ _ he h1 ha h2)
  have ownNe : ∀ {j : Nat} {m : Bool} {o : OV} {b : Addr}, e'[j]? = some (.own m o) → σ[j]? = some (some (.ref b)) → b ≠ a := fun {j m o b} h1 h2 q => by
    obtain ⟨b2, ho, s2, z2, _⟩ := gown j m o h1
    rw [h2] at s2
    cases s2
    subst q
    rw [at'] at z2; cases z2
  refine q v H' (hole Z' a) ⟨zz, fun b o hb no nt => t.keep b o hb (fun w => no (own_sh w).1) nt, fun b o z => ?_, fun b w => ?_, t.dom⟩ ⟨⟨fun b o z => @Sub.s (TkB n a) _ _ gs b o (hole_of z).2, ⟨fun m b e => ?_, fun b o e => ?_⟩, fun b ps z => @Sub.nt (TkB n a) _ _ gs b ps (hole_of z).2, @Sub.tb (TkB n a) _ _ gs⟩, ?_, fun j d h => ?_, fun j m o h => ?_, fun j l m m' x y b h1 h2 h3 h4 => ?_, fun j h => ?_⟩ (conv lent f1 rv)
  · obtain ⟨ne, z⟩ := hole_of z
    rcases t.nw b o z with w | w | w
    · rw [upd_ne ne] at w; exact .inl w
    · exact .inr (.inl w)
    · exact .inr (.inr (own_sh w).1)
  · obtain ⟨j, m, o, h1, h2⟩ := w
    rcases set_cases h1 with ⟨rfl, -⟩ | ⟨-, h1⟩
    · exact .inl ⟨i, false, _, he, h2⟩
    · rcases t.own b ⟨j, m, o, h1, h2⟩ with w | w
      · exact .inl (own_sh w).1
      · exact .inr w
  · obtain ⟨ws, z⟩ := g.sub.ml.1 m b e
    exact ⟨ws, zz _ _ z⟩
  · exact zz _ _ (g.sub.ml.2 b o e)
  · rw [List.length_set]; exact @Gd.len (TkB n a) _ _ _ _ _ _ g'
  · rcases set_cases h with ⟨rfl, e⟩ | ⟨ij, h⟩
    · cases e
    · rcases chk_get f2 (i := j) (s' := .sh d) (by rw [get_set_ne ij]; exact h) with ⟨d', a1, a2⟩ | a1
      · cases a2
        rw [get_set_ne ij] at a1
        obtain ⟨v, s, r⟩ := g.sh j d a1
        exact ⟨v, s, r.mono zz⟩
      · obtain ⟨v, s, r⟩ := gsh j d h
        exact ⟨v, s, Rep.freeB (T0 := TkB n a) lent a1 r⟩
  · rcases set_cases h with ⟨rfl, e⟩ | ⟨ij, h⟩
    · cases e
      exact ⟨a, .lst vs, ha, if_pos rfl, t.keep a _ hh notA (fun ps q => nomatch q), .lst (r.mono zz), fun z => nomatch z⟩
    · obtain ⟨b, ho, s, z, hb, ro, io⟩ := gown j m o h
      rcases chk_get f2 (i := j) (s' := .own m o) (by rw [get_set_ne ij]; exact h) with ⟨d', a1, a2⟩ | a1
      · cases a2
      · exact ⟨b, ho, s, by rw [hole_ne (ownNe h s)]; exact z, hb, RepO.freeB (T0 := TkB n a) lent a1 ro, io⟩
  · rcases set_cases h1 with ⟨rfl, e1⟩ | ⟨ij, h1⟩
    · rcases set_cases h2 with ⟨rfl, e2⟩ | ⟨il, h2⟩
      · rfl
      · rw [ha] at h3; cases h3
        exact absurd rfl (ownNe h2 h4)
    · rcases set_cases h2 with ⟨rfl, e2⟩ | ⟨il, h2⟩
      · rw [ha] at h4; cases h4
        exact absurd rfl (ownNe h1 h3)
      · exact gdis j l m m' x y b h1 h2 h3 h4
  · rcases set_cases h with ⟨rfl, e⟩ | ⟨-, h⟩
    · cases e
    · exact gfx j h
theorem pd_bor (hn : T0.m n = none) (hK : X.K = C.G.K) (h : ∀ a, PE X e (@tE (TkB n a) C f)) : PE X e (tE C (sBor n i f)) := ⟨fun pins s σ H Q I q => by
  obtain ⟨a, q2⟩ := bor_core (R1 := fun a => @Rep (TkB n a) C.G) (R2 := Rep C.G) (fun {Z a vs v x} l f1 rv => Rep.freeB (T0 := TkB n a) l f1 rv) hn hK I q
  exact (h a).run pins s σ H Q I q2⟩
theorem pt_bor (hn : T0.m n = none) (hK : X.K = C.G.K) (h : ∀ a, PT X e (@tBo (TkB n a) C ft)) : PT X e (tBo C (sBorT n i ft)) := ⟨fun pins s σ H Q I q => by
  obtain ⟨a, q2⟩ := bor_core (R1 := fun a _ (b c : Bool) => b = c) (R2 := fun _ (b c : Bool) => b = c) (fun {Z a vs v x} l f1 rv => rv) hn hK I q
  exact (h a).run pins s σ H Q I q2⟩
/-! ### a method with arguments that hands back a new object -/
theorem po_meth {o e : Expr} {es : List Expr} {fa : SE} {fl : SL} {pos apos : Pos} {m : Str} {k n : Nat} {fn : Addr} {fd : FuncData} {ps : List Str} {c : Nat} {F : FO} {pl : Sem Bool} (ho : PE X o (tE C fa)) (hc : Cls X.K (C.G.cls c)) (hl : m ∉ C.G.flds c) (hm : Meth X.K (C.G.cls c) m fn) (FOk : FnOk X.prog X.w X.K X.mg X.base (L2.CX X.prog X.w) k fn fd ps (spO C.G n F)) (hr : Room k X.A) (hb : Binds X.K fd ps []) (ha : PA X (e :: es) (tL C fl))
    (hst : starEach (e :: es) X.env = (false, eval e X.env) :: starEach es X.env := by rfl) (hpl : (backTo pos (starEach es X.env)).any (·.1) = false := by rfl)
    (ht : eval (.Call (.Attribute o m apos) (e :: es) [] pos) X.env = (do let ov ← eval o X.env; standAt apos.atName; let (f, first) ← holding [ov] (getMethod ov m pl); callWith pos f first (backTo pos (starEach (e :: es) X.env)) (backToKw pos (keywordEach [] X.env))) := by rfl) :
    PE X (.Call (.Attribute o m apos) (e :: es) [] pos) (tO C (sMethO c n F fa fl)) := PE.imp (pe_meth ho hc hm FOk hr hb .nil passL ha hst hpl ht) fun _ _ _ h => methO_imp hl h
end
end Ax
set_option Elab.async false
set_option linter.all false
set_option maxRecDepth 100000
set_option maxHeartbeats 400000
/-! AxNe: == and != of an instance with an own == on the left, anything on the right. -/
namespace PySem.W
open PySem Builtin PyProof.Rows
section
variable {prog : Program} {w : World} {A : Around} {E : Value → Shared → Prop} {s : Shared} {K : Frag} {x C L f : Addr} {h₀ : Heap} {m : Str → Option Value} {ox : Obj} {od : Option Obj} {b tb : Value}
/-- the left one answers -/
theorem leftAnswers {op : CmpOp} {a b ta tb : Value} {Q : Value → Shared → Prop} (apart : oneThing? op a b = none) (room : A.units < cLine) (lookA : Looks (model prog w) s.heap (typeOf a) ta) (lookB : Looks (model prog w) s.heap (typeOf b) tb)
    (under : (ta != tb) = true → Looks (model prog w) s.heap (isSubtype tb ta) false) (ans : wpAny (model prog w) A (tryCompare a (cmpInfo op).2.1 b) (fun r s1 => ∃ v, r = some v ∧ Q v s1) E s) :
    wpAny (model prog w) A (richCompare op a b) Q E s := by
  unfold richCompare
  simp only [apart]
  refine wpAny_holding (wpAny_bind (wpAny_cRoomFor room (wpAny_bind (lookA.here (wpAny_bind (lookB.here ?_))))))
  have last : ∀ {g : Option Value → Sem Value}, (∀ v, g (some v) = pure v) → wpAny (model prog w) A (tryCompare a (cmpInfo op).2.1 b >>= g) Q E s := fun {g} hg =>
    wpAny_bind (wpAny_mono ans (fun r s1 ⟨v, is, good⟩ => by subst is; rw [hg]; exact wpAny_pure good) fun _ _ z => z)
  split
  case isTrue differ =>
    refine wpAny_bind ((under differ).here ?_)
    rw [if_neg (fun z : false = true => nomatch z)]
    exact last fun v => rfl
  case isFalse =>
    refine wpAny_bind (wpAny_pure (?_))
    rw [if_neg (fun z : false = true => nomatch z)]
    exact last fun v => rfl
/-- what object.__ne__ does with an own == -/
theorem neInside (X : K.In s.heap) (I : InstAt s.heap x ox C od) (hs : findIn K (.ref C) "__eq__" = some (some (.ref f))) (hf : isFn K (.ref f) = true) (room : A.units < cLine) {Q : Fin → Shared → Prop}
    (h : wpAny (model prog w) A (call (.ref f) [.ref x, b]) (fun v s1 => ∃ k, v = .bool k ∧ Q (.done (.ret (.bool (!k)))) s1) E s) : wpAny (model prog w) A (Builtin.«object.__ne__» (Args.mk [.ref x, b] [])) Q E s := by
  delta Builtin.«object.__ne__»
  have inner : wpAny (model prog w) A (callSpecialIfBound? (.ref x) "__eq__" [b]) (fun r s1 => ∃ k, r = some (.bool k) ∧ Q (.done (.ret (.bool (!k)))) s1) E s :=
    ifBound_K X I hs hf (wpAny_mono h (fun v s1 ⟨k, is, good⟩ => ⟨k, congrArg some is, good⟩) fun _ _ z => z)
  repeat (first
    | with_reducible exact wpAny_cRoomFor room (wpAny_bind (wpAny_mono inner (fun r s1 ⟨k, is, good⟩ => by subst is; exact wpAny_bind (wpAny_truthy_bool (wpAny_pure good))) fun _ _ z => z))
    | wp_step)
theorem neAsked (X : K.In s.heap) (I : InstAt s.heap x ox C od) (hne : findIn K (.ref C) "__ne__" = some (some (.builtin "object.__ne__"))) (ho : mroIn K C (.type "object") = some true) (hs : findIn K (.ref C) "__eq__" = some (some (.ref f))) (hf : isFn K (.ref f) = true) (room : A.units + 1 < cLine) {Q : Option Value → Shared → Prop}
    (h : wpAny (model prog w) A.in1 (call (.ref f) [.ref x, b]) (fun v s1 => ∃ k, v = .bool k ∧ Q (some (.bool (!k))) s1) E s) : wpAny (model prog w) A (tryCompare (.ref x) "__ne__" b) Q E s := by
  have kind : Looks (model prog w) s.heap (isInstance (.ref x) (.type "object")) true := by
    delta isInstance
    exact I.type.andThen (looks_mroIn X ho)
  have called : wpAny (model prog w) A (call (.builtin "object.__ne__") [.ref x, b]) (fun v s1 => ∃ k : Bool, v = .bool (!k) ∧ Q (some (.bool (!k))) s1) E s :=
    wpAny_call (codeAny_call_builtin PySem.F.cmp_object.ne.plain PySem.F.cmpEntry_ne (check_slot PySem.F.cmpKind_ne PySem.F.cmpSplit_ne kind (PySem.F.cmpArgs_ne _ _)
      (neInside (A := A.in1) X I hs hf room (wpAny_mono h (fun v s1 ⟨k, is, good⟩ => by first | exact ⟨k, is, k, rfl, good⟩ | exact ⟨k, is, wpAny_pure ⟨k, rfl, good⟩⟩) fun _ _ z => z))))
  have told : wpAny (model prog w) A (callSpecialIfBound? (.ref x) "__ne__" [b]) (fun r s1 => ∃ k : Bool, r = some (.bool (!k)) ∧ Q (some (.bool (!k))) s1) E s := by
    unfold callSpecialIfBound? bindSpecialIfBound?
    refine wpAny_holding (wpAny_bind (wpAny_bind (wpAny_bind (I.type.here ((looks_findIn X hne).here (wpAny_bind (wpAny_askSetting (wpAny_ite ?_))))))))
    rw [PySem.F.cmp_object.ne.bind]
    have out : wpAny (model prog w) A (call (.builtin "object.__ne__") ([.ref x] ++ [b]) >>= fun v => pure (some v)) (fun r s1 => ∃ k : Bool, r = some (.bool (!k)) ∧ Q (some (.bool (!k))) s1) E s :=
      wpAny_bind (wpAny_mono called (fun v s1 ⟨k, is, good⟩ => wpAny_pure ⟨k, congrArg some is, good⟩) fun _ _ z => z)
    split
    case isTrue => refine wpAny_bind (wpAny_pure (wpAny_pure ?_)); exact out
    case isFalse => refine wpAny_tryCatch (wpAny_bind (wpAny_pure (wpAny_pure ?_))); exact out
  delta tryCompare
  exact wpAny_bind (wpAny_mono told (fun r s1 ⟨k, is, good⟩ => by subst is; exact wpAny_pure good) fun _ _ z => z)
theorem under_of (X : K.In s.heap) (hn : notFirst K C tb = true) (ne : (Value.ref C != tb) = true) : Looks (model prog w) s.heap (isSubtype tb (.ref C)) false := by
  refine looks_subIn X ?_
  unfold notFirst at hn
  rw [Bool.or_eq_true, beq_iff_eq, beq_iff_eq] at hn
  rcases hn with same | none_
  · rw [same] at ne; simp at ne
  · exact none_
end
end PySem.W
namespace Ax
open PySem PySem.Spec L2
variable [T0 : TabC]
def eqR (c : Nat) : D → Bool
  | .obj c2 _ => c2 == c
  | d => (tyN d).isSome
def eqA (neg : Bool) : RS → Option D
  | .ok (.bl k) _ => some (.bl (k != neg))
  | _ => none
/-- == and != (neg) of an instance of class c with anything of a known kind -/
def eqL (c : Nat) (F : FS) (neg : Bool) : D → D → Option D
  | .obj c1 a, y => if c1 = c then (if eqR c y = true then eqA neg (F [.obj c1 a, y]) else none) else none
  | _, _ => none
theorem sub_ty {K : PySem.W.Frag} {C : Addr} : ∀ T ∈ tyNs, PySem.W.notFirst K C (.type T) = true := by
  intro T hT
  unfold PySem.W.notFirst
  rw [Bool.or_eq_true]
  refine .inr ?_
  simp only [tyNs, List.mem_cons, List.not_mem_nil, or_false] at hT
  rcases hT with rfl | rfl | rfl | rfl | rfl | rfl | rfl | rfl <;> rfl
theorem tyY_of {G : GW} {K : PySem.W.Frag} {Z H : Hp} {v : V} {d : D} {a : String} (ok : KitOk K G) (s : Same Z H) (r : Rep G Z v d) (h : tyN d = some a) : TyY K H v (.type a) := by
  cases r <;> simp [tyN] at h <;> subst h
  · exact .x (.base .non)
  · exact .x (.base (.bl _))
  · exact .x (.base (.int _))
  · exact .x (.base (.str _))
  · exact .fn (ok.fns _ ‹_›)
  · exact .x (.base (.tup (s _ _ ‹_›)))
  · exact .x (.base (.lst (s _ _ ‹_›)))
  · exact .x (.base (.lst (s _ _ ‹_›)))
  · exact .x (.fDict (s _ _ ‹_›))
section
variable {X : Cx} {C : Kx} {k : Nat} {f : Addr} {fd : FuncData} {ps : List Str}
/-- what is asked of the class -/
structure EqCls (K : PySem.W.Frag) (Cl f : Addr) : Prop where
  eq : PySem.W.findIn K (.ref Cl) "__eq__" = some (some (.ref f))
  own : PySem.W.isFn K (.ref f) = true
  ne : PySem.W.findIn K (.ref Cl) "__ne__" = some (some (.builtin "object.__ne__"))
  ob : PySem.W.mroIn K Cl (.type "object") = some true
theorem opd_eqL {c : Nat} {F : FS} {op : CmpOp} (neg : Bool) (hop : op = if neg then .NotEq else .Eq) (ok : KitOk X.K C.G) (FOk : FnOk X.prog X.w X.K X.mg X.base (L2.CX X.prog X.w) k f fd ps (spP C.G 2 F)) (hr : Room (k + 1) X.A) (ec : EqCls X.K (C.G.cls c) f) (hb : Binds X.K fd ps []) : OpR X (compareOp op) (rD C.G (eqL c F neg)) := by
  intro pins s σ H x y v u Q I rx ry ⟨Z, d1, d2, d, sub, r1, r2, e, q⟩
  cases r1 with
  | obj kn1 h1 n1 rr1 =>
    rename_i ad dx0 vs0 c1 a
    unfold eqL at e
    dsimp only at e
    split at e
    rotate_left
    · cases e
    rename_i hcc
    subst hcc
    split at e
    rotate_left
    · cases e
    rename_i hy
    cases rx
    obtain ⟨mA, J, _⟩ := ins_get I.hok (sub.s _ _ h1)
    obtain ⟨od, J, _⟩ := J.look
    obtain ⟨m, hF⟩ := I.fr
    have right : ∃ tb, PySem.W.Looks (model X.prog X.w) s.heap (typeOf u) tb ∧ PySem.W.notFirst X.K (C.G.cls c1) tb = true := by
      by_cases isO : ∃ c2 b, d2 = .obj c2 b
      · obtain ⟨c2, b, rfl⟩ := isO
        cases r2 with
        | obj kn2 h2 n2 rr2 =>
        cases ry
        obtain ⟨mB, J', _⟩ := ins_get I.hok (sub.s _ _ h2)
        obtain ⟨od2, J', _⟩ := J'.look
        have hc : c2 = c1 := by simpa [eqR] using hy
        subst hc
        exact ⟨_, J'.type, by simp [PySem.W.notFirst]⟩
      · have hy' : (tyN d2).isSome = true := by
          unfold eqR at hy
          split at hy
          · rename_i c2 b; exact (isO ⟨_, _, rfl⟩).elim
          · exact hy
        obtain ⟨t, ht⟩ := Option.isSome_iff_exists.mp hy'
        obtain ⟨P, kit, holds, _⟩ := kit_ofY I ry (tyY_of ok sub.s r2 ht)
        exact ⟨_, kit.ty _ _ I.kIn holds, sub_ty _ (tyN_in ht)⟩
    obtain ⟨tb, hT, hn⟩ := right
    have ans : spP C.G 2 F [.ref ad, y] H (fun z H' => ∃ k Z', z = .bl k ∧ d = .bl (k != neg) ∧ Step Z H Z' H') E0 := by
      refine ⟨Z, _, sub, .cons (.obj kn1 h1 n1 rr1) (.cons r2 .nil), rfl, ?_⟩
      revert e
      generalize F [D.obj c1 a, d2] = rr
      intro e
      unfold eqA at e
      split at e
      · cases e
        intro z H' Z' st rz
        cases rz
        exact ⟨_, Z', rfl, rfl, st⟩
      · cases e
    have vals : Vals ([.ref ad, y] : List V) [.ref ad, u] := .cons rfl (.cons ry .nil)
    cases neg with
    | false =>
      subst hop
      show wpAny (model X.prog X.w) X.A (richCompare .Eq _ _) (EP X pins σ Q) X.xe s
      refine PySem.W.cmp_K (op := .Eq) (tb := tb) hr.units0 hF I.ok.mod.kin J hT hn ec.eq ec.own ?_
      refine wpAny_mono (run_fn FOk (hr.mono (Nat.le_succ k)) hb (dvs := []) .nil (passL (X := X)) I vals ans) (fun z s' hz => ?_) fun _ _ x => x
      obtain ⟨zv, H', I', rz, kk, Z', rfl, rfl, st⟩ := hz
      cases rz
      exact ⟨.bl kk, H', I', rfl, q _ _ _ st (by simpa using Rep.bl kk)⟩
    | true =>
      subst hop
      show wpAny (model X.prog X.w) X.A (richCompare .NotEq _ _) (EP X pins σ Q) X.xe s
      have hu : X.A.units + 1 < cLine := by have := hr.un; omega
      have X1 := I.ok.mod.kin.keeps hF.keep
      refine PySem.W.leftAnswers (oneThing_ref _ _ _) (Nat.lt_of_succ_lt hu) J.type hT (PySem.W.under_of X1 hn) (PySem.W.neAsked X1 J ec.ne ec.ob ec.eq ec.own hu ?_)
      have r2' : Vals ([.ref ad, y] ++ []) ([.ref ad, u] ++ []) := vals.append .nil
      have hl : ([.ref ad, u] ++ [] : List Value).length = ps.length := by rw [← r2'.length]; exact FOk.len _ _ _ _ ans
      refine wpAny_call (codeAny_mono (FOk.run X.A.in1 X.stack s H ⟨[.ref ad, u], []⟩ _ _ _ E0 hr.in1 I.env0.in1 (hb s [.ref ad, u] I.kIn hl) r2' ans) fun r s' hq => ?_)
      cases r with
      | error e => exact passL (X := X) pins σ H s e s' I hq
      | ok fl =>
        cases fl with
        | ret u' =>
          obtain ⟨zv, H', I', rz, kk, Z', rfl, rfl, st⟩ := I.after hq
          cases rz
          exact ⟨kk, rfl, _, rfl, .bl (!kk), H', I', rfl, q _ _ _ st (by simpa using Rep.bl (!kk))⟩
        | next => exact False.elim hq
        | brk => exact False.elim hq
        | cont => exact False.elim hq
  | _ => cases e
end
end Ax
set_option Elab.async false
set_option linter.all false
set_option maxRecDepth 100000
set_option maxHeartbeats 400000
/-! AxEnd: the end of a law with lambdas in any of its defs. -/
namespace Ax
open PySem PySem.Spec PyProof.Rows L2
theorem walk_tabs {law : PySem.W.OpenLaw} {most lv : Nat} {prg : Program} {free : List Str} {XP : (Str → Option Value) → Heap → Prop} {YP : World → Heap → Prop} {rc : DefRec} {K : Params → PySem.W.Frag} {CX : World → CXT} {par : Str}
    (isMost : law.most = some most) (fits : most ≤ sizeLine) (noDef : rc.params.defaults = []) (room : Room lv callerA) (inK : ∀ (w : World) (h : Heap), YP w h → (K w.params).In h)
    (F : ∀ (w : World) (mg : Str → Option Value) (fa : Addr) (h : Heap), YP w h → (K w.params).In h → h.Ns mainGlobals mg → mg rc.name = some (.ref fa) → (∀ (y : Str) (f : Addr), ((recsOf prg).any fun e => e.name == y) = true → mg y = some (.ref f) → LamX.OwnTab (K w.params) f h) → LamX.LawAtS law w (K w.params) (CX w) lv most par mg fa h)
    (quiet : ∀ (w : World) (H : Hp) (s : Shared) (e : Value) (s1 : Shared), CX w [] H s (fun _ _ _ => False) e s1 → False) : PySem.W.WalkO prg free XP YP law.row.toRowW rc [] (fun f vs => PySem.call f vs) := by
  refine Att.attach_callB isMost noDef fun w sA sB mg mb fa o pm cd doc a vs ns G Y isO isF nm at_ script whole len bits gens => ?_
  have KX := inK w _ Y
  have tables : ∀ (y : Str) (f : Addr), ((recsOf prg).any fun e => e.name == y) = true → mg y = some (.ref f) → LamX.OwnTab (K w.params) f sB.heap := by
    intro y f isRec there c P o1 fd1 cl1 dd1 vs1 sl1 lkF dataF codeF lkC tab
    obtain ⟨e, mem, same⟩ := List.any_eq_true.mp isRec
    obtain ⟨f2, o2, fd2, c2, P2, atF, getF, funF, codF, _, ⟨⟨oc2, vc2, getC, _, datC, tabC⟩, empty⟩⟩ := G.T.tab e mem
    have e1 : f = f2 := by
      have z := there.symm.trans ((congrArg mg (beq_iff_eq.mp same)).symm.trans atF)
      injection z with z
      injection z
    have e2 : o1 = o2 := Option.some.inj ((KX _ _ lkF).symm.trans (e1 ▸ getF))
    have e3 : fd1 = fd2 := by
      have z := dataF.symm.trans (e2 ▸ funF)
      injection z
    have e4 : c = c2 := by
      have z := codeF.symm.trans (e3 ▸ codF)
      injection z
    have e5 : _ = oc2 := Option.some.inj ((KX _ _ lkC).symm.trans (e4 ▸ getC))
    have e6 : vs1 = vc2 := by
      have z : Data.fields vs1 = Data.fields vc2 := by rw [← datC, ← e5]
      injection z
    have e7 : P = P2 := by
      have z := tab.symm.trans (e6 ▸ tabC)
      injection z with z
      injection z
    exact e7 ▸ empty
  obtain ⟨fd, tabs, sp, tEmpty, tFree, tCode, bnd, start, runs⟩ := F w mg fa _ Y KX G.T.g at_ tables
  exact LamX.law_callTs KX G.T.g G.T.b G.T.builtins G.T.nolimit gens tEmpty tFree tCode G.T.bmain script whole (Nat.le_trans len fits) room runs bnd (fun H e1 e2 => start H a ns len bits e1 e2) fun H e s1 => quiet w H sB e s1
/-- the facts of a def that makes lambdas; the table's address P stays in sight -/
structure LamAt (K : PySem.W.Frag) (h : Heap) (mg : Str → Option Value) (y : Str) (st : Stmt) (P : Addr) : Prop where
  ex : ∃ f d c, FunC K y y st f d c ∧ mg y = some (.ref f) ∧ PySem.W.CodeHd h c P ∧ (LamX.OwnTab K f h → h.get? P = some { cls := .none, data := .fields #[] })
  np : K.lookup P = none
abbrev pAt {K : PySem.W.Frag} {h : Heap} {mg : Str → Option Value} {y : Str} {st : Stmt} {P : Addr} (_ : LamAt K h mg y st P) : Addr := P
theorem lam_at {K : PySem.W.Frag} {h : Heap} {mg : Str → Option Value} (y : Str) (st : Stmt) {f cc P : Addr} {od an dd : Option Addr} {sl csl : Array (Option Value)} {oc kV dc pm ct ccl : Value} {vs : Array Value} (X : K.In h) (G : h.Ns mainGlobals mg)
    (a : PySem.W.nsIn K mainGlobals y = some (some (.ref f))) (l : K.lookup f = some ⟨oc, od, .func (PySem.W.fnOf y y (defArgs st) (defBody st) (defScope st) .none kV dc pm an (.ref cc) ct), sl⟩) (c : PySem.W.codeIn K (.ref cc) y = true) (k : PySem.W.keepIn K (.ref f) = true)
    (lc : K.lookup cc = some ⟨ccl, dd, .fields vs, csl⟩) (p : vs[11]? = some (.ref P)) (hd : PySem.W.codeHdIn K cc P = true) (np : K.lookup P = none) : LamAt K h mg y st P :=
  ⟨⟨f, _, cc, ⟨⟨oc, od, kV, dc, pm, an, ct, sl, rfl, l, c⟩, k⟩, PySem.W.mg_of X G a, PySem.W.codeHd_of_K X hd, fun own => own cc P _ _ _ _ _ _ l rfl rfl lc p⟩, np⟩
theorem all_nil {α : Type} {p : α → Prop} : ∀ x ∈ ([] : List α), p x := fun _ h => nomatch h
theorem all_cons {α : Type} {p : α → Prop} {a : α} {l : List α} (h : p a) (t : ∀ x ∈ l, p x) : ∀ x ∈ a :: l, p x := fun x hx => by
  rcases List.mem_cons.mp hx with e | e
  · exact e ▸ h
  · exact t x e
theorem TabsOk.tkB (T0 : TabC) {base : Heap} {mg : Str → Option Value} {L : List (Addr × Addr × Str)} (t : @TabsOk T0 base mg L) (n : Nat) (a : Addr) : @TabsOk (@TkB T0 n a) base mg L :=
  @TabsOk.mk (@TkB T0 n a) base mg L (@TabsOk.T T0 base mg L t) (@TabsOk.B T0 base mg L t) (@TabsOk.nd T0 base mg L t)
theorem no1 {T0 : TabC} (no : @NoMk T0) (a : Addr) : (@TkB T0 0 a).m 1 = none := by
  show (if (1 : Nat) = 0 then _ else _) = none
  rw [if_neg (by decide)]
  exact no.m 1
end Ax
set_option Elab.async false
set_option linter.all false
set_option maxRecDepth 100000
set_option maxHeartbeats 1000000
/-! AxWz: wishes with errors; loans; marked lists; lambdas. -/
namespace Ax
open PySem PySem.Spec L2
@[irreducible] def OKx {α : Type} (o : O α) (P : α → En → Prop) (X : Nat → List D → En → Prop) : Prop := match o with | .ok x e => P x e | .ex c p e => X c p e | .bad => False
@[irreducible] def WSx (r : OS) (N : En → Prop) (R : D → En → Prop) (Ro : OV → En → Prop) (X : Nat → List D → En → Prop) : Prop := match r with | .nx e => N e | .rt d e => R d e | .rto o e => Ro o e | .ex c p e => X c p e | _ => False
@[irreducible] def ORx (r : RS) (P : D → OV → Prop) (X : Nat → List D → OV → Prop) : Prop := match r with | .ok d s => P d s | .ex c p s => X c p s | .bad => False
section
variable {α β : Type} {P : α → En → Prop} {N : En → Prop} {R : D → En → Prop} {Ro : OV → En → Prop} {X : Nat → List D → En → Prop} {env e : En}
@[simp] theorem OKx_ok (x : α) : OKx (.ok x e) P X = P x e := by unfold OKx; rfl
@[simp] theorem OKx_ex (c : Nat) (p : List D) : OKx (α := α) (.ex c p e) P X = X c p e := by unfold OKx; rfl
theorem OKx_bad : OKx (α := α) .bad P X = False := by unfold OKx; rfl
@[simp] theorem WSx_nx : WSx (.nx e) N R Ro X = N e := by unfold WSx; rfl
@[simp] theorem WSx_rt (d : D) : WSx (.rt d e) N R Ro X = R d e := by unfold WSx; rfl
@[simp] theorem WSx_rto (o : OV) : WSx (.rto o e) N R Ro X = Ro o e := by unfold WSx; rfl
@[simp] theorem WSx_ex (c : Nat) (p : List D) : WSx (.ex c p e) N R Ro X = X c p e := by unfold WSx; rfl
theorem WSx_bad : WSx .bad N R Ro X = False := by unfold WSx; rfl
theorem WSx_bk : WSx (.bk e) N R Ro X = False := by unfold WSx; rfl
theorem WSx_ct : WSx (.ct e) N R Ro X = False := by unfold WSx; rfl
@[simp] theorem ORx_ok {P : D → OV → Prop} {X : Nat → List D → OV → Prop} (d : D) (s : OV) : ORx (.ok d s) P X = P d s := by unfold ORx; rfl
@[simp] theorem ORx_ex {P : D → OV → Prop} {X : Nat → List D → OV → Prop} (c : Nat) (p : List D) (s : OV) : ORx (.ex c p s) P X = X c p s := by unfold ORx; rfl
theorem ORx_bad {P : D → OV → Prop} {X : Nat → List D → OV → Prop} : ORx .bad P X = False := by unfold ORx; rfl
@[simp] theorem OKx_bind (o : O β) (k : β → En → O α) : OKx (o.bind k) P X = OKx o (fun x e => OKx (k x e) P X) X := by
  cases o with
  | ok x e => rw [OKx_ok]; rfl
  | ex c p e => rw [OKx_ex]; exact OKx_ex c p
  | bad => rw [OKx_bad]; exact OKx_bad
@[simp] theorem OKx_some (x : α) : OKx (.of (some x) e) P X = P x e := OKx_ok x
@[simp] theorem WSx_bindS (o : O α) (k : α → En → OS) : WSx (bindS o k) N R Ro X = OKx o (fun x e => WSx (k x e) N R Ro X) X := by
  cases o with
  | ok x e => rw [OKx_ok]; rfl
  | ex c p e => rw [OKx_ex]; exact WSx_ex c p
  | bad => rw [OKx_bad]; exact WSx_bad
theorem OK.x {o : O α} (h : OK o P) : OKx o P X := by
  obtain ⟨x, e, rfl, h2⟩ := h.ex
  rw [OKx_ok]; exact h2
theorem WS.x {r : OS} (h : WS r N R Ro) : WSx r N R Ro X := by
  rcases h.cases with ⟨e, rfl, h2⟩ | ⟨d, e, rfl, h2⟩ | ⟨d, e, rfl, h2⟩
  · rw [WSx_nx]; exact h2
  · rw [WSx_rt]; exact h2
  · rw [WSx_rto]; exact h2
theorem OR.x {r : RS} {P : D → OV → Prop} {X : Nat → List D → OV → Prop} (h : OR r P) : ORx r P X := by
  obtain ⟨d, s, rfl, h2⟩ := h.ex
  rw [ORx_ok]; exact h2
theorem OKx.mono {o : O α} {P' : α → En → Prop} (h : OKx o P X) (m : ∀ x e, P x e → P' x e) : OKx o P' X := by
  cases o with
  | ok x e => rw [OKx_ok] at h ⊢; exact m _ _ h
  | ex c p e => rw [OKx_ex] at h ⊢; exact h
  | bad => rw [OKx_bad] at h; exact h.elim
theorem wqx {f g : SS} (h : ∀ K : En → Prop, K = (fun e => WSx (g e) N R Ro X) → WSx (f env) K R Ro X) : WSx (sSeq f g env) N R Ro X := by
  have := h _ rfl
  unfold sSeq
  revert this
  cases f env with
  | nx e => intro z; rw [WSx_nx] at z; exact z
  | rt d e => intro z; rw [WSx_rt] at z ⊢; exact z
  | rto d e => intro z; rw [WSx_rto] at z ⊢; exact z
  | ex c p e => intro z; rw [WSx_ex] at z ⊢; exact z
  | bk e => intro z; rw [WSx_bk] at z; exact z.elim
  | ct e => intro z; rw [WSx_ct] at z; exact z.elim
  | bad => intro z; rw [WSx_bad] at z; exact z.elim
theorem runPx_of {n : Nat} {f : SS} {ds : List D} {P : D → OV → Prop} {Y : Nat → List D → OV → Prop} (h : WSx (f (env0 n ds)) (fun _ => P .non nil0) (fun d _ => P d nil0) (fun o _ => ∃ d, o.fz = some d ∧ P d nil0) (fun c p _ => Y c p nil0)) : ORx (runP n f ds) P Y := by
  unfold runP
  revert h
  cases f (env0 n ds) with
  | nx e => intro z; rw [WSx_nx] at z; rw [ORx_ok]; exact z
  | rt d e => intro z; rw [WSx_rt] at z; rw [ORx_ok]; exact z
  | rto d e => intro z; rw [WSx_rto] at z; obtain ⟨d, h1, h2⟩ := z; simp only [h1]; rw [ORx_ok]; exact h2
  | ex c p e => intro z; rw [WSx_ex] at z; rw [ORx_ex]; exact z
  | bk e => intro z; rw [WSx_bk] at z; exact z.elim
  | ct e => intro z; rw [WSx_ct] at z; exact z.elim
  | bad => intro z; rw [WSx_bad] at z; exact z.elim
theorem runIx_of {n : Nat} {f : SS} {ss : OV} {ds : List D} {P : D → OV → Prop} {Y : Nat → List D → OV → Prop} (h : WSx (f (.own true ss :: env0 (n - 1) ds)) (fun e => ∃ s, e[0]? = some (.own true s) ∧ P .non s) (fun d e => ∃ s, e[0]? = some (.own true s) ∧ P d s) (fun o e => ∃ d s, o.fz = some d ∧ e[0]? = some (.own true s) ∧ P d s) (fun c p e => ∃ s, e[0]? = some (.own true s) ∧ Y c p s)) : ORx (runI n f ss ds) P Y := by
  unfold runI
  revert h
  cases f (.own true ss :: env0 (n - 1) ds) with
  | nx e => intro z; rw [WSx_nx] at z; obtain ⟨s, h1, h2⟩ := z; simp only [io0, h1]; rw [ORx_ok]; exact h2
  | rt d e => intro z; rw [WSx_rt] at z; obtain ⟨s, h1, h2⟩ := z; simp only [io0, h1]; rw [ORx_ok]; exact h2
  | rto d e => intro z; rw [WSx_rto] at z; obtain ⟨d, s, h0, h1, h2⟩ := z; simp only [io0, h1, h0]; rw [ORx_ok]; exact h2
  | ex c p e => intro z; rw [WSx_ex] at z; obtain ⟨s, h1, h2⟩ := z; simp only [io0, h1]; rw [ORx_ex]; exact h2
  | bk e => intro z; rw [WSx_bk] at z; exact z.elim
  | ct e => intro z; rw [WSx_ct] at z; exact z.elim
  | bad => intro z; rw [WSx_bad] at z; exact z.elim
@[simp] theorem sRaise_ap (c : Nat) (f : SE) : sRaise c f env = bindS (f env) fun d e => .ex c [d] e := (rfl)
theorem xCall {n : Nat} {F : FS} {fl : SL} {P : D → En → Prop} (h : OKx (fl env) (fun ds e => ds.length = n ∧ ORx (F ds) (fun d _ => P d e) (fun c p _ => X c p e)) X) : OKx (sCall n F fl env) P X := by
  unfold sCall
  rw [OKx_bind]
  refine h.mono fun ds e ⟨h1, h2⟩ => ?_
  rw [if_pos h1]
  revert h2
  cases F ds with
  | ok d s => intro z; rw [ORx_ok] at z; dsimp only; rw [OKx_ok]; exact z
  | ex c p s => intro z; rw [ORx_ex] at z; dsimp only; rw [OKx_ex]; exact z
  | bad => intro z; rw [ORx_bad] at z; exact z.elim
theorem xMethX {c n : Nat} {F : FS} {fa : SE} {fl : SL} {P : D → En → Prop} (h : OKx (fa env) (fun d e => ∃ fs, d = .obj c fs ∧ OKx (fl e) (fun ds e2 => ds.length + 1 = n ∧ ORx (F (.obj c fs :: ds)) (fun d _ => P d e2) (fun c p _ => X c p e2)) X) X) : OKx (sMethX c n F fa fl env) P X := by
  unfold sMethX
  rw [OKx_bind]
  refine h.mono fun d e ⟨fs, h1, h2⟩ => ?_
  subst h1
  simp only [if_true, OKx_bind]
  refine h2.mono fun ds e2 ⟨h3, h4⟩ => ?_
  rw [if_pos h3]
  revert h4
  cases F (.obj c fs :: ds) with
  | ok d s => intro z; rw [ORx_ok] at z; dsimp only; rw [OKx_ok]; exact z
  | ex c p s => intro z; rw [ORx_ex] at z; dsimp only; rw [OKx_ex]; exact z
  | bad => intro z; rw [ORx_bad] at z; exact z.elim
theorem xMakeX {c n : Nat} {names : List Str} {F : FI} {fl : SL} {P : D → En → Prop} (h : OKx (fl env) (fun ds e => ds.length = n ∧ ORx (F (.ins c []) ds) (fun d s => d = .non ∧ ∃ fs, s = .ins c fs ∧ fs.map (·.1) = names ∧ P (.obj c (fs.map (·.2))) e) (fun c p _ => X c p e)) X) : OKx (sMakeX c n names F fl env) P X := by
  unfold sMakeX
  rw [OKx_bind]
  refine h.mono fun ds e ⟨h1, h2⟩ => ?_
  rw [if_pos h1]
  revert h2
  cases F (.ins c []) ds with
  | ok d s =>
    intro z; rw [ORx_ok] at z
    obtain ⟨rfl, fs, rfl, h3, h4⟩ := z
    simp only [h3, and_self, if_true, OKx_ok]
    exact h4
  | ex c2 p s => intro z; rw [ORx_ex] at z; dsimp only; rw [OKx_ex]; exact z
  | bad => intro z; rw [ORx_bad] at z; exact z.elim
/-- without errors -/
theorem OKx.ok {o : O α} (h : OKx o P fun _ _ _ => False) : OK o P := by
  cases o with
  | ok x e => rw [OKx_ok] at h; rw [OK_ok]; exact h
  | ex c p e => rw [OKx_ex] at h; exact h.elim
  | bad => rw [OKx_bad] at h; exact h.elim
theorem wMethX {c n : Nat} {F : FS} {fa : SE} {fl : SL} {P : D → En → Prop} (h : OK (fa env) fun d e => ∃ fs, d = .obj c fs ∧ OK (fl e) fun ds e2 => ds.length + 1 = n ∧ OR (F (.obj c fs :: ds)) fun d _ => P d e2) : OK (sMethX c n F fa fl env) P :=
  OKx.ok (xMethX (h.x.mono fun d e ⟨fs, h1, h2⟩ => ⟨fs, h1, h2.x.mono fun ds e2 ⟨h3, h4⟩ => ⟨h3, h4.x⟩⟩))
theorem wMakeX {c n : Nat} {names : List Str} {F : FI} {fl : SL} {P : D → En → Prop} (h : OK (fl env) fun ds e => ds.length = n ∧ OR (F (.ins c []) ds) fun d s => d = .non ∧ ∃ fs, s = .ins c fs ∧ fs.map (·.1) = names ∧ P (.obj c (fs.map (·.2))) e) : OK (sMakeX c n names F fl env) P :=
  OKx.ok (xMakeX (h.x.mono fun ds e ⟨h1, h2⟩ => ⟨h1, h2.x⟩))
/-! ### the lambda that a def is handed: what comes of its body -/
theorem wLamX {F : RS → RS} {fe : SE} {P : D → En → Prop} (h : OKx (fe (roE env)) (fun d _ => ∃ r o, F (.ok d nil0) = .ok r o ∧ P r env) (fun c p _ => ∃ r o, F (.ex c p nil0) = .ok r o ∧ P r env)) : OK (sLam F fe env) P := by
  unfold sLam
  revert h
  cases fe (roE env) with
  | ok d e => intro z; rw [OKx_ok] at z; obtain ⟨r, o, h1, h2⟩ := z; simp only [outR, h1, OK_ok]; exact h2
  | ex c p e => intro z; rw [OKx_ex] at z; obtain ⟨r, o, h1, h2⟩ := z; simp only [outR, h1, OK_ok]; exact h2
  | bad => intro z; rw [OKx_bad] at z; exact z.elim
/-! ### loans -/
theorem wBorG {n i : Nat} {fr : α → Prop} {f : En → O α} {ds : List D} (h0 : env[i]? = some (.own false (.lst ds))) (h : OK (f (env.set i (.sh (.mk n ds)))) fun d e => fr d ∧ chk n (env.set i .un) (e.set i .un) ∧ e[i]? = some (.sh (.mk n ds)) ∧ P d (e.set i (.own false (.lst ds)))) : OK (sBorG n i fr f env) P := by
  obtain ⟨d, e, h1, h2, h3, h4, h5⟩ := h.ex
  unfold sBorG
  rw [h0]
  simp only [h1]
  rw [if_pos ⟨h2, h3, h4⟩, OK_ok]
  exact h5
/-! ### marked lists -/
@[simp] theorem isi_m1 (k : Nat) (xs : List D) : isiT [.mk k xs, .tup [.ty "list", .ty "tuple"]] = some (.bl true) := (rfl)
@[simp] theorem isi_ml (k : Nat) (xs : List D) : isiT [.mk k xs, .ty "list"] = some (.bl true) := (rfl)
@[simp] theorem isi_mt (k : Nat) (xs : List D) : isiT [.mk k xs, .ty "tuple"] = some (.bl false) := (rfl)
@[simp] theorem len_m (k : Nat) (xs : List D) : lenD [.mk k xs] = some (.int (xs.length : Int)) := (rfl)
@[simp] theorem itr_m (k : Nat) (xs : List D) : (D.mk k xs).itr = some xs := (rfl)
@[simp] theorem itrS_m (k : Nat) (xs : List D) : (D.mk k xs).itrS = some xs := (rfl)
@[simp] theorem items_m (k : Nat) (xs : List D) : (D.mk k xs).items = some xs := (rfl)
section
variable {f g : SS}
theorem WS_only {r : OS} (h : WS r N R (fun _ _ => False)) : WS (onlyR r) N R Ro := by
  rcases h.cases with ⟨e, q, h2⟩ | ⟨d, e, q, h2⟩ | ⟨o, e, q, h2⟩
  · rw [q]; unfold onlyR; rw [WS_nx]; exact h2
  · rw [q]; unfold onlyR; rw [WS_rt]; exact h2
  · exact h2.elim
theorem wBegM {i : Nat} {fl : SL} (h : OK (fl env) fun ds e => ds.length ≤ sizeLine ∧ WS (g (e.set i (.sh (.mk 0 ds)))) N R (fun _ _ => False)) : WS (sBegM i fl g env) N R Ro := by
  obtain ⟨ds, e, h1, h2, h3⟩ := h.ex
  unfold sBegM
  rw [h1]
  simp only [h2, if_true]
  exact WS_only h3
theorem wSeqM (h : ∀ K : En → Prop, K = (fun e => WS (g e) N R Ro) → WS (f env) K (fun _ _ => False) (fun _ _ => False)) : WS (sSeqM f g env) N R Ro := by
  have := h _ rfl
  unfold sSeqM
  rcases this.cases with ⟨e, q, h⟩ | ⟨d, e, q, h⟩ | ⟨d, e, q, h⟩
  · rw [q]; exact h
  · exact h.elim
  · exact h.elim
theorem wEndM {i n : Nat} {y : D} {xs : List D} (h0 : env[i]? = some (.sh (.mk n xs))) (hl : xs.length < sizeLine) (h : WS (g (env.map (umS y))) N R (fun _ _ => False)) : WS (sEndM i y g env) N R Ro := by
  unfold sEndM
  rw [h0]
  simp only [hl, if_true]
  exact WS_only h
end
theorem umS_sh (y d : D) : umS y (.sh d) = .sh (um y d) := rfl
theorem umS_ow (y : D) (m : Bool) (o : OV) : umS y (.own m o) = .own m (umO y o) := rfl
theorem um_ints (y : D) : ∀ ns : List Int, umA y (ns.map .int) = ns.map .int
  | [] => rfl
  | n :: r => by rw [List.map_cons, umA, um_ints y r]; rfl
end
end Ax
set_option Elab.async false
set_option linter.all false
set_option maxRecDepth 100000
set_option maxHeartbeats 400000
/-! AxU: a lambda with a parameter is a function object; a base that holds it and the cells that it reads. -/
namespace Ax
open PySem PySem.Spec L2
open LamX (CodeO Tabs TabS TabB)
/-! ### a greater base -/
theorem get_iff {h : Heap} {a : Addr} {o : Obj} : h.get? a = some o ↔ h.objs[a]? = some o ∧ (∀ c d s, o ≠ ⟨c, d, .freed, s⟩) := by
  unfold Heap.get?
  constructor
  · intro e
    split at e
    · cases e
    · rename_i n
      exact ⟨e, fun c d s q => n c d s (by rw [e, q])⟩
  · rintro ⟨e, n⟩
    split
    · rename_i q
      rw [e] at q
      cases q
      exact (n _ _ _ rfl).elim
    · exact e
theorem big_base (base h : Heap) (S : List Addr) (k : ∀ b o, base.get? b = some o → h.get? b = some o) :
    ∃ B : Heap, B.objs.size ≤ h.objs.size ∧ (∀ b o, base.get? b = some o → B.get? b = some o) ∧ (∀ b o, b ∈ S → h.get? b = some o → B.get? b = some o) ∧ ∀ b o, B.get? b = some o → h.get? b = some o ∧ (base.get? b = some o ∨ b ∈ S) := by
  have at_ : ∀ (f : Nat → Obj) (n a : Nat), ((Array.range n).map f)[a]? = if a < n then some (f a) else none := fun f n a => by
    by_cases q : a < n
    · simp [q]
    · simp [q]
  let dead : Obj := ⟨.none, none, .freed, #[]⟩
  let f : Nat → Obj := fun a => if (base.get? a).isSome = true ∨ a ∈ S then (h.objs[a]?).getD dead else dead
  refine ⟨⟨(Array.range h.objs.size).map f, {}⟩, by simp, fun b o e => ?_, fun b o m e => ?_, fun b o e => ?_⟩
  · obtain ⟨e1, e2⟩ := get_iff.mp (k b o e)
    refine get_iff.mpr ⟨?_, e2⟩
    show ((Array.range h.objs.size).map f)[b]? = some o
    have lt : b < h.objs.size := by
      rcases Nat.lt_or_ge b h.objs.size with q | q
      · exact q
      · rw [Array.getElem?_eq_none q] at e1; cases e1
    rw [at_, if_pos lt]
    show some (if _ then _ else _) = _
    rw [if_pos (.inl (by rw [e]; rfl)), e1]
    rfl
  · obtain ⟨e1, e2⟩ := get_iff.mp e
    refine get_iff.mpr ⟨?_, e2⟩
    show ((Array.range h.objs.size).map f)[b]? = some o
    have lt : b < h.objs.size := by
      rcases Nat.lt_or_ge b h.objs.size with q | q
      · exact q
      · rw [Array.getElem?_eq_none q] at e1; cases e1
    rw [at_, if_pos lt]
    show some (if _ then _ else _) = _
    rw [if_pos (.inr m), e1]
    rfl
  · obtain ⟨e1, e2⟩ := get_iff.mp e
    have e1' : ((Array.range h.objs.size).map f)[b]? = some o := e1
    rw [at_] at e1'
    split at e1'
    · rename_i lt
      have e3 : f b = o := Option.some.inj e1'
      by_cases q : (base.get? b).isSome = true ∨ b ∈ S
      · have e4 : (h.objs[b]?).getD dead = o := by
          have : f b = (h.objs[b]?).getD dead := if_pos q
          rw [← this]; exact e3
        have hg : h.get? b = some o := by
          refine get_iff.mpr ⟨?_, e2⟩
          rw [Array.getElem?_eq_getElem lt] at e4 ⊢
          exact congrArg some e4
        refine ⟨hg, ?_⟩
        rcases q with q | q
        · obtain ⟨o', z⟩ := Option.isSome_iff_exists.mp q
          have := k b o' z
          rw [hg] at this
          cases this
          exact .inl z
        · exact .inr q
      · have : f b = dead := if_neg q
        rw [this] at e3
        exact (e2 _ _ _ e3.symm).elim
    · cases e1'
theorem Env0.big {P : Program} {w : World} {K : PySem.W.Frag} {mg : Str → Option Value} {base B : Heap} {A : Around} {outer : List Env} {s : Shared} {H : Hp} (e : Env0 P w K mg base A outer s H) (S : List Addr)
    (sz : B.objs.size ≤ s.heap.objs.size) (up : ∀ b o, base.get? b = some o → B.get? b = some o) (dn : ∀ b o, B.get? b = some o → s.heap.get? b = some o ∧ (base.get? b = some o ∨ b ∈ S)) (free : ∀ b ∈ S, H b = none) (nofr : ∀ b ∈ S, b ∉ frs outer) : Env0 P w K mg B A outer s H := by
  refine ⟨e.frames, ⟨e.mod.kin.keeps up, e.mod.glob.keeps up, ?_, e.mod.nolimit.keeps up⟩, fun b o q => ?_, sz, ?_, e.frf, e.hok, e.bare⟩
  · obtain ⟨mb, h1, h2⟩ := e.mod.blt
    exact ⟨mb, h1.keeps up, h2⟩
  · obtain ⟨h1, h2⟩ := dn b o q
    rcases h2 with h2 | h2
    · exact ⟨h1, (e.bs b o h2).2⟩
    · exact ⟨h1, free b h2⟩
  · have go : ∀ (l : List Env), (∀ b ∈ S, b ∉ frs l) → s.heap.FunFrames base l → s.heap.FunFrames B l := by
      intro l
      induction l with
      | nil => exact fun _ _ => True.intro
      | cons env r ih =>
        intro n ⟨a1, ⟨L, o, hf, hn, ho, hd⟩, a3⟩
        have inL : L ∈ frs (env :: r) := by
          unfold frs
          rw [List.filterMap_cons, hf]
          exact List.mem_cons_self
        have up2 : ∀ b, b ∈ frs r → b ∈ frs (env :: r) := fun b hb => by
          unfold frs at hb ⊢
          rw [List.filterMap_cons, hf]
          exact List.mem_cons_of_mem _ hb
        refine ⟨a1, ⟨L, o, hf, ?_, ho, hd⟩, ih (fun b hb z => n b hb (up2 b z)) a3⟩
        cases q : B.get? L with
        | none => rfl
        | some o' =>
          rcases (dn L o' q).2 with z | z
          · rw [hn] at z; cases z
          · exact (n L z inL).elim
    exact go outer nofr e.funs
end Ax
set_option Elab.async false
set_option linter.all false
set_option maxRecDepth 100000
set_option maxHeartbeats 400000
/-! AxV: the body of a lambda with one parameter; such a lambda as a function that keeps a promise; its call by a slot. -/
namespace Ax
open PySem PySem.Spec L2
open LamX (CodeO Tabs TabS TabB)
/-- one parameter (a local, or a cell), names of comprehensions (us), else captured names and globals -/
structure LamP (scope : Scope) (n : Str) (us : List Str) : Prop where
  kind : scope.kind = .function
  co : false = scope.isCoroutine
  gen : false = scope.isGenerator
  uniq : ∀ p : Str × NameKind, p ∈ scope.names → scope.names.lookup p.1 = some p.2
  ncell : ∀ y ∈ scope.names, y.2 = .cell → y.1 = n
  loc : ∀ y ∈ scope.names, y.2 = .local → y.1 = n ∨ y.1 ∈ us
  par : scope.names.lookup n = some .local ∨ scope.names.lookup n = some .cell
def lamPB (scope : Scope) (n : Str) (us : List Str) : Bool :=
  decide (scope.kind = .function) && !scope.isCoroutine && !scope.isGenerator && (scope.names.all fun y => decide (scope.names.lookup y.1 = some y.2) && (!decide (y.2 = .cell) || decide (y.1 = n)) && (!decide (y.2 = .local) || (decide (y.1 = n) || us.any fun u => decide (u = y.1)))) && (decide (scope.names.lookup n = some .local) || decide (scope.names.lookup n = some .cell))
theorem lamP_by {scope : Scope} {n : Str} {us : List Str} (h : lamPB scope n us = true) : LamP scope n us := by
  unfold lamPB at h
  simp only [Bool.and_eq_true, Bool.or_eq_true, Bool.not_eq_true', decide_eq_true_eq, decide_eq_false_iff_not, List.all_eq_true, List.any_eq_true] at h
  obtain ⟨⟨⟨⟨h1, h2⟩, h3⟩, h4⟩, h5⟩ := h
  refine ⟨h1, h2.symm, h3.symm, fun y hy => (h4 y hy).1.1, fun y hy e => (h4 y hy).1.2.resolve_left fun z => z e, fun y hy e => ?_, h5⟩
  rcases (h4 y hy).2.resolve_left fun z => z e with z | ⟨u, hu, z⟩
  · exact .inl z
  · exact .inr (z ▸ hu)
/-- a parameter that is no cell: there is no cell -/
theorem LamP.nocell {scope : Scope} {n : Str} {us : List Str} (L : LamP scope n us) (h : scope.names.lookup n = some .local) : ∀ y ∈ scope.names, y.2 ≠ .cell := fun y hy e => by
  have q := L.uniq y hy
  rw [L.ncell y hy e, h, e] at q
  cases q
/-- the slots js are empty -/
def wipeJ (js : List Nat) (σ : L2.St) : L2.St := js.foldl (fun s j => s.set j none) σ
theorem wipeJ_len : ∀ (js : List Nat) (σ : L2.St), (wipeJ js σ).length = σ.length
  | [], _ => rfl
  | j :: js, σ => by
    show (wipeJ js (σ.set j none)).length = _
    rw [wipeJ_len js, List.length_set]
theorem wipeJ_get {v : V} {i : Nat} : ∀ {js : List Nat} {σ : L2.St}, (wipeJ js σ)[i]? = some (some v) → i ∉ js ∧ σ[i]? = some (some v)
  | [], _, h => ⟨by simp, h⟩
  | j :: js, σ, h => by
    obtain ⟨h1, h2⟩ := wipeJ_get (js := js) (σ := σ.set j none) h
    have ne : j ≠ i := fun e => by
      subst e
      obtain ⟨l, g⟩ := List.getElem?_eq_some_iff.mp h2
      rw [List.getElem_set_self] at g
      cases g
    rw [List.getElem?_set_ne ne] at h2
    exact ⟨by simp [h1, Ne.symm ne], h2⟩
/-- the frame of the lambda's body -/
abbrev lEnv (q : Str) (scope : Scope) (L f c : Addr) (cl : List (Str × Addr)) : Env := PySem.W.envX q scope L f (.ref c) cl
/-- the context of the lambda's body -/
def lCx (P : Program) (w : World) (K : PySem.W.Frag) (mg : Str → Option Value) (B : Heap) (N : List Str) (q : Str) (scope : Scope) (f c : Addr) (cl : List (Str × Addr)) (A : Around) (outer : List Env) (s : Shared) (H : Hp) (E : XK) : Cx where
  prog := P
  w := w
  K := K
  mg := mg
  base := B
  A := A.deeper (lEnv q scope s.heap.objs.size f c cl)
  N := N
  s_0 := s
  H_0 := H
  env := lEnv q scope s.heap.objs.size f c cl
  outer := outer
  stack := lEnv q scope s.heap.objs.size f c cl :: outer
  ex := []
  fn := fun _ => false
  calm := true
  pn := []
  xe := fun e s1 => wpAny (model P w) (A.deeper (lEnv q scope s.heap.objs.size f c cl)) (leaving (lEnv q scope s.heap.objs.size f c cl) e) (fun _ s2 => L2.CX P w outer H s E e s2) (fun e2 s2 => L2.CX P w outer H s E e2 s2) s1
/-- what the base holds of a lambda's captured cells, for the slots σ -/
structure Caps (B : Heap) (N : List Str) (scope : Scope) (cl : List (Str × Addr)) (σ : L2.St) : Prop where
  has : ∀ y, scope.names.lookup y = some .free → ∃ c, cl.lookup y = some c
  inj : ∀ (a b : Str) (p : Addr), cl.lookup a = some p → cl.lookup b = some p → a = b
  cell : ∀ y c, cl.lookup y = some c → ∃ v, B.IsCell c v
  val : ∀ (i : Nat) (y : Str) (v : V), N[i]? = some y → σ[i]? = some (some v) → scope.names.lookup y = some .free → ∃ c u, cl.lookup y = some c ∧ RelV v u ∧ B.IsCell c (some u)
  mem : ∀ y c, (y, c) ∈ cl → cl.lookup y = some c ∧ (y, NameKind.free) ∈ scope.names
/-- the cells of a call: the captured ones, and the parameter's own -/
structure Own1 (scope : Scope) (n : Str) (u : Value) (lo : Nat) (h1 : Heap) (cl cl2 : List (Str × Addr)) : Prop where
  sub : ∀ x a, cl2.lookup x = some a → cl.lookup x = some a ∨ (x = n ∧ lo < a ∧ h1.IsCell a (some u))
  free : ∀ x a, scope.names.lookup x = some .free → cl.lookup x = some a → cl2.lookup x = some a
  par : scope.names.lookup n = some .cell → ∃ a, cl2.lookup n = some a ∧ h1.IsCell a (some u)
/-- a call's environment, its one parameter kept in a cell -/
theorem wpAny_newCell {M : Model} {A : Around} {E : Value → Shared → Prop} {s : Shared} {scope : Scope} {us : List Str} {globals : Addr} {B : Heap} {N : List Str} {σ : L2.St} {cl : List (Str × Addr)} {n : Str} {u : Value} {qual : Str} {func : Option Addr} {code : Value} {builtins : Addr} {Q : Env → Shared → Prop}
    (L : LamP scope n us) (C : Caps B N scope cl σ) (hc : scope.names.lookup n = some .cell)
    (hQ : ∀ h1 cl2, Own1 scope n u s.heap.objs.size h1 cl cl2 → h1.Ns s.heap.objs.size (fun _ => none) → (∀ b o, s.heap.get? b = some o → h1.get? b = some o) → Q (newEnv scope s.heap.objs.size globals cl2 qual func code none builtins) { s with heap := h1 }) :
    wpAny M A (newFunctionEnv scope globals cl [(n, u)] qual func code none builtins) Q E s := by
  unfold newFunctionEnv
  simp only [Bool.false_eq_true, Option.isSome_none, if_false]
  refine wpAny_bind (wpAny_alloc (wpAny_bind (wpAny_layCells _ (fun y kd cs => ?_) _ _ _ _ ?_)))
  · by_cases q : (kd == NameKind.cell) = true <;> simp [q]
  dsimp only
  generalize hH : s.heap.push { cls := .type "frame", data := .dict #[] } = H1
  have hsz : H1.objs.size = s.heap.objs.size + 1 := by rw [← hH, Heap.size_push]
  generalize hcl : cellsFrom H1.objs.size scope.names cl = cl2
  have kp : ∀ b o, s.heap.get? b = some o → (pushCells H1 scope.names).get? b = some o := fun b o e => pushCells_keeps _ _ _ _ (by rw [← hH]; exact Heap.get?_push_of_some _ e)
  have hns : (pushCells H1 scope.names).Ns s.heap.objs.size (fun _ => none) := by
    rw [← hH]
    exact (Heap.Ns.new s.heap (.type "frame")).keeps (pushCells_keeps _ _)
  have mem : ∀ {y a}, cl2.lookup y = some a → cl.lookup y = some a ∨ ((y, NameKind.cell) ∈ scope.names ∧ s.heap.objs.size < a ∧ CellAt (pushCells H1 scope.names) a none) := fun {y a} e => by
    rw [← hcl] at e
    rcases cells_mem (PySem.mem_of_lookup e) with hm | ⟨h0, h2, h3⟩
    · exact .inl (C.mem _ _ hm).1
    · exact .inr ⟨h0, by omega, h3⟩
  obtain ⟨a, hm⟩ := cells_has (n := H1.objs.size) (acc := cl) (PySem.mem_of_lookup hc)
  obtain ⟨a, ha⟩ := mem_lookup hm
  rw [hcl] at ha
  have new : s.heap.objs.size < a ∧ (pushCells H1 scope.names).IsCell a none := by
    rcases mem ha with e | ⟨_, h2, h3⟩
    · have q := L.uniq _ (C.mem _ _ (PySem.mem_of_lookup e)).2
      rw [hc] at q
      cases q
    · exact ⟨h2, h3⟩
  rw [List.forIn_cons]
  refine wpAny_bind (wpAny_bind (wpAny_bind (wpAny_storeName_cell L.kind hc ha new.2 fun h' hcell hsame => wpAny_pure ?_)))
  dsimp only
  rw [List.forIn_nil]
  refine wpAny_pure (wpAny_pure (hQ h' cl2 ⟨fun x b e => ?_, fun x b e1 e2 => ?_, fun _ => ⟨a, ha, hcell⟩⟩ (hns.sameBut hsame (Nat.ne_of_lt new.1)) fun b o e => hsame.extBut b o (Nat.ne_of_lt (Nat.lt_trans (Heap.lt_size e) new.1)) (kp b o e)))
  · rcases mem e with q | ⟨q1, q2, _⟩
    · exact .inl q
    · have z := L.ncell _ q1 rfl
      have z : x = n := z
      subst z
      rw [ha] at e
      cases e
      exact .inr ⟨rfl, q2, hcell⟩
  · obtain ⟨b2, hb2⟩ := mem_lookup (cells_acc (names := scope.names) (n := H1.objs.size) (PySem.mem_of_lookup e2))
    rw [hcl] at hb2
    rcases mem hb2 with q | ⟨q1, _, _⟩
    · rw [hb2, ← q, e2]
    · have q := L.uniq _ q1
      rw [e1] at q
      cases q
section
variable {P : Program} {w : World} {K : PySem.W.Frag} {mg : Str → Option Value} {B : Heap} {N : List Str} {q n : Str} {scope : Scope} {f c : Addr} {cl : List (Str × Addr)} {σ : L2.St} {ip : Nat}
theorem lam_inv {us : List Str} {js : List Nat} (hj : ∀ y ∈ us, ∃ j ∈ js, N[j]? = some y) {A : Around} {outer : List Env} {s1 : Shared} {HZ : Hp} {E : XK} {h1 : Heap} {tk : Nat} {v : V} {u : Value} {m : Str → Option Value} {cl2 : List (Str × Addr)} (L : LamP scope n us) (C : Caps B N scope cl σ) (O : Own1 scope n u s1.heap.objs.size h1 cl cl2) (e0 : Env0 P w K mg B A outer s1 HZ) (hd : A.handled = none) (hN : N[ip]? = some n) (nd : N.Nodup) (len : σ.length = N.length) (rv : RelV v u)
    (hns : h1.Ns s1.heap.objs.size m) (hm : scope.names.lookup n = some .local → m n = some u) (kp : ∀ b o, s1.heap.get? b = some o → h1.get? b = some o) :
    Inv (lCx P w K mg B N q scope f c cl2 A outer s1 HZ E) [] ((wipeJ js σ).set ip (some v)) HZ { s1 with heap := h1, toks := tk } := by
  have bcell : ∀ {a : Addr} {v : Option Value}, B.IsCell a v → h1.IsCell a v ∧ HZ a = none ∧ a < s1.heap.objs.size := fun {a v} ⟨o, ho, hv⟩ => ⟨⟨o, kp _ _ (e0.bs _ _ ho).1, hv⟩, (e0.bs _ _ ho).2, Heap.lt_size (e0.bs _ _ ho).1⟩
  have noA : ∀ b : Addr, b ∉ (lCx P w K mg B N q scope f c cl2 A outer s1 HZ E).ex := fun b z => absurd (show b ∈ ([] : List Addr) from z) (by simp)
  have low : ∀ {y : Str} {a : Addr}, cl.lookup y = some a → a < s1.heap.objs.size := fun {y a} e => by
    obtain ⟨v', z⟩ := C.cell y a e
    exact (bcell z).2.2
  have ok : (lCx P w K mg B N q scope f c cl2 A outer s1 HZ E).Ok := {
    mod := e0.mod
    kind := L.kind
    glob := rfl
    blt := rfl
    above := Nat.le_refl _
    inj := fun x y a e1 e2 => by
      rcases O.sub x a e1 with p1 | ⟨p1, p2, _⟩ <;> rcases O.sub y a e2 with r1 | ⟨r1, r2, _⟩
      · exact C.inj x y a p1 r1
      · exact absurd (Nat.lt_trans (low p1) r2) (Nat.lt_irrefl _)
      · exact absurd (Nat.lt_trans (low r1) p2) (Nat.lt_irrefl _)
      · rw [p1, r1]
    has := fun x hx => by
      have hx' : scope.names.lookup x = some .cell ∨ scope.names.lookup x = some .free := hx
      rcases hx' with hx' | hx'
      · have z : x = n := L.ncell _ (PySem.mem_of_lookup hx') rfl
        subst z
        obtain ⟨a, ha, _⟩ := O.par hx'
        exact ⟨a, ha⟩
      · obtain ⟨a, ha⟩ := C.has x hx'
        exact ⟨a, O.free x a hx' ha⟩
    cab := fun x a z _ => by
      have z' : false = true := z
      cases z'
    hd := fun _ => hd
    frames := Around.frames_deeper e0.frames
    stk := .inr ⟨rfl, rfl⟩
    exf := fun b z => absurd z (noA b)
    bs := e0.bs
    bsz := e0.bsz
    noex := fun b _ _ => noA b
    exfs := fun b z => absurd z (noA b)
    funs := e0.funs
    frf := e0.frf }
  refine { ok := ok, os := rfl, bare := e0.bare, base := Un.kept kp, loc := ⟨_, hns, fun i y v' e1 e2 e3 => ?_⟩, cell := fun y a e => ?_, free := e0.hok.fresh (Nat.le_refl _), freeC := fun y a e => ?_, pin := fun p hp => absurd (show p ∈ ([] : List (Addr × Obj)) ++ [] from hp) (by simp), hok := e0.hok.kept kp, len := ?_ }
  · have e1' : N[i]? = some y := e1
    have e3' : scope.names.lookup y = some .local ∨ scope.names.lookup y = some .cell ∨ scope.names.lookup y = some .free := e3
    have one : ∀ {j : Nat} {z : Str}, N[i]? = some z → N[j]? = some z → i = j := fun {j z} e1' e2' => by
      obtain ⟨l1, g1⟩ := List.getElem?_eq_some_iff.mp e1'
      obtain ⟨l2, g2⟩ := List.getElem?_eq_some_iff.mp e2'
      have pw := List.pairwise_iff_getElem.mp nd
      rcases Nat.lt_trichotomy i j with z | z | z
      · exact (pw i j l1 l2 z (g1.trans g2.symm)).elim
      · exact z
      · exact (pw j i l2 l1 z (g2.trans g1.symm)).elim
    have atN : y = n → v' = v := fun hy => by
      subst hy
      have hi : i = ip := one e1' hN
      subst hi
      have lt : i < σ.length := by
        obtain ⟨l1, _⟩ := List.getElem?_eq_some_iff.mp e1'
        omega
      rw [List.getElem?_set_self (by rw [wipeJ_len]; exact lt)] at e2
      cases e2
      rfl
    rcases e3' with k | k | k
    · have hy : y = n := by
        rcases L.loc _ (PySem.mem_of_lookup k) rfl with hy | hy
        · exact hy
        · by_cases z : ip = i
          · subst z
            exact Option.some.inj (e1'.symm.trans hN)
          · rw [List.getElem?_set_ne z] at e2
            obtain ⟨j, hm, hz⟩ := hj y hy
            exact absurd (one e1' hz ▸ hm) (wipeJ_get e2).1
      rw [atN hy]
      subst hy
      exact ⟨u, rv, .inl ⟨k, hm k⟩⟩
    · have hy : y = n := L.ncell _ (PySem.mem_of_lookup k) rfl
      rw [atN hy]
      subst hy
      obtain ⟨a, ha, hc⟩ := O.par k
      exact ⟨u, rv, .inr ⟨.inl k, a, ha, hc⟩⟩
    · have ne : ip ≠ i := fun z => by
        subst z
        rw [hN] at e1'
        cases e1'
        rcases L.par with p | p <;> rw [p] at k <;> cases k
      rw [List.getElem?_set_ne ne] at e2
      obtain ⟨a, u', h1', h2', h3'⟩ := C.val i y v' e1' (wipeJ_get e2).2 k
      exact ⟨u', h2', .inr ⟨.inr k, a, O.free y a k h1', (bcell h3').1⟩⟩
  · rcases O.sub y a e with p | ⟨_, _, p⟩
    · obtain ⟨v', z⟩ := C.cell y a p
      exact ⟨v', (bcell z).1⟩
    · exact ⟨_, p⟩
  · rcases O.sub y a e with p | ⟨_, p, _⟩
    · obtain ⟨v', z⟩ := C.cell y a p
      exact (bcell z).2.1
    · exact e0.hok.fresh (Nat.le_of_lt p)
  · rw [List.length_set, wipeJ_len]; exact len
/-- the lambda, called with one value -/
theorem lam_fn {us : List Str} {js : List Nat} (hj : ∀ y ∈ us, ∃ j ∈ js, N[j]? = some y) {params : Arguments} {body : Expr} {pm ctv : Value} {k : Nat} {tb : XK → TE} (L : LamP scope n us) (C : Caps B N scope cl σ) (hf : B.get? f = some (PySem.W.kla_obj "<lambda>" q params body scope cl pm c ctv)) (hN : N[ip]? = some n) (nd : N.Nodup) (len : σ.length = N.length)
    (hbody : ∀ (cl2 : List (Str × Addr)) (A : Around) (outer : List Env) (s : Shared) (H : Hp) (E : XK), Room k (A.deeper (lEnv q scope s.heap.objs.size f c cl2)) → PE (lCx P w K mg B N q scope f c cl2 A outer s H E) body (tb E)) :
    FnOk P w K mg B (L2.CX P w) (k + 1) f (PySem.W.kla_fn "<lambda>" q params body scope cl pm (.ref c) ctv) [n] (fun vs H Q E => ∃ v, vs = [v] ∧ H c = some (CodeO c q) ∧ tb E ((wipeJ js σ).set ip (some v)) H Q) := by
  refine ⟨fun vs H Q E ⟨v, e, _⟩ => by rw [e]; rfl, fun A outer s H args us vs Q E hr e0 hb r ⟨v, e, hc, ht⟩ => ?_⟩
  subst e
  obtain ⟨u, rv, rfl⟩ : ∃ u, RelV v u ∧ us = [u] := by
    cases r with
    | cons a r => cases r with
      | nil => exact ⟨_, a, rfl⟩
  obtain ⟨⟨oc, ovs, t, hoc, hdc, hvc⟩, _, _⟩ := e0.hok c _ hc
  have lim : s.heap.NoLimit := e0.mod.nolimit.keeps fun _ _ q => (e0.bs _ _ q).1
  refine PySem.W.kla_callFunE hr.depth (e0.bs _ _ hf).1 rfl L.co.symm L.gen.symm rfl ⟨c, oc, ovs, t, rfl, hoc, hdc, hvc⟩ (hb _ _ _ _ ?_)
  have fin : ∀ {cl2 : List (Str × Addr)} {h1 : Heap} {tk : Nat} {m : Str → Option Value}, Own1 scope n u s.heap.objs.size h1 cl cl2 → h1.Ns s.heap.objs.size m → (scope.names.lookup n = some .local → m n = some u) → (∀ b o, s.heap.get? b = some o → h1.get? b = some o) →
      codeAny (model P w) A (.expr body (lEnv q scope s.heap.objs.size f c cl2)) (CR (L2.CX P w) outer P w H s Q E) { s with heap := h1, toks := tk } := fun {cl2 h1 tk m} O hns hm kp => by
    have J := lam_inv (js := js) hj (q := q) (f := f) (c := c) (E := E) (tk := tk) L C O e0 hr.hd hN nd len rv hns hm kp
    refine PySem.W.kla_codeExpr (wpAny_mono ((hbody cl2 _ _ s H E (hr.deeper _)).run [] _ _ H Q J ht) (fun v' s' hq => ?_) fun e s' hq => hq)
    obtain ⟨w', H', J', rv', q'⟩ := hq
    exact ⟨w', H', J'.os, J'.bare, J'.base, J'.hok, rv', q'⟩
  rcases L.par with p | p
  · refine wpAny_newFunctionEnv (fun y hy => L.nocell p y hy) (fun y hy => ?_) (fun h1 hns hsb => ?_) L.kind
    · have : y = (n, u) := by simpa using hy
      rw [this]; exact p
    · have kp : ∀ b o, s.heap.get? b = some o → h1.get? b = some o := fun b o e => hsb.extBut b o (Nat.ne_of_lt (Heap.lt_size e)) (Heap.get?_push_of_some _ e)
      exact ⟨lim.keeps kp, fin (cl2 := cl) ⟨fun x a e => .inl e, fun x a _ e => e, fun z => by rw [p] at z; cases z⟩ hns (fun _ => by simp [List.lookup]) kp⟩
  · exact wpAny_newCell L C p fun h1 cl2 O hns kp => ⟨lim.keeps kp, fin (cl2 := cl2) (tk := s.toks) O hns (fun z => by rw [p] at z; cases z) kp⟩
end
/-- a function object of the base that a slot holds, called -/
theorem pe_callF {X : Cx} {CX : CXT} {k i : Nat} {f : Addr} {fd : FuncData} {ps : List Str} {sp : Sp} {E : XK} {x : Str} {p pos : Pos} {e : Expr} {es : List Expr} {t : TA} {oc : Value} {od : Option Addr} {sl : Array (Option Value)} (F : FnOk X.prog X.w X.K X.mg X.base CX k f fd ps sp) (hr : Room k X.A) (hN : X.N[i]? = some x) (hv : Vis X.env.scope x)
    (at_ : X.base.get? f = some ⟨oc, od, .func fd, sl⟩) (hb : Binds X.K fd ps []) (hx : Passes CX X E) (ha : PA X (e :: es) t) (d1 : (x == ("__debug__" : Str)) = false := by decide) (d2 : (x == ("__classdict__" : Str)) = false := by decide)
    (he : starEach (e :: es) X.env =
      (false, eval e X.env) :: starEach es X.env := by rfl)
    (hpl : (backTo pos (starEach es X.env)).any (·.1) = false
      := by rfl) :
    PE X (.Call (.Name x p) (e :: es) [] pos) (fun σ H Q => σ[i]? = some (some (.ref f)) ∧ t σ H fun vs H1 => sp vs H1 Q E) := by
  refine ⟨fun pins s σ H Q I ⟨hs, ht⟩ => ?_⟩
  have nm := (pe_var (pos := p) hN hv d1 d2).run pins s σ H (fun v H1 => v = .ref f ∧ H1 = H) I ⟨.ref f, hs, rfl, rfl⟩
  refine wpAny_Call_Name_kw (thn nm fun u s1 ⟨v, H1, I1, r1, ev, eH⟩ => ?_)
  subst ev
  subst eH
  cases r1
  have here : ∀ {pins : List (Addr × Obj)} {σ : L2.St} {H : Hp} {s : Shared}, Inv X pins σ H s → PySem.W.FnAt f s.heap := fun I => ⟨oc, od, fd, sl, I.bk _ _ at_⟩
  refine PySem.W.callWith_F (here I1) (thn (ha.run pos pins s1 σ _ _ I1 ht) fun us s2 ⟨vs, H2, I2, r, q⟩ => ⟨here I2, ?_⟩) he hpl
  exact run_fn F hr hb .nil hx I2 r (by rw [List.append_nil]; exact q)
end Ax
set_option Elab.async false
set_option linter.all false
set_option maxRecDepth 100000
set_option maxHeartbeats 400000
/-! AxW: a def that calls the lambda it is handed, as often as it likes, and takes other values besides. -/
namespace Ax
open PySem PySem.Spec L2
open LamX (CodeO Tabs TabS TabB)
def sFx (R : D → RS) (fl : SL) : SE := fun env => match env[0]? with
  | some SV.fx => (fl env).bind fun ds e => match ds with
    | [d] => (match R d with
      | .ok d2 _ => .ok d2 e
      | _ => .bad)
    | _ => .bad
  | _ => .bad
section
variable [T1 : TabC] {C : Kx} {σ : St} {H : Hp}
theorem tL_mono {fl : SL} {Q Q2 : List V → Hp → Prop} (h : tL C fl σ H Q) (m : ∀ vs H1, Q vs H1 → Q2 vs H1) : tL C fl σ H Q2 := by
  obtain ⟨Z, env, g, w⟩ := h
  exact ⟨Z, env, g, w.mono m⟩
theorem fx_imp {R : D → RS} {fl : SL} {Q : VK} {f : Addr} (fx : TabC.fx = some (V.ref f)) (h : tE C (sFx R fl) σ H Q) : σ[0]? = some (some (V.ref f)) ∧ tL C fl σ H fun vs H1 => ∃ Z1 v d, vs = [v] ∧ Sub Z1 H1 ∧ Rep C.G Z1 v d ∧ match R d with
    | .ok d2 _ => ∀ v2 H2 Z2, Step Z1 H1 Z2 H2 → Rep C.G Z2 v2 d2 → Q v2 H2
    | _ => False := by
  obtain ⟨Z2, env, g2, w⟩ := h
  unfold sFx at w
  split at w
  rotate_left
  · exact w.elim
  rename_i e0
  obtain ⟨v, ev, slot⟩ := g2.fx 0 e0
  rw [fx] at ev
  cases ev
  refine ⟨slot, Z2, env, g2, (Wish.bind (S := Reps C.G) w).mono fun vs H1 ⟨Z1, ds, e1, t1, g1, r1, w1⟩ => ?_⟩
  split at w1
  rotate_left
  · exact w1.elim
  rename_i d
  cases r1 with
  | cons rv r => cases r with
    | nil =>
      refine ⟨Z1, _, d, rfl, g1.sub, rv, ?_⟩
      revert w1
      generalize R d = r
      intro w1
      cases r with
      | ok d2 _ => exact fun v2 H2 Z2 s r => w1.ret g1 s r
      | ex c p _ => exact w1.elim
      | bad => exact w1
end
section
variable [T0 : TabC] {G : GW} {f c : Addr} {q : Str} {Z H : Hp}
/-- the frozen part, with the lambda's code object -/
abbrev zC (Z : Hp) (c : Addr) (q : Str) : Hp := upd Z c (CodeO c q)
theorem zC_same (sub : Sub Z H) (hc : H c = some (CodeO c q)) : Same Z (zC Z c q) := fun b o e => by
  by_cases h : b = c
  · subst h
    have := sub.s _ _ e
    rw [hc] at this
    cases this
    exact upd_same
  · show upd Z c _ b = some o
    rw [upd_ne h]; exact e
theorem zC_in (sub : Sub Z H) (hc : H c = some (CodeO c q)) : Same (zC Z c q) H := fun b o e => by
  by_cases h : b = c
  · subst h
    have e2 : upd Z b (CodeO b q) b = some o := e
    rw [upd_same] at e2
    cases e2
    exact hc
  · have e2 : upd Z c (CodeO c q) b = some o := e
    rw [upd_ne h] at e2
    exact sub.s _ _ e2
theorem enterT (sub : Sub Z H) (hc : H c = some (CodeO c q)) : @Sub (tabL f (zC Z c q)) (zC Z c q) H := by
  refine @Sub.mk (tabL f (zC Z c q)) _ H (zC_in sub hc) ⟨fun n b e => ?_, Same.refl _⟩ (fun b ps e => ?_) sub.tb
  · obtain ⟨vs, z⟩ := sub.ml.1 n b e
    exact ⟨vs, zC_same sub hc _ _ z⟩
  · by_cases h : b = c
    · subst h
      have e2 : upd Z b (CodeO b q) b = some (.tbl ps) := e
      rw [upd_same] at e2
      exact LamX.codeO_ne ps (Option.some.inj e2)
    · have e2 : upd Z c (CodeO c q) b = some (.tbl ps) := e
      rw [upd_ne h] at e2
      exact sub.nt _ _ e2
theorem leaveT (sub : Sub Z H) (hc : H c = some (CodeO c q)) {Z2 H2 : Hp} (s2 : @Sub (tabL f (zC Z c q)) Z2 H2) : Same Z (without Z Z2 c) ∧ Sub (without Z Z2 c) H2 ∧ Odd Z2 c := by
  obtain ⟨p1, p2, p3, p4, p5⟩ := @Sub.parts (tabL f (zC Z c q)) _ _ s2
  have od : Odd Z2 c := fun o e => by
    have z := p3 _ _ (upd_same : upd Z c (CodeO c q) c = _)
    rw [z] at e
    cases e
    exact ⟨_, rfl⟩
  have zz : Same Z Z2 := (zC_same sub hc).trans p3
  have sw : Same Z (without Z Z2 c) := fun b o e => by
    unfold without
    split
    · exact e
    · exact zz _ _ e
  refine ⟨sw, ⟨fun b o e => ?_, ⟨fun n b e => ?_, sub.ml.2.trans sw⟩, fun b ps e => ?_, p5⟩, od⟩
  · unfold without at e
    split at e
    · exact p1 _ _ (zz _ _ e)
    · exact p1 _ _ e
  · obtain ⟨vs, z⟩ := p2 n b e
    exact ⟨vs, Ax.wo od z fun _ y => by cases y⟩
  · unfold without at e
    split at e
    · exact sub.nt _ _ e
    · exact p4 _ _ e
/-- within, the code object stands where it stood -/
theorem codeT {Z2 H2 : Hp} (s2 : @Sub (tabL f (zC Z c q)) Z2 H2) : Z2 c = some (CodeO c q) ∧ H2 c = some (CodeO c q) := by
  obtain ⟨p1, _, p3, _, _⟩ := @Sub.parts (tabL f (zC Z c q)) _ _ s2
  have cz : Z2 c = some (CodeO c q) := p3 _ _ (upd_same : upd Z c (CodeO c q) c = _)
  exact ⟨cz, p1 _ _ cz⟩
theorem intoT {Z2 HZ Z3 H3 : Hp} (s2 : @Sub (tabL f (zC Z c q)) Z2 HZ) (st : Step (without Z Z2 c) HZ Z3 H3) : @Step (tabL f (zC Z c q)) Z2 HZ (without Z2 Z3 c) H3 ∧ Odd Z3 c := by
  obtain ⟨p1, p2, p3, p4, p5⟩ := @Sub.parts (tabL f (zC Z c q)) _ _ s2
  obtain ⟨cz, ch⟩ := codeT s2
  have ch3 : H3 c = some (CodeO c q) := st.hp.k _ _ ch fun ps => LamX.codeO_ne ps
  have fz : Same Z2 (without Z2 Z3 c) := fun b o e => by
    unfold without
    split
    · exact e
    · rename_i ne
      exact st.fz _ _ (by rw [without_ne ne]; exact e)
  refine ⟨@Step.mk (tabL f (zC Z c q)) _ _ _ _ st.hp fz (fun b o e => ?_) (@Sub.mk (tabL f (zC Z c q)) _ _ (fun b o e => ?_) (@ml_mono (tabL f (zC Z c q)) _ _ fz ⟨p2, p3⟩) (fun b ps e => ?_) st.sub.tb), odd_of st.sub.s ch3⟩
  · unfold without at e
    split at e
    · exact .inl e
    · rename_i ne
      rcases st.nw b o e with z | z
      · rw [without_ne ne] at z; exact .inl z
      · exact .inr z
  · unfold without at e
    split at e
    · rename_i eb
      subst eb
      rw [cz] at e
      cases e
      exact ch3
    · exact st.sub.s _ _ e
  · unfold without at e
    split at e
    · exact p4 _ _ e
    · exact st.sub.nt _ _ e
/-- the promise of a lambda: for each value what R tells -/
def spLam (G : GW) (Z0 : Hp) (c : Addr) (q : Str) (R : D → RS) : Sp := fun vs H Q _ => ∃ Z v d, vs = [v] ∧ Same Z0 Z ∧ Sub Z H ∧ H c = some (CodeO c q) ∧ Rep G Z v d ∧ match R d with
  | .ok d2 _ => ∀ v2 H2 Z2, Step Z H Z2 H2 → Rep G Z2 v2 d2 → Q v2 H2
  | _ => False
/-- its call, within the def that got it -/
theorem pe_fx {X : Cx} {io : Option Addr} {W : WX} {k : Nat} {fd : FuncData} {n x : Str} {R : D → RS} {p pos : Pos} {e : Expr} {es : List Expr} {fl : SL} {oc : Value} {od : Option Addr} {sl : Array (Option Value)} (sub0 : Sub Z H) (hc0 : H c = some (CodeO c q))
    (F : FnOk X.prog X.w X.K X.mg X.base (L2.CX X.prog X.w) k f fd [n] (spLam G Z c q R)) (hr : Room k X.A) (hN : X.N[0]? = some x) (hv : Vis X.env.scope x) (at_ : X.base.get? f = some ⟨oc, od, .func fd, sl⟩) (hb : Binds X.K fd [n] [])
    (ha : PA X (e :: es) (@tL (tabL f (zC Z c q)) ⟨G, io, W⟩ fl)) (d1 : (x == ("__debug__" : Str)) = false := by decide) (d2 : (x == ("__classdict__" : Str)) = false := by decide)
    (he : starEach (e :: es) X.env =
      (false, eval e X.env) :: starEach es X.env := by rfl)
    (hpl : (backTo pos (starEach es X.env)).any (·.1) = false
      := by rfl) :
    PE X (.Call (.Name x p) (e :: es) [] pos) (@tE (tabL f (zC Z c q)) ⟨G, io, W⟩ (sFx R fl)) :=
  PE.imp (pe_callF (i := 0) F hr hN hv at_ hb passL ha d1 d2 he hpl) fun σ H1 Q hh => by
    obtain ⟨slot, h2⟩ := @fx_imp (tabL f (zC Z c q)) _ _ _ _ _ _ _ rfl hh
    refine ⟨slot, @tL_mono (tabL f (zC Z c q)) _ _ _ _ _ _ h2 fun vs H1 ⟨Z1, v, d, ev, s1, rv, w1⟩ => ?_⟩
    obtain ⟨sw, subw, odd⟩ := leaveT sub0 hc0 s1
    refine ⟨without Z Z1 c, v, d, ev, sw, subw, (codeT s1).2, (@Rep.wo (tabL f (zC Z c q)) G Z Z1 c odd _ _ rv).unt, ?_⟩
    revert w1
    generalize R d = r
    intro w1
    cases r with
    | ok d2 _ =>
      intro v2 H2 Z3 st r2
      obtain ⟨st1, od⟩ := intoT s1 st
      exact w1 v2 H2 _ st1 (r2.wo (Z := Z1) od).tab
    | ex c p _ => exact w1
    | bad => exact w1
end
end Ax
set_option Elab.async false
set_option linter.all false
set_option maxRecDepth 100000
set_option maxHeartbeats 400000
/-! AxX: the def that got the lambda, as a whole; the call x(lambda n: body, ..). -/
namespace Ax
open PySem PySem.Spec L2
open LamX (CodeO Tabs TabS TabB)
def runG (N : Nat) (sf : SS) : FS := fun ds => match sf (SV.fx :: env0 (N - 1) ds) with
  | .nx _ => .ok .non nil0
  | .rt d _ => .ok d nil0
  | .rto o _ => (match o.fz with | some d => .ok d nil0 | none => .bad)
  | _ => .bad
section
variable [T0 : TabC] {G : GW} {f c : Addr} {q : Str} {Z H : Hp}
/-- what a def promises that got the lambda at f -/
def spG (G : GW) (Z : Hp) (f c : Addr) (q : Str) (n : Nat) (F : FS) : Sp := fun vs H Q _ => ∃ vs2 ds, vs = .ref f :: vs2 ∧ Sub Z H ∧ H c = some (CodeO c q) ∧ Reps G Z vs2 ds ∧ ds.length = n ∧ match F ds with
  | .ok d _ => ∀ v H2 Z2, Step Z H Z2 H2 → Rep G Z2 v d → Q v H2
  | _ => False
theorem noOwnG {N : Nat} {ds : List D} {σ : St} {b : Addr} (h : Own (SV.fx :: env0 N ds) σ b) : False := by
  obtain ⟨i, m, o, e, _⟩ := h
  cases i with
  | zero => cases e
  | succ i => rcases env0_get (show (env0 N ds)[i]? = _ from e) with ⟨d, _, z⟩ | z <;> cases z
theorem gdG {Zb : Hp} {N : List Str} {vs : List V} {ds : List D} (hN : 0 < N.length) (s : @Sub (tabL f Zb) Zb H) (r : @Reps (tabL f Zb) G Zb vs ds) : @Gd (tabL f Zb) G none Zb H (SV.fx :: env0 (N.length - 1) ds) (L2.start N (.ref f :: vs)) := by
  have st : ∀ i, (L2.start N (.ref f :: vs))[i + 1]? = (L2.start N.tail vs)[i]? := fun i => by
    unfold L2.start
    rw [List.map_cons, List.cons_append, List.getElem?_cons_succ]
    have e : N.length - (V.ref f :: vs).length = N.tail.length - vs.length := by rw [List.length_tail, List.length_cons]; omega
    rw [e]
  have lt : N.length - 1 = N.tail.length := by rw [List.length_tail]
  rw [lt]
  have g0 := @env0_gd (tabL f Zb) G none Zb H N.tail vs ds s r
  have sh0 := @Gd.sh (tabL f Zb) _ _ _ _ _ _ g0
  have ln : vs.length = ds.length := @Reps.length (tabL f Zb) G Zb vs ds r
  refine @Gd.mk (tabL f Zb) G none Zb H _ _ s ?_ (fun i d e => ?_) (fun i m o e => ?_) (fun i j m n y z b e1 e2 _ _ => ?_) (fun i e => ?_)
  · unfold L2.start env0
    simp [ln]
    omega
  · cases i with
    | zero => cases e
    | succ i => rw [st]; exact sh0 i d e
  · cases i with
    | zero => cases e
    | succ i => rcases env0_get (show (env0 N.tail.length ds)[i]? = _ from e) with ⟨d, _, z⟩ | z <;> cases z
  · cases i with
    | zero => cases e1
    | succ i => rcases env0_get (show (env0 N.tail.length ds)[i]? = _ from e1) with ⟨d, _, z⟩ | z <;> cases z
  · cases i with
    | zero => exact ⟨.ref f, rfl, start_get rfl⟩
    | succ i => rcases env0_get (show (env0 N.tail.length ds)[i]? = _ from e) with ⟨d, _, z⟩ | z <;> cases z
theorem ok_fnG {P : Program} {w : World} {K : PySem.W.Frag} {mg : Str → Option Value} {B : Heap} {x qual : Str} {st : Stmt} {g : Addr} {fd : FuncData} {N : List Str} {a : Str} {ps : List Str} {k : Nat} {sf : SS} (F : Fun K x qual st g fd) (S : FnScope N (a :: ps) (defScope st))
    (hbody : ∀ (H : Hp) (sub : Sub Z H) (hc : H c = some (CodeO c q)) (cdv : Value) (A : Around) (outer : List Env) (s : Shared) (E : XK), Room k (A.deeper (PyProof.Rows.envOfC qual (defScope st) s.heap.objs.size g cdv)) →
      PSs (cxOf (L2.CX P w) P w K mg B N qual (defScope st) g cdv A outer s H E) (defBody st) (@tS (tabL f (zC Z c q)) (kxP G E) sf)) :
    FnOk P w K mg B (L2.CX P w) (k + 1) g fd (a :: ps) (spG G Z f c q ps.length (runG N.length sf)) := by
  have hN : 0 < N.length := by
    have h := congrArg List.length S.pre
    rw [List.length_take, List.length_cons] at h
    omega
  refine F.okX S (fun vs H Q E ⟨vs2, ds, e, s, _, r, n, _⟩ => by rw [e, List.length_cons, List.length_cons, r.length, n]) fun cdv A outer s H vs Q E hr ⟨vs2, ds, e, sub, hc, r, n, h⟩ => ?_
  subst e
  have r2 : @Reps (tabL f (zC Z c q)) G (zC Z c q) vs2 ds := (Reps.mono (zC_same sub hc) r).tab
  refine ⟨_, hbody H sub hc cdv A outer s E hr, zC Z c q, _, gdG hN (enterT sub hc) r2, ?_⟩
  have fin : ∀ {Z2 H2 : Hp} {e2 : En} {σ2 : St}, Tr (zC Z c q) H (SV.fx :: env0 (N.length - 1) ds) (L2.start N (.ref f :: vs2)) Z2 H2 e2 σ2 → @Sub (tabL f (zC Z c q)) Z2 H2 → Step Z H (without Z Z2 c) H2 ∧ Odd Z2 c := fun {Z2 H2 e2 σ2} t s2 => by
    obtain ⟨sw, subw, od⟩ := leaveT sub hc s2
    obtain ⟨k1, k2, k3⟩ := @Tr.parts (tabL f (zC Z c q)) _ _ _ _ _ _ _ _ t
    refine ⟨⟨⟨fun b o e n => k1 b o e (fun z => noOwnG z) n, k3⟩, sw, fun b o e => ?_, subw⟩, od⟩
    unfold without at e
    split at e
    · exact .inl e
    · rename_i ne
      rcases k2 b o e with z | z | z
      · have z2 : upd Z c (CodeO c q) b = some o := z
        rw [upd_ne ne] at z2
        exact .inl z2
      · exact .inr z
      · exact (noOwnG z).elim
  unfold runG at h
  revert h
  generalize sf (SV.fx :: env0 (N.length - 1) ds) = rr
  intro h
  cases rr with
  | nx e => exact fun σ2 H2 Z2 t g2 => h .non H2 _ (fin t (@Gd.parts (tabL f (zC Z c q)) _ _ _ _ _ _ g2).1).1 .non
  | rt d e => exact fun v σ2 H2 Z2 t g2 rv => h v H2 _ (fin t (@Gd.parts (tabL f (zC Z c q)) _ _ _ _ _ _ g2).1).1 (@Rep.wo (tabL f (zC Z c q)) G Z Z2 c (fin t (@Gd.parts (tabL f (zC Z c q)) _ _ _ _ _ _ g2).1).2 _ _ rv).unt
  | rto o e =>
    intro p ho σ2 H2 Z2 t g2 n no z hp ro
    dsimp only at h
    cases hf : o.fz with
    | none => rw [hf] at h; exact h.elim
    | some d =>
      rw [hf] at h
      have npc : p ≠ c := fun y => by rw [y, hc] at n; cases n
      obtain ⟨st, od⟩ := fin t (@Gd.parts (tabL f (zC Z c q)) _ _ _ _ _ _ g2).1
      have zp : without Z Z2 c p = none := by rw [without_ne npc]; exact z
      have eW : without Z (upd Z2 p ho) c = upd (without Z Z2 c) p ho := funext fun b => by
        unfold without
        by_cases eb : b = c
        · rw [if_pos eb, upd_ne (fun y => npc (y.symm.trans eb)), if_pos eb]
        · rw [if_neg eb]
          by_cases ep : b = p
          · rw [ep, upd_same, upd_same]
          · rw [upd_ne ep, upd_ne ep, if_neg eb]
      have od2 : Odd (upd Z2 p ho) c := fun o e => od o (by rw [upd_ne npc.symm] at e; exact e)
      have rv := (@rep_frozen (tabL f (zC Z c q)) G Z2 p ho o d z (@Sub.un (tabL f (zC Z c q)) _ _ (@Gd.parts (tabL f (zC Z c q)) _ _ _ _ _ _ g2).1 _ z) ro hf)
      have rv := @Rep.wo (tabL f (zC Z c q)) G Z _ c od2 _ _ rv
      rw [eW] at rv
      exact h _ H2 _ (fz_step (G := G) st n zp hp (@RepO.ob (tabL f (zC Z c q)) _ _ _ _ ro).nt) rv.unt
  | _ => exact h.elim
/-- the slots js are unknown -/
def wipeJE (js : List Nat) (e : En) : En := js.foldl (fun e j => e.set j .un) e
theorem Gd.wipeJ {io : Option Addr} : ∀ (js : List Nat) {env : En} {σ : L2.St}, Gd G io Z H env σ → Gd G io Z H (wipeJE js env) (wipeJ js σ)
  | [], _, _, g => g
  | j :: js, env, σ, g => Gd.wipeJ js (env := env.set j .un) (σ := σ.set j none) g.setUn
/-- nothing of its own -/
def RoE (e : En) : Prop := ∀ (i : Nat) (s : SV), e[i]? = some s → (∃ d, s = .sh d) ∨ s = .un
omit T0 in
theorem RoE.wipe : ∀ (js : List Nat) {e : En}, RoE e → RoE (wipeJE js e)
  | [], _, r => r
  | j :: js, e, r => RoE.wipe js (e := e.set j .un) fun i s h => by
    by_cases q : j = i
    · subst q
      obtain ⟨l, g⟩ := List.getElem?_eq_some_iff.mp h
      rw [List.getElem_set_self] at g
      exact .inr g.symm
    · rw [List.getElem?_set_ne q] at h
      exact r i s h
theorem roE_ro (e : En) : RoE (roE e) := fun i s h => by
  rcases roE_get h with ⟨d, q, _⟩ | q
  · exact .inl ⟨d, q⟩
  · exact .inr q
/-- a lambda's promise, from the walk of its body -/
theorem lam_sp {us : List Str} {js : List Nat} {P : Program} {w : World} {K : PySem.W.Frag} {mg : Str → Option Value} {B : Heap} {N : List Str} {n : Str} {scope : Scope} {cl : List (Str × Addr)} {σ : L2.St} {ip : Nat} {params : Arguments} {body : Expr} {pm ctv : Value} {k : Nat} {io : Option Addr} {env : En} {fe : SE}
    (hj : ∀ y ∈ us, ∃ j ∈ js, N[j]? = some y) (L : LamP scope n us) (C : Caps B N scope cl σ) (hf : B.get? f = some (PySem.W.kla_obj "<lambda>" q params body scope cl pm c ctv)) (hN : N[ip]? = some n) (nd : N.Nodup) (g : Gd G io Z H env σ) (len : σ.length = N.length)
    (hbody : ∀ (cl2 : List (Str × Addr)) (A : Around) (outer : List Env) (s : Shared) (H : Hp) (E : XK), Room k (A.deeper (lEnv q scope s.heap.objs.size f c cl2)) → PE (lCx P w K mg B N q scope f c cl2 A outer s H E) body (tE ⟨G, none, fun cls d _ H2 => E cls d H2⟩ fe)) :
    FnOk P w K mg B (L2.CX P w) (k + 1) f (PySem.W.kla_fn "<lambda>" q params body scope cl pm (.ref c) ctv) [n] (spLam G Z c q fun d => outR (fe ((wipeJE js (roE env)).set ip (.sh d)))) :=
  (lam_fn (js := js) hj L C hf hN nd len hbody).imp fun vs H1 Q E ⟨Z1, v, d, ev, sz, sub, hc, rv, h⟩ => by
    have ro0 : RoE (wipeJE js (roE env)) := .wipe js (roE_ro env)
    have g1 : Gd G none Z1 H1 (wipeJE js (roE env)) (wipeJ js σ) := (g.ro sz sub).wipeJ js
    have len : (wipeJ js σ).length = N.length := by rw [wipeJ_len]; exact len
    revert g1 ro0 h len
    generalize wipeJE js (roE env) = en
    generalize wipeJ js σ = σ
    intro h ro0 g1 len
    refine ⟨v, ev, hc, Z1, en.set ip (.sh d), ?_, ?_⟩
    · have lt : ip < en.length := by
        obtain ⟨l, _⟩ := List.getElem?_eq_some_iff.mp hN
        have := g1.len
        omega
      have lt2 : ip < σ.length := by
        obtain ⟨l, _⟩ := List.getElem?_eq_some_iff.mp hN
        omega
      refine ⟨sub, by rw [List.length_set, List.length_set]; exact g1.len, fun i d2 e => ?_, fun i m o e => ?_, fun i j m n2 x y b e1 => ?_, fun i e => ?_⟩
      · by_cases z : ip = i
        · subst z
          rw [List.getElem?_set_self lt] at e
          cases e
          exact ⟨v, by rw [List.getElem?_set_self lt2], rv⟩
        · rw [List.getElem?_set_ne z] at e ⊢
          exact g1.sh i d2 e
      · by_cases z : ip = i
        · subst z
          rw [List.getElem?_set_self lt] at e
          cases e
        · rw [List.getElem?_set_ne z] at e
          rcases ro0 _ _ e with ⟨d3, e3⟩ | e3 <;> cases e3
      · by_cases z : ip = i
        · subst z
          rw [List.getElem?_set_self lt] at e1
          cases e1
        · rw [List.getElem?_set_ne z] at e1
          rcases ro0 _ _ e1 with ⟨d3, e3⟩ | e3 <;> cases e3
      · by_cases z : ip = i
        · subst z
          rw [List.getElem?_set_self lt] at e
          cases e
        · rw [List.getElem?_set_ne z] at e
          rcases ro0 _ _ e with ⟨d3, e3⟩ | e3 <;> cases e3
    · dsimp only [outR] at h
      revert h
      have noOwn : ∀ {b : Addr}, Own (en.set ip (.sh d)) (σ.set ip (some v)) b → False := fun {b} ⟨i, m, o, e, _⟩ => by
        by_cases z : ip = i
        · subst z
          have lt : ip < (en.set ip (.sh d)).length := by
            obtain ⟨l, _⟩ := List.getElem?_eq_some_iff.mp e
            exact l
          rw [List.getElem?_set_self (by simpa using lt)] at e
          cases e
        · rw [List.getElem?_set_ne z] at e
          rcases ro0 _ _ e with ⟨d3, e3⟩ | e3 <;> cases e3
      generalize fe (en.set ip (.sh d)) = r
      intro h
      cases r with
      | ok d2 e2 =>
        intro v2 H2 Z2 t g2 r2
        exact h v2 H2 Z2 ⟨⟨fun b o e n => t.keep b o e (fun z => noOwn z) n, t.dom⟩, t.fz, fun b o e => by
          rcases t.nw b o e with z | z | z
          · exact .inl z
          · exact .inr z
          · exact (noOwn z).elim, g2.sub⟩ r2
      | ex cl2 p e2 => exact h.elim
      | bad => exact h
end
end Ax
set_option Elab.async false
set_option linter.all false
set_option maxRecDepth 100000
set_option maxHeartbeats 800000
/-! AxY: x(lambda n: body, ..) -/
namespace Ax
open PySem PySem.Spec L2
open LamX (CodeO Tabs TabS TabB)
def sLamN (n ip : Nat) (js : List Nat) (F : (D → RS) → FS) (fe : SE) (fl : SL) : SE := fun env => (fl env).bind fun ds e => if ds.length = n then (match F (fun d => outR (fe ((wipeJE js (roE e)).set ip (.sh d)))) ds with
  | .ok d _ => .ok d e
  | _ => .bad) else .bad
/-- the captured names are cells of the maker -/
def capB (sc scope : Scope) : Bool := scope.names.all fun y => !decide (y.2 = .free) || decide (sc.names.lookup y.1 = some .cell) || decide (sc.names.lookup y.1 = some .free)
theorem capB_of {sc scope : Scope} (h : capB sc scope = true) {y : Str × NameKind} (hy : y ∈ scope.names) (e : y.2 = .free) : sc.names.lookup y.1 = some .cell ∨ sc.names.lookup y.1 = some .free := by
  unfold capB at h
  simp only [List.all_eq_true, Bool.or_eq_true, Bool.not_eq_true', decide_eq_true_eq, decide_eq_false_iff_not] at h
  rcases h y hy with (z | z) | z
  · exact absurd e z
  · exact .inl z
  · exact .inr z
/-- a comprehension in a lambda's body -/
theorem blk_lam {P : Program} {w : World} {K : PySem.W.Frag} {mg : Str → Option Value} {B : Heap} {N : List Str} {q : Str} {scope sc2 : Scope} {f c : Addr} {cl : List (Str × Addr)} {A : Around} {outer : List Env} {s : Shared} {H : Hp} {E : XK} {own : List (Str × Nat)} (h : blkC N scope sc2 own = true) :
    BlkOk (lCx P w K mg B N q scope f c cl A outer s H E).N (lCx P w K mg B N q scope f c cl A outer s H E).env.scope sc2 own := blkOk_by h
section
variable [T0 : TabC]
/-- what a def that gets a lambda promises over any base that holds the lambda -/
def GetsLam (P : Program) (w : World) (K : PySem.W.Frag) (mg : Str → Option Value) (G : GW) (kl k : Nat) (g : Addr) (gd : FuncData) (a : Str) (ps : List Str) (F : (D → RS) → FS) : Prop :=
  ∀ (B : Heap) (f c : Addr) (q n : Str) (fd : FuncData) (oc : Value) (od : Option Addr) (sl : Array (Option Value)) (Z : Hp) (R : D → RS), B.get? f = some ⟨oc, od, .func fd, sl⟩ → FnOk P w K mg B (L2.CX P w) kl f fd [n] (spLam G Z c q R) → Binds K fd [n] [] →
    FnOk P w K mg B (L2.CX P w) k g gd (a :: ps) (spG G Z f c q ps.length (F R))
theorem pd_lamN {us : List Str} {js : List Nat} {np : Nat} {X : Cx} {C : Kx} {x a n : Str} {g c P : Addr} {gd : FuncData} {ps : List Str} {F : (D → RS) → FS} {k kb ip : Nat} {params : Arguments} {body e2 : Expr} {es : List Expr} {scope : Scope} {fe : SE} {fl : SL} {p lpos pos : Pos}
    (gets : GetsLam X.prog X.w X.K X.mg C.G (kb + 1) k g gd a ps F) (hnp : ps.length = np) (gl : Gl X x) (gm : X.mg x = some (.ref g)) (kp : PySem.W.keepIn X.K (.ref g) = true) (gb : Binds X.K gd (a :: ps) [])
    (TB : TabB X.base X.mg c P) (code : X.env.code = .ref c) (mine : (P, X.env.qual ++ "<lambda>") ∈ (TabC.T : List (Addr × Str))) (alone : ∀ p ∈ (TabC.T : List (Addr × Str)), p.1 = P → p.2 = X.env.qual ++ "<lambda>") (room : Room k X.A)
    (hj : ∀ y ∈ us, ∃ j ∈ js, X.N[j]? = some y) (L : LamP scope n us) (cap : capB X.env.scope scope = true) (fns : ∀ y, X.fn y = true) (plain : defaultsOf params X.env = ([], [])) (binds : ∀ (q : Str) (cl : List (Str × Addr)) (pm cv ctv u : Value), bindArgs (PySem.W.kla_fn "<lambda>" q params body scope cl pm cv ctv) ⟨[u], []⟩ = pure [(n, u)])
    (hN : X.N[ip]? = some n) (nd : X.N.Nodup)
    (walk : ∀ (B : Heap) (f c2 : Addr) (cl : List (Str × Addr)) (A : Around) (outer : List Env) (s : Shared) (H : Hp) (E : XK), Room kb (A.deeper (lEnv (X.env.qual ++ "<lambda>") scope s.heap.objs.size f c2 cl)) → PE (lCx X.prog X.w X.K X.mg B X.N (X.env.qual ++ "<lambda>") scope f c2 cl A outer s H E) body (tE ⟨C.G, none, fun cls d _ H2 => E cls d H2⟩ fe))
    (ha : PA X (e2 :: es) (tL C fl)) (d1 : (x == ("__debug__" : Str)) = false := by decide)
    (he : starEach (.Lambda params body scope lpos :: e2 :: es) X.env = (false, eval (.Lambda params body scope lpos) X.env) :: starEach (e2 :: es) X.env := by rfl) (hpl : (backTo pos (starEach (e2 :: es) X.env)).any (·.1) = false := by rfl) :
    PE X (.Call (.Name x p) (.Lambda params body scope lpos :: e2 :: es) [] pos) (tE C (sLamN np ip js F fe fl)) := by
  subst hnp
  refine ⟨fun pins s σ H Q I ⟨Z, env, gd0, w⟩ => ?_⟩
  refine wpAny_Call_Name_kw (ld_glob I gl gm ?_ d1)
  refine PySem.W.callWith_K (h₀ := X.base) I.ok.mod.kin kp ?_ he hpl
  rw [he]
  show wpAny _ _ (spliced ((false, eval (.Lambda params body scope lpos) X.env) :: backTo pos (starEach (e2 :: es) X.env))) _ _ s
  have hfree : ∀ y ∈ scope.names, y.2 = .free → ∃ a, X.env.cells.lookup y.1 = some a := fun y hy e => by
    rcases capB_of cap hy e with k | k
    · exact I.ok.has _ (.inl k)
    · exact I.ok.has _ (.inr k)
  refine Calls.spliced_cons (lam_new I TB code mine alone gd0.sub.tb plain hfree fun f c2 pm ctv H1 s1 I1 eN T1 hf hfn hfr hco => ?_)
  -- the heap with the new code object
  have sub1 : Sub Z H1 := ⟨fun b o e => eN.k b o (gd0.sub.s _ _ e) fun ps z => by subst z; exact gd0.sub.nt _ _ e, gd0.sub.ml, gd0.sub.nt, T1⟩
  have g1 : Gd C.G C.io Z H1 env σ := by
    refine ⟨sub1, gd0.len, gd0.sh, fun i m o e => ?_, gd0.dis, gd0.fx⟩
    obtain ⟨b, ho, h1, h2, h3, h4, h5⟩ := gd0.own i m o e
    exact ⟨b, ho, h1, h2, eN.k b ho h3 h4.ob.nt, h4, h5⟩
  have nl : f ≠ X.env.locals := fun z => by
    obtain ⟨m, ⟨o2, es2, ep2, ho2, hd2, _⟩, _⟩ := I1.loc
    rw [← z, hf] at ho2
    cases ho2
    cases hd2
  have nfs : f ∉ X.fs := fun z => by
    apply hfr
    rcases I1.ok.stk with e | ⟨e, hfm⟩
    · rw [e]; exact z
    · rw [e]
      unfold frs
      rw [List.filterMap_cons, hfm]
      exact List.mem_cons_of_mem _ z
  let pf : Addr × Obj := (f, PySem.W.kla_obj "<lambda>" (X.env.qual ++ "<lambda>") params body scope (cloFrom X.env.cells scope.names []) pm c2 ctv)
  have I1p : Inv X (pf :: pins) σ H1 s1 := I1.pins_of fun p hp => by
    rcases (List.mem_cons.mp hp) with e | hp
    · rw [e]
      exact ⟨hf, hfn, nl, nfs, fun v z => by cases z⟩
    · exact I1.pin p (List.mem_append_right _ hp)
  have step1 : Step Z H Z H1 := ⟨eN, Same.refl _, fun b o e => .inl e, sub1⟩
  have w1 := Wish.bind (S := Reps C.G) (w.shift (.step step1))
  refine thn (ha.run pos (pf :: pins) s1 σ H1 _ I1p ⟨Z, env, g1, w1⟩) fun us s2 ⟨vs, H2, I2, rv, Z2, ds, e2, t2, g2, r2, w2⟩ => ⟨I2.kIn, ?_⟩
  -- the base with the lambda and its cells
  have cm : ∀ {y : Str} {b : Addr}, (cloFrom X.env.cells scope.names []).lookup y = some b → X.env.cells.lookup y = some b := fun {y b} e => by
    rcases cloFrom_mem (PySem.mem_of_lookup e) with m | ⟨h1, h2⟩
    · cases m
    · obtain ⟨b1, hb⟩ := hfree _ h1 rfl
      have hb : X.env.cells.lookup y = some b1 := hb
      rw [hb] at h2
      rw [hb, h2]; rfl
  have pfin := I2.pin pf (List.mem_append_right _ List.mem_cons_self)
  let S : List Addr := f :: (cloFrom X.env.cells scope.names []).map (·.2)
  have inS : ∀ {y : Str} {b : Addr}, (cloFrom X.env.cells scope.names []).lookup y = some b → b ∈ S := fun {y b} e => List.mem_cons_of_mem _ (List.mem_map.mpr ⟨(y, b), PySem.mem_of_lookup e, rfl⟩)
  have cellS : ∀ b ∈ (cloFrom X.env.cells scope.names []).map (·.2), ∃ y, X.env.cells.lookup y = some b := fun b hb => by
    obtain ⟨⟨y, b2⟩, m, rfl⟩ := List.mem_map.mp hb
    rcases cloFrom_mem m with m | ⟨h1, h2⟩
    · cases m
    · obtain ⟨b1, hb⟩ := hfree _ h1 rfl
      have hb : X.env.cells.lookup y = some b1 := hb
      rw [hb] at h2
      exact ⟨y, by rw [hb, h2]; rfl⟩
  obtain ⟨B, sz, up, inn, dn⟩ := big_base X.base s2.heap S I2.bk
  have nofr : ∀ b ∈ S, b ∉ frs X.stack := fun b hb m => by
    rcases (List.mem_cons.mp hb) with e | hb
    · rw [e] at m; exact hfr m
    · obtain ⟨y, hy⟩ := cellS b hb
      rcases List.mem_cons.mp (I2.stkSub _ m) with e | m2
      · exact I2.cne y b hy e
      · obtain ⟨_, o, ho, _⟩ := I2.ok.funs.mem m2
        exact absurd (Heap.lt_size ho) (Nat.not_lt.mpr (I2.ok.cab y b (fns y) hy))
  have e0 : Env0 X.prog X.w X.K X.mg B X.A X.stack s2 H2 := Ax.Env0.big I2.env0 S sz up dn (fun b hb => by
    rcases (List.mem_cons.mp hb) with e | hb
    · rw [e]; exact pfin.2.1
    · obtain ⟨y, hy⟩ := cellS b hb
      exact I2.freeC y b hy) nofr
  have caps : Caps B X.N scope (cloFrom X.env.cells scope.names []) σ := by
    refine ⟨fun y hy => ?_, fun x y b e1 e2 => I2.ok.inj x y b (cm e1) (cm e2), fun y b e => ?_, fun i y v e1 e2 hy => ?_, fun y b hm => ?_⟩
    · exact mem_lookup (cloFrom_has (cells := X.env.cells) (acc := []) (PySem.mem_of_lookup hy))
    · obtain ⟨v, o, ho, hv⟩ := I2.cell y b (cm e)
      exact ⟨v, o, inn b o (inS e) ho, hv⟩
    · obtain ⟨b, hb⟩ := mem_lookup (cloFrom_has (cells := X.env.cells) (acc := []) (PySem.mem_of_lookup hy))
      obtain ⟨m, hn, hl⟩ := I2.loc
      have kind := capB_of cap (PySem.mem_of_lookup hy) rfl
      obtain ⟨u, ru, lk⟩ := hl i y v e1 e2 (kind.elim (fun k => .inr (.inl k)) fun k => .inr (.inr k))
      refine ⟨b, u, hb, ru, ?_⟩
      rcases lk with ⟨k, _⟩ | ⟨_, b2, h2, o, ho, hv⟩
      · have k : (X.env.scope.names.lookup y) = some .local := k
        rcases kind with k2 | k2 <;> rw [show X.env.scope.names.lookup y = _ from k2] at k <;> cases k
      · rw [cm hb] at h2
        cases h2
        exact ⟨o, inn b o (inS hb) ho, hv⟩
    · rcases cloFrom_mem hm with z | ⟨h1, h2⟩
      · cases z
      · obtain ⟨b1, hb⟩ := hfree _ h1 rfl
        have hb : X.env.cells.lookup y = some b1 := hb
        rw [hb] at h2
        obtain ⟨b3, hb3⟩ := mem_lookup hm
        have z := cm hb3
        rw [hb] at z
        refine ⟨?_, h1⟩
        rw [hb3, ← z, h2]
        rfl
  have hfB : B.get? f = some (PySem.W.kla_obj "<lambda>" (X.env.qual ++ "<lambda>") params body scope (cloFrom X.env.cells scope.names []) pm c2 ctv) := inn f _ List.mem_cons_self pfin.1
  have codeH : H2 c2 = some (CodeO c2 (X.env.qual ++ "<lambda>")) := by
    have nOwn : ¬ Own env σ c2 := fun ⟨i, m, o, he, hs⟩ => by
      obtain ⟨b, ho, h1, h2, h3, h4, h5⟩ := g1.own i m o he
      rw [hs] at h1
      cases h1
      rw [hco] at h3
      cases h3
      cases h4
    exact t2.keep c2 _ hco nOwn fun ps => LamX.codeO_ne ps
  have lamOk := lam_sp (js := js) (fe := fe) (k := kb) hj L caps hfB hN nd g2 I2.len (fun cl2 A outer s H E hr => walk B f c2 cl2 A outer s H E hr)
  have gOk := gets B f c2 _ n _ _ _ _ Z2 _ hfB lamOk (fun s us _ hl => by
    rw [List.append_nil] at hl ⊢
    match us, hl with
    | [u], _ => exact .of_eq (binds _ _ _ _ _ u))
  split at w2
  rotate_left
  · exact w2.elim
  rename_i hl
  revert w2
  generalize hR : F (fun d => outR (fe ((wipeJE js (roE e2)).set ip (.sh d)))) ds = rr at *
  intro w2
  cases rr with
  | ok d io =>
    have bind : BindsTo s2 gd ⟨.ref f :: us, []⟩ ((a :: ps).zip (.ref f :: us)) := by
      have := gb s2 (.ref f :: us) I2.kIn (by rw [List.append_nil, List.length_cons, List.length_cons, ← rv.length, r2.length, hl])
      rw [List.append_nil] at this
      exact this
    have rc := gOk.run X.A X.stack s2 H2 ⟨.ref f :: us, []⟩ (.ref f :: us) (.ref f :: vs) Q E0 room e0 bind (.cons rfl rv) ⟨vs, ds, rfl, g2.sub, codeH, r2, hl, by
      rw [hR]
      exact fun v H3 Z3 st r3 => w2.ret g2 st r3⟩
    refine wpAny_call (codeAny_mono rc fun r s3 hq => ?_)
    cases r with
    | error e => exact (passL (X := X) pins σ H2 s2 e s3 (I2.pins_of fun p hp => I2.pin p (List.mem_append_right _ (List.mem_cons_of_mem _ hp))) hq)
    | ok fl2 =>
      cases fl2 with
      | ret u =>
        obtain ⟨v, H3, I3, ru, q⟩ := I2.after hq
        exact ⟨v, H3, I3.pins_of fun p hp => I3.pin p (List.mem_append_right _ (List.mem_cons_of_mem _ hp)), ru, q⟩
      | next => exact False.elim hq
      | brk => exact False.elim hq
      | cont => exact False.elim hq
  | ex _ _ _ => exact w2.elim
  | bad => exact w2.elim
end
end Ax
set_option Elab.async false
set_option linter.all false
set_option maxRecDepth 100000
set_option maxHeartbeats 400000
/-! AxD: a dict of the def's own whose keys are tuples: {}, k in d, d[k], d[k] = v, list(d.values()). -/
namespace L2
open PySem PySem.Spec PyProof.Rows
section
variable {X : Cx}
/-- d.values() of a dict with tuples as keys -/
def rVals : V → List V → Hp → VK → Prop := fun x xs H Q => ∃ (a : Addr) (kvs : List (List Key × V)), x = .ref a ∧ xs = [] ∧ H a = some (.dT kvs) ∧ ∀ p, H p = none → Q (.ref p) (upd H p (viewO "dict_values" p a))
theorem mt_vals : MtR X "dict.values" rVals := fun pins s σ H x xs v us Q I rx rxs ⟨a, kvs, ex, exs, there, q⟩ => by
  subst ex exs
  cases rxs
  have ev : v = Value.ref a := rx
  subst ev
  obtain ⟨_, notSys, ks, _, ob, es, ep, stands, exact_, isDict, _, _⟩ := dt_of I.hok there
  refine call_meetsIn PySem.F.slot_dict_values ⟨ob, stands, exact_.1⟩ PySem.F.entry_dict_values (PySem.F.args_dict_values_1 _) (meets_dict_values_raw a notSys) ⟨⟨es, ep, ob, stands, exact_, isDict⟩, ?_⟩
  have fresh := I.hok.fresh (Nat.le_refl s.heap.objs.size)
  exact ⟨.ref s.heap.objs.size, _, I.laid (t' := s.toks) (o := viewO "dict_values" s.heap.objs.size a) (fun b u e => Heap.get?_push_of_some _ e) (Nat.le_refl _) (viewO_ok (Heap.get?_push_size _ rfl)), rfl, q _ fresh⟩
theorem kt_vals {H : Hp} : ∀ {kvs : List (List Key × V)} {ks : List (List Key × Addr × Value)}, KT H kvs ks → Vals (kvs.map Prod.snd) (ks.map fun x => x.2.2)
  | _, _, .nil => .nil
  | _, _, .cons h r => .cons h.2.2 (kt_vals r)
/-- list(d.values()) -/
theorem call_listVals (calm : X.calm = true) : CallR X (.type "list") (fun xs H Q => ∃ r d kvs, xs = [V.ref r] ∧ H r = some (viewO "dict_values" r d) ∧ H d = some (.dT kvs) ∧ ∀ p, H p = none → Q (.ref p) (upd H p (.lst (kvs.map Prod.snd)))) := fun pins s σ H xs us Q I rel ⟨r, d, kvs, exs, view, dict, q⟩ => by
  subst exs
  obtain ⟨u, eu, ru⟩ := rel.one
  subst eu
  have eu : u = Value.ref r := ru
  subst eu
  obtain ⟨size, _, ks, pairs, ob, es, ep, stands, exact_, isDict, entries, _⟩ := dt_of I.hok dict
  have viewAt : s.heap.get? r = some (DSub.viewOb "dict_values" d) := (I.hok r _ view).1
  have n1 : es.size = ks.length := size_of_entries entries
  have n2 : kvs.length = ks.length := Paired.length pairs
  refine PySem.W.kdl_call (KdlSrc.rawValues (r := r) (d := d) (es := es) (ep := ep)) (I.ok.hd calm) ⟨⟨_, viewAt, rfl, rfl⟩, ob, stands, exact_, isDict⟩ (by rw [n1, ← n2]; exact size) fun h2 tk acc c2 kept made items => ?_
  have same : acc.toList = ks.map fun x => x.2.2 := by
    refine List.ext_getElem? (fun j => ?_)
    rw [Array.getElem?_toList, List.getElem?_map]
    cases hj : acc[j]? with
    | none =>
      have : ks.length ≤ j := by rw [← n1, ← items.1]; exact Array.getElem?_eq_none_iff.mp hj
      rw [List.getElem?_eq_none this]; rfl
    | some v =>
      obtain ⟨lt, ev⟩ := items.2 j v hj
      have e := entry_at entries j
      rw [Array.getElem?_eq_getElem lt] at e
      obtain ⟨k, hk, ek⟩ := Option.map_eq_some_iff.mp e.symm
      rw [hk, ev, ← ek]; rfl
  have vals : Vals (kvs.map Prod.snd) acc.toList := by
    rw [same]
    exact kt_vals pairs
  exact ⟨.ref s.heap.objs.size, _, I.laid (t' := tk) (o := .lst (kvs.map Prod.snd)) kept (Nat.le_refl _) ⟨by rw [List.length_map]; exact size, acc.toList, c2, vals, by rw [Array.toArray_toList]; exact made⟩, rfl, q _ (I.hok.fresh (Nat.le_refl _))⟩
end
end L2
namespace Ax
open PySem PySem.Spec L2
/-! ### on trees -/
section
variable {κ α : Type} [DecidableEq κ]
def getG (ks : List κ) (xs : List α) (k : κ) : Option α := ((ks.zip xs).find? fun p => decide (p.1 = k)).map (·.2)
def hasG (ks : List κ) (k : κ) : Bool := decide (k ∈ ks)
def putG2 (ks : List κ) (xs : List α) (k : κ) (x : α) : List κ × List α := if k ∈ ks then (ks, (ks.zip xs).map fun p => if p.1 = k then x else p.2) else (ks ++ [k], xs ++ [x])
theorem putG2_len {ks : List κ} {xs : List α} {k : κ} {x : α} (l : xs.length = ks.length) : (putG2 ks xs k x).2.length = (putG2 ks xs k x).1.length := by
  unfold putG2
  split
  · simp [l]
  · simp [l]
theorem zip_map_put (k : κ) (x : α) : ∀ (ks : List κ) (xs : List α), ks.zip ((ks.zip xs).map fun p => if p.1 = k then x else p.2) = (ks.zip xs).map fun p => if p.1 = k then (p.1, x) else p
  | [], _ => rfl
  | _ :: _, [] => rfl
  | a :: ks, y :: xs => by
    rw [List.zip_cons_cons, List.map_cons, List.map_cons, List.zip_cons_cons, zip_map_put k x ks xs]
    congr 1
    by_cases h : a = k <;> simp [h]
end
theorem any_zip {κ : Type} [DecidableEq κ] (k : κ) : ∀ (ks : List κ) (vs : List V), vs.length = ks.length → ((ks.zip vs).any fun kv => decide (kv.1 = k)) = decide (k ∈ ks)
  | [], _, _ => by simp
  | _ :: _, [], l => by simp at l
  | a :: ks, v :: vs, l => by
    rw [List.zip_cons_cons, List.any_cons, any_zip k ks vs (by simpa using l)]
    by_cases h : a = k
    · simp [h]
    · have h' : ¬ k = a := fun e => h e.symm
      simp [h, h', List.mem_cons]
theorem putK_zip {ks : List (List Key)} {vs : List V} {k : List Key} {v : V} (l : vs.length = ks.length) : putK (ks.zip vs) k v = (putG2 ks vs k v).1.zip (putG2 ks vs k v).2 := by
  unfold putK putG2
  rw [any_zip k ks vs l]
  by_cases h : k ∈ ks
  · simp only [h, decide_true, if_true]
    exact (zip_map_put k v ks vs).symm
  · simp only [h, decide_false, Bool.false_eq_true, if_false]
    rw [List.zip_append l.symm]; rfl
variable [T0 : TabC]
section
variable {G : GW} {Z : Hp}
theorem getG_rep {k : List Key} {d : D} : ∀ {ks : List (List Key)} {vs : List V} {ds : List D}, vs.length = ks.length → Reps G Z vs ds → getG ks ds k = some d → ∃ v, valV (ks.zip vs) k = some v ∧ Rep G Z v d
  | [], _, _, _, _, h => by simp [getG] at h
  | a :: ks, [], _, l, _, _ => by simp at l
  | a :: ks, v :: vs, d0 :: ds, l, .cons r rs, h => by
    unfold getG at h
    rw [List.zip_cons_cons, List.find?_cons] at h
    unfold valV
    rw [List.zip_cons_cons, List.find?_cons]
    by_cases e : a = k
    · simp only [e, decide_true] at h ⊢
      cases h
      exact ⟨v, rfl, r⟩
    · simp only [e, decide_false] at h ⊢
      exact getG_rep (by simpa using l) rs h
theorem getG_none {k : List Key} {ks : List (List Key)} {vs : List V} (l : vs.length = ks.length) : (valV (ks.zip vs) k).isSome = hasG ks k := by
  rw [← valV_any, any_zip k ks vs l]; rfl
theorem putG2_fst {κ α β : Type} [DecidableEq κ] {ks : List κ} {xs : List α} {ys : List β} {k : κ} {x : α} {y : β} : (putG2 ks xs k x).1 = (putG2 ks ys k y).1 := by
  unfold putG2
  split <;> rfl
theorem map_put_rep {k : List Key} {v : V} {d : D} (r : Rep G Z v d) : ∀ {ks : List (List Key)} {vs : List V} {ds : List D}, Reps G Z vs ds → Reps G Z ((ks.zip vs).map fun p => if p.1 = k then v else p.2) ((ks.zip ds).map fun p => if p.1 = k then d else p.2)
  | [], _, _, _ => .nil
  | _ :: _, _, _, .nil => .nil
  | a :: ks, _, _, .cons h rs => by
    rw [List.zip_cons_cons, List.zip_cons_cons, List.map_cons, List.map_cons]
    refine .cons ?_ (map_put_rep r rs)
    by_cases e : a = k
    · simp only [e, if_true]; exact r
    · simp only [e, if_false]; exact h
theorem put_rep {k : List Key} {ks : List (List Key)} {vs : List V} {ds : List D} {v : V} {d : D} (r : Rep G Z v d) (rs : Reps G Z vs ds) : Reps G Z (putG2 ks vs k v).2 (putG2 ks ds k d).2 := by
  unfold putG2
  split
  · exact map_put_rep r rs
  · exact rs.append (.one r)
end
/-- a flat thing as a key's part -/
def keyP : D → Option Key
  | .int i => some (.inl i)
  | .str s => some (.inr s)
  | _ => none
def keyPs : List D → Option (List Key)
  | [] => some []
  | d :: ds => match keyP d, keyPs ds with
    | some k, some r => some (k :: r)
    | _, _ => none
def keyT : D → Option (List Key)
  | .tup xs => keyPs xs
  | _ => none
theorem keyP_rep {G : GW} {Z : Hp} {v : V} {d : D} {k : Key} (r : Rep G Z v d) (h : keyP d = some k) : v = kV k := by
  cases r <;> simp [keyP] at h <;> subst h <;> rfl
theorem keyPs_rep {G : GW} {Z : Hp} : ∀ {vs : List V} {ds : List D} {ks : List Key}, Reps G Z vs ds → keyPs ds = some ks → vs = ks.map kV
  | _, _, _, .nil, h => by simp [keyPs] at h; subst h; rfl
  | _, _, _, .cons r rs, h => by
    rw [keyPs] at h
    split at h
    · rename_i k q e1 e2
      cases h
      rw [keyP_rep r e1, keyPs_rep rs e2]; rfl
    · cases h
theorem keyT_rep {G : GW} {Z : Hp} {v : V} {d : D} {ks : List Key} (r : Rep G Z v d) (h : keyT d = some ks) : ∃ b, v = .ref b ∧ Z b = some (.tup (ks.map kV)) := by
  cases r <;> simp [keyT] at h
  exact ⟨_, rfl, by rw [← keyPs_rep ‹_› h]; assumption⟩
def dtAt (env : En) (i : Nat) : Option (Bool × List (List Key) × List D) := match env[i]? with
  | some (.own m (.dt ks ds)) => some (m, ks, ds)
  | _ => none
theorem dtAt_get {env : En} {i : Nat} {m : Bool} {ks : List (List Key)} {ds : List D} (h : dtAt env i = some (m, ks, ds)) : env[i]? = some (.own m (.dt ks ds)) := by
  unfold dtAt at h
  split at h
  · cases h; assumption
  · cases h
theorem Gd.dt {G : GW} {io : Option Addr} {Z H : Hp} {env : En} {σ : St} (g : Gd G io Z H env σ) {i : Nat} {m : Bool} {ks : List (List Key)} {ds : List D} (h : env[i]? = some (.own m (.dt ks ds))) : ∃ a vs, σ[i]? = some (some (.ref a)) ∧ Z a = none ∧ H a = some (.dT (ks.zip vs)) ∧ vs.length = ks.length ∧ Reps G Z vs ds := by
  obtain ⟨a, ho, h1, h2, h3, h4, _⟩ := g.own i m _ h
  cases h4 with
  | dt l r => exact ⟨a, _, h1, h2, h3, l, r⟩
def sDNew : SO := fun env => .ok (.dt [] []) env
def sDIn (i : Nat) (fk : SE) : SE := fun env => (fk env).bind fun k e => match keyT k, dtAt e i with
  | some ks, some (_, kk, _) => .ok (.bl (hasG kk ks)) e
  | _, _ => .bad
def sDGet (i : Nat) (fk : SE) : SE := fun env => match dtAt env i with
  | some _ => (fk env).bind fun k e => match keyT k, dtAt e i with
    | some ks, some (_, kk, ds) => .of (getG kk ds ks) e
    | _, _ => .bad
  | none => .bad
def sDPut (i : Nat) (fk fv : SE) : SS := fun env => bindS (fv env) fun v e1 => match dtAt e1 i with
  | some _ => bindS (fk e1) fun k e => match keyT k, dtAt e i with
    | some ks, some (m, kk, ds) => if kk.length < sizeLine then .nx (e.set i (.own m (.dt (putG2 kk ds ks v).1 (putG2 kk ds ks v).2))) else .bad
    | _, _ => .bad
  | none => .bad
def sDVals (i : Nat) : SO := fun env => match dtAt env i with
  | some (_, _, ds) => .ok (.lst ds) env
  | none => .bad
section
variable {X : Cx} {C : Kx} {i : Nat} {o k value : Expr} {x : Str} {p pos pos' apos mpos : Pos} {fk fv : SE}
theorem po_dnew : PE X (.Dict [] [] pos) (tO C sDNew) := PE.imp pe_dnewT fun σ H Q ⟨Z, env, g, q⟩ a n => WishO.ret q g n (.dt (ks := []) (vs := []) rfl .nil)
theorem din_imp {σ : St} {H : Hp} {Q : VK} (h : tE C (sDIn i fk) σ H Q) : tDIn (tE C fk) (tVar i) σ H Q := by
  obtain ⟨Z, env, g, q⟩ := h
  refine ⟨Z, env, g, (Wish.bind (S := Rep C.G) q).mono fun v H1 ⟨Z1, d, e1, t1, g1, r1, w1⟩ => ?_⟩
  split at w1
  rotate_left
  · exact w1.elim
  rename_i ks m kk ds hk hd
  obtain ⟨b, rfl, zb⟩ := keyT_rep r1 hk
  obtain ⟨a, vs, h1, h2, h3, l, rs⟩ := g1.dt (dtAt_get hd)
  refine ⟨.ref a, h1, a, _, rfl, DGet.t h3 (g1.sub.s _ _ zb), ?_⟩
  rw [getG_none l]
  exact w1.ret0 g1 (.bl _)
theorem pd_din (hu : X.A.units + 1 < cLine) (hk : PE X k (tE C fk)) (hd : PE X (.Name x p) (tVar i)) : PE X (.Compare k [.In] [.Name x p] pos) (tE C (sDIn i fk)) := PE.imp (pe_cmp (pc_din hu hk hd) rfl) fun _ _ _ h => din_imp h
theorem pt_din (hu : X.A.units + 1 < cLine) (hk : PE X k (tE C fk)) (hd : PE X (.Name x p) (tVar i)) : PT X (.Compare k [.In] [.Name x p] pos) (tBo C (sTb (sDIn i fk))) := PT.imp (L2.pt_cmp (pc_din hu hk hd) rfl) fun σ H Q h => by
  obtain ⟨Z, env, g, q⟩ := h
  refine din_imp ⟨Z, env, g, (Wish.bind (S := Rep C.G) q).mono fun v H1 ⟨Z1, x, e1, t1, g1, r1, w1⟩ => ?_⟩
  cases r1 <;> first
    | exact w1.elim
    | exact ⟨_, rfl, w1.ret0 g1 rfl⟩
theorem pd_dget (hu : X.A.units + 1 < cLine) (hd : PE X (.Name x p) (tVar i)) (hk : PE X k (tE C fk)) (hs : NoSl k) : PE X (.Subscript (.Name x p) k pos) (tE C (sDGet i fk)) := PE.imp (pe_dget hu hd hk hs) fun σ H Q ⟨Z, env, g, q⟩ => by
  unfold sDGet at q
  split at q
  rotate_left
  · exact q.elim
  rename_i y hd0
  obtain ⟨m0, kk0, ds0⟩ := y
  obtain ⟨a, vs0, h1, _⟩ := g.dt (dtAt_get hd0)
  refine ⟨.ref a, h1, Z, env, g, (Wish.bind (S := Rep C.G) q).mono fun v H1 ⟨Z1, d, e1, t1, g1, r1, w1⟩ => ?_⟩
  split at w1
  rotate_left
  · exact w1.elim
  rename_i ks m kk ds hkk hd1
  obtain ⟨b, rfl, zb⟩ := keyT_rep r1 hkk
  obtain ⟨a2, vs, k1, k2, k3, l, rs⟩ := g1.dt (dtAt_get hd1)
  rw [h1] at k1
  cases k1
  unfold O.of at w1
  split at w1
  · rename_i d' hg
    obtain ⟨v', e, r⟩ := getG_rep l rs hg
    refine ⟨a, v', rfl, ?_, w1.ret0 g1 r⟩
    rw [← e]
    exact DGet.t k3 (g1.sub.s _ _ zb)
  · exact w1.elim
theorem q_dput (hu : X.A.units + 1 < cLine) (hd : PE X (.Name x p) (tVar i)) (hk : PE X k (tE C fk)) (hv : PE X value (tE C fv)) (hs : swapsWith value (some (.Subscript (.Name x p) k pos')) pos.line X.env = pure false := by rfl) :
    PS X (.Assign [.Subscript (.Name x p) k pos'] value pos) (tS C (sDPut i fk fv)) := PS.imp (ps_dput hu hd hk hv hs) fun Dn σ H ⟨Z, env, g, q⟩ => by
  refine ⟨Z, env, g, (WishS.bind (R := Rep C.G) q).mono fun v H1 ⟨Z1, d, e1, t1, g1, r1, w1⟩ => ?_⟩
  split at w1
  rotate_left
  · exact w1.elim
  rename_i y hd0
  obtain ⟨m0, kk0, ds0⟩ := y
  obtain ⟨a, vs0, h1, _⟩ := g1.dt (dtAt_get hd0)
  refine ⟨.ref a, h1, Z1, e1, g1, (WishS.bind (R := Rep C.G) w1).mono fun kv H2 ⟨Z2, kd, e2, t2, g2, r2, w2⟩ => ?_⟩
  split at w2
  rotate_left
  · exact w2.elim
  rename_i ks m kk ds hkk hd1
  obtain ⟨b, rfl, zb⟩ := keyT_rep r2 hkk
  have he := dtAt_get hd1
  obtain ⟨a2, vs, k1, k2, k3, l, rs⟩ := g2.dt he
  rw [h1] at k1
  cases k1
  split at w2
  rotate_left
  · exact w2.elim
  rename_i hz
  refine ⟨a, _, rfl, DPut.t k3 (g2.sub.s _ _ zb) (by rw [List.length_zip, l, Nat.min_self]; exact hz), ?_⟩
  rw [putK_zip l, putG2_fst (ys := ds) (y := d)]
  have ro : RepO C.G Z2 (.dT ((putG2 kk ds ks d).1.zip (putG2 kk vs ks v).2)) (.dt (putG2 kk ds ks d).1 (putG2 kk ds ks d).2) :=
    .dt (by rw [putG2_len l, putG2_fst (ys := ds) (y := d)]) (put_rep (r1.mono t2.fz) rs)
  exact w2 σ _ Z2 (.write he h1) (g2.write he h1 ro)
theorem po_dvals (hg : Gl X "list") (hm : X.mg "list" = none) (hd : PE X (.Name x p) (tVar i)) (calm : X.calm = true := by rfl) (hbase : attributeBase (.Name x p) "values" X.env (eval (.Name x p) X.env) = eval (.Name x p) X.env := by rfl) (hline : (apos.endLine == mpos.line) = true := by rfl)
    (he : starEach [.Call (.Attribute (.Name x p) "values" apos) [] [] mpos] X.env = (false, eval (.Call (.Attribute (.Name x p) "values" apos) [] [] mpos) X.env) :: starEach [] X.env := by rfl) (hpl : (backTo pos (starEach [] X.env)).any (·.1) = false := by rfl) :
    PE X (.Call (.Name "list" pos') [.Call (.Attribute (.Name x p) "values" apos) [] [] mpos] [] pos) (tO C (sDVals i)) :=
  PE.imp (pe_callTy (call_listVals calm) hg hm (by decide +kernel) (pa_cons (pe_bm0 PySem.F.plainAttrs_dict PySem.F.slot_dict_values PySem.F.type_dict_values mt_vals hd hbase hline) pa_nil he) (by decide) (by decide) he hpl) fun σ H Q ⟨Z, env, g, q⟩ => by
    unfold sDVals at q
    split at q
    rotate_left
    · exact q.elim
    rename_i m ks ds hd
    obtain ⟨a, vs, h1, h2, h3, l, rs⟩ := g.dt (dtAt_get hd)
    refine ⟨.ref a, h1, .inr (.inr (.inl ⟨rfl, .inr ⟨_, h3⟩⟩)), a, _, rfl, rfl, h3, fun p np => ?_⟩
    have pa : a ≠ p := fun e => by rw [e, np] at h3; cases h3
    refine ⟨p, a, _, rfl, upd_same, by rw [upd_ne pa]; exact h3, fun b nb => ?_⟩
    have bp : b ≠ p := fun e => by rw [e, upd_same] at nb; cases nb
    have nb' : H b = none := by rw [upd_ne bp] at nb; exact nb
    have ez : (ks.zip vs).map Prod.snd = vs := by rw [List.map_snd_zip]; omega
    rw [ez]
    have g2 := g.poke (p := p) (ho := viewO "dict_values" p a) (g.sub.free np) (g.notOwnN np) (fun _ h => by rw [np] at h; cases h)
    exact q _ _ _ Z ((Tr.fresh np).trans (.fresh nb)) (g2.poke (g2.sub.free nb) (g2.notOwnN nb) (fun _ h => by rw [nb] at h; cases h)) nb' (g.notOwnN nb') (g.sub.free nb') upd_same (.lst rs)
end
end Ax
set_option Elab.async false
set_option linter.all false
set_option maxRecDepth 100000
set_option maxHeartbeats 400000
/-! AxK: xs.extend(ys); xs[::-1]; two ways to tell an expression; == and != of lists of instances. -/
namespace L2
open PySem PySem.Spec PyProof.Rows
section
variable {X : Cx} {e st : Expr} {pos p2 : Pos} {te : TE}
/-- xs[::-1], a list: a new one -/
def tRev (K : PySem.W.Frag) (t : TE) : TE := fun σ H Q => t σ H fun x H1 => ∃ a xs, x = .ref a ∧ SqL K H1 a xs ∧ ∀ p, H1 p = none → Q (.ref p) (upd H1 p (.lst xs.reverse))
theorem vals_rev : ∀ {xs : List V} {us : List Value}, Vals xs us → Vals xs.reverse us.reverse
  | _, _, .nil => .nil
  | _, _, .cons h r => by
    rw [List.reverse_cons (as := _), List.reverse_cons]
    exact (vals_rev r).append (.cons h .nil)
theorem pe_rev (he : PE X e te) (hst : PE X st (tC (.int (-1)))) : PE X (.Subscript e (.Slice none none (some st) p2) pos) (tRev X.K te) := ⟨fun pins s σ H Q I h => by
  refine Subscript_ (thn (he.run pins s σ H _ I h) fun v s1 ⟨x, H1, I1, rx, a, xs, ex, there, q⟩ => ?_)
  subst ex
  have ev : v = Value.ref a := rx
  subst ev
  refine wpAny_Slice ?_
  rw [evalPart_none]
  refine wpAny_pure ?_
  refine wpAny_pure ?_
  rw [evalPart_some]
  refine thn (hst.run pins s1 σ H1 (fun y H2 => y = .int (-1) ∧ H2 = H1) I1 ⟨rfl, rfl⟩) fun k s2 ⟨y, H2, I2, ry, ey, eH⟩ => ?_
  subst ey eH
  obtain ⟨tk, ek⟩ := (ry : ∃ t, k = Value.int (-1) t)
  subst ek
  have I3 : Inv X pins σ H2 { s2 with heap := s2.heap.push { cls := .type "slice", data := .fields #[.none, .none, .int (-1) tk] } } := I2.kept (t' := s2.toks) fun b ob q => Heap.get?_push_of_some _ q
  obtain ⟨its, vals, isl, size⟩ := I3.list there
  refine tail_any (ops := [.ref a, .ref s2.heap.objs.size]) isl.isList.typeIs PySem.F.slot_list_getitem.lookup (wpAny_getItem_list_slice isl.isList (Heap.IsSliceOf.new ..) .none .none (.int (-1) tk) (by simp) ?_ (by rw [List.size_toArray, ← vals.length]; exact size)) (by with_unfolding_all rfl)
  rw [PySem.W.krv_pick]
  refine ⟨.ref _, _, I3.laid (t' := s2.toks) (o := .lst xs.reverse) (fun b ob q => Heap.get?_push_of_some _ q) (Nat.le_refl _) ?_, rfl, q _ (I3.hok.fresh (Nat.le_refl _))⟩
  exact ⟨by rw [List.length_reverse]; exact size, its.reverse, 0, vals_rev vals, Heap.get?_push_size _ rfl⟩⟩
end
end L2
namespace Ax
open PySem PySem.Spec L2
variable [T0 : TabC]
section
variable {X : Cx} {C : Kx} {e st : Expr} {pos p2 : Pos} {fe ff : SE} {i : Nat} {sm : Stmt}
def revD : D → Option (List D)
  | .lst xs => some xs.reverse
  | .mk _ xs => some xs.reverse
  | _ => none
def sRev (f : SE) : SO := fun env => (f env).bind fun d e => .of ((revD d).map .lst) e
theorem Reps.reverse {G : GW} {Z : Hp} : ∀ {vs : List V} {ds : List D}, Reps G Z vs ds → Reps G Z vs.reverse ds.reverse
  | _, _, .nil => .nil
  | _, _, .cons h r => by
    rw [List.reverse_cons (as := _), List.reverse_cons]
    exact (Reps.reverse r).append (.one h)
theorem po_rev (he : PE X e (tE C fe)) (hst : PE X st (tC (.int (-1)))) : PE X (.Subscript e (.Slice none none (some st) p2) pos) (tO C (sRev fe)) := PE.imp (pe_rev he hst) fun σ H Q ⟨Z, env, g, q⟩ => by
  refine ⟨Z, env, g, (WishO.bind (S := Rep C.G) q).mono fun v H1 ⟨Z1, d, e1, t1, g1, r1, w1⟩ => ?_⟩
  cases hd : revD d with
  | none => rw [hd] at w1; exact w1.elim
  | some xs =>
    rw [hd] at w1
    cases r1 <;> simp [revD] at hd <;> subst hd
    · exact ⟨_, _, rfl, sub_l g1.sub ‹_›, fun p np => WishO.ret w1 g1 np (.lst (Reps.reverse ‹_›))⟩
    · exact ⟨_, _, rfl, sub_l g1.sub ‹_›, fun p np => WishO.ret w1 g1 np (.lst (Reps.reverse ‹_›))⟩
/-- f, or g where f tells nothing -/
def sAlt (f g : SE) : SE := fun env => match f env with
  | .bad => g env
  | r => r
theorem pd_alt (h1 : PE X e (tE C fe)) (h2 : PE X e (tE C ff)) : PE X e (tE C (sAlt fe ff)) := ⟨fun pins s σ H Q I ⟨Z, env, g, q⟩ => by
  unfold sAlt at q
  cases hf : fe env with
  | bad => rw [hf] at q; exact h2.run pins s σ H Q I ⟨Z, env, g, q⟩
  | ok d e' => rw [hf] at q; exact h1.run pins s σ H Q I ⟨Z, env, g, by rw [hf]; exact q⟩
  | ex c p e' => rw [hf] at q; exact h1.run pins s σ H Q I ⟨Z, env, g, by rw [hf]; exact q⟩⟩
/-- xs.extend(ys), ys another list -/
def sExt (i : Nat) (f : SE) : SS := fun env => match env[i]? with
  | some (.own _ (.lst _)) => bindS (f env) fun d e => match ownL e i, d with
    | some (m, ds), .lst ys => if ds.length + ys.length ≤ sizeLine then .nx (e.set i (.own m (.lst (ds ++ ys)))) else .bad
    | _, _ => .bad
  | _ => .bad
theorem q_ext (h : PS X sm (tDrop (tBM X.K "list" rExtend (tVar i) (tCons (tE C fe) tNil)))) : PS X sm (tS C (sExt i fe)) := PS.imp h fun Dn σ H ⟨Z, env, g, q⟩ => by
  unfold sExt at q
  split at q
  rotate_left
  · exact q.elim
  rename_i m0 ds0 he0
  obtain ⟨a, vs0, h1, h2, h3, h4⟩ := g.lst he0
  refine ⟨.ref a, h1, .inl ⟨rfl, _, .inl (.inl h3)⟩, Z, env, g, (WishS.bind (R := Rep C.G) q).mono fun v H1 ⟨Z1, d, e1, t1, g1, r1, w1⟩ => ?_⟩
  split at w1
  rotate_left
  · exact w1.elim
  rename_i m ds ys hl
  have he1 := ownL_get hl
  obtain ⟨b, ws, k1, k2, k3, k4⟩ := g1.lst he1
  rw [h1] at k1
  cases k1
  split at w1
  rotate_left
  · exact w1.elim
  rename_i hz
  cases r1 with
  | lst zb u rb =>
    refine ⟨a, _, ws, _, rfl, rfl, k3, g1.sub.s _ _ zb, by rw [k4.length, rb.length]; exact hz, ?_⟩
    exact w1 σ _ Z1 (.write he1 h1) (g1.write he1 h1 (.lst (k4.append rb)))
end
end Ax
set_option Elab.async false
set_option linter.all false
set_option maxRecDepth 100000
set_option maxHeartbeats 400000
/-! AxKe: == and != of two lists whose items are equal one by one, by identity or by an own ==. -/
namespace GQ
open PySem PySem.SeqAt
open AutoSeq1 (wpAny_loadPart')
open MeetsSeq MeetsSeq2 MeetsSeq3 SeqRoads2
section
variable {R : Result → Shared → Prop} {A : Around} {w : World} {prog : Program}
theorem neTurns (l b : Addr) (N : Nat) (I : Nat → Shared → Prop) (each : ListI prog w A (fun e s1 => R (.error e) s1) l b N I) (done : ∀ s, I N s → R (.ok (.ret (.bool false))) s) : ∀ (k i : Nat), N - i = k → i ≤ N → ∀ s, I i s →
      wpAny (model prog w) A.in1 (Builtin.«list.__eq__.loop» ⟨[.ref l, .ref b, rawInt i, rawInt 3], []⟩) (FinOf prog w A R) (fun e s1 => R (.error e) s1) s
  | 0, i, left, le, s, inv => by
    have same : i = N := by omega
    obtain ⟨xs, ys, cx, cy, atX, atY, lenX, lenY, -⟩ := each _ _ inv
    have end_ : R (.ok (.ret (.bool false))) s := done s (same ▸ inv)
    obtain ⟨hh, gg, dd, tk, os⟩ := s
    wp_walk using wpAny_loadPart' atX, wpAny_loadPart' atY
    have noX : xs[((i : Nat) : Int).toNat]? = none := by simp; omega
    have noY : ys[((i : Nat) : Int).toNat]? = none := by simp; omega
    rw [noX, noY]
    wp_walk using wpAny_loadPart' atX, wpAny_loadPart' atY
    show R (.ok (.ret (.bool (xs.size != ys.size)))) _
    rw [lenX, lenY, bne_self_eq_false]
    exact end_
  | k + 1, i, left, le, s, inv => by
    obtain ⟨xs, ys, cx, cy, atX, atY, lenX, lenY, turn⟩ := each _ _ inv
    have ltX : i < xs.size := by omega
    have ltY : i < ys.size := by omega
    have this_ := turn ltX ltY
    obtain ⟨hh, gg, dd, tk, os⟩ := s
    wp_walk using wpAny_loadPart' atX, wpAny_loadPart' atY
    have isX : xs[((i : Nat) : Int).toNat]? = some xs[i] := by simp [ltX]
    have isY : ys[((i : Nat) : Int).toNat]? = some ys[i] := by simp [ltY]
    rw [isX, isY]
    refine wpAny_bind (wpAny_mono this_ (fun r s2 ⟨er, inv2⟩ => ?_) fun _ _ z => z)
    subst er
    have rest := neTurns l b N I each done k (i + 1) (by omega) (by omega) s2 inv2
    have cast : ((i : Int) + 1) = ((i + 1 : Nat) : Int) := by omega
    obtain ⟨h3, g3, d3, t3, o3⟩ := s2
    wp_walk
    rw [cast]
    refine ⟨plainId_quiet plain_eq_loop _, codeAny_builtin entry_eq_loop ?_⟩
    rw [Around.under_plainId (h := plain_eq_loop)]
    exact rest
theorem neWhole (l b : Addr) (N : Nat) (I : Nat → Shared → Prop) (each : ListI prog w A (fun e s1 => R (.error e) s1) l b N I) (done : ∀ s, I N s → R (.ok (.ret (.bool false))) s) {s : Shared} (inv : I 0 s) :
    wpAny (model prog w) A.in1 (Builtin.«list.__ne__» ⟨[.ref l, .ref b], []⟩) (FinOf prog w A R) (fun e s1 => R (.error e) s1) s := by
  have rest := neTurns l b N I each done _ 0 rfl (Nat.zero_le _) s inv
  obtain ⟨xs, ys, cx, cy, atX, atY, lenX, lenY, -⟩ := each _ _ inv
  obtain ⟨hh, gg, dd, tk, os⟩ := s
  have isSub := AutoSeq1.sub_list_list
  have no : ¬ (xs.size != ys.size) = true := by simp [lenX, lenY]
  wp_walk using wpAny_loadPart' atX, wpAny_loadPart' atY
  refine ⟨plainId_quiet plain_eq_loop _, codeAny_builtin entry_eq_loop ?_⟩
  rw [Around.under_plainId (h := plain_eq_loop)]
  exact rest
theorem rcNe {E : Value → Shared → Prop} {l b : Addr} {N : Nat} {s : Shared} {Q : Value → Shared → Prop} (room : A.units < cLine) (I : Nat → Shared → Prop) (each : ListI prog w A E l b N I) (done : ∀ s, I N s → Q (.bool false) s) (inv : I 0 s) :
    wpAny (model prog w) A (richCompare .NotEq (.ref l) (.ref b)) Q E s := by
  obtain ⟨xs, ys, cx, cy, atX, atY, -⟩ := each _ _ inv
  exact wpAny_richCompare_same_room (op := .NotEq) ⟨_, atX, rfl⟩ ⟨_, atY, rfl⟩ F.slot_list_ne (call_here F.slot_list_ne ⟨_, atX, rfl⟩ F.entry_list_ne (F.args_list_ne_2 _ _)
    (neWhole (R := wants (fun v s1 => v ≠ .notImplemented ∧ Q v s1) E) l b N I each (fun s1 q => ⟨(fun z => nomatch z), done s1 q⟩) inv)) room
end
end GQ
namespace PySem.W
open PySem
theorem eqSelf {M : Model} {A : Around} {E : Value → Shared → Prop} {s : Shared} {p : Addr} {Q : Bool → Shared → Prop} (q : Q true s) : wpAny M A (eqBool (.ref p) (.ref p)) Q E s := by
  delta eqBool
  refine wpAny_holding (wpAny_ite_split (fun _ => ?_) fun no => absurd (beq_self_eq_true _) no)
  exact wpAny_bind (wpAny_rule (wpAny_pure q))
end PySem.W
namespace Ax
open PySem PySem.Spec L2
variable [T0 : TabC]
def sameRow (c : Nat) (F : FS) : D → D → Bool
  | .obj c1 a, .obj c2 b => c1 == c && c2 == c && (match F [.obj c1 a, .obj c2 b] with
    | .ok (.bl k) _ => k
    | _ => false)
  | _, _ => false
def allRows (c : Nat) (F : FS) : List D → List D → Bool
  | [], [] => true
  | x :: xs, y :: ys => sameRow c F x y && allRows c F xs ys
  | _, _ => false
/-- two lists of instances, all equal one by one -/
def eqRows (c : Nat) (F : FS) (neg : Bool) : D → D → Option D
  | .lst xs, .lst ys => if allRows c F xs ys = true then some (.bl neg.not) else none
  | _, _ => none
theorem allRows_get {c : Nat} {F : FS} : ∀ {xs ys : List D}, allRows c F xs ys = true → xs.length = ys.length ∧ ∀ (i : Nat) (x y : D), xs[i]? = some x → ys[i]? = some y → sameRow c F x y = true
  | [], [], _ => ⟨rfl, fun i x y h => by simp at h⟩
  | x :: xs, y :: ys, h => by
    simp only [allRows, Bool.and_eq_true] at h
    obtain ⟨l, r⟩ := allRows_get h.2
    refine ⟨by simp [l], fun i a b h1 h2 => ?_⟩
    cases i with
    | zero => simp at h1 h2; subst h1 h2; exact h.1
    | succ i => exact r i a b (by simpa using h1) (by simpa using h2)
  | [], _ :: _, h => by simp [allRows] at h
  | _ :: _, [], h => by simp [allRows] at h
section
variable {X : Cx} {C : Kx} {k : Nat} {f : Addr} {fd : FuncData} {ps : List Str}
/-- == of two instances inside a list's own comparison -/
theorem eqItem {c : Nat} {F : FS} (FOk : FnOk X.prog X.w X.K X.mg X.base (L2.CX X.prog X.w) k f fd ps (spP C.G 2 F)) (hr : Room (k + 1) X.A) (ec : EqCls X.K (C.G.cls c) f) (hb : Binds X.K fd ps []) {pins : List (Addr × Obj)} {s : Shared} {σ : L2.St} {Z H : Hp} {x y : V} {u v : Value} {d1 d2 : D}
    (I : Inv X pins σ H s) (sub : Sub Z H) (r1 : Rep C.G Z x d1) (r2 : Rep C.G Z y d2) (rx : RelV x u) (ry : RelV y v) (same : sameRow c F d1 d2 = true) :
    wpAny (model X.prog X.w) X.A.in1 (eqBool u v) (fun r s1 => r = true ∧ ∃ H1 Z1, Inv X pins σ H1 s1 ∧ Step Z H Z1 H1) X.xe s := by
  unfold sameRow at same
  split at same
  rotate_left
  · cases same
  rename_i c1 a c2 b
  simp only [Bool.and_eq_true, beq_iff_eq] at same
  obtain ⟨⟨rfl, rfl⟩, hF⟩ := same
  have r1' := r1
  have r2' := r2
  cases r1 with
  | obj kn1 h1 n1 rr1 =>
  cases r2 with
  | obj kn2 h2 n2 rr2 =>
  rename_i p1 dx1 vs1 p2 dx2 vs2
  cases rx
  cases ry
  by_cases one : p1 = p2
  · subst one
    exact PySem.W.eqSelf ⟨rfl, H, Z, I, .refl sub⟩
  refine GQ.eqBool_refG one ?_
  obtain ⟨mA, J, _⟩ := ins_get I.hok (sub.s _ _ h1)
  obtain ⟨mB, J', _⟩ := ins_get I.hok (sub.s _ _ h2)
  obtain ⟨od, J, _⟩ := J.look
  obtain ⟨od2, J', _⟩ := J'.look
  obtain ⟨m, hFr⟩ := I.fr
  have room0 : X.A.in1.units < cLine := by have := hr.un; show X.A.units + 1 < cLine; omega
  refine PySem.W.cmp_K (op := .Eq) (tb := .ref _) room0 hFr I.ok.mod.kin J J'.type (by simp [PySem.W.notFirst]) ec.eq ec.own ?_
  have ans : spP C.G 2 F [.ref p1, .ref p2] H (fun z H' => ∃ Z', z = .bl true ∧ Step Z H Z' H') E0 := by
    refine ⟨Z, _, sub, .cons r1' (.cons r2' .nil), rfl, ?_⟩
    revert hF
    generalize F [D.obj c2 a, D.obj c2 b] = rr
    intro hF
    split at hF
    · subst hF
      intro z H' Z' st rz
      cases rz
      exact ⟨Z', rfl, st⟩
    · cases hF
  have vals : Vals ([.ref p1, .ref p2] ++ []) ([.ref p1, .ref p2] ++ []) := .cons rfl (.cons rfl .nil)
  have hl : ([.ref p1, .ref p2] ++ [] : List Value).length = ps.length := by rw [← vals.length]; exact FOk.len _ _ _ _ ans
  refine wpAny_call (codeAny_mono (FOk.run X.A.in1 X.stack s H ⟨[.ref p1, .ref p2], []⟩ _ _ _ E0 hr.in1 I.env0.in1 (hb s [.ref p1, .ref p2] I.kIn hl) vals ans) fun r s' hq => ?_)
  cases r with
  | error e => exact passL (X := X) pins σ H s e s' I hq
  | ok fl =>
    cases fl with
    | ret u' =>
      obtain ⟨zv, H', I', rz, Z', rfl, st⟩ := I.after hq
      cases rz
      exact ⟨true, rfl, rfl, H', Z', I', st⟩
    | next => exact False.elim hq
    | brk => exact False.elim hq
    | cont => exact False.elim hq
theorem opd_eqRows {c : Nat} {F : FS} {op : CmpOp} (neg : Bool) (hop : op = if neg then .NotEq else .Eq) (FOk : FnOk X.prog X.w X.K X.mg X.base (L2.CX X.prog X.w) k f fd ps (spP C.G 2 F)) (hr : Room (k + 1) X.A) (ec : EqCls X.K (C.G.cls c) f) (hb : Binds X.K fd ps []) : OpR X (compareOp op) (rD C.G (eqRows c F neg)) := by
  intro pins s σ H x y v u Q I rx ry ⟨Z, d1, d2, d, sub, r1, r2, e, q⟩
  unfold eqRows at e
  split at e
  rotate_left
  · cases e
  rename_i xs ys
  split at e
  rotate_left
  · cases e
  rename_i all
  cases e
  obtain ⟨len, each⟩ := allRows_get all
  cases r1 with
  | lst z1 u1 q1 =>
  cases r2 with
  | lst z2 u2 q2 =>
  rename_i a1 vs1 a2 vs2
  cases rx
  cases ry
  have room : X.A.units < cLine := hr.units0
  have turns : GQ.ListI X.prog X.w X.A X.xe a1 a2 xs.length (fun _ s1 => ∃ H1 Z1, Inv X pins σ H1 s1 ∧ Step Z H Z1 H1) := fun i s1 ⟨H1, Z1, I1, st⟩ => by
    obtain ⟨_, it1, k1, v1, o1⟩ := I1.hok a1 _ (st.sub.s _ _ (st.fz _ _ z1))
    obtain ⟨_, it2, k2, v2, o2⟩ := I1.hok a2 _ (st.sub.s _ _ (st.fz _ _ z2))
    have n1 : it1.length = xs.length := by rw [← v1.length, q1.length]
    have n2 : it2.length = xs.length := by rw [← v2.length, q2.length, len]
    refine ⟨it1.toArray, it2.toArray, k1, k2, o1, o2, by simpa using n1, by simpa using n2, fun h1 h2 => ?_⟩
    have b1 : i < it1.length := by simpa using h1
    have b2 : i < it2.length := by simpa using h2
    obtain ⟨d1, e1⟩ : ∃ d, xs[i]? = some d := ⟨_, List.getElem?_eq_getElem (by omega)⟩
    obtain ⟨d2, e2⟩ : ∃ d, ys[i]? = some d := ⟨_, List.getElem?_eq_getElem (by omega)⟩
    obtain ⟨w1, f1, g1⟩ := q1.get e1
    obtain ⟨w2, f2, g2⟩ := q2.get e2
    obtain ⟨c1, j1, rel1⟩ := v1.get f1
    obtain ⟨c2, j2, rel2⟩ := v2.get f2
    rw [List.getElem?_eq_getElem b1] at j1
    rw [List.getElem?_eq_getElem b2] at j2
    cases j1
    cases j2
    refine wpAny_mono (eqItem FOk hr ec hb I1 st.sub (g1.mono st.fz) (g2.mono st.fz) (by simpa using rel1) (by simpa using rel2) (each i _ _ e1 e2)) (fun r s2 ⟨er, H2, Z2, I2, st2⟩ => ⟨er, H2, Z2, I2, st.trans st2⟩) fun _ _ z => z
  have fin : ∀ (b : Bool) s1, (∃ H1 Z1, Inv X pins σ H1 s1 ∧ Step Z H Z1 H1) → b = neg.not → EP X pins σ Q (.bool b) s1 := fun b s1 ⟨H1, Z1, I1, st⟩ eb => by
    subst eb
    exact ⟨.bl _, H1, I1, rfl, q _ _ _ st (.bl _)⟩
  cases neg with
  | false =>
    subst hop
    show wpAny (model X.prog X.w) X.A (richCompare .Eq _ _) (EP X pins σ Q) X.xe s
    exact GQ.rc_listG room _ turns (fun s1 i => fin _ s1 i rfl) ⟨H, Z, I, .refl sub⟩
  | true =>
    subst hop
    show wpAny (model X.prog X.w) X.A (richCompare .NotEq _ _) (EP X pins σ Q) X.xe s
    exact GQ.rcNe room _ turns (fun s1 i => fin _ s1 i rfl) ⟨H, Z, I, .refl sub⟩
end
end Ax
set_option Elab.async false
set_option linter.all false
set_option maxRecDepth 100000
set_option maxHeartbeats 400000
/-! AxGd: repr of nested lists and tuples, where no repr runs further out. -/
namespace Ax
open PySem PySem.Spec PyProof PyProof.Rows L2
/-! ### what a tree is shown as -/
mutual
def pyD : D → Option PyData
  | .non => some .none
  | .bl b => some (.bool b)
  | .int i => some (.int i)
  | .str s => some (.str s)
  | .tup xs => (pyDs xs).map .tuple
  | .lst xs => (pyDs xs).map .list
  | _ => none
def pyDs : List D → Option (List PyData)
  | [] => some []
  | x :: xs => match pyD x, pyDs xs with
    | some a, some b => some (a :: b)
    | _, _ => none
end
def fitsPy (p : PyData) : Prop := PyData.showable p = true ∧ PyData.hasDict p = false ∧ PyData.depth p ≤ 40 ∧ (PyData.shown p).length ≤ sizeLine
open Classical in
noncomputable def reprD : List D → Option D
  | [.tup xs] => match pyD (.tup xs) with
    | some p => if fitsPy p then some (.str (PyData.shown p)) else none
    | none => none
  | [.lst xs] => match pyD (.lst xs) with
    | some p => if fitsPy p then some (.str (PyData.shown p)) else none
    | none => none
  | _ => none
section
variable [T0 : TabC] {G : GW} {Z H : Hp} {P : Program} {w : World} {h : Heap}
mutual
theorem rep_reads (sub : Sub Z H) (ok : HOk P w H h) : ∀ {v : V} {d : D} {u : Value} {p : PyData}, Rep G Z v d → RelV v u → pyD d = some p → ∃ as, Reads h u p as
  | _, _, _, _, .non, r, e => by cases (show _ = Value.none from r); cases e; exact ⟨_, .none⟩
  | _, _, _, _, .bl b, r, e => by cases (show _ = Value.bool b from r); cases e; exact ⟨_, .bool b⟩
  | _, _, _, _, .int i, r, e => by obtain ⟨t, rfl⟩ := r; cases e; exact ⟨_, .int i t⟩
  | _, _, _, _, .str s, r, e => by obtain ⟨t, rfl⟩ := r; cases e; exact ⟨_, .str s t⟩
  | _, _, _, _, .tup at_ rs, r, e => by
    cases (show _ = Value.ref _ from r)
    obtain ⟨ps, e1, rfl⟩ := Option.map_eq_some_iff.mp (show (pyDs _).map PyData.tuple = some _ from e)
    obtain ⟨_, its, vals, o, g1, g2, n, g3⟩ := ok _ _ (sub.s _ _ at_)
    obtain ⟨as, q⟩ := reps_reads sub ok rs vals e1
    exact ⟨_, .tuple g1 g2 g3 q⟩
  | _, _, _, _, .lst at_ um rs, r, e => by
    cases (show _ = Value.ref _ from r)
    obtain ⟨ps, e1, rfl⟩ := Option.map_eq_some_iff.mp (show (pyDs _).map PyData.list = some _ from e)
    obtain ⟨_, its, n, vals, g1⟩ := ok _ _ (sub.s _ _ at_)
    obtain ⟨as, q⟩ := reps_reads sub ok rs vals e1
    exact ⟨_, .list g1 rfl rfl q⟩
  | _, _, _, _, .ty _, _, e => by cases e
  | _, _, _, _, .cl _ _, _, e => by cases e
  | _, _, _, _, .fn _ _, _, e => by cases e
  | _, _, _, _, .mk _ _ _, _, e => by cases e
  | _, _, _, _, .dic _ _ _, _, e => by cases e
  | _, _, _, _, .frl _ _ _, _, e => by cases e
  | _, _, _, _, .obj _ _ _ _, _, e => by cases e
theorem reps_reads (sub : Sub Z H) (ok : HOk P w H h) : ∀ {vs : List V} {ds : List D} {us : List Value} {ps : List PyData}, Reps G Z vs ds → Vals vs us → pyDs ds = some ps → ∃ as, ReadsAll h us ps as
  | _, _, _, _, .nil, .nil, e => by cases e; exact ⟨_, .nil⟩
  | _, _, _, _, .cons r rs, .cons v vs, e => by
    unfold pyDs at e
    split at e
    · rename_i a b e1 e2
      cases e
      obtain ⟨as, q⟩ := rep_reads sub ok r v e1
      obtain ⟨bs, q2⟩ := reps_reads sub ok rs vs e2
      exact ⟨_, .cons q q2⟩
    · cases e
end
end
section
variable [T0 : TabC] {X : Cx} {G : GW}
theorem run_repr {pins : List (Addr × Obj)} {s : Shared} {σ : L2.St} {H : Hp} {Q : VK} {a : Addr} {p : PyData} {as : List Addr} (gd : X.A.guards = some []) {k : Nat} (hr : Room k X.A) (I : Inv X pins σ H s) (r : Reads s.heap (.ref a) p as) (f : fitsPy p) (q : Q (.str (PyData.shown p)) H) :
    wpAny (model X.prog X.w) X.A (call (.builtin "repr") [.ref a]) (EP X pins σ Q) X.xe s := by
  obtain ⟨f1, f2, f3, f4⟩ := f
  refine repr_of_reads' r f1 (PyData.noDict_hsm f2) gd ?_ (fun _ _ z => z) (fun h' u tk kept => ?_) f4
  · have z := hr.units
    omega
  · exact ⟨.str (PyData.shown p), H, I.kept kept, ⟨u, rfl⟩, q⟩
theorem cb_repr (gd : X.A.guards = some []) {k : Nat} (hr : Room k X.A) : CallR X (.builtin "repr") (rCD G reprD) := by
  intro pins s σ H vs us Q I r ⟨Z, ds, d, sub, rs, e, q⟩
  unfold reprD at e
  split at e
  · rename_i xs
    obtain ⟨v, rfl, h2⟩ := reps1 rs
    obtain ⟨u, rfl, rv⟩ := vals1 r
    split at e
    · rename_i p hp
      split at e
      · rename_i hf
        cases e
        cases h2 with
        | tup at_ rs2 =>
        cases (show u = Value.ref _ from rv)
        obtain ⟨as, rd⟩ := rep_reads (G := G) sub I.hok (.tup at_ rs2) rfl hp
        exact run_repr gd hr I rd hf (q _ _ _ (.refl sub) (.str _))
      · cases e
    · cases e
  · rename_i xs
    obtain ⟨v, rfl, h2⟩ := reps1 rs
    obtain ⟨u, rfl, rv⟩ := vals1 r
    split at e
    · rename_i p hp
      split at e
      · rename_i hf
        cases e
        cases h2 with
        | lst at_ um rs2 =>
        cases (show u = Value.ref _ from rv)
        obtain ⟨as, rd⟩ := rep_reads (G := G) sub I.hok (.lst at_ um rs2) rfl hp
        exact run_repr gd hr I rd hf (q _ _ _ (.refl sub) (.str _))
      · cases e
    · cases e
  · cases e
end
end Ax
set_option Elab.async false
set_option linter.all false
set_option maxRecDepth 100000
set_option maxHeartbeats 400000
/-! AxGe: defs that run where no repr runs further out; the law is such a def. -/
namespace Ax
open PySem PySem.Spec PyProof PyProof.Rows L2
/-- as FnOk, for calls with no repr under way -/
structure FnG (P : Program) (w : World) (K : PySem.W.Frag) (mg : Str → Option Value) (base : Heap) (CX : CXT) (k : Nat) (f : Addr) (fd : FuncData) (ps : List Str) (sp : Sp) : Prop where
  arity : ∀ vs H Q E, sp vs H Q E → vs.length = ps.length
  go : ∀ (A : Around) (outer : List Env) (s : Shared) (H : Hp) (args : Args) (us : List Value) (vs : List V) (Q : VK) (E : XK), A.guards = some [] → Room k A → Env0 P w K mg base A outer s H → BindsTo s fd args (ps.zip us) → Vals vs us → sp vs H Q E → codeAny (model P w) A (.call (.ref f) args) (CR CX outer P w H s Q E) s
section
variable {P : Program} {w : World} {K : PySem.W.Frag} {mg : Str → Option Value} {base : Heap} {CX : CXT} {k : Nat} {f : Addr} {fd : FuncData} {ps : List Str} {sp sp2 : Sp}
theorem FnG.of (F : FnOk P w K mg base CX k f fd ps sp) : FnG P w K mg base CX k f fd ps sp := ⟨F.len, fun A outer s H args us vs Q E _ => F.run A outer s H args us vs Q E⟩
theorem FnG.imp (F : FnG P w K mg base CX k f fd ps sp) (i : ∀ vs H Q E, sp2 vs H Q E → sp vs H Q E) : FnG P w K mg base CX k f fd ps sp2 :=
  ⟨fun vs H Q E q => F.arity vs H Q E (i vs H Q E q), fun A outer s H args us vs Q E gd room env b v q => F.go A outer s H args us vs Q E gd room env b v (i vs H Q E q)⟩
theorem FnG.up {j : Nat} (F : FnG P w K mg base CX k f fd ps sp) (l : k ≤ j) : FnG P w K mg base CX j f fd ps sp :=
  ⟨F.arity, fun A outer s H args us vs Q E gd room => F.go A outer s H args us vs Q E gd (room.mono l)⟩
end
section
variable {P : Program} {w : World} {K : PySem.W.Frag} {mg : Str → Option Value} {base : Heap}
theorem fnG_of {x qual : Str} {st : Stmt} {f : Addr} {fd : FuncData} {N ps : List Str} {k : Nat} {sp : Sp} (F : Fun K x qual st f fd) (S : FnScope N ps (defScope st)) (arity : ∀ vs H Q E, sp vs H Q E → vs.length = ps.length)
    (body : ∀ (cdv : Value) (A : Around) (outer : List Env) (s : Shared) (H : Hp) (vs : List V) (Q : VK) (E : XK), (A.deeper (PyProof.Rows.envOfC qual (defScope st) s.heap.objs.size f cdv)).guards = some [] → Room k (A.deeper (PyProof.Rows.envOfC qual (defScope st) s.heap.objs.size f cdv)) → sp vs H Q E →
      ∃ t, PSs (cxOf (L2.CX P w) P w K mg base N qual (defScope st) f cdv A outer s H E) (defBody st) t ∧ t { nx := fun _ H' => Q .non H', rt := Q } (L2.start N vs) H) : FnG P w K mg base (L2.CX P w) (k + 1) f fd ps sp := by
  obtain ⟨oc, od, kV, doc, pm, an, cdv, ct, osl, rfl, lk, code⟩ := F.ex
  refine ⟨arity, ?_⟩
  intro A outer s H args us vs Q E gd room env bound vals wish
  have still : ∀ b o, base.get? b = some o → s.heap.get? b = some o := fun b o z => (env.bs b o z).1
  have frag : K.In s.heap := env.mod.kin.keeps still
  have slots : ∀ y ∈ ps.zip us, (defScope st).names.lookup y.1 = some .local ∨ ((defScope st).names.lookup y.1 = some .cell ∧ ((cellsFrom (s.heap.objs.size + 1) (defScope st).names []).lookup y.1).isSome = true) := by
    rintro ⟨n, v⟩ hy
    exact (S.par n (List.of_mem_zip hy).1).imp id fun q => ⟨q, PySem.W.cellsFrom_some _ _ _ (.inl q)⟩
  refine codeAny_call_function room.depth (frag _ _ lk) rfl S.co S.gen rfl
    (PySem.W.codeRec_of frag code) (bound _ _ _ _ ?_)
  refine wpAny_newFunctionEnv_cells S.kind slots ?_
  rintro _ rfl s1 fresh
  refine ⟨(env.mod.nolimit.keeps still).keeps fresh.toInCall.keep, codeAny_func ?_⟩
  obtain ⟨t, runs, first⟩ := body cdv A outer s H vs Q E gd (room.deeper _) wish
  have inv := inv_start (CX := L2.CX P w) (E := E) S room.hd env (arity _ _ _ _ wish) vals fresh
  refine wpAny_mono (runs.run [] s1 _ H _ inv first) ?_ fun _ _ z => z
  intro fl s' post
  cases fl with
  | next =>
    obtain ⟨_, _, J, q⟩ := post
    exact ⟨.non, _, J.os, J.bare, J.base, J.hok, rfl, q⟩
  | ret u =>
    obtain ⟨_, _, _, J, rv, q⟩ := post
    exact ⟨_, _, J.os, J.bare, J.base, J.hok, rv, q⟩
  | brk => exact post.elim fun _ z => z.elim fun _ z => z.2.elim
  | cont => exact post.elim fun _ z => z.elim fun _ z => z.2.elim
variable [T0 : TabC]
theorem ok_fnQ {G : GW} {x qual : Str} {st : Stmt} {f : Addr} {fd : FuncData} {N ps : List Str} {k : Nat} {sf : SS} (F : Fun K x qual st f fd) (S : FnScope N ps (defScope st))
    (hbody : ∀ (cdv : Value) (A : Around) (outer : List Env) (s : Shared) (H : Hp) (E : XK), (A.deeper (PyProof.Rows.envOfC qual (defScope st) s.heap.objs.size f cdv)).guards = some [] → Room k (A.deeper (PyProof.Rows.envOfC qual (defScope st) s.heap.objs.size f cdv)) →
      PSs (cxOf (L2.CX P w) P w K mg base N qual (defScope st) f cdv A outer s H E) (defBody st) (tS (kxP G E) sf)) : FnG P w K mg base (L2.CX P w) (k + 1) f fd ps (spP G ps.length (runP N.length sf)) := by
  refine fnG_of F S (fun vs H Q E ⟨Z, ds, s, r, n, _⟩ => by rw [r.length]; exact n) fun cdv A outer s H vs Q E gd hr ⟨Z, ds, sub, r, n, h⟩ => ⟨_, hbody cdv A outer s H E gd hr, Z, _, env0_gd sub r, ?_⟩
  unfold runP at h
  revert h
  generalize sf (env0 N.length ds) = o
  intro h
  cases o with
  | nx e => exact fun σ' H' Z' t g => h _ _ _ (step_of t g) .non
  | rt d e => exact fun v σ' H' Z' t g q => h _ _ _ (step_of t g) q
  | rto o e =>
    intro p ho σ' H' Z' t g n no z hp r
    dsimp only at h
    cases hf : o.fz with
    | none => rw [hf] at h; exact h.elim
    | some d => rw [hf] at h; exact h _ _ _ (fz_step (G := G) (step_of t g) n z hp r.ob.nt) (rep_frozen z (g.sub.un z) r hf)
  | ex c p e => exact fun σ' H' Z' od t g q => h _ _ _ (step_of t g) q
  | _ => exact h.elim
theorem ok_fnQI {G : GW} {x qual : Str} {st : Stmt} {f : Addr} {fd : FuncData} {N : List Str} {p0 : Str} {ps : List Str} {k : Nat} {sf : SS} (F : Fun K x qual st f fd) (S : FnScope N (p0 :: ps) (defScope st))
    (hbody : ∀ (cdv : Value) (A : Around) (outer : List Env) (s : Shared) (H : Hp) (E : XK) (a : Addr), (A.deeper (PyProof.Rows.envOfC qual (defScope st) s.heap.objs.size f cdv)).guards = some [] → Room k (A.deeper (PyProof.Rows.envOfC qual (defScope st) s.heap.objs.size f cdv)) →
      PSs (cxOf (L2.CX P w) P w K mg base N qual (defScope st) f cdv A outer s H E) (defBody st) (tS ⟨G, some a, fun cls d _ H => E cls d H⟩ sf)) : FnG P w K mg base (L2.CX P w) (k + 1) f fd (p0 :: ps) (spI G ps.length (runI N.length sf)) := by
  have hN : 0 < N.length := by
    have h := congrArg List.length S.pre
    rw [List.length_take, List.length_cons] at h
    omega
  refine fnG_of F S (fun vs H Q E ⟨Z, a, vs', ho, ss, ds, e, s, z, h, rw_, r, n, _⟩ => by rw [e, List.length_cons, List.length_cons, r.length, n]) fun cdv A outer s H vs Q E gd hr ⟨Z, a, vs', ho, ss, ds, e, sub, z, hh, rw_, r, n, h⟩ => ?_
  subst e
  refine ⟨_, hbody cdv A outer s H E a gd hr, Z, _, envI_gd hN sub z hh rw_ r, ?_⟩
  unfold runI at h
  revert h
  generalize sf (.own true ss :: env0 (N.length - 1) ds) = o
  intro h
  cases o with
  | nx e =>
    intro σ' H' Z' t g
    dsimp only at h
    cases hi : io0 e with
    | none => rw [hi] at h; exact h.elim
    | some s' =>
      rw [hi] at h
      obtain ⟨st, ws', h1, h2⟩ := stepI_of (r := (L2.start N (.ref a :: vs')).tail) t g hi
      exact h _ _ _ ws' st h1 h2 .non
  | rt d e =>
    intro v σ' H' Z' t g q
    dsimp only at h
    cases hi : io0 e with
    | none => rw [hi] at h; exact h.elim
    | some s' =>
      rw [hi] at h
      obtain ⟨st, ws', h1, h2⟩ := stepI_of (r := (L2.start N (.ref a :: vs')).tail) t g hi
      exact h _ _ _ ws' st h1 h2 q
  | rto o e =>
    intro p ho σ' H' Z' t g n no z hp r
    dsimp only at h
    cases hi : io0 e with
    | none => rw [hi] at h; exact h.elim
    | some s' =>
      rw [hi] at h
      cases hf : o.fz with
      | none => rw [hf] at h; exact h.elim
      | some d =>
        rw [hf] at h
        obtain ⟨st, ho', h1, h2⟩ := stepI_of (r := (L2.start N (.ref a :: vs')).tail) t g hi
        have na : p ≠ a := fun q => by subst q; rw [hh] at n; cases n
        exact h _ _ _ ho' (fz_stepI (G := G) st na n z hp r.ob.nt) h1 (h2.mono (same_upd z)) (rep_frozen z (g.sub.un z) r hf)
  | ex c p e =>
    intro σ' H' Z' od t g q
    dsimp only at h
    cases hi : io0 e with
    | none => rw [hi] at h; exact h.elim
    | some s' =>
      rw [hi] at h
      obtain ⟨st, ws', h1, h2⟩ := stepI_of (r := (L2.start N (.ref a :: vs')).tail) t g hi
      exact h _ _ _ ws' st h1 h2 q
  | _ => exact h.elim
end
/-! ### calls of such defs -/
section
variable [T0 : TabC] {X : Cx} {C : Kx} {e : Expr} {es : List Expr} {fl : SL} {p pos : Pos} {x : Str} {k n : Nat} {f : Addr} {fd : FuncData} {ps : List Str} {F : FS} {CX : CXT} {sp : Sp}
theorem go_fnG {pins : List (Addr × Obj)} {σ : L2.St} {H : Hp} {s : Shared} {Q : VK} {E : XK} {us : List Value} {vs : List V} (F : FnG X.prog X.w X.K X.mg X.base CX k f fd ps sp) (gd : X.A.guards = some []) (room : Room k X.A) (hb : Binds X.K fd ps []) (pass : PassesAt CX X σ E)
    (I : Inv X pins σ H s) (r : Vals vs us) (q : sp vs H Q E) : wpAny (model X.prog X.w) X.A (call (.ref f) us) (EP X pins σ Q) X.xe s := by
  have many : us.length = ps.length := r.length.symm.trans (F.arity _ _ _ _ q)
  have bound := hb s us I.kIn (by rw [List.append_nil]; exact many)
  rw [List.append_nil] at bound
  refine wpAny_call (codeAny_mono (F.go X.A X.stack s H ⟨us, []⟩ us vs Q E gd room I.env0 bound r q) ?_)
  rintro (ex | fl) s' post
  · exact pass pins H s ex s' I post
  · cases fl with
    | ret u => exact I.after post
    | _ => exact False.elim post
theorem pe_callG {E : L2.St → XK} {t : TA} (F : FnG X.prog X.w X.K X.mg X.base CX k f fd ps sp) (gd : X.A.guards = some []) (hr : Room k X.A) (hg : Gl X x) (hm : X.mg x = some (.ref f)) (hk : PySem.W.keepIn X.K (.ref f) = true) (hb : Binds X.K fd ps []) (pass : ∀ σ, PassesAt CX X σ (E σ))
    (ha : PA X (e :: es) t) (hdb : (x == ("__debug__" : Str)) = false := by decide)
    (he : starEach (e :: es) X.env =
      (false, eval e X.env) :: starEach es X.env := by rfl)
    (hpl : (backTo pos (starEach es X.env)).any (·.1) = false
      := by rfl) :
    PE X (.Call (.Name x p) (e :: es) [] pos)
      (tCallS sp E t) := by
  constructor
  intro pins s σ H Q I q
  refine wpAny_Call_Name_kw (ld_glob I hg hm (PySem.W.callWith_K (h₀ := X.base) I.ok.mod.kin hk (thn (ha.run pos pins s σ H _ I q) ?_) he hpl) hdb)
  rintro us s1 ⟨vs, H1, J, r, q1⟩
  exact ⟨J.kIn, go_fnG F gd hr hb (pass σ) J r q1⟩
theorem pd_callG (FO : FnG X.prog X.w X.K X.mg X.base (L2.CX X.prog X.w) k f fd ps (spP C.G n F)) (gd : X.A.guards = some []) (tk : Takes X C.W) (hr : Room k X.A) (hg : Gl X x) (hm : X.mg x = some (.ref f)) (hk : PySem.W.keepIn X.K (.ref f) = true) (hb : Binds X.K fd ps [])
    (ha : PA X (e :: es) (tL C fl)) (hdb : (x == ("__debug__" : Str)) = false := by decide)
    (he : starEach (e :: es) X.env =
      (false, eval e X.env) :: starEach es X.env := by rfl)
    (hpl : (backTo pos (starEach es X.env)).any (·.1) = false
      := by rfl) :
    PE X (.Call (.Name x p) (e :: es) [] pos) (tE C (sCall n F fl)) := PE.imp (pe_callG FO gd hr hg hm hk hb (fun σ => passAt tk σ) ha hdb he hpl) fun _ _ _ h => call_imp h
theorem pd_callGI {F : FI} {i : Nat} {y : Str} {yp : Pos} (FO : FnG X.prog X.w X.K X.mg X.base (L2.CX X.prog X.w) k f fd ps (spI C.G n F)) (gd : X.A.guards = some []) (tk : Takes X C.W) (hr : Room k X.A) (hg : Gl X x) (hm : X.mg x = some (.ref f)) (hk : PySem.W.keepIn X.K (.ref f) = true) (hb : Binds X.K fd ps [])
    (hv : PE X (.Name y yp) (tVar i)) (ha : PA X es (tL C fl)) (hdb : (x == ("__debug__" : Str)) = false := by decide)
    (he : starEach (.Name y yp :: es) X.env =
      (false, eval (.Name y yp) X.env) :: starEach es X.env := by rfl)
    (hpl : (backTo pos (starEach es X.env)).any (·.1) = false
      := by rfl) :
    PE X (.Call (.Name x p) (.Name y yp :: es) [] pos) (tE C (sCallI n F i fl)) := PE.imp (pe_callG FO gd hr hg hm hk hb (fun σ => passAt tk σ) (pa_cons hv ha he) hdb he hpl) fun _ _ _ h => callI_imp h
end
end Ax
set_option Elab.async false
set_option linter.all false
set_option maxRecDepth 100000
set_option maxHeartbeats 400000
/-! AxGf: the end of a law that asks for a repr. -/
namespace Ax
open PySem PySem.Spec PyProof PyProof.Rows L2
/-- what is tracked at the law's call: the script, where the fragment does not have it; the tables -/
noncomputable def hpG (K : PySem.W.Frag) (a : Addr) (so : Obj) (ns : List Int) (ts : List Addr) : Hp := fun b =>
  if b ∈ ts then some (.tbl #[]) else if b = a ∧ K.lookup a = none then some (.frz so (.lst (ns.map V.int))) else none
section
variable {K : PySem.W.Frag} {a b : Addr} {so : Obj} {ns : List Int} {ts : List Addr}
theorem hpG_tab (h : b ∈ ts) : hpG K a so ns ts b = some (.tbl #[]) := by unfold hpG; rw [if_pos h]
theorem hpG_cases {u : HO} (h : hpG K a so ns ts b = some u) : (b ∈ ts ∧ u = .tbl #[]) ∨ (b ∉ ts ∧ b = a ∧ K.lookup a = none ∧ u = .frz so (.lst (ns.map V.int))) := by
  unfold hpG at h
  by_cases m : b ∈ ts
  · rw [if_pos m] at h; cases h; exact .inl ⟨m, rfl⟩
  · rw [if_neg m] at h
    split at h
    · rename_i z; cases h; exact .inr ⟨m, z.1, z.2, rfl⟩
    · cases h
theorem hpG_none (m : b ∉ ts) (h : ¬ (b = a ∧ K.lookup a = none)) : hpG K a so ns ts b = none := by unfold hpG; rw [if_neg m, if_neg h]
end
/-- what is known of the law's def at the head's heap -/
def LawAtG (l : PySem.W.OpenLaw) (w : World) (K : PySem.W.Frag) (CX : CXT) (k n : Nat) (x : Str) (mg : Str → Option Value) (fa : Addr) (h : Heap) : Prop :=
  ∃ (d : FuncData) (tabs : List (Addr × Addr)) (wish : Sp),
    (∀ t ∈ tabs, h.get? t.2 = some { cls := .none, data := .fields #[] }) ∧
    (∀ t ∈ tabs, K.lookup t.2 = none) ∧
    (∀ t ∈ tabs, PySem.W.CodeHd h t.1 t.2) ∧
    (∀ (s : Shared) (u : Value), BindsTo s d ⟨[u], []⟩ [(x, u)]) ∧
    (∀ (H : Hp) (a : Addr) (ns : List Int), ns.length ≤ n →
      (∀ z ∈ ns, Builtin.Int.intBits z ≤ 1048576) →
      (∀ t ∈ tabs, H t.2 = some (.tbl #[])) →
      SqL K H a (ns.map V.int) → wish [.ref a] H (fun v _ => v = .bl true) fun _ _ _ => False) ∧
    ∀ base : Heap, K.In base → base.Ns mainGlobals mg → (∀ t ∈ tabs, LamX.TabB base mg t.1 t.2) → FnG l.prog w K mg base CX k fa d [x] wish
theorem law_callG {P : Program} {w : World} {K : PySem.W.Frag} {mg mb : Str → Option Value} {CX : CXT} {k : Nat} {fa a : Addr} {cs : List (Addr × Addr)} {fd : FuncData} {x : Str} {sp : Sp} {s : Shared} {vs : List Value} {ns : List Int}
    (frag : K.In s.heap) (top : s.heap.Ns mainGlobals mg) (blt : s.heap.Ns builtinsNs mb) (bltIs : ∀ x : Str, x ≠ "__name__" → mb x = bootBuiltins x) (lim : s.heap.NoLimit) (gens : s.gens = #[])
    (empty : ∀ p ∈ cs, s.heap.get? p.2 = some { cls := .none, data := .fields #[] }) (apart : ∀ p ∈ cs, K.lookup p.2 = none) (code : ∀ p ∈ cs, PySem.W.CodeHd s.heap p.1 p.2)
    (bmain : ∃ (bm : Addr) (ob : Obj), mg "__builtins__" = some (.ref bm) ∧ bm ≠ builtinsNs ∧ s.heap.get? bm = some ob ∧ ob.cls = .type "module" ∧ ob.dict = some builtinsNs ∧ ob.data = .plain)
    (script : s.heap.get? a = some { cls := .type "list", data := .seq vs.toArray }) (intsOk : IntsAre vs ns) (short : ns.length ≤ sizeLine) (room : Room k callerA)
    (F : ∀ base : Heap, K.In base → base.Ns mainGlobals mg → (∀ p ∈ cs, LamX.TabB base mg p.1 p.2) → FnG P w K mg base CX k fa fd [x] sp) (bnd : ∀ (s : Shared) (u : Value), BindsTo s fd ⟨[u], []⟩ [(x, u)])
    (wish : ∀ H : Hp, (∀ p ∈ cs, H p.2 = some (.tbl #[])) → SqL K H a (ns.map V.int) → sp [.ref a] H (fun v _ => v = .bl true) fun _ _ _ => False)
    (quiet : ∀ H e s2, CX [] H s (fun _ _ _ => False) e s2 → False) :
    codeAny (model P w) callerA (.call (.ref fa) ⟨[.ref a], []⟩) (fun r s2 => r = .ok (.ret (.bool true)) ∧ OldK s.heap s2.heap ∧ s2.os = s.os ∧ AllBare s2.gens) s := by
  have rel := vals_ints intsOk
  have tabAt : ∀ b ∈ cs.map (·.2), s.heap.get? b = some { cls := .none, data := .fields #[] } := by
    intro b hb
    obtain ⟨p, hp, rfl⟩ := List.mem_map.mp hb
    exact empty p hp
  have aOut : a ∉ cs.map (·.2) := by
    intro m
    have z := tabAt a m
    rw [script] at z
    exact absurd (congrArg Obj.data (Option.some.inj z)) (by intro y; cases y)
  obtain ⟨H, hH⟩ : ∃ H, H = hpG K a { cls := .type "list", data := .seq vs.toArray } ns (cs.map (·.2)) := ⟨_, rfl⟩
  have tabs : ∀ p ∈ cs, H p.2 = some (.tbl #[]) := fun p hp => by rw [hH]; exact hpG_tab (List.mem_map.mpr ⟨p, hp, rfl⟩)
  have cases_ : ∀ {b : Addr} {u : HO}, H b = some u → (b ∈ cs.map (·.2) ∧ u = .tbl #[]) ∨ (b ∉ cs.map (·.2) ∧ b = a ∧ K.lookup a = none ∧ u = .frz { cls := .type "list", data := .seq vs.toArray } (.lst (ns.map V.int))) := fun z => hpG_cases (hH ▸ z)
  have held : HOk P w H s.heap := by
    intro b u z
    rcases cases_ z with ⟨m, rfl⟩ | ⟨_, rfl, _, rfl⟩
    · exact tabAt b m
    · exact ⟨script, by rw [List.length_map]; exact short, vs, _, rel, script⟩
  have seq : SqL K H a (ns.map V.int) := by
    cases lk : K.lookup a with
    | none => exact .inl (.inr ⟨_, by rw [hH]; unfold hpG; rw [if_neg aOut, if_pos ⟨rfl, lk⟩]⟩)
    | some o =>
      have z := frag a o lk
      rw [script] at z
      cases z
      exact .inr ⟨_, vs.toArray, _, lk, rfl, rfl, rfl, by rw [List.size_toArray, intsOk.length]; exact short, rel⟩
  have free : ∀ {b : Addr} {o : Obj}, s.heap.get? b = some o → (∀ xs n, o.data ≠ .seq xs n) → o.data ≠ .fields #[] → H b = none := by
    intro b o there n1 n2
    cases z : H b with
    | none => rfl
    | some u =>
      rcases cases_ z with ⟨m, _⟩ | ⟨_, rfl, _⟩
      · rw [tabAt b m] at there; cases there; exact absurd rfl n2
      · rw [script] at there; cases there; exact absurd rfl (n1 _ _)
  have base : ∀ {b : Addr} {o : Obj}, s.heap.get? b = some o → (∀ xs n, o.data ≠ .seq xs n) → o.data ≠ .fields #[] → (hidT s.heap H).get? b = some o := fun there n1 n2 => hidT_get there (free there n1 n2)
  have ns_ : ∀ {b : Addr} {m : Str → Option Value}, s.heap.Ns b m → (hidT s.heap H).Ns b m := by
    rintro b m ⟨o, es, ep, there, dat, rest⟩
    exact ⟨o, es, ep, base there (fun _ _ z => by rw [dat] at z; cases z) (fun z => by rw [dat] at z; cases z), dat, rest⟩
  have fragB : K.In (hidT s.heap H) := by
    intro b o lk
    refine hidT_get (frag b o lk) ?_
    cases z : H b with
    | none => rfl
    | some u =>
      rcases cases_ z with ⟨m, _⟩ | ⟨_, rfl, nK, _⟩
      · obtain ⟨p, hp, rfl⟩ := List.mem_map.mp m
        rw [apart p hp] at lk; cases lk
      · rw [nK] at lk; cases lk
  have mod : L2.Mod K mg (hidT s.heap H) := ⟨fragB, ns_ top, ⟨mb, ns_ blt, bltIs⟩, by obtain ⟨mc, l1, l2⟩ := lim; exact ⟨mc, ns_ l1, l2⟩⟩
  have tb : ∀ p ∈ cs, LamX.TabB (hidT s.heap H) mg p.1 p.2 := by
    intro p hp
    have atP := empty p hp
    refine ⟨?_, ?_, ?_⟩
    · obtain ⟨o, us, file, tf, flags, tg, inF, text, tt, c1, c2, c3, rest⟩ := code p hp
      refine ⟨o, us, file, tf, flags, tg, inF, text, tt, base c1 (fun _ _ z => by rw [c3] at z; cases z) (fun z => ?_), c2, c3, rest⟩
      rw [c3] at z
      cases z
      exact absurd rest.1 (by simp)
    · obtain ⟨bm, ob, b1, b2, b3, b4, b5, b6⟩ := bmain
      refine ⟨bm, ob, b1, b2, ?_, ?_, base b3 (fun _ _ z => by rw [b6] at z; cases z) (fun z => by rw [b6] at z; cases z), b4, b5, b6⟩
      · rintro rfl
        obtain ⟨o, es, ep, there, dat, _⟩ := top
        rw [b3] at there; cases there
        rw [b6] at dat; cases dat
      · rintro rfl
        rw [atP] at b3; cases b3; cases b6
    · intro z
      obtain ⟨o, es, ep, there, dat, _⟩ := top
      rw [z, atP] at there; cases there; cases dat
  have env : Env0 P w K mg (hidT s.heap H) callerA [] s H := ⟨rfl, mod, fun b o z => of_hidT z, Nat.le_of_eq (hidT_size _ _), trivial, fun b z => (nomatch z), held, .of_eq gens⟩
  refine codeAny_mono ((F _ fragB (ns_ top) tb).go callerA [] s H ⟨[.ref a], []⟩ [.ref a] [.ref a] _ _ rfl room env (bnd s (.ref a)) (.cons rfl .nil) (wish H tabs seq)) ?_
  rintro (ex | fl) s2 post
  · exact (quiet H ex s2 post).elim
  cases fl with
  | ret u =>
    obtain ⟨v, H2, os, bare, un, held2, rv, is⟩ := post
    cases (show v = .bl true from is)
    cases (show u = Value.bool true from rv)
    have stays : ∀ b o, b ∉ cs.map (·.2) → s.heap.get? b = some o → s2.heap.get? b = some o := by
      intro b o out there
      cases z : H b with
      | none => exact un.keep b o there z (fun y => (nomatch y)) (fun y => (nomatch y))
      | some t =>
        rcases cases_ z with ⟨m, _⟩ | ⟨_, rfl, _, rfl⟩
        · exact absurd m out
        · have later := (held2 _ _ (un.frzs _ _ _ z)).1
          rw [script] at there
          cases there
          exact later
    have grown : ∀ p ∈ cs, ∃ more : Array Value, s2.heap.get? p.2 = some { cls := .none, data := .fields more } := by
      intro p hp
      obtain ⟨more, z⟩ := un.tbls p.2 #[] (tabs p hp)
      exact ⟨_, held2 p.2 _ z⟩
    refine ⟨rfl, ⟨fun b o there => ?_, fun b o there => ?_⟩, os, bare⟩
    · by_cases m : b ∈ cs.map (·.2)
      · obtain ⟨p, hp, rfl⟩ := List.mem_map.mp m
        obtain ⟨more, z⟩ := grown p hp
        rw [empty p hp] at there
        cases there
        refine .inr (.inl ⟨((code p hp).tab (empty p hp)).isCodeTable, rfl, #[], more, rfl, ?_⟩)
        rw [Array.empty_append]
        exact z
      · exact .inl (stays b o m there)
    · by_cases m : b ∈ cs.map (·.2)
      · obtain ⟨p, hp, rfl⟩ := List.mem_map.mp m
        exact (grown p hp).elim fun _ z => ⟨_, z⟩
      · exact ⟨o, stays b o m there⟩
  | _ => exact False.elim post
/-- the end of a law with lambdas in any of its defs, and a repr -/
theorem walk_tabsG {law : PySem.W.OpenLaw} {most lv : Nat} {prg : Program} {free : List Str} {XP : (Str → Option Value) → Heap → Prop} {YP : World → Heap → Prop} {rc : DefRec} {K : Params → PySem.W.Frag} {CX : World → CXT} {par : Str}
    (isMost : law.most = some most) (fits : most ≤ sizeLine) (noDef : rc.params.defaults = []) (room : Room lv callerA) (inK : ∀ (w : World) (h : Heap), YP w h → (K w.params).In h)
    (F : ∀ (w : World) (mg : Str → Option Value) (fa : Addr) (h : Heap), YP w h → (K w.params).In h → h.Ns mainGlobals mg → mg rc.name = some (.ref fa) → (∀ (y : Str) (f : Addr), ((recsOf prg).any fun e => e.name == y) = true → mg y = some (.ref f) → LamX.OwnTab (K w.params) f h) → LawAtG law w (K w.params) (CX w) lv most par mg fa h)
    (quiet : ∀ (w : World) (H : Hp) (s : Shared) (e : Value) (s1 : Shared), CX w [] H s (fun _ _ _ => False) e s1 → False) : PySem.W.WalkO prg free XP YP law.row.toRowW rc [] (fun f vs => PySem.call f vs) := by
  refine Att.attach_callB isMost noDef fun w sA sB mg mb fa o pm cd doc a vs ns G Y isO isF nm at_ script whole len bits gens => ?_
  have KX := inK w _ Y
  have tables : ∀ (y : Str) (f : Addr), ((recsOf prg).any fun e => e.name == y) = true → mg y = some (.ref f) → LamX.OwnTab (K w.params) f sB.heap := by
    intro y f isRec there c P o1 fd1 cl1 dd1 vs1 sl1 lkF dataF codeF lkC tab
    obtain ⟨e, mem, same⟩ := List.any_eq_true.mp isRec
    obtain ⟨f2, o2, fd2, c2, P2, atF, getF, funF, codF, _, ⟨⟨oc2, vc2, getC, _, datC, tabC⟩, empty⟩⟩ := G.T.tab e mem
    have e1 : f = f2 := by
      have z := there.symm.trans ((congrArg mg (beq_iff_eq.mp same)).symm.trans atF)
      injection z with z
      injection z
    have e2 : o1 = o2 := Option.some.inj ((KX _ _ lkF).symm.trans (e1 ▸ getF))
    have e3 : fd1 = fd2 := by
      have z := dataF.symm.trans (e2 ▸ funF)
      injection z
    have e4 : c = c2 := by
      have z := codeF.symm.trans (e3 ▸ codF)
      injection z
    have e5 : _ = oc2 := Option.some.inj ((KX _ _ lkC).symm.trans (e4 ▸ getC))
    have e6 : vs1 = vc2 := by
      have z : Data.fields vs1 = Data.fields vc2 := by rw [← datC, ← e5]
      injection z
    have e7 : P = P2 := by
      have z := tab.symm.trans (e6 ▸ tabC)
      injection z with z
      injection z
    exact e7 ▸ empty
  obtain ⟨fd, tabs, sp, tEmpty, tFree, tCode, bnd, start, runs⟩ := F w mg fa _ Y KX G.T.g at_ tables
  exact law_callG KX G.T.g G.T.b G.T.builtins G.T.nolimit gens tEmpty tFree tCode G.T.bmain script whole (Nat.le_trans len fits) room runs bnd (fun H e1 e2 => start H a ns len bits e1 e2) fun H e s1 => quiet w H sB e s1
theorem law_atG {l : PySem.W.OpenLaw} {w : World} {K : PySem.W.Frag} {k : Nat} {x : Str} {mg : Str → Option Value} {fa : Addr} {fd : FuncData} {h : Heap} (L : List (Addr × Addr × Str)) (nd : (L.map fun x => x.2.1).Nodup) (empty : ∀ p ∈ L, h.get? p.2.1 = some { cls := .none, data := .fields #[] }) (notK : ∀ p ∈ L, K.lookup p.2.1 = none) (code : ∀ p ∈ L, PySem.W.CodeHd h p.1 p.2.1)
    (b : ∀ (s : Shared) (u : Value), BindsTo s fd ⟨[u], []⟩ [(x, u)])
    (ok : ∀ base : Heap, @TabsOk (tabC L) base mg L → FnG l.prog w K mg base (L2.CX l.prog w) k fa fd [x] (@spLaw (tabC L) K)) :
    LawAtG l w K (L2.CX l.prog w) k 63 x mg fa h := by
  have bk : ∀ {p : Addr × Addr}, p ∈ (L.map fun x => (x.1, x.2.1)) → ∃ y ∈ L, (y.1, y.2.1) = p := fun hp => List.mem_map.mp hp
  refine ⟨fd, L.map fun x => (x.1, x.2.1), @spLaw (tabC L) K, fun p hp => ?_, fun p hp => ?_, fun p hp => ?_, b, fun H a ns hl hb ht hs => ?_, fun base _ _ hB => ?_⟩
  · obtain ⟨y, hy, rfl⟩ := bk hp; exact empty y hy
  · obtain ⟨y, hy, rfl⟩ := bk hp; exact notK y hy
  · obtain ⟨y, hy, rfl⟩ := bk hp; exact code y hy
  · refine ⟨a, ns, rfl, hs, fun p hp => ?_, hl, hb, fun _ => rfl⟩
    obtain ⟨y, hy, rfl⟩ := List.mem_map.mp (show p ∈ L.map fun x => (x.2.1, lamName x.2.2) from hp)
    exact LamX.TabS.nil (ht (y.1, y.2.1) (List.mem_map.mpr ⟨y, hy, rfl⟩))
  · exact ok base (@TabsOk.mk (tabC L) base mg L rfl (fun y hy => hB (y.1, y.2.1) (List.mem_map.mpr ⟨y, hy, rfl⟩)) nd)
theorem ok_lawG [T0 : TabC] (hm : ∀ n, TabC.m n = none) (hc : TabC.zb = fun _ => none) {P : Program} {w : World} {K : PySem.W.Frag} {mg : Str → Option Value} {base : Heap} {CX : CXT} {k : Nat} {f : Addr} {fd : FuncData} {ps : List Str} {G : GW} {F : FS} (hK : K = G.K) (FOk : FnG P w K mg base CX k f fd ps (spP G 1 F))
    (hF : ∀ ns : List Int, ns.length ≤ 63 → (∀ z ∈ ns, Builtin.Int.intBits z ≤ 1048576) → ∃ io, F [.frl (ns.map .int)] = .ok (.bl true) io) : FnG P w K mg base CX k f fd ps (spLaw K) :=
  FOk.imp fun vs H Q E ⟨a, ns, e, hs, ht, hl, hb, q⟩ => by
    subst e
    obtain ⟨io, hF⟩ := hF ns hl hb
    refine ⟨unt H, [.frl (ns.map .int)], unt_sub ht hm hc, .cons (.frl (by rw [← hK]; exact unt_seq hs) (fun n e => by rw [hm n] at e; cases e) .ints) .nil, rfl, ?_⟩
    rw [hF]
    intro v H' Z' _ r
    cases r
    exact q H'
end Ax
set_option Elab.async false
set_option linter.all false
set_option maxRecDepth 100000
set_option maxHeartbeats 400000
/-! AxTo: a list of two new lists, asked about, then both changed: x = [f(..), g(..)]; if ..: return ..; x[0].append(c); x[1].append(c). -/
namespace Ax
open PySem PySem.Spec L2
/-- all owned lists hold integers -/
def intsE (e : En) : Prop := ∀ (j : Nat) (m : Bool) (o : OV), e[j]? = some (.own m o) → ∃ ns : List Int, o = .lst (ns.map .int)
open Classical in
noncomputable def toldS (i : Nat) (xs ys : List D) (ft : SB) (g : SS) (e2 : En) : OS :=
  if xs.length < sizeLine ∧ ys.length < sizeLine ∧ i < e2.length ∧ intsE e2 then (match ft (e2.set i (.sh (.lst [.lst xs, .lst ys]))) with
    | .ok false e3 => if e3 = e2.set i (.sh (.lst [.lst xs, .lst ys])) then g (e2.set i .un) else .bad
    | _ => .bad) else .bad
noncomputable def sTold (i : Nat) (f1 f2 : En → O OV) (ft : SB) (g : SS) : SS := fun env => match f1 env with
  | .ok (.lst xs) e1 => (match f2 e1 with
    | .ok (.lst ys) e2 => toldS i xs ys ft g e2
    | _ => .bad)
  | _ => .bad
/-- a value ahead of it, in one assignment -/
noncomputable def sToldP (j i : Nat) (f0 : SE) (f1 f2 : En → O OV) (ft : SB) (g : SS) : SS := fun env => match f0 env with
  | .ok d e0 => (match f1 e0 with
    | .ok (.lst xs) e1 => (match f2 e1 with
      | .ok (.lst ys) e2 => toldS i xs ys ft g (e2.set j (.sh d))
      | _ => .bad)
    | _ => .bad)
  | _ => .bad
variable [T0 : TabC]
theorem repo_ints {G : GW} {Z Z2 : Hp} {ho : HO} {ns : List Int} (r : RepO G Z ho (.lst (ns.map .int))) : RepO G Z2 ho (.lst (ns.map .int)) := by
  cases r with
  | lst r =>
    have key : ∀ {vs : List V} {ns : List Int}, Reps G Z vs (ns.map .int) → Reps G Z2 vs (ns.map .int) := by
      intro vs ns
      induction ns generalizing vs with
      | nil => intro r; cases r; exact .nil
      | cons n ns ih =>
        intro r
        cases r with
        | cons h r => cases h; exact .cons (.int n) (ih r)
    exact .lst (key r)
section
variable {G : GW} {io : Option Addr} {Z2 H2 Z4 H4 : Hp} {e : En} {σ : St} {i : Nat} {p q : Addr} {v w : V} {vs us : List V} {d : D}
/-- behind the changes: what was known ahead of the list's making -/
theorem Gd.told (g2 : Gd G io Z2 H2 e σ) (pl : intsE e) (sm : Same Z2 Z4) (g4 : Gd G io Z4 H4 (e.set i (.sh d)) (σ.set i (some v))) (zp : Z2 p = none) (zq : Z2 q = none) (z4p : Z4 p = some (.lst vs)) (z4q : Z4 q = some (.lst us)) :
    Gd G io Z2 (upd (upd H4 p (.lst (vs ++ [w]))) q (.lst (us ++ [w]))) (e.set i .un) (σ.set i (some v)) := by
  have gu := g4.setUn (i := i) (v := some v)
  rw [List.set_set, List.set_set] at gu
  have off : ∀ {b : Addr}, b ≠ p → b ≠ q → upd (upd H4 p (.lst (vs ++ [w]))) q (.lst (us ++ [w])) b = H4 b := fun n1 n2 => by rw [upd_ne n2, upd_ne n1]
  have ne : ∀ {b : Addr} {o : HO}, Z2 b = some o → b ≠ p ∧ b ≠ q := fun {b o} h => ⟨(by rintro rfl; rw [zp] at h; cases h), (by rintro rfl; rw [zq] at h; cases h)⟩
  have at4 : ∀ {b : Addr} {o : HO}, Z4 b = some o → H4 b = some o := fun h => g4.sub.s _ _ h
  refine ⟨⟨fun b o h => ?_, g2.sub.ml, g2.sub.nt, ?_⟩, gu.len, fun j x h => ?_, fun j m o h => ?_, gu.dis, gu.fx⟩
  · obtain ⟨n1, n2⟩ := ne h
    rw [off n1 n2]
    exact at4 (sm _ _ h)
  · refine tb_poke (tb_poke g4.sub.tb fun o h => ?_) fun o h => ?_
    · rw [at4 z4p] at h; cases h; exact .inl ⟨_, rfl⟩
    · by_cases e0 : q = p
      · subst e0; rw [upd_same] at h; cases h; exact .inl ⟨_, rfl⟩
      · rw [upd_ne e0, at4 z4q] at h; cases h; exact .inl ⟨_, rfl⟩
  · have ni : i ≠ j := by
      rintro rfl
      by_cases hl : i < e.length
      · rw [get_set hl] at h; cases h
      · rw [List.getElem?_eq_none (by rw [List.length_set]; omega)] at h; cases h
    rw [get_set_ne ni] at h
    obtain ⟨u, h1, h2⟩ := g2.sh j x h
    exact ⟨u, by rw [List.getElem?_set_ne ni]; exact h1, h2⟩
  · obtain ⟨a, ho, h1, h2, h3, h4, h5⟩ := gu.own j m o h
    have h' : e[j]? = some (.own m o) := by
      by_cases ni : i = j
      · subst ni
        by_cases hl : i < e.length
        · rw [get_set hl] at h; cases h
        · rw [List.getElem?_eq_none (by rw [List.length_set]; omega)] at h; cases h
      · rw [get_set_ne ni] at h; exact h
    obtain ⟨ns, rfl⟩ := pl j m o h'
    refine ⟨a, ho, h1, ?_, ?_, repo_ints h4, h5⟩
    · cases z : Z2 a with
      | none => rfl
      | some o => rw [sm _ _ z] at h2; cases h2
    · rw [off (by rintro rfl; rw [z4p] at h2; cases h2) (by rintro rfl; rw [z4q] at h2; cases h2)]
      exact h3
end
section
variable {X : Cx} {C : Kx} {s1 s2 s3 s4 : Stmt} {rest : List Stmt} {f1 f2 : En → O OV} {ft : SB} {g : SS} {i : Nat} {x : Str} {a0 a1 : Expr} {cnd : Expr} {bd : List Stmt} {pos : Pos} {K : PySem.W.Frag} {late : V}
theorem pss_off {ss : List Stmt} : PSs X ss (fun _ _ _ => False) := ⟨fun pins s σ H D I h => h.elim⟩
abbrev tApp (K : PySem.W.Frag) (i : Nat) (n : Int) (c : V) : TS := tDrop (tBM K "list" rAppend (tOp (rIxL K) (tVar i) (tC (.int n))) (tCons (tC c) tNil))
theorem told_keep {Z1 H1 Z2 H2 : Hp} {e1 e2 : En} {σ : L2.St} {p q : Addr} {ho2 : HO} {vs : List V} (t2 : Tr Z1 H1 e1 σ Z2 H2 e2 σ) (hp : H1 p = some (.lst vs)) (no1 : ¬ Own e1 σ p) (zp : Z1 p = none) (n2 : H1 q = none) (hq : H2 q = some ho2) : H2 p = some (.lst vs) ∧ Z2 p = none ∧ ¬ Own e2 σ p ∧ p ≠ q := by
  refine ⟨t2.keep _ _ hp no1 (fun _ z => nomatch z), ?_, fun z => ?_, by rintro rfl; rw [hp] at n2; cases n2⟩
  · cases z : Z2 p with
    | none => rfl
    | some o =>
      rcases t2.nw _ _ z with y | y | y
      · rw [zp] at y; cases y
      · rw [hp] at y; cases y
      · exact absurd y no1
  · rcases t2.own _ z with y | y
    · exact no1 y
    · rw [hp] at y; cases y
theorem told_core {Dn : Ends} {σ0 σ : L2.St} {Z H Z2 H2 : Hp} {env e2 : En} {p q : Addr} {vs us : List V} {xs ys : List D} (t : Tr Z H env σ0 Z2 H2 e2 σ) (g2 : Gd C.G C.io Z2 H2 e2 σ) (np : H p = none) (nq : H q = none) (hp2 : H2 p = some (.lst vs)) (hq : H2 q = some (.lst us)) (zp2 : Z2 p = none) (zq : Z2 q = none) (nop : ¬ Own e2 σ p) (no2 : ¬ Own e2 σ q) (pq : p ≠ q)
    (r1 : Reps C.G Z2 vs xs) (r2 : Reps C.G Z2 us ys) (w0 : WishS C Dn σ0 Z H env (toldS i xs ys ft g e2)) (r : Addr) (nr : H2 r = none) :
    tSeq (tIfS (tBo C ft) (fun _ _ _ => False) tNext) (tSeq (tApp X.K i 0 late) (tSeq (tApp X.K i 1 late) (tS C g))) Dn (σ.set i (some (.ref r))) (upd H2 r (.lst [.ref p, .ref q])) := by
  unfold toldS at w0
  split at w0
  rotate_left
  · exact w0.elim
  rename_i sizes
  obtain ⟨sx, sy, inside, pl⟩ := sizes
  have rp : r ≠ p := by rintro rfl; rw [hp2] at nr; cases nr
  have rq : r ≠ q := by rintro rfl; rw [hq] at nr; cases nr
  -- what is frozen while the question is asked
  have ga := g2.fix zp2 nop hp2 (fun _ z => nomatch z)
  have zq' : upd Z2 p (.lst vs) q = none := by rw [upd_ne pq.symm]; exact zq
  have gb := ga.fix zq' no2 hq (fun _ z => nomatch z)
  have zr : upd (upd Z2 p (.lst vs)) q (.lst us) r = none := by
    rw [upd_ne rq, upd_ne rp]
    exact g2.sub.free nr
  have sma : Same Z2 (upd Z2 p (.lst vs)) := same_upd zp2
  have smb : Same (upd Z2 p (.lst vs)) (upd (upd Z2 p (.lst vs)) q (.lst us)) := same_upd zq'
  obtain ⟨Z3, e3⟩ : ∃ Z3, Z3 = upd (upd (upd Z2 p (.lst vs)) q (.lst us)) r (.lst [.ref p, .ref q]) := ⟨_, rfl⟩
  have smc : Same (upd (upd Z2 p (.lst vs)) q (.lst us)) Z3 := by rw [e3]; exact same_upd zr
  have sm3 : Same Z2 Z3 := (sma.trans smb).trans smc
  have z3p : Z3 p = some (.lst vs) := smc _ _ (smb _ _ upd_same)
  have z3q : Z3 q = some (.lst us) := smc _ _ upd_same
  have z3r : Z3 r = some (.lst [.ref p, .ref q]) := by rw [e3]; exact upd_same
  have st : Step (upd (upd Z2 p (.lst vs)) q (.lst us)) H2 Z3 (upd H2 r (.lst [.ref p, .ref q])) := by
    rw [e3]
    refine ⟨⟨fun b o h _ => same_upd nr b o h, fun b h => ?_⟩, same_upd zr, fun b o h => ?_, ⟨same_upd2 gb.sub.s, ⟨fun n b h => ?_, fun b o h => same_upd zr b o (gb.sub.ml.2 b o h)⟩, nt_upd' gb.sub.nt (fun _ z => nomatch z), tb_upd gb.sub.tb nr⟩⟩
    · by_cases y : b = r
      · subst y; exact nr
      · rw [upd_ne y] at h; exact h
    · by_cases y : b = r
      · subst y; exact .inr nr
      · rw [upd_ne y] at h; exact .inl h
    · obtain ⟨xs, h1⟩ := gb.sub.ml.1 n b h
      exact ⟨xs, same_upd zr b _ h1⟩
  have gc := gb.step st
  have unp : Unm p := g2.sub.un zp2
  have unq : Unm q := g2.sub.un zq
  have unr : Unm r := g2.sub.un (g2.sub.free nr)
  have told : Rep C.G Z3 (.ref r) (.lst [.lst xs, .lst ys]) := .lst z3r unr (.cons (.lst z3p unp (r1.mono sm3)) (.cons (.lst z3q unq (r2.mono sm3)) .nil))
  have gd := gc.setSh (i := i) told
  refine ⟨Z3, _, gd, ?_⟩
  revert w0
  cases ft (e2.set i (.sh (.lst [.lst xs, .lst ys]))) with
  | bad => exact fun w => w.elim
  | ex c p e => exact fun w => w.elim
  | ok b eb =>
  cases b with
  | true => exact fun w => w.elim
  | false =>
  dsimp only
  intro w0
  split at w0
  rotate_left
  · exact w0.elim
  rename_i same
  subst same
  intro bv H4 Z4 t4 g4 eq
  have eq' : bv = false := eq
  subst eq'
  show (if false = true then _ else _)
  rw [if_neg (Bool.false_ne_true)]
  have z4p := t4.fz _ _ z3p
  have z4q := t4.fz _ _ z3q
  have h4r := g4.sub.s _ _ (t4.fz _ _ z3r)
  have h4p := g4.sub.s _ _ z4p
  have h4q := g4.sub.s _ _ z4q
  have il : (σ.set i (some (V.ref r)))[i]? = some (some (V.ref r)) := List.getElem?_set_self (by rw [g2.len]; exact inside)
  have h5q : upd H4 p (.lst (vs ++ [late])) q = some (.lst us) := by rw [upd_ne pq.symm]; exact h4q
  have h5r : upd H4 p (.lst (vs ++ [late])) r = some (.lst [.ref p, .ref q]) := by rw [upd_ne rp]; exact h4r
  have lx : vs.length < sizeLine := by rw [r1.length]; exact sx
  have ly : us.length < sizeLine := by rw [r2.length]; exact sy
  refine ⟨.ref r, il, r, [.ref p, .ref q], 0, .ref p, rfl, rfl, .inl (.inl h4r), rfl, .inl ⟨rfl, _, .inl (.inl h4p)⟩, p, vs, late, rfl, rfl, h4p, lx, ?_⟩
  refine ⟨.ref r, il, r, [.ref p, .ref q], 1, .ref q, rfl, rfl, .inl (.inl h5r), rfl, .inl ⟨rfl, _, .inl (.inl h5q)⟩, q, us, late, rfl, rfl, h5q, ly, ?_⟩
  refine ⟨Z2, e2.set i .un, Gd.told g2 pl (sm3.trans t4.fz) g4 zp2 zq z4p z4q, WishS.shift ⟨t.fz, fun b o h no nt => ?_, t.nw, fun b z => t.own _ (own_setUn z), fun b z => ?_⟩ w0⟩
  · have k2 := t.keep _ _ h no nt
    have nb : b ≠ p := by rintro rfl; rw [np] at h; cases h
    have nb2 : b ≠ q := by rintro rfl; rw [nq] at h; cases h
    rw [upd_ne nb2, upd_ne nb]
    refine t4.keep _ _ (same_upd nr _ _ k2) (fun z => ?_) nt
    rcases t.own _ (own_setSh z) with y | y
    · exact no y
    · rw [h] at y; cases y
  · by_cases e1 : b = q
    · subst e1; rw [upd_same] at z; cases z
    · rw [upd_ne e1] at z
      by_cases e2 : b = p
      · subst e2; rw [upd_same] at z; cases z
      · rw [upd_ne e2] at z
        have y := t4.dom _ z
        by_cases e3 : b = r
        · subst e3; exact t.dom _ nr
        · rw [upd_ne e3] at y; exact t.dom _ y
theorem qs_told (h1 : PS X s1 (tAsg (tLst (tCons (tO C f1) (tCons (tO C f2) tNil))) (gName i))) (hc : PT X cnd (tBo C ft)) (h3 : PS X s3 (tApp X.K i 0 late)) (h4 : PS X s4 (tApp X.K i 1 late)) (h5 : PSs X rest (tS C g)) :
    PSs X (s1 :: .If cnd bd [] pos :: s3 :: s4 :: rest) (tS C (sTold i f1 f2 ft g)) := by
  refine PSs.imp (pss_cons h1 (pss_cons (ps_if hc pss_off pss_nil) (pss_cons h3 (pss_cons h4 h5)))) fun Dn σ H ⟨Z, env, g0, w0⟩ => ?_
  unfold sTold at w0
  refine ⟨Z, env, g0, ?_⟩
  revert w0
  cases f1 env with
  | bad => exact fun w => w.elim
  | ex c p e => exact fun w => w.elim
  | ok o1 e1 =>
  cases o1 with
  | ins _ _ => exact fun w => w.elim
  | dt _ _ => exact fun w => w.elim
  | dk _ _ => exact fun w => w.elim
  | lst xs =>
  dsimp only
  intro w0 p ho1 H1 Z1 t1 g1 n1 no1 zp hp r1
  cases r1 with
  | @lst vs _ r1 =>
  refine ⟨Z1, e1, g1, ?_⟩
  revert w0
  cases f2 e1 with
  | bad => exact fun w => w.elim
  | ex c p e => exact fun w => w.elim
  | ok o2 e2 =>
  cases o2 with
  | ins _ _ => exact fun w => w.elim
  | dt _ _ => exact fun w => w.elim
  | dk _ _ => exact fun w => w.elim
  | lst ys =>
  dsimp only
  intro w0 q ho2 H2 Z2 t2 g2 n2 no2 zq hq r2
  cases r2 with
  | @lst us _ r2 =>
  obtain ⟨hp2, zp2, nop, pq⟩ := told_keep t2 hp no1 zp n2 hq
  exact ⟨(by decide : 2 ≤ sizeLine), fun r nr => told_core (t1.trans t2) g2 n1 (t1.dom _ n2) hp2 hq zp2 zq nop no2 pq (r1.mono t2.fz) r2 w0 r nr⟩
theorem qs_toldP {j : Nat} {f0 : SE} (ij : j ≠ i) (h1 : PS X s1 (tPar j i (tCons (tE C f0) (tCons (tLst (tCons (tO C f1) (tCons (tO C f2) tNil))) tNil)))) (hc : PT X cnd (tBo C ft)) (h3 : PS X s3 (tApp X.K i 0 late)) (h4 : PS X s4 (tApp X.K i 1 late)) (h5 : PSs X rest (tS C g)) :
    PSs X (s1 :: .If cnd bd [] pos :: s3 :: s4 :: rest) (tS C (sToldP j i f0 f1 f2 ft g)) := by
  refine PSs.imp (pss_cons h1 (pss_cons (ps_if hc pss_off pss_nil) (pss_cons h3 (pss_cons h4 h5)))) fun Dn σ H ⟨Z, env, g0, w0⟩ => ?_
  unfold sToldP at w0
  refine ⟨Z, env, g0, ?_⟩
  revert w0
  cases f0 env with
  | bad => exact fun w => w.elim
  | ex c p e => exact fun w => w.elim
  | ok d e0 =>
  dsimp only
  intro w0 v0 H0 Z0 t0 ga ra
  refine ⟨Z0, e0, ga, ?_⟩
  revert w0
  cases f1 e0 with
  | bad => exact fun w => w.elim
  | ex c p e => exact fun w => w.elim
  | ok o1 e1 =>
  cases o1 with
  | ins _ _ => exact fun w => w.elim
  | dt _ _ => exact fun w => w.elim
  | dk _ _ => exact fun w => w.elim
  | lst xs =>
  dsimp only
  intro w0 p ho1 H1 Z1 t1 g1 n1 no1 zp hp r1
  cases r1 with
  | @lst vs _ r1 =>
  refine ⟨Z1, e1, g1, ?_⟩
  revert w0
  cases f2 e1 with
  | bad => exact fun w => w.elim
  | ex c p e => exact fun w => w.elim
  | ok o2 e2 =>
  cases o2 with
  | ins _ _ => exact fun w => w.elim
  | dt _ _ => exact fun w => w.elim
  | dk _ _ => exact fun w => w.elim
  | lst ys =>
  dsimp only
  intro w0 q ho2 H2 Z2 t2 g2 n2 no2 zq hq r2
  cases r2 with
  | @lst us _ r2 =>
  obtain ⟨hp2, zp2, nop, pq⟩ := told_keep t2 hp no1 zp n2 hq
  have gs := g2.setSh (i := j) (ra.mono (t1.fz.trans t2.fz))
  refine ⟨(by decide : 2 ≤ sizeLine), fun r nr => ⟨v0, .ref r, rfl, ?_⟩⟩
  exact told_core (((t0.trans t1).trans t2).trans .setSh) gs (t0.dom _ n1) (t0.dom _ (t1.dom _ n2)) hp2 hq zp2 zq (fun z => nop (own_setSh z)) (fun z => no2 (own_setSh z)) pq (r1.mono t2.fz) r2 w0 r nr
end
end Ax
set_option Elab.async false
set_option linter.all false
set_option maxRecDepth 100000
set_option maxHeartbeats 400000
/-! AxMi: min(.., default=None) of a list of numbers. -/
namespace Ax
open PySem PySem.Spec PyProof PyProof.Rows L2
def minDefD : List D → Option D
  | [.lst xs] => (D.ints xs).map fun ns => match ns with | m :: r => .int (minI m r) | [] => .non
  | _ => none
theorem minI_fold : ∀ (r : List Int) (m : Int), minI m r = r.foldl min m
  | [], m => rfl
  | n :: r, m => by
    rw [List.foldl_cons, minI, minI_fold r]
    congr 1
    by_cases h : n < m
    · rw [if_pos h]; omega
    · rw [if_neg h]; omega
theorem alike_ints (ns : List Int) : PySem.W.AlikeAll (ns.map PyData.int) := by
  refine ⟨fun x hx y hy => ?_, fun x hx => ?_⟩
  · obtain ⟨a, _, rfl⟩ := List.mem_map.mp hx
    obtain ⟨b, _, rfl⟩ := (List.mem_map.mp hy)
    rfl
  · obtain ⟨a, _, rfl⟩ := List.mem_map.mp hx
    intro z; cases z
theorem deep_ints : ∀ ns : List Int, PyData.depthAll (ns.map PyData.int) ≤ 1
  | [] => by decide
  | n :: r => by
    have := deep_ints r
    rw [List.map_cons]
    simp only [PyData.depthAll, PyData.depth]
    omega
theorem reads_ints {h : Heap} : ∀ {ns : List Int} {us : List Value}, Vals (ns.map V.int) us → ∃ as, ReadsAll h us (ns.map PyData.int) as
  | [], _, r => by cases r; exact ⟨_, .nil⟩
  | n :: r, _, v => by
    cases v with
    | cons a b =>
      obtain ⟨t, rfl⟩ := a
      obtain ⟨as, q⟩ := reads_ints b
      exact ⟨_, .cons (.int n t) q⟩
section
variable [T0 : TabC] {X : Cx} {C : Kx} {e : Expr} {fe : SE} {x : Str} {p pos : Pos} {kws : List Keyword}
theorem vals_of_ints {G : GW} {Z : Hp} : ∀ {xs : List D} {vs : List V} {ns : List Int}, Reps G Z vs xs → D.ints xs = some ns → vs = ns.map V.int
  | xs, vs, ns, r, h => ints_reps r h
theorem cb_minDef {k : Nat} (hr : Room k X.A) : CallRK X (.builtin "min") ["default"] (fun xs zs H Q => zs = [.non] ∧ rCD C.G minDefD xs H Q) := by
  intro pins s σ H xs zs us ws Q I rx rz ⟨e0, Z, ds, d, sub, rs, e, q⟩
  subst e0
  obtain ⟨w0, rfl, rw0⟩ := vals1 rz
  cases (show w0 = Value.none from rw0)
  unfold minDefD at e
  split at e
  rotate_left
  · cases e
  rename_i ys
  obtain ⟨ns, hn, rfl⟩ := Option.map_eq_some_iff.mp e
  obtain ⟨v, rfl, r1⟩ := reps1 rs
  obtain ⟨u, rfl, ru⟩ := vals1 rx
  cases r1 with
  | @lst a vs _ at_ um r2 =>
  cases (show u = Value.ref _ from ru)
  obtain ⟨_, its, cap, vals, getA⟩ := I.hok _ _ (sub.s _ _ at_)
  have ev := vals_of_ints r2 hn
  subst ev
  obtain ⟨as, rd⟩ := reads_ints (h := s.heap) vals
  show wpAny _ _ (call (.builtin "min") [.ref a] [(Str.ofString "default", .none)]) _ _ s
  refine PySem.W.min_list_default hr.hd ⟨_, getA, rfl, cap, rfl⟩ rd (alike_ints ns) ?_ (fun z h' tk kept => ?_) (fun y yr i v h' tk bs z _ r kept => ?_)
  · have := hr.units
    have := deep_ints ns
    omega
  · have z' : ns = [] := List.map_eq_nil_iff.mp z
    subst z'
    exact ⟨.non, H, I.kept kept, rfl, q _ _ _ (.refl sub) .non⟩
  · cases ns with
    | nil => cases z
    | cons m ms =>
      obtain ⟨rfl, rfl⟩ : PyData.int m = y ∧ ms.map PyData.int = yr := by rw [List.map_cons] at z; exact List.cons.inj z |>.imp id id
      rw [PySem.W.minD_ints, ← minI_fold] at r
      cases r with
      | int _ t => exact ⟨.int (minI m ms), H, I.kept kept, ⟨t, rfl⟩, q _ _ _ (.refl sub) (.int _)⟩
theorem pd_minDef {fl : SL} {k : Nat} {np nk : Pos} {j : Nat} (hr : Room k X.A) (hg : Gl X "min") (hm : X.mg "min" = none) (ha : PA X [e] (tL C fl))
    (one : backTo pos (starEach [e] X.env) =
      (false, eval e X.env) :: backTo pos (starEach [] X.env) := by rfl)
    (none_ : (backTo pos (starEach [e] X.env)).any (·.1) = false
      := by rfl) :
    PE X (.Call (.Name "min" p) [e] [⟨"default", .Constant .none j np, nk⟩] pos) (tE C (sB minDefD fl)) :=
  PE.imp (pe_callBK (cb_minDef (C := C) hr) hg hm (by decide +kernel) ha (kw_k (fa := sC .non) pd_non kw_n) (by decide) (by decide) one none_) fun σ H Q ⟨Z, env, g, q⟩ => by
    refine ⟨Z, env, g, (Wish.bind (S := Reps C.G) q).mono fun vs H1 ⟨Z1, ds, e1, t1, g1, r1, w1⟩ => ?_⟩
    unfold O.of at w1
    split at w1
    rotate_left
    · exact w1.elim
    rename_i d hd
    refine ⟨Z1, e1, g1, ?_⟩
    intro zs H2 Z2 t2 g2 r2
    cases r2 with
    | cons h r3 =>
      cases h
      cases r3
      exact ⟨rfl, Z2, ds, d, g2.sub, r1.mono t2.fz, hd, fun v H' Z' s r => w1.shift t2 |>.ret g2 s r⟩
end
end Ax
set_option Elab.async false
set_option linter.all false
set_option maxRecDepth 100000
set_option maxHeartbeats 400000
/-! AxLx: a def that a slot holds, called, that may raise. -/
namespace Ax
open PySem PySem.Spec PyProof PyProof.Rows L2
def sCallLX (i j : Nat) (n : Nat) (F : FS) (fl : SL) : SE := fun env => match env[i]? with
  | some (SV.sh (D.fn a)) => if a = j then sCall n F fl env else .bad
  | _ => .bad
section
variable [T0 : TabC] {X : Cx} {C : Kx} {e : Expr} {es : List Expr} {fl : SL} {p pos : Pos} {x : Str} {k n : Nat} {f : Addr} {fd : FuncData} {ps : List Str} {F : FS} {CX : CXT} {sp : Sp}
theorem pe_callLX {E : L2.St → XK} {t : TA} {i : Nat} (FO : FnOk X.prog X.w X.K X.mg X.base CX k f fd ps sp) (hr : Room k X.A) (hN : X.N[i]? = some x) (hv : Vis X.env.scope x) (hk : PySem.W.keepIn X.K (.ref f) = true) (hb : Binds X.K fd ps []) (pass : ∀ σ, PassesAt CX X σ (E σ)) (ha : PA X (e :: es) t)
    (d1 : (x == ("__classdict__" : Str)) = false := by decide) (d2 : (x == ("__debug__" : Str)) = false := by decide)
    (he : starEach (e :: es) X.env =
      (false, eval e X.env) :: starEach es X.env := by rfl)
    (hpl : (backTo pos (starEach es X.env)).any (·.1) = false
      := by rfl) :
    PE X (.Call (.Name x p) (e :: es) [] pos) (fun σ H Q => σ[i]? = some (some (.ref f)) ∧ t σ H fun vs H1 => sp vs H1 Q (E σ)) := by
  refine ⟨fun pins s σ H Q I ⟨hs, ht⟩ => ?_⟩
  have nm := (pe_var (pos := p) hN hv d2 d1).run pins s σ H (fun v H1 => v = .ref f ∧ H1 = H) I ⟨.ref f, hs, rfl, rfl⟩
  refine wpAny_Call_Name_kw (thn nm ?_)
  rintro u s1 ⟨v, H1, J, r1, rfl, rfl⟩
  cases r1
  refine PySem.W.callWith_K (h₀ := X.base) J.ok.mod.kin hk (thn (ha.run pos pins s1 σ _ _ J ht) ?_) he hpl
  rintro us s2 ⟨vs, H2, J2, r, q⟩
  exact ⟨J2.kIn, run_fnS FO hr hb (pass σ) J2 r q⟩
theorem pd_callLX {i j : Nat} (hf : C.G.fns j = f) (FOk : FnOk X.prog X.w X.K X.mg X.base (L2.CX X.prog X.w) k f fd ps (spP C.G n F)) (tk : Takes X C.W) (hr : Room k X.A) (hN : X.N[i]? = some x) (hv : Vis X.env.scope x) (hk : PySem.W.keepIn X.K (.ref f) = true) (hb : Binds X.K fd ps []) (ha : PA X (e :: es) (tL C fl))
    (d1 : (x == ("__classdict__" : Str)) = false := by decide) (d2 : (x == ("__debug__" : Str)) = false := by decide)
    (he : starEach (e :: es) X.env =
      (false, eval e X.env) :: starEach es X.env := by rfl)
    (hpl : (backTo pos (starEach es X.env)).any (·.1) = false
      := by rfl) : PE X (.Call (.Name x p) (e :: es) [] pos) (tE C (sCallLX i j n F fl)) :=
  PE.imp (pe_callLX (i := i) FOk hr hN hv hk hb (fun σ => passAt tk σ) ha d1 d2 he hpl) fun σ H Q ⟨Z, env, g, q⟩ => by
    unfold sCallLX at q
    split at q
    rotate_left
    · exact q.elim
    rename_i a at_
    split at q
    rotate_left
    · exact q.elim
    rename_i same
    subst same
    obtain ⟨v, h1, h2⟩ := g.sh i _ at_
    cases h2
    rw [hf] at h1
    exact ⟨h1, call_imp ⟨Z, env, g, q⟩⟩
end
end Ax
set_option Elab.async false
set_option linter.all false
set_option maxRecDepth 100000
set_option maxHeartbeats 400000
/-! AxRv: a def that hands back a list of its own, kept in a variable. -/
namespace Ax
open PySem PySem.Spec PyProof PyProof.Rows L2
def runOV (N i : Nat) (f : SS) : FO := fun ds => match f (env0 N ds) with
  | .nx e => (match e[i]? with
    | some (.own false o) => some o
    | _ => none)
  | _ => none
theorem runOV_of {N i : Nat} {f : SS} {ds : List D} {P : OV → Prop} (h : WS (f (env0 N ds)) (fun e => ∃ o, e[i]? = some (.own false o) ∧ P o) (fun _ _ => False) (fun _ _ => False)) : ∃ o, runOV N i f ds = some o ∧ P o := by
  unfold runOV
  rcases h.cases with ⟨e, q, o, h1, h2⟩ | ⟨d, e, q, h⟩ | ⟨o, e, q, h⟩
  · rw [q]; simp only [h1]; exact ⟨o, rfl, h2⟩
  · exact h.elim
  · exact h.elim
variable [T0 : TabC]
/-- statements, then the return of an owned slot -/
def tSO (C : Kx) (f : SS) (i : Nat) : TS := fun Dn σ H => ∃ Z env, Gd C.G C.io Z H env σ ∧ (match f env with
  | .nx e => ∃ o, e[i]? = some (.own false o) ∧ ∀ σ' H' Z' p, Tr Z H env σ Z' H' e σ' → Gd C.G C.io Z' H' e σ' → σ'[i]? = some (some (.ref p)) → Dn.rt (.ref p) H'
  | _ => False)
section
variable {X : Cx} {C : Kx} {st : Stmt} {rest : List Stmt} {f g : SS} {i : Nat} {e : Expr} {pos : Pos}
theorem qo_ret (h : PE X e (tVar i)) : PSs X [.Return (some e) pos] (tSO C sNop i) := PSs.imp (pss_one (ps_ret h)) fun Dn σ H ⟨Z, env, g0, w⟩ => by
  obtain ⟨o, at_, w⟩ := (show ∃ o, env[i]? = some (.own false o) ∧ _ from w)
  obtain ⟨p, ho, sl, _⟩ := g0.own i false o at_
  exact ⟨.ref p, sl, w σ H Z p .refl g0 sl⟩
theorem qo_k (h1 : PS X st (tS C f)) (h2 : PSs X rest (tSO C g i)) : PSs X (st :: rest) (tSO C (sSeq f g) i) := PSs.imp (pss_cons h1 h2) fun Dn σ H ⟨Z, env, g0, w⟩ => by
  refine ⟨Z, env, g0, ?_⟩
  unfold sSeq at w
  revert w
  cases f env with
  | nx e1 =>
    dsimp only
    intro w σ1 H1 Z1 t1 g1
    refine ⟨Z1, e1, g1, ?_⟩
    revert w
    cases g e1 with
    | nx e2 =>
      rintro ⟨o, at_, w⟩
      exact ⟨o, at_, fun σ2 H2 Z2 p t2 g2 sl => w σ2 H2 Z2 p (t1.trans t2) g2 sl⟩
    | _ => exact fun w => w.elim
  | _ => exact fun w => False.elim w
end
section
variable {P : Program} {w : World} {K : PySem.W.Frag} {mg : Str → Option Value} {base : Heap}
theorem ok_fnOV {G : GW} {x qual : Str} {st : Stmt} {f : Addr} {fd : FuncData} {N ps : List Str} {k i : Nat} {sf : SS} (F : Fun K x qual st f fd) (S : FnScope N ps (defScope st))
    (hbody : ∀ (cdv : Value) (A : Around) (outer : List Env) (s : Shared) (H : Hp) (E : XK), Room k (A.deeper (PyProof.Rows.envOfC qual (defScope st) s.heap.objs.size f cdv)) →
      PSs (cxOf (L2.CX P w) P w K mg base N qual (defScope st) f cdv A outer s H E) (defBody st) (tSO (kxP G E) sf i)) : FnOk P w K mg base (L2.CX P w) (k + 1) f fd ps (spO G ps.length (runOV N.length i sf)) := by
  refine F.okX S (fun vs H Q E ⟨Z, ds, o, s, r, n, _⟩ => by rw [r.length]; exact n) fun cdv A outer s H vs Q E hr ⟨Z, ds, o, sub, r, n, hF, h⟩ => ⟨_, hbody cdv A outer s H E hr, Z, _, env0_gd sub r, ?_⟩
  unfold runOV at hF
  revert hF
  cases sf (env0 N.length ds) with
  | nx e =>
    dsimp only
    intro hF
    split at hF
    · rename_i o2 at_
      cases hF
      refine ⟨o, at_, fun σ' H' Z' p t g sl => ?_⟩
      obtain ⟨q, ho, s2, z, hq, rq, _⟩ := g.own i false o at_
      rw [sl] at s2
      cases s2
      refine h p ho H' Z' (step_of t g) ?_ z hq rq
      rcases t.own p ⟨i, false, o, at_, sl⟩ with y | y
      · exact (env0_own y).elim
      · exact y
    · cases hF
  | _ => intro hF; cases hF
end
end Ax
set_option Elab.async false
set_option linter.all false
set_option maxRecDepth 100000
set_option maxHeartbeats 2000000
/-! RowM: rows of ints: their values, least forms, periods. No program in sight. -/
namespace RowM
def ext (c : List Int) (g : Int) (n : Nat) : Int := c.getD (n % c.length) 0 + g * ((n / c.length : Nat) : Int)
def at_ (h c : List Int) (g : Int) (n : Nat) : Int := if n < h.length then h.getD n 0 else ext c g (n - h.length)

theorem ext_add {c : List Int} (hc : 0 < c.length) (g : Int) (n : Nat) : ext c g (n + c.length) = ext c g n + g := by
  unfold ext
  rw [Nat.add_mod_right, Nat.add_div_right _ hc]
  rw [Int.natCast_add, Int.mul_add]
  simp; omega
theorem ext_small {c : List Int} (g : Int) {n : Nat} (h : n < c.length) : ext c g n = c.getD n 0 := by
  unfold ext
  rw [Nat.mod_eq_of_lt h, Nat.div_eq_of_lt h]; simp
theorem ext_uniq {c : List Int} (g : Int) (f : Nat → Int) (hc : 0 < c.length) (h0 : ∀ i, i < c.length → c.getD i 0 = f i) (hs : ∀ n, f (n + c.length) = f n + g) : ∀ n, ext c g n = f n := by
  intro n
  refine Nat.strongRecOn n fun n ih => ?_
  · skip
    by_cases h : n < c.length
    · rw [ext_small g h, h0 n h]
    · have e : n = (n - c.length) + c.length := by omega
      rw [e, ext_add hc, hs, ih _ (by omega)]
/-- a whole number of steps -/
theorem qp_mul {f : Nat → Int} {N s : Nat} {q : Int} (h : ∀ n, N ≤ n → f (n + s) = f n + q) : ∀ (j : Nat) (n : Nat), N ≤ n → f (n + j * s) = f n + j * q
  | 0, n, _ => by simp
  | j + 1, n, hn => by
    rw [Nat.succ_mul, ← Nat.add_assoc, h _ (by omega), qp_mul h j n hn, Int.natCast_add, Int.add_mul]
    simp; omega
theorem qp_gcd {f : Nat → Int} {N : Nat} : ∀ (t s p : Nat) (q g : Int), s + p ≤ t → (∀ n, N ≤ n → f (n + s) = f n + q) → (∀ n, N ≤ n → f (n + p) = f n + g) → ∃ r, ∀ n, N ≤ n → f (n + Nat.gcd s p) = f n + r
  | t, 0, p, q, g, _, h1, h2 => ⟨g, by simpa using h2⟩
  | t, s + 1, 0, q, g, _, h1, h2 => ⟨q, by simpa using h1⟩
  | 0, s + 1, p + 1, q, g, hb, h1, h2 => by omega
  | t + 1, s + 1, p + 1, q, g, hb, h1, h2 => by
    by_cases hl : s ≤ p
    · have e : Nat.gcd (s + 1) (p + 1) = Nat.gcd (s + 1) (p - s) := by
        have : p + 1 = (p - s) + (s + 1) := by omega
        rw [this, Nat.gcd_add_self_right]
      rw [e]
      refine qp_gcd t (s + 1) (p - s) q (g - q) (by omega) h1 fun n hn => ?_
      have a1 := h1 (n + (p - s)) (by omega)
      have a2 := h2 n hn
      have : n + (p - s) + (s + 1) = n + (p + 1) := by omega
      rw [this] at a1
      omega
    · have e : Nat.gcd (s + 1) (p + 1) = Nat.gcd (s - p) (p + 1) := by
        have : s + 1 = (s - p) + (p + 1) := by omega
        rw [this, Nat.gcd_add_self_left]
      rw [e]
      refine qp_gcd t (s - p) (p + 1) (q - g) g (by omega) (fun n hn => ?_) h2
      have a1 := h2 (n + (s - p)) (by omega)
      have a2 := h1 n hn
      have : n + (s - p) + (p + 1) = n + (s + 1) := by omega
      rw [this] at a1
      omega
/-- what holds far out holds everywhere in a cycle -/
theorem ext_all {c : List Int} {g : Int} (hc : 0 < c.length) {N d : Nat} {r : Int} (h : ∀ n, N ≤ n → ext c g (n + d) = ext c g n + r) (n : Nat) : ext c g (n + d) = ext c g n + r := by
  have q := qp_mul (f := ext c g) (N := 0) (fun n _ => ext_add hc g n) N
  have a1 := h (n + N * c.length) (by have := Nat.le_mul_of_pos_right N hc; omega)
  have a2 := q n (by omega)
  have a3 := q (n + d) (by omega)
  have : n + N * c.length + d = n + d + N * c.length := by omega
  rw [this] at a1
  omega

/-! ### the shortest cycle -/
def perOk (c : List Int) (g : Int) (s : Nat) : Bool := decide (c.length % s = 0) && decide (g * s % c.length = 0) && (List.range c.length).all fun k => decide (ext c g (k + s) = ext c g k + g * s / c.length)
theorem perOk_qp {c : List Int} {g : Int} {s : Nat} (hc : 0 < c.length) (h : perOk c g s = true) : s ∣ c.length ∧ ∀ n, ext c g (n + s) = ext c g n + g * s / c.length := by
  unfold perOk at h
  simp only [Bool.and_eq_true, decide_eq_true_eq, List.all_eq_true, List.mem_range] at h
  obtain ⟨⟨h1, h2⟩, h3⟩ := h
  refine ⟨Nat.dvd_of_mod_eq_zero h1, fun n => ?_⟩
  refine Nat.strongRecOn n fun n ih => ?_
  · skip
    by_cases hn : n < c.length
    · exact h3 n hn
    · have e : n = (n - c.length) + c.length := by omega
      have a := ih (n - c.length) (by omega)
      have b1 := ext_add hc g (n - c.length)
      have b2 := ext_add hc g (n - c.length + s)
      have : n - c.length + s + c.length = n + s := by omega
      rw [this] at b2
      rw [← e] at b1
      omega
theorem perOk_of {c : List Int} {g : Int} {s : Nat} {r : Int} (hc : 0 < c.length) (hd : s ∣ c.length) (h : ∀ n, ext c g (n + s) = ext c g n + r) : perOk c g s = true ∧ g * s / c.length = r := by
  obtain ⟨j, hj⟩ := hd
  have hs : 0 < s := by
    rcases Nat.eq_zero_or_pos s with e | e
    · subst e; rw [Nat.zero_mul] at hj; omega
    · exact e
  have q := qp_mul (f := ext c g) (N := 0) (fun n _ => h n) j 0 (by omega)
  have q2 := ext_add hc g 0
  have e : 0 + j * s = 0 + c.length := by rw [hj, Nat.mul_comm]
  rw [e, q2] at q
  have hg : g = j * r := by omega
  have e1 : g * s = r * c.length := by
    rw [hg, hj, Int.natCast_mul]
    rw [Int.mul_comm (j : Int) r, Int.mul_assoc, Int.mul_comm (j : Int)]
  have hcz : (c.length : Int) ≠ 0 := by omega
  have e2 : g * s / c.length = r := by rw [e1]; exact Int.mul_ediv_cancel _ hcz
  refine ⟨?_, e2⟩
  unfold perOk
  simp only [Bool.and_eq_true, decide_eq_true_eq, List.all_eq_true, List.mem_range]
  refine ⟨⟨?_, ?_⟩, fun k _ => ?_⟩
  · rw [hj]; exact Nat.mul_mod_right s j
  · rw [e1]; exact Int.mul_emod_left _ _
  · rw [e2]; exact h k
/-- the first that fits -/
def firstP (c : List Int) (g : Int) : Option Nat := (List.range' 1 (c.length - 1)).find? (perOk c g)
def short (c : List Int) (g : Int) : List Int × Int := match firstP c g with
  | some s => (c.take s, g * s / c.length)
  | none => (c, g)
theorem find_range {p : Nat → Bool} : ∀ {a n s : Nat}, (List.range' a n).find? p = some s → p s = true ∧ a ≤ s ∧ s < a + n ∧ ∀ t, a ≤ t → t < s → p t = false := by
  intro a n s h
  have h1 := List.find?_some h
  have h2 := List.mem_of_find?_eq_some h
  rw [List.mem_range'_1] at h2
  refine ⟨h1, h2.1, h2.2, ?_⟩
  induction n generalizing a with
  | zero => simp at h
  | succ n ih =>
    rw [List.range'_succ, List.find?_cons] at h
    intro t ht hts
    split at h
    · cases h; omega
    · rename_i hp
      have hm := (List.mem_of_find?_eq_some h)
      rw [List.mem_range'_1] at hm
      by_cases e : t = a
      · subst e; simpa using hp
      · exact ih h ⟨hm.1, hm.2⟩ t (by omega) hts
theorem find_none {p : Nat → Bool} {a n : Nat} (h : (List.range' a n).find? p = none) (t : Nat) (h1 : a ≤ t) (h2 : t < a + n) : p t = false := by
  have := List.find?_eq_none.mp h t (by rw [List.mem_range'_1]; omega)
  simpa using this
theorem short_spec {c : List Int} {g : Int} (hc : 0 < c.length) : 0 < (short c g).1.length ∧ (short c g).1.length ≤ c.length ∧ (∀ n, ext (short c g).1 (short c g).2 n = ext c g n) ∧ (∀ d r, 0 < d → d ∣ (short c g).1.length → (∀ n, ext c g (n + d) = ext c g n + r) → d = (short c g).1.length) := by
  unfold short firstP
  split
  · rename_i s hf
    obtain ⟨h1, h2, h3, h4⟩ := find_range hf
    obtain ⟨hd, hq⟩ := perOk_qp hc h1
    have hl : (c.take s).length = s := by rw [List.length_take]; omega
    refine ⟨by rw [hl]; omega, by rw [hl]; omega, ?_, ?_⟩
    · refine ext_uniq _ _ (by rw [hl]; omega) (fun i hi => ?_) (fun n => by rw [hl]; exact hq n)
      rw [hl] at hi
      rw [ext_small g (by omega)]
      simp [List.getD_eq_getElem?_getD, List.getElem?_take, hi]
    · intro d r d0 dd hr
      rw [hl] at dd ⊢
      have := Nat.le_of_dvd (by omega) dd
      by_cases e : d = s
      · exact e
      · have x := (perOk_of hc (Nat.dvd_trans dd hd) hr).1
        rw [h4 d (by omega) (by omega)] at x
        cases x
  · rename_i hf
    refine ⟨hc, Nat.le_refl _, fun n => rfl, fun d r d0 dd hr => ?_⟩
    have := Nat.le_of_dvd hc dd
    by_cases e : d = c.length
    · exact e
    · have x := (perOk_of hc dd hr).1
      have y := find_none hf d (by omega) (by omega)
      rw [x] at y
      cases y
/-! ### the head rolled in -/
def unroll (g : Int) : List Int → List Int → List Int × List Int
  | [], c => ([], c)
  | x :: hr, c => if x = c.getLastD 0 - g then unroll g hr (x :: c.dropLast) else ((x :: hr).reverse, c)
theorem getLastD_getD {c : List Int} (hc : 0 < c.length) : c.getLastD 0 = c.getD (c.length - 1) 0 := by
  rw [List.getLastD_eq_getLast?, List.getLast?_eq_getElem?, List.getD_eq_getElem?_getD]
theorem at_roll {h c : List Int} {g x : Int} (hc : 0 < c.length) (e : x = c.getLastD 0 - g) (n : Nat) : at_ h (x :: c.dropLast) g n = at_ (h ++ [x]) c g n := by
  have hl : (x :: c.dropLast).length = c.length := by simp; omega
  have key : ∀ n, ext (x :: c.dropLast) g n = at_ [x] c g n := by
    refine ext_uniq g (at_ [x] c g) (by rw [hl]; exact hc) (fun i hi => ?_) (fun n => ?_)
    · rw [hl] at hi
      unfold at_
      match i with
      | 0 => simp
      | i + 1 =>
        rw [if_neg (by simp), ext_small g (by simp; omega)]
        simp [List.getD_eq_getElem?_getD, List.getElem?_dropLast]
        rw [if_pos (by omega)]
    · rw [hl]
      unfold at_
      match n with
      | 0 =>
        rw [if_neg (by simp only [List.length_cons, List.length_nil]; omega), if_pos (by simp), ext_small g (by simp only [List.length_cons, List.length_nil]; omega)]
        simp only [List.length_cons, List.length_nil, Nat.zero_add, List.getD_cons_zero]
        rw [getLastD_getD hc] at e
        omega
      | n + 1 =>
        rw [if_neg (by simp)]; rw [if_neg (by simp)]
        have := ext_add hc g n
        simp only [List.length_cons, List.length_nil, Nat.zero_add, Nat.add_sub_cancel]
        have e : n + 1 + c.length - 1 = n + c.length := by omega
        rw [e]; exact this
  unfold at_
  by_cases h1 : n < h.length
  · rw [if_pos h1, if_pos (by simp; omega)]
    simp [List.getD_eq_getElem?_getD, List.getElem?_append_left h1]
  · rw [if_neg h1, key]
    unfold at_
    by_cases h2 : n = h.length
    · subst h2
      simp [List.getD_eq_getElem?_getD]
    · rw [if_neg (by simp; omega), if_neg (by simp; omega)]
      congr 1
      simp; omega
def Rolled (h c : List Int) (g : Int) : Prop := h = [] ∨ h.getLastD 0 ≠ c.getLastD 0 - g
theorem unroll_spec (g : Int) : ∀ (hr c : List Int), 0 < c.length → (unroll g hr c).2.length = c.length ∧ (unroll g hr c).1.length ≤ hr.length ∧ (∀ n, at_ (unroll g hr c).1 (unroll g hr c).2 g n = at_ hr.reverse c g n) ∧ Rolled (unroll g hr c).1 (unroll g hr c).2 g
  | [], c, hc => ⟨rfl, Nat.le_refl _, fun _ => rfl, .inl rfl⟩
  | x :: hr, c, hc => by
    unfold unroll
    split
    · rename_i e
      have hl : (x :: c.dropLast).length = c.length := by simp; omega
      obtain ⟨a1, a2, a3, a4⟩ := unroll_spec g hr (x :: c.dropLast) (by rw [hl]; exact hc)
      refine ⟨by rw [a1, hl], by simp; omega, fun n => ?_, a4⟩
      rw [a3, at_roll hc e, List.reverse_cons]
    · rename_i e
      refine ⟨rfl, by simp, fun _ => rfl, .inr ?_⟩
      simpa [List.getLastD_eq_getLast?] using e
/-! ### the least form -/
def norm (h c : List Int) (g : Int) : List Int × List Int × Int := ((unroll (short c g).2 h.reverse (short c g).1).1, (unroll (short c g).2 h.reverse (short c g).1).2, (short c g).2)
structure Least (h c : List Int) (g : Int) : Prop where
  ne : 0 < c.length
  mn : ∀ s q N, 0 < s → (∀ n, N ≤ n → at_ h c g (n + s) = at_ h c g n + q) → c.length ∣ s
  rl : Rolled h c g
theorem at_far {h c : List Int} {g : Int} (n : Nat) : at_ h c g (h.length + n) = ext c g n := by
  unfold at_
  rw [if_neg (by omega)]
  congr 1; omega
theorem at_per {h c : List Int} {g : Int} (hc : 0 < c.length) (n : Nat) (hn : h.length ≤ n) : at_ h c g (n + c.length) = at_ h c g n + g := by
  have e : n = h.length + (n - h.length) := by omega
  rw [e, Nat.add_assoc, at_far, at_far, ext_add hc]
theorem least_of {h c : List Int} {g : Int} (hc : 0 < c.length) (hm : ∀ d r, 0 < d → d ∣ c.length → (∀ n, ext c g (n + d) = ext c g n + r) → d = c.length) (rl : Rolled h c g) : Least h c g := by
  refine ⟨hc, fun s q N hs h1 => ?_, rl⟩
  have a1 : ∀ n, N ≤ n → ext c g (n + s) = ext c g n + q := fun n hn => by
    have := h1 (h.length + n) (by omega)
    rw [Nat.add_assoc, at_far, at_far] at this
    exact this
  obtain ⟨r, hr⟩ := qp_gcd (f := ext c g) (N := N) (s + c.length) s c.length q g (Nat.le_refl _) a1 (fun n _ => ext_add hc g n)
  have x := hm _ r (Nat.gcd_pos_of_pos_left _ hs) (Nat.gcd_dvd_right _ _) (ext_all hc hr)
  rw [← x]
  exact Nat.gcd_dvd_left _ _
theorem norm_at {h c : List Int} {g : Int} (hc : 0 < c.length) (n : Nat) : at_ (norm h c g).1 (norm h c g).2.1 (norm h c g).2.2 n = at_ h c g n := by
  obtain ⟨s1, _, s2, s3⟩ := short_spec (g := g) hc
  obtain ⟨u1, _, u2, u3⟩ := unroll_spec (short c g).2 h.reverse _ s1
  unfold norm
  show at_ _ _ _ n = _
  rw [u2, List.reverse_reverse]
  unfold at_
  simp only [s2]
theorem norm_least {h c : List Int} {g : Int} (hc : 0 < c.length) : Least (norm h c g).1 (norm h c g).2.1 (norm h c g).2.2 := by
  obtain ⟨s1, _, s2, s3⟩ := short_spec (g := g) hc
  obtain ⟨u1, _, u2, u3⟩ := unroll_spec (short c g).2 h.reverse _ s1
  refine least_of (by unfold norm; show 0 < (unroll _ _ _).2.length; rw [u1]; exact s1) (fun d r d0 dd hr => ?_) u3
  have hl : (norm h c g).2.1.length = (short c g).1.length := u1
  rw [hl] at dd ⊢
  refine s3 d r d0 dd ?_
  refine ext_all (N := h.length) hc fun n hn => ?_
  have e : ∀ m, h.length ≤ m → at_ (norm h c g).1 (norm h c g).2.1 (norm h c g).2.2 (h.length + m) = ext c g m := fun m hm => by rw [norm_at hc, at_far]
  have hle : (norm h c g).1.length ≤ h.length := by
    obtain ⟨_, x, _⟩ := unroll_spec (short c g).2 h.reverse _ s1
    unfold norm; simpa using x
  rw [← e n hn, ← e (n + d) (by omega)]
  have e2 : h.length + n = (norm h c g).1.length + (h.length + n - (norm h c g).1.length) := by omega
  have e3 : h.length + (n + d) = (norm h c g).1.length + (h.length + n - (norm h c g).1.length + d) := by omega
  rw [e2, e3, at_far, at_far, hr]
theorem norm_len {h c : List Int} {g : Int} (hc : 0 < c.length) : 0 < (norm h c g).2.1.length ∧ (norm h c g).2.1.length ≤ c.length ∧ (norm h c g).1.length ≤ h.length := by
  obtain ⟨s1, s0, s2, s3⟩ := short_spec (g := g) hc
  obtain ⟨u1, u0, u2, u3⟩ := unroll_spec (short c g).2 h.reverse _ s1
  refine ⟨?_, ?_, ?_⟩
  · show 0 < (unroll _ _ _).2.length; rw [u1]; exact s1
  · show (unroll _ _ _).2.length ≤ _; rw [u1]; exact s0
  · show (unroll _ _ _).1.length ≤ _; simpa using u0
theorem at_head {h c : List Int} {g : Int} {n : Nat} (hn : n < h.length) : at_ h c g n = h.getD n 0 := by
  unfold at_; rw [if_pos hn]
theorem least_start {h1 c1 h2 c2 : List Int} {g1 g2 : Int} (l1 : Least h1 c1 g1) (l2 : Least h2 c2 g2) (ea : ∀ n, at_ h1 c1 g1 n = at_ h2 c2 g2 n) (el : c1.length = c2.length) (eg : g1 = g2) : h2.length ≤ h1.length := by
  apply Nat.le_of_not_lt
  intro hl
  rcases l2.rl with e | e
  · subst e; simp at hl
  · apply e
    have a := at_per (h := h1) (g := g1) l1.ne (h2.length - 1) (by omega)
    rw [ea, ea, el, eg] at a
    have e1 : h2.length - 1 + c2.length = h2.length + (c2.length - 1) := by have := l2.ne; omega
    rw [e1, at_far, ext_small _ (by have := l2.ne; omega), at_head (by omega)] at a
    rw [getLastD_getD (by omega), getLastD_getD l2.ne]
    omega
theorem list_eqD {a b : List Int} (hl : a.length = b.length) (h : ∀ i, i < a.length → a.getD i 0 = b.getD i 0) : a = b := by
  apply List.ext_getElem hl
  intro i h1 h2
  have := h i h1
  simpa [List.getD_eq_getElem?_getD, h1, h2] using this
theorem least_uniq {h1 c1 h2 c2 : List Int} {g1 g2 : Int} (l1 : Least h1 c1 g1) (l2 : Least h2 c2 g2) (ea : ∀ n, at_ h1 c1 g1 n = at_ h2 c2 g2 n) : h1 = h2 ∧ c1 = c2 ∧ g1 = g2 := by
  have d1 := l1.mn c2.length g2 h2.length l2.ne (fun n hn => by rw [ea, ea]; exact at_per l2.ne n hn)
  have d2 := l2.mn c1.length g1 h1.length l1.ne (fun n hn => by rw [← ea, ← ea]; exact at_per l1.ne n hn)
  have el : c1.length = c2.length := Nat.dvd_antisymm d1 d2
  have eg : g1 = g2 := by
    have a := at_per (h := h1) (g := g1) l1.ne (h1.length + h2.length) (by omega)
    have b := at_per (h := h2) (g := g2) l2.ne (h1.length + h2.length) (by omega)
    rw [ea, ea, el] at a
    omega
  have s1 := least_start l1 l2 ea el eg
  have s2 := least_start l2 l1 (fun n => (ea n).symm) el.symm eg.symm
  have eh : h1.length = h2.length := by omega
  refine ⟨list_eqD eh fun i hi => ?_, list_eqD el fun i hi => ?_, eg⟩
  · have := ea i
    rwa [at_head hi, at_head (by omega)] at this
  · have := ea (h1.length + i)
    rw [at_far, eh, at_far, ext_small _ hi, ext_small _ (by omega)] at this
    exact this
theorem norm_eq {h1 c1 h2 c2 : List Int} {g1 g2 : Int} (n1 : 0 < c1.length) (n2 : 0 < c2.length) (ea : ∀ n, at_ h1 c1 g1 n = at_ h2 c2 g2 n) : norm h1 c1 g1 = norm h2 c2 g2 := by
  obtain ⟨a, b, c⟩ := least_uniq (norm_least n1) (norm_least n2) (fun n => by rw [norm_at n1, norm_at n2]; exact ea n)
  exact Prod.ext a (Prod.ext b c)
theorem norm_norm {h c : List Int} {g : Int} (hc : 0 < c.length) : norm (norm h c g).1 (norm h c g).2.1 (norm h c g).2.2 = norm h c g := norm_eq (norm_len hc).1 hc (norm_at hc)
/-! ### periods -/
theorem delta_all {h c : List Int} {g : Int} (hc : 0 < c.length) {N s : Nat} {q : Int} (hN : h.length ≤ N) (hw : ∀ k, k < c.length → at_ h c g (N + k + s) = at_ h c g (N + k) + q) : ∀ n, h.length ≤ n → at_ h c g (n + s) = at_ h c g n + q := by
  have up : ∀ k, at_ h c g (N + k + s) = at_ h c g (N + k) + q := by
    intro k
    induction k using Nat.strongRecOn with
    | ind k ih =>
      by_cases hk : k < c.length
      · exact hw k hk
      · have a := ih (k - c.length) (by omega)
        have b1 := at_per (h := h) (g := g) hc (N + (k - c.length)) (by omega)
        have b2 := at_per (h := h) (g := g) hc (N + (k - c.length) + s) (by omega)
        have e1 : N + (k - c.length) + c.length = N + k := by omega
        have e2 : N + (k - c.length) + s + c.length = N + k + s := by omega
        rw [e1] at b1; rw [e2] at b2
        omega
  intro n hn
  have a1 : ∀ m, N ≤ m → ext c g (m - h.length + s) = ext c g (m - h.length) + q := fun m hm => by
    have := up (m - N)
    have e1 : N + (m - N) + s = h.length + (m - h.length + s) := by omega
    have e2 : N + (m - N) = h.length + (m - h.length) := by omega
    rw [e1, e2, at_far, at_far] at this
    exact this
  have a2 : ∀ m, N ≤ m → ext c g (m + s) = ext c g m + q := fun m hm => by
    have := a1 (m + h.length) (by omega)
    rwa [Nat.add_sub_cancel] at this
  have a3 := ext_all hc a2 (n - h.length)
  have e1 : n + s = h.length + (n - h.length + s) := by omega
  have e2 : n = h.length + (n - h.length) := by omega
  rw [e1, e2, at_far, at_far]
  have : h.length + (n - h.length) - h.length = n - h.length := by omega
  rw [this]
  exact a3
/-- a step is a step of the whole row just when the least cycle divides it -/
theorem period_iff {h c : List Int} {g : Int} (l : Least h c g) {s N : Nat} (hs : 0 < s) (hN : h.length ≤ N) (w : Nat) (hw : c.length ≤ w) : (∃ q, ∀ k, k < w → at_ h c g (N + k + s) - at_ h c g (N + k) = q) ↔ c.length ∣ s := by
  constructor
  · intro ⟨q, hq⟩
    exact l.mn s q h.length hs (delta_all l.ne hN fun k hk => by have := hq k (by omega); omega)
  · intro ⟨j, hj⟩
    refine ⟨j * g, fun k _ => ?_⟩
    have := qp_mul (f := at_ h c g) (N := h.length) (fun n hn => at_per l.ne n hn) j (N + k) (by omega)
    rw [hj, Nat.mul_comm c.length j, this]
    omega
/-- no row with a smaller form has the same values -/
theorem no_shorter {h c : List Int} {g : Int} (l : Least h c g) {size many : Nat} (h1 : 0 < size) (h2 : size ≤ c.length) (h3 : many ≤ h.length) (h4 : size = c.length → many < h.length) (o c2 : List Int) (q : Int)
    (ho : o.length = many) (hc2 : c2.length = size) (e : ∀ n, n < h.length + 3 * c.length + 5 → at_ o c2 q n = at_ h c g n) : False := by
  have hc := l.ne
  have st : ∀ n, many ≤ n → n + size < h.length + 3 * c.length + 5 → at_ h c g (n + size) = at_ h c g n + q := fun n hn hf => by
    rw [← e _ hf, ← e n (by omega), ← hc2]
    exact at_per (by omega) n (by omega)
  have al := delta_all (h := h) (g := g) (N := h.length) (s := size) (q := q) hc (Nat.le_refl _) (fun k hk => st _ (by omega) (by omega))
  have dv := l.mn size q h.length h1 al
  have es : size = c.length := Nat.le_antisymm h2 (Nat.le_of_dvd h1 dv)
  have hm := h4 es
  have eq : q = g := by
    have a := al h.length (Nat.le_refl _)
    have b := at_per (h := h) (g := g) hc h.length (Nat.le_refl _)
    rw [es] at a
    omega
  rcases l.rl with e1 | e1
  · subst e1; simp at hm
  · apply e1
    have a := st (h.length - 1) (by omega) (by omega)
    have e2 : h.length - 1 + size = h.length + (c.length - 1) := by omega
    rw [e2, at_far, ext_small _ (by omega), at_head (by omega)] at a
    rw [getLastD_getD (by omega), getLastD_getD hc]
    omega
/-! ### the rate -/
theorem norm_rate {h c : List Int} {g : Int} (hc : 0 < c.length) : (norm h c g).2.2 * c.length = g * (norm h c g).2.1.length := by
  have hp := (norm_len (h := h) (g := g) hc).1
  have a := qp_mul (f := at_ h c g) (N := h.length + (norm h c g).1.length) (s := c.length) (q := g) (fun n hn => at_per hc n (by omega)) (norm h c g).2.1.length (h.length + (norm h c g).1.length) (Nat.le_refl _)
  have b := qp_mul (f := at_ h c g) (N := h.length + (norm h c g).1.length) (s := (norm h c g).2.1.length) (q := (norm h c g).2.2) (fun n hn => by rw [← norm_at hc, ← norm_at hc]; exact at_per hp n (by omega)) c.length (h.length + (norm h c g).1.length) (Nat.le_refl _)
  rw [Nat.mul_comm] at a
  rw [a] at b
  have : ((norm h c g).2.1.length : Int) * g = (c.length : Int) * (norm h c g).2.2 := by omega
  rw [Int.mul_comm _ (c.length : Int), ← this, Int.mul_comm]
theorem frac_eq {a b : Int} {m n : Nat} (hm : 0 < m) (hn : 0 < n) (e : a * n = b * m) : a / (Nat.gcd a.natAbs m : Int) = b / (Nat.gcd b.natAbs n : Int) ∧ (m : Int) / (Nat.gcd a.natAbs m : Int) = (n : Int) / (Nat.gcd b.natAbs n : Int) := by
  have en : a.natAbs * n = b.natAbs * m := by
    have := congrArg Int.natAbs e
    simpa [Int.natAbs_mul] using this
  generalize hx : Nat.gcd a.natAbs m = x
  generalize hy : Nat.gcd b.natAbs n = y
  have x0 : 0 < x := by rw [← hx]; exact Nat.gcd_pos_of_pos_right _ hm
  have y0 : 0 < y := by rw [← hy]; exact Nat.gcd_pos_of_pos_right _ hn
  have k : x * n = y * m := by
    have h1 : Nat.gcd (a.natAbs * n) (m * n) = x * n := by rw [Nat.gcd_mul_right, hx]
    have h2 : Nat.gcd (b.natAbs * m) (n * m) = y * m := by rw [Nat.gcd_mul_right, hy]
    rw [← h1, ← h2, en, Nat.mul_comm m n]
  obtain ⟨m', em⟩ : x ∣ m := by rw [← hx]; exact Nat.gcd_dvd_right _ _
  obtain ⟨n', en'⟩ : y ∣ n := by rw [← hy]; exact Nat.gcd_dvd_right _ _
  have e3 : m' = n' := by
    rw [em, en'] at k
    have : x * (y * n') = x * (y * m') := by rw [k]; rw [← Nat.mul_assoc, Nat.mul_comm y x, Nat.mul_assoc]
    exact (Nat.eq_of_mul_eq_mul_left y0 (Nat.eq_of_mul_eq_mul_left x0 this)).symm
  obtain ⟨a', ea⟩ : (x : Int) ∣ a := by
    rw [← hx]; exact Int.ofNat_dvd_left.mpr (Nat.gcd_dvd_left _ _)
  obtain ⟨b', eb⟩ : (y : Int) ∣ b := by
    rw [← hy]; exact Int.ofNat_dvd_left.mpr (Nat.gcd_dvd_left _ _)
  have n0 : 0 < n' := by
    rcases Nat.eq_zero_or_pos n' with z | z
    · subst z; omega
    · exact z
  have xi : (x : Int) ≠ 0 := by omega
  have yi : (y : Int) ≠ 0 := by omega
  have e4 : a' = b' := by
    have : (x : Int) * a' * (y * n') = y * b' * (x * n') := by
      rw [ea, eb, en', em, e3] at e
      simpa [Int.natCast_mul] using e
    have h5 : ((x : Int) * y * n') * a' = (x * y * n') * b' := by
      have r1 : ((x : Int) * y * n') * a' = x * a' * (y * n') := by
        simp only [Int.mul_assoc, Int.mul_comm, Int.mul_left_comm]
      have r2 : ((x : Int) * y * n') * b' = y * b' * (x * n') := by
        simp only [Int.mul_assoc, Int.mul_comm, Int.mul_left_comm]
      rw [r1, r2, this]
    refine Int.eq_of_mul_eq_mul_left ?_ h5
    have hn' : (n' : Int) ≠ 0 := by omega
    exact Int.mul_ne_zero (Int.mul_ne_zero xi yi) hn'
  constructor
  · rw [ea, eb, Int.mul_ediv_cancel_left _ xi, Int.mul_ediv_cancel_left _ yi, e4]
  · rw [em, en', Int.natCast_mul, Int.natCast_mul, Int.mul_ediv_cancel_left _ xi, Int.mul_ediv_cancel_left _ yi, e3]
end RowM
namespace RowM
theorem at_nil (c : List Int) (g : Int) (n : Nat) : at_ [] c g n = ext c g n := by unfold at_; simp
/-- what the law's own loop over the divisors has done -/
def turnd (c : List Int) (g : Int) (k : Nat) (cy : List Int) (gn : Int) : Prop := (cy = c ∧ gn = g ∧ ∀ t, 1 ≤ t → t < c.length → t ≤ k → perOk c g t = false) ∨ (∃ s, 1 ≤ s ∧ s < c.length ∧ s ≤ k ∧ perOk c g s = true ∧ (∀ t, 1 ≤ t → t < s → perOk c g t = false) ∧ cy = c.take s ∧ gn = g * s / c.length)
theorem find_first {p : Nat → Bool} {s : Nat} (hs : p s = true) : ∀ {a n : Nat}, a ≤ s → s < a + n → (∀ t, a ≤ t → t < s → p t = false) → (List.range' a n).find? p = some s := by
  intro a n
  induction n generalizing a with
  | zero => intro h1 h2; omega
  | succ n ih =>
    intro h1 h2 h3
    rw [List.range'_succ]; rw [List.find?_cons]
    by_cases e : a = s
    · subst e; rw [hs]
    · rw [h3 a (Nat.le_refl _) (by omega)]
      exact ih (by omega) (by omega) (fun t ht => h3 t (by omega))
theorem short_first {c : List Int} {g : Int} {s : Nat} (h1 : 1 ≤ s) (h2 : s < c.length) (h3 : perOk c g s = true) (h4 : ∀ t, 1 ≤ t → t < s → perOk c g t = false) : short c g = (c.take s, g * s / c.length) := by
  unfold short firstP
  rw [find_first h3 h1 (by omega) h4]
theorem short_none {c : List Int} {g : Int} (h : ∀ t, 1 ≤ t → t < c.length → perOk c g t = false) : short c g = (c, g) := by
  unfold short firstP
  rw [List.find?_eq_none.mpr]
  intro t ht
  rw [List.mem_range'_1] at ht
  rw [h t ht.1 (by omega)]; simp
theorem turnd_end {c : List Int} {g : Int} {k : Nat} {cy : List Int} {gn : Int} (hk : c.length ≤ k + 1) (h : turnd c g k cy gn) : short c g = (cy, gn) := by
  rcases h with ⟨rfl, rfl, h⟩ | ⟨s, h1, h2, h3, h4, h5, rfl, rfl⟩
  · exact short_none fun t h1 h2 => h t h1 h2 (by omega)
  · exact short_first h1 h2 h4 h5
theorem perOk_no1 {c : List Int} {g : Int} {s : Nat} (h : c.length % s ≠ 0) : perOk c g s = false := by unfold perOk; simp [h]
theorem perOk_no2 {c : List Int} {g : Int} {s : Nat} (h : ¬ g * s % c.length = 0) : perOk c g s = false := by unfold perOk; simp [h]
theorem perOk_3 {c : List Int} {g : Int} {s : Nat} (h1 : c.length % s = 0) (h2 : g * s % c.length = 0) : perOk c g s = (List.range c.length).all fun k => decide (ext c g (k + s) = ext c g k + g * s / c.length) := by unfold perOk; simp [h1, h2]
end RowM
namespace RowM
theorem modz {a b : Nat} (h : (a : Int) % (b : Int) = 0) : a % b = 0 := by
  have e : ((a % b : Nat) : Int) = 0 := by rw [Int.natCast_emod]; exact h
  exact Int.ofNat_eq_zero.mp e
theorem modz' {a b : Nat} (h : a % b = 0) : (a : Int) % (b : Int) = 0 := by
  rw [← Int.natCast_emod, h]; rfl
theorem turnd_skip {c : List Int} {g : Int} {k : Nat} {cy : List Int} {gn : Int} (h : k + 1 < c.length → perOk c g (k + 1) = false) (t : turnd c g k cy gn) : turnd c g (k + 1) cy gn := by
  rcases t with ⟨rfl, rfl, t⟩ | ⟨s, h1, h2, h3, h4⟩
  · refine .inl ⟨rfl, rfl, fun u h1 h2 h3 => ?_⟩
    by_cases e : u = k + 1
    · rw [e]; exact h (by omega)
    · exact t u h1 h2 (by omega)
  · exact .inr ⟨s, h1, h2, by omega, h4⟩
theorem turnd_take {c : List Int} {g : Int} {k : Nat} (hk : k < c.length) (h : perOk c g (k + 1) = true) (t : ∀ u, 1 ≤ u → u < c.length → u ≤ k → perOk c g u = false) : turnd c g (k + 1) (c.take (k + 1)) (g * ((k + 1 : Nat) : Int) / c.length) := by
  by_cases e : k + 1 = c.length
  · refine .inl ⟨by rw [e, List.take_length], ?_, fun u h1 h2 h3 => t u h1 h2 (by omega)⟩
    rw [e]
    exact Int.mul_ediv_cancel _ (by omega)
  · exact .inr ⟨k + 1, by omega, by omega, Nat.le_refl _, h, fun u h1 h2 => t u h1 (by omega) (by omega), rfl, rfl⟩
end RowM
namespace RowM
theorem unroll_step {H c : List Int} {g : Int} (h : 0 < H.length) : unroll g H.reverse c = if H.getLastD 0 = c.getLastD 0 - g then unroll g H.dropLast.reverse (H.getLastD 0 :: c.dropLast) else (H, c) := by
  rcases List.eq_nil_or_concat H with e | ⟨A, z, e⟩
  · subst e; simp at h
  · subst e
    have e1 : (A.concat z).getLastD 0 = z := by simp [List.getLastD_eq_getLast?]
    have e2 : (A.concat z).dropLast = A := by simp
    have e3 : (A.concat z).reverse = z :: A.reverse := by simp
    rw [e1, e2, e3, unroll]
    simp
end RowM
namespace RowM
theorem unroll_take {h c : List Int} {g : Int} {m : Nat} (h0 : 0 < m) (h1 : m ≤ h.length) : unroll g (h.take m).reverse c = if h.getD (m - 1) 0 = c.getLastD 0 - g then unroll g (h.take (m - 1)).reverse (h.getD (m - 1) 0 :: c.dropLast) else (h.take m, c) := by
  have hl : (h.take m).length = m := by rw [List.length_take]; omega
  have e1 : (h.take m).getLastD 0 = h.getD (m - 1) 0 := by
    rw [getLastD_getD (by omega), hl]
    have : m - 1 < m := by omega
    simp [List.getD_eq_getElem?_getD, List.getElem?_take, this]
  have e2 : (h.take m).dropLast = h.take (m - 1) := by
    rw [List.dropLast_eq_take, hl, List.take_take, Nat.min_eq_left (by omega)]
  rw [unroll_step (by omega), e1, e2]
end RowM
namespace RowM
/-- what the values of a row are, cut in two -/
theorem getD_map_range {f : Nat → Int} {n i : Nat} (h : i < n) : ((List.range n).map f).getD i 0 = f i := by
  simp [List.getD_eq_getElem?_getD, h]
theorem getD_take {l : List Int} {n i : Nat} (h : i < n) : (l.take n).getD i 0 = l.getD i 0 := by
  simp [List.getD_eq_getElem?_getD, List.getElem?_take, h]
theorem getD_drop {l : List Int} {n i : Nat} : (l.drop n).getD i 0 = l.getD (n + i) 0 := by
  simp [List.getD_eq_getElem?_getD]
theorem at_cut {f : Nat → Int} {far k : Nat} {g : Int} (hk : 0 < k) (hp : ∀ n, far ≤ n → f (n + k) = f n + g) (n : Nat) :
    at_ (((List.range (far + k)).map f).take far) (((List.range (far + k)).map f).drop far) g n = f n := by
  have hl1 : (((List.range (far + k)).map f).take far).length = far := by simp
  have hl2 : (((List.range (far + k)).map f).drop far).length = k := by simp
  unfold at_
  rw [hl1]
  by_cases h : n < far
  · rw [if_pos h, getD_take h, getD_map_range (by omega)]
  · rw [if_neg h]
    have e : n = far + (n - far) := by omega
    rw [ext_uniq g (fun j => f (far + j)) (by rw [hl2]; exact hk) (fun i hi => ?_) (fun j => ?_)]
    · rw [← e]
    · rw [hl2] at hi
      rw [getD_drop, getD_map_range (by omega)]
    · rw [hl2, ← hp (far + j) (by omega)]
      congr 1; omega
end RowM
set_option Elab.async false
set_option linter.all false
set_option maxRecDepth 100000
set_option maxHeartbeats 400000
/-! QM: units that wait, first come first. -/
namespace QM
variable {c k : Nat → Nat} {t b g n : Nat}
/-- what has come in so many ticks -/
def S (c : Nat → Nat) : Nat → Nat
  | 0 => 0
  | t + 1 => S c t + c t
/-- the units, each by its tick -/
def U (c : Nat → Nat) : Nat → List Nat
  | 0 => []
  | t + 1 => U c t ++ List.replicate (c t) t
/-- what is gone -/
def G (c k : Nat → Nat) : Nat → Nat
  | 0 => 0
  | t + 1 => min (G c k t + k t) (S c (t + 1))
theorem U_len : ∀ t, (U c t).length = S c t
  | 0 => rfl
  | t + 1 => by rw [U, S, List.length_append, U_len t, List.length_replicate]
theorem S_mono : ∀ {a b : Nat}, a ≤ b → S c a ≤ S c b := by
  intro a b h
  induction h with
  | refl => exact Nat.le_refl _
  | step _ ih => exact Nat.le_trans ih (Nat.le_add_right _ _)
theorem G_le : ∀ t, G c k t ≤ S c t
  | 0 => Nat.le_refl _
  | t + 1 => Nat.min_le_right _ _
theorem G_step (t : Nat) : G c k t ≤ G c k (t + 1) := by
  have h1 := G_le (c := c) (k := k) t
  have h2 : S c (t + 1) = S c t + c t := rfl
  show _ ≤ min _ _
  omega
theorem G_mono : ∀ {a b : Nat}, a ≤ b → G c k a ≤ G c k b := by
  intro a b h
  induction h with
  | refl => exact Nat.le_refl _
  | step _ ih => exact Nat.le_trans ih (G_step _)
theorem mem_drop : ∀ {t b g : Nat}, b ∈ (U c t).drop g ↔ b < t ∧ 0 < c b ∧ g < S c (b + 1)
  | 0, b, g => by simp [U]
  | t + 1, b, g => by
    rw [U, List.drop_append, List.mem_append, mem_drop, U_len, List.drop_replicate, List.mem_replicate]
    have e : S c (t + 1) = S c t + c t := rfl
    constructor
    · rintro (⟨h1, h2, h3⟩ | ⟨h1, rfl⟩)
      · exact ⟨by omega, h2, h3⟩
      · exact ⟨by omega, by omega, by omega⟩
    · rintro ⟨h1, h2, h3⟩
      by_cases h : b < t
      · exact .inl ⟨h, h2, h3⟩
      · have : b = t := by omega
        subst this
        exact .inr ⟨by omega, rfl⟩
/-- what waits -/
def W (c k : Nat → Nat) (t : Nat) : List Nat := (U c t).drop (G c k t)
def lf (c k : Nat → Nat) (t : Nat) : Nat := S c t - G c k t
theorem W_len : (W c k t).length = lf c k t := by rw [W, List.length_drop, U_len, lf]
theorem lf_step : (lf c k (t + 1) : Int) = max 0 ((lf c k t : Int) + (c t : Int) - (k t : Int)) := by
  have h1 := G_le (c := c) (k := k) t
  have h2 := G_le (c := c) (k := k) (t + 1)
  have h3 : S c (t + 1) = S c t + c t := rfl
  have h4 : G c k (t + 1) = min (G c k t + k t) (S c (t + 1)) := rfl
  unfold lf
  omega
theorem W_ext : W c k t ++ List.replicate (c t) t = (U c (t + 1)).drop (G c k t) := by
  have h1 := G_le (c := c) (k := k) t
  rw [W, U, List.drop_append, U_len]
  have : G c k t - S c t = 0 := by omega
  rw [this, List.drop_zero]
theorem W_step : (W c k t ++ List.replicate (c t) t).drop (k t) = W c k (t + 1) := by
  rw [W_ext, List.drop_drop, W]
  by_cases h : G c k t + k t ≤ S c (t + 1)
  · congr 1
    show _ = min _ _
    omega
  · rw [List.drop_eq_nil_of_le (by rw [U_len]; omega), List.drop_eq_nil_of_le]
    rw [U_len]
    show _ ≤ min _ _
    omega
/-- the tick by which all of a tick's units are gone -/
def fs (c k : Nat → Nat) (t b : Nat) : Option Nat := (List.range t).find? fun x => decide (S c (b + 1) ≤ G c k (x + 1))
def vl (c k : Nat → Nat) (t b : Nat) : Option Int := if c b = 0 then some 0 else Option.map (fun (x : Nat) => (x : Int) - (b : Int)) (fs c k t b)
theorem fs_succ : fs c k (t + 1) b = (fs c k t b).or (if S c (b + 1) ≤ G c k (t + 1) then some t else none) := by
  unfold fs
  rw [List.range_succ, List.find?_append]
  congr 1
  by_cases h : S c (b + 1) ≤ G c k (t + 1) <;> simp [h]
theorem fs_none (h : G c k t < S c (b + 1)) : fs c k t b = none := by
  unfold fs
  rw [List.find?_eq_none]
  intro x hx
  have hx : x < t := by simpa using hx
  have := G_mono (c := c) (k := k) (show x + 1 ≤ t by omega)
  simp
  omega
theorem of_none (h : fs c k t b = none) (h0 : 0 < c b) : G c k t < S c (b + 1) := by
  cases t with
  | zero => show 0 < S c b + c b; omega
  | succ t =>
    unfold fs at h
    rw [List.find?_eq_none] at h
    have := h t (by simp)
    simp at this
    omega
theorem vl_step : vl c k (t + 1) b = if b ∈ (W c k t ++ List.replicate (c t) t).take (k t) then (if b ∈ W c k (t + 1) then none else some ((t : Int) - (b : Int))) else vl c k t b := by
  have hW : W c k (t + 1) = (U c (t + 1)).drop (G c k (t + 1)) := rfl
  have split : (W c k t ++ List.replicate (c t) t).take (k t) ++ W c k (t + 1) = (U c (t + 1)).drop (G c k t) := by
    rw [← W_step, List.take_append_drop, W_ext]
  by_cases hb : b ∈ (W c k t ++ List.replicate (c t) t).take (k t)
  · rw [if_pos hb]
    have hX : b ∈ (U c (t + 1)).drop (G c k t) := by rw [← split]; exact List.mem_append_left _ hb
    obtain ⟨h1, h2, h3⟩ := mem_drop.mp hX
    unfold vl
    rw [if_neg (by omega), fs_succ, fs_none h3, Option.none_or]
    by_cases hw : b ∈ W c k (t + 1)
    · rw [if_pos hw]
      rw [hW] at hw
      obtain ⟨_, _, h4⟩ := mem_drop.mp hw
      rw [if_neg (by omega)]
      rfl
    · rw [if_neg hw]
      have h4 : ¬ G c k (t + 1) < S c (b + 1) := fun z => hw (by rw [hW]; exact mem_drop.mpr ⟨h1, h2, z⟩)
      rw [if_pos (by omega)]
      rfl
  · rw [if_neg hb]
    unfold vl
    by_cases h0 : c b = 0
    · rw [if_pos h0, if_pos h0]
    · rw [if_neg h0, if_neg h0, fs_succ]
      cases hf : fs c k t b with
      | some x => rfl
      | none =>
        rw [Option.none_or]
        have h3 := of_none hf (by omega)
        by_cases h4 : S c (b + 1) ≤ G c k (t + 1)
        · exfalso
          have h5 := G_le (c := c) (k := k) (t + 1)
          have h1 : b < t + 1 := by
            by_cases z : b < t + 1
            · exact z
            · have m := S_mono (c := c) (show t + 1 ≤ b by omega)
              have e : S c (b + 1) = S c b + c b := rfl
              omega
          have hX : b ∈ (U c (t + 1)).drop (G c k t) := mem_drop.mpr ⟨h1, by omega, h3⟩
          rw [← split] at hX
          rcases List.mem_append.mp hX with z | z
          · exact hb z
          · rw [hW] at z
            obtain ⟨_, _, h6⟩ := mem_drop.mp z
            omega
        · rw [if_neg h4]
/-- as the program seeks it -/
def pw (c k : Nat → Nat) (n b : Nat) : Option Int := if c b = 0 then some 0 else Option.map (fun (m : Nat) => (m : Int)) ((List.range (n - b)).find? fun m => decide (S c (b + 1) ≤ G c k (b + m + 1)))
theorem pw_eq (h : b ≤ n) : pw c k n b = vl c k n b := by
  unfold pw vl
  by_cases h0 : c b = 0
  · rw [if_pos h0, if_pos h0]
  · rw [if_neg h0, if_neg h0]
    unfold fs
    obtain ⟨r, rfl⟩ : ∃ r, n = b + r := ⟨n - b, by omega⟩
    rw [List.range_add, List.find?_append]
    have e : (List.range b).find? (fun x => decide (S c (b + 1) ≤ G c k (x + 1))) = none := by
      rw [List.find?_eq_none]
      intro x hx
      have hx : x < b := by simpa using hx
      have h1 := G_le (c := c) (k := k) (x + 1)
      have h2 := S_mono (c := c) (show x + 1 ≤ b by omega)
      have h3 : S c (b + 1) = S c b + c b := rfl
      simp
      omega
    rw [e, Option.none_or, List.find?_map, show b + r - b = r by omega]
    simp only [Function.comp_def, Option.map_map]
    congr 1
    funext m
    show (m : Int) = ((b + m : Nat) : Int) - (b : Int)
    omega
theorem vl_zero : vl c k 0 b = if 0 < c b then none else some 0 := by
  unfold vl fs
  by_cases h : c b = 0
  · simp [h]
  · simp [h]
/-- with all a hundred times as great -/
theorem S_mul (m : Nat) : ∀ t, S (fun i => m * c i) t = m * S c t
  | 0 => by simp [S]
  | t + 1 => by rw [S, S, S_mul m t, Nat.mul_add]
theorem G_mul (m : Nat) : ∀ t, G (fun i => m * c i) (fun i => m * k i) t = m * G c k t
  | 0 => by simp [G]
  | t + 1 => by
    rw [G, G, G_mul m t, S_mul, ← Nat.mul_add]
    exact (Nat.mul_min_mul_left _ _ _).symm ▸ rfl
theorem lf_mul (m : Nat) : lf (fun i => m * c i) (fun i => m * k i) t = m * lf c k t := by
  unfold lf
  rw [S_mul, G_mul, Nat.mul_sub]
end QM
set_option Elab.async false
set_option linter.all false
set_option maxRecDepth 100000
set_option maxHeartbeats 1000000
namespace K46
open PySem PySem.Spec L2 Ax
noncomputable section
def topS (i : Nat) : Stmt := PySem.Challenge.pw_anyload_k46_whole_left_and_waited.main.body.getD i (.Pass ⟨0, 0, 0, 0⟩)
abbrev s__law_stream : Stmt := (topS 19)
abbrev n__law_stream : List Str := ["_law_script", "_law_k", "_law_cell", "_law_mixed", "_law_at", "_law_one"]
theorem sc__law_stream : FnScope n__law_stream ["_law_script", "_law_k"] (defScope s__law_stream) := ⟨rfl, rfl, rfl, by decide +kernel, rfl, by decide +kernel, by decide +kernel⟩
abbrev s__law_draw : Stmt := (topS 20)
abbrev n__law_draw : List Str := ["_law_stream_here", "_law_many", "_law_digit", "_law_spread"]
theorem sc__law_draw : FnScope n__law_draw ["_law_stream_here", "_law_many"] (defScope s__law_draw) := ⟨rfl, rfl, rfl, by decide +kernel, rfl, by decide +kernel, by decide +kernel⟩
abbrev s__law_pick : Stmt := (topS 21)
abbrev n__law_pick : List Str := ["_law_stream_here", "_law_things"]
theorem sc__law_pick : FnScope n__law_pick ["_law_stream_here", "_law_things"] (defScope s__law_pick) := ⟨rfl, rfl, rfl, by decide +kernel, rfl, by decide +kernel, by decide +kernel⟩
abbrev s__law_numbers : Stmt := (topS 26)
abbrev n__law_numbers : List Str := ["_law_stream_here", "_law_many", "_law_found", "_law_way", "_law_k"]
theorem sc__law_numbers : FnScope n__law_numbers ["_law_stream_here", "_law_many"] (defScope s__law_numbers) := ⟨rfl, rfl, rfl, by decide +kernel, rfl, by decide +kernel, by decide +kernel⟩
abbrev s__law_run_due : Stmt := (topS 24)
abbrev n__law_run_due : List Str := ["_law_load", "_law_doings", "_law_waiting", "_law_lefts", "_law_done", "_law_stays", "_law_tick", "_law_can", "_law_gone", "_law_began", "_law_at"]
theorem sc__law_run_due : FnScope n__law_run_due ["_law_load", "_law_doings"] (defScope s__law_run_due) := ⟨rfl, rfl, rfl, by decide +kernel, rfl, by decide +kernel, by decide +kernel⟩
abbrev s__law_as_lists : Stmt := (topS 23)
abbrev n__law_as_lists : List Str := ["_law_stream_here", "_law_thing", "_law_found", "_law_part"]
theorem sc__law_as_lists : FnScope n__law_as_lists ["_law_stream_here", "_law_thing"] (defScope s__law_as_lists) := ⟨rfl, rfl, rfl, by decide +kernel, rfl, by decide +kernel, by decide +kernel⟩
abbrev s__law_same : Stmt := (topS 22)
abbrev n__law_same : List Str := ["_law_found", "_law_due", "_law_one", "_law_other", "_law_key"]
theorem sc__law_same : FnScope n__law_same ["_law_found", "_law_due"] (defScope s__law_same) := ⟨rfl, rfl, rfl, by decide +kernel, rfl, by decide +kernel, by decide +kernel⟩
abbrev s_is_whole : Stmt := (topS 6)
abbrev n_is_whole : List Str := ["thing"]
theorem sc_is_whole : FnScope n_is_whole ["thing"] (defScope s_is_whole) := ⟨rfl, rfl, rfl, by decide +kernel, rfl, by decide +kernel, by decide +kernel⟩
abbrev s_is_number : Stmt := (topS 7)
abbrev n_is_number : List Str := ["thing"]
theorem sc_is_number : FnScope n_is_number ["thing"] (defScope s_is_number) := ⟨rfl, rfl, rfl, by decide +kernel, rfl, by decide +kernel, by decide +kernel⟩
abbrev s__law_met : Stmt := (topS 25)
abbrev n__law_met : List Str := ["_law_ask", "e"]
theorem sc__law_met : FnScope n__law_met ["_law_ask"] (defScope s__law_met) := ⟨rfl, rfl, rfl, by decide +kernel, rfl, by decide +kernel, by decide +kernel⟩
abbrev s_lefts_of : Stmt := (topS 14)
abbrev n_lefts_of : List Str := ["comes", "known", "found", "left", "come", "doing"]
theorem sc_lefts_of : FnScope n_lefts_of ["comes", "known"] (defScope s_lefts_of) := ⟨rfl, rfl, rfl, by decide +kernel, rfl, by decide +kernel, by decide +kernel⟩
abbrev s_is_list : Stmt := (topS 5)
abbrev n_is_list : List Str := ["thing"]
theorem sc_is_list : FnScope n_is_list ["thing"] (defScope s_is_list) := ⟨rfl, rfl, rfl, by decide +kernel, rfl, by decide +kernel, by decide +kernel⟩
abbrev s_first_odd : Stmt := (topS 8)
abbrev n_first_odd : List Str := ["things", "is_right", "odd", "index", "thing"]
theorem sc_first_odd : FnScope n_first_odd ["things", "is_right"] (defScope s_first_odd) := ⟨rfl, rfl, rfl, by decide +kernel, rfl, by decide +kernel, by decide +kernel⟩
abbrev s_checked_load : Stmt := (topS 10)
abbrev n_checked_load : List Str := ["load", "odd"]
theorem sc_checked_load : FnScope n_checked_load ["load"] (defScope s_checked_load) := ⟨rfl, rfl, rfl, by decide +kernel, rfl, by decide +kernel, by decide +kernel⟩
abbrev s_checked_doings : Stmt := (topS 12)
abbrev n_checked_doings : List Str := ["doings", "odd"]
theorem sc_checked_doings : FnScope n_checked_doings ["doings"] (defScope s_checked_doings) := ⟨rfl, rfl, rfl, by decide +kernel, rfl, by decide +kernel, by decide +kernel⟩
abbrev s_spread : Stmt := (topS 13)
abbrev n_spread : List Str := ["load", "many", "tick"]
theorem sc_spread : FnScope n_spread ["load", "many"] (defScope s_spread) := ⟨rfl, rfl, rfl, by decide +kernel, rfl, by decide +kernel, by decide +kernel⟩
abbrev s_left_behind : Stmt := (topS 15)
abbrev n_left_behind : List Str := ["load", "doings", "comes", "known"]
theorem sc_left_behind : FnScope n_left_behind ["load", "doings"] (defScope s_left_behind) := ⟨rfl, rfl, rfl, by decide +kernel, rfl, by decide +kernel, by decide +kernel⟩
abbrev s_waits_by : Stmt := (topS 16)
abbrev n_waits_by : List Str := ["comes", "lefts", "come", "gone", "found", "here", "left", "tick", "many"]
theorem sc_waits_by : FnScope n_waits_by ["comes", "lefts"] (defScope s_waits_by) := ⟨rfl, rfl, rfl, by decide +kernel, rfl, by decide +kernel, by decide +kernel⟩
abbrev s_waits : Stmt := (topS 17)
abbrev n_waits : List Str := ["load", "doings", "comes", "known"]
theorem sc_waits : FnScope n_waits ["load", "doings"] (defScope s_waits) := ⟨rfl, rfl, rfl, by decide +kernel, rfl, by decide +kernel, by decide +kernel⟩
abbrev s__law_refused_right : Stmt := (topS 28)
abbrev n__law_refused_right : List Str := ["_law_stream_here", "_law_load", "_law_doings", "_law_at", "_law_spot", "_law_odd", "_law_bad", "_law_worse", "_law_found", "_law_ask"]
theorem sc__law_refused_right : FnScope n__law_refused_right ["_law_stream_here", "_law_load", "_law_doings"] (defScope s__law_refused_right) := ⟨rfl, rfl, rfl, by decide +kernel, rfl, by decide +kernel, by decide +kernel⟩
abbrev s__law_last_left : Stmt := (topS 27)
abbrev n__law_last_left : List Str := ["_law_load", "_law_doings", "_law_waiting", "_law_found", "_law_tick", "_law_can"]
theorem sc__law_last_left : FnScope n__law_last_left ["_law_load", "_law_doings"] (defScope s__law_last_left) := ⟨rfl, rfl, rfl, by decide +kernel, rfl, by decide +kernel, by decide +kernel⟩
abbrev s_law : Stmt := (topS 29)
abbrev n_law : List Str := ["_law_script", "_law_turn", "_law_stream_here", "_law_load", "_law_doings", "_law_lefts", "_law_waited", "_law_done", "_law_handed", "_law_was", "_law_told", "_law_great", "_law_number", "_law_left"]
theorem sc_law : FnScope n_law ["_law_script"] (defScope s_law) := ⟨rfl, rfl, rfl, by decide +kernel, rfl, by decide +kernel, by decide +kernel⟩
/-! ### meanings -/
def gflds : Nat → List Str := fun c => match c with | 100 => ["index"] | 101 => ["index"] | _ => []
def f__law_stream : SS := (sSeq (sSet 2 (sIf (sTb (s2 (cmpD fun i j => decide (i < j)) (sV 1) (sB lenD (sK (sV 0) sN)))) (sB absD (sK (s2 ixD (sV 0) (sV 1)) sN)) (s2 addD (s2 modD (sB intD (sK (sB sumD (sK (sSl (sV 0) sP0 (sP1 (sC (.int 1)))) sN)) sN)) (sC (.int 1000003))) (s2 mulD (sC (.int 7)) (sV 1)))))
    (sSeq (sSet 3 (s2 modD (sB sumD (sK (sSh (sComp (sEnA (sK (sV 0) sN)) [4, 5] (gT 2 (gsK (gV 4) (gsK (gV 5) gsN))) sYes (s2 mulD (s2 addD (sV 4) (sC (.int 1))) (sB intD (sK (sB absD (sK (sV 5) sN)) sN))))) sN)) (sC (.int 2147483647))))
    (sRetO (sLst (sK (sIf (sTb (s2 (cmpD fun i j => decide (j ≤ i)) (sV 2) (s2 powD (sC (.int 10)) (sC (.int 18))))) (sV 2) (sC (.int 0))) (sK (s2 addD (s2 modD (sB intD (sK (s2 addD (sV 2) (sV 3)) sN)) (sC (.int 2147483647))) (s2 mulD (sC (.int 31)) (sV 1))) (sK (sC (.int 0)) sN)))))))
def F__law_stream : FS := runP 6 f__law_stream
def FO__law_stream : FO := runO 6 f__law_stream
def f__law_draw : SS := (sSeq (sIfS (sTb (s2 (cmpD fun i j => decide (j < i)) (sIxO 0 (sC (.int 0))) (sC (.int 0)))) (sSeq (sSet 2 (s2 modD (sB intD (sK (sIxO 0 (sC (.int 0))) sN)) (sV 1)))
    (sSeq (sSetIx 0 (sC (.int 0)) (s2 divD (sIxO 0 (sC (.int 0))) (sV 1)))
    (sRet (sV 2))))
    sNop)
    (sSeq (sSetIx 0 (sC (.int 2)) (s2 addD (sIxO 0 (sC (.int 2))) (sC (.int 1))))
    (sSeq (sSet 3 (s2 modD (s2 powD (sB intD (sK (s2 addD (s2 addD (sIxO 0 (sC (.int 1))) (s2 mulD (sC (.int 7919)) (sIxO 0 (sC (.int 2))))) (sC (.int 104729))) sN)) (sC (.int 5))) (sC (.int 2147483647))))
    (sRet (s2 modD (s2 divD (s2 modD (sB intD (sK (s2 mulD (s2 addD (sV 3) (sIxO 0 (sC (.int 2)))) (sC (.int 40692))) sN)) (sC (.int 2147483629))) (sC (.int 7))) (sV 1))))))
def F__law_draw : FI := runI 4 f__law_draw
def f__law_pick : SS := (sRet (s2 ixD (sV 1) (sCallI 1 F__law_draw 0 (sK (sB lenD (sK (sV 1) sN)) sN))))
def F__law_pick : FI := runI 2 f__law_pick
def f__law_numbers : SS := (sSeq (sPar [2, 3] (mO (sLst sN) (mS (sCallI 1 F__law_draw 0 (sK (sC (.int 3)) sN)) mN)))
    (sSeq (sFor (sR1 (sK (sV 1) sN)) (gV 4)
    (sApp 2 (sCallI 1 F__law_pick 0 (sK (s2 ixD (sSh (sLst (sK (sSh (sLst (sK (sC (.int 0)) (sK (sC (.int 0)) (sK (sC (.int 1)) (sK (sC (.int 2)) (sK (sC (.int 3)) sN))))))) (sK (sSh (sLst (sK (sC (.int 0)) (sK (sC (.int 1)) (sK (sC (.int 1)) (sK (sC (.int 1)) (sK (sC (.int 2)) sN))))))) (sK (sSh (sLst (sK (sC (.int 0)) (sK (sC (.int 0)) (sK (sC (.int 0)) (sK (sC (.int 0)) (sK (sC (.int 9)) sN))))))) sN))))) (sV 3)) sN))))
    (sRet (sV 2))))
def F__law_numbers : FI := runI 5 f__law_numbers
def f__law_run_due : SS := (sSeq (sPar [2, 3, 4] (mO (sLst sN) (mO (sLst sN) (mO (sLst sN) mN))))
    (sSeq (sSetO 5 (sComp (sR1 (sK (sB lenD (sK (sV 1) sN)) sN)) [10] (gV 10) sYes (sIf (sAnd (sTb (s2 (cmpD fun i j => decide (i < j)) (sV 10) (sB lenD (sK (sV 0) sN)))) (sTb (s2 (cmpD fun i j => decide (j < i)) (s2 ixD (sV 0) (sV 10)) (sC (.int 0))))) (sC .non) (sC (.int 0)))))
    (sSeq (sFor (sEnA (sK (sV 1) sN)) (gT 2 (gsK (gV 6) (gsK (gV 7) gsN)))
    (sSeq (sExt 2 (s2 mulD (sSh (sLst (sK (sV 6) sN))) (sIf (sTb (s2 (cmpD fun i j => decide (i < j)) (sV 6) (sB lenD (sK (sV 0) sN)))) (s2 ixD (sV 0) (sV 6)) (sC (.int 0)))))
    (sSeq (sPar [8, 2] (mS (sSh (sSlOO 2 sP0 (sP1 (sV 7)))) (mO (sSlOO 2 (sP1 (sV 7)) sP0) mN)))
    (sSeq (sFor (sIt (sV 8)) (gV 9)
    (sSetIx 5 (sV 9) (sIf (sBorT 0 2 (sTb (s2 (inD true) (sV 9) (sV 2)))) (s2 subD (sV 6) (sV 9)) (sC .non))))
    (sSeq (sApp 3 (sLenO 2))
    (sApp 4 (sB lenD (sK (sV 8) sN))))))))
    (sRet (sTup (sK (sV 3) (sK (sV 5) (sK (sV 4) sN))))))))
def F__law_run_due : FS := runP 11 f__law_run_due
def f__law_as_lists (Self : FI) : SS := (sSeq (sIfS (sT (sB isiT (sK (sV 1) (sK (sTup (sK (sC (.ty "list")) (sK (sC (.ty "tuple")) sN))) sN)))) (sSeq (sSetO 2 (sComp (sIt (sV 1)) [3] (gV 3) sYes (sCallI 1 Self 0 (sK (sV 3) sN))))
    (sRet (sIf (sTb (s2 (eqD false) (sCallI 1 F__law_draw 0 (sK (sC (.int 2)) sN)) (sC (.int 0)))) (sV 2) (sB tupleD (sK (sV 2) sN)))))
    sNop)
    (sRet (sV 1)))
def F__law_as_lists : Nat → FI
  | 0 => fun _ _ => .bad
  | j + 1 => runI 4 (f__law_as_lists (F__law_as_lists j))
def f__law_same (Self : FS) : SS := (sSeq (sIfS (sT (sB isiT (sK (sV 1) (sK (sTup (sK (sC (.ty "list")) (sK (sC (.ty "tuple")) sN))) sN)))) (sSeq (sIfS (sTb (s2 (eqD true) (sB isiT (sK (sV 0) (sK (sC (.ty "list")) sN))) (sB isiT (sK (sV 1) (sK (sC (.ty "list")) sN))))) (sRet (sC (.bl false)))
    sNop)
    (sSeq (sIfS (sOr (sTb (s2 (eqD true) (sB isiT (sK (sV 0) (sK (sC (.ty "tuple")) sN))) (sB isiT (sK (sV 1) (sK (sC (.ty "tuple")) sN))))) (sTb (s2 (eqD true) (sB lenD (sK (sV 0) sN)) (sB lenD (sK (sV 1) sN))))) (sRet (sC (.bl false)))
    sNop)
    (sRet (sB allD (sK (sSh (sComp (sZip (sK (sV 0) (sK (sV 1) sN))) [2, 3] (gT 2 (gsK (gV 2) (gsK (gV 3) gsN))) sYes (sCall 2 Self (sK (sV 2) (sK (sV 3) sN))))) sN)))))
    sNop)
    (sSeq (sIfS (sT (sB isiT (sK (sV 1) (sK (sC (.ty "dict")) sN)))) (sSeq (sIfS (sOr (sNot (sT (sB isiT (sK (sV 0) (sK (sC (.ty "dict")) sN))))) (sTb (s2 (eqD true) (sSh (sList (sK (sV 0) sN))) (sSh (sList (sK (sV 1) sN)))))) (sRet (sC (.bl false)))
    sNop)
    (sRet (sB allD (sK (sSh (sComp (sIt (sV 1)) [4] (gV 4) sYes (sCall 2 Self (sK (s2 ixD (sV 0) (sV 4)) (sK (s2 ixD (sV 1) (sV 4)) sN))))) sN))))
    sNop)
    (sSeq (sIfS (sT (sB isiT (sK (sV 1) (sK (sTup (sK (sC (.ty "bool")) (sK (sC (.ty "int")) sN))) sN)))) (sRet (sAndV (sB isiT (sK (sV 0) (sK (sC (.ty "int")) sN))) (sAndV (s2 (eqD false) (sB isiT (sK (sV 0) (sK (sC (.ty "bool")) sN))) (sB isiT (sK (sV 1) (sK (sC (.ty "bool")) sN)))) (s2 (eqD false) (sV 0) (sV 1)))))
    sNop)
    (sRet (sAndV (sNotV (sB isiT (sK (sV 0) (sK (sTup (sK (sC (.ty "bool")) (sK (sC (.ty "int")) (sK (sC (.ty "list")) (sK (sC (.ty "tuple")) (sK (sC (.ty "dict")) sN)))))) sN)))) (s2 (eqD false) (sV 0) (sV 1)))))))
def F__law_same : Nat → FS
  | 0 => fun _ => .bad
  | j + 1 => runP 5 (f__law_same (F__law_same j))
def f_is_whole : SS := (sRet (sAndV (sB isiT (sK (sV 0) (sK (sC (.ty "int")) sN))) (sNotV (sB isiT (sK (sV 0) (sK (sC (.ty "bool")) sN))))))
def F_is_whole : FS := runP 1 f_is_whole
def f_is_number : SS := (sRet (sAndV (sCall 1 F_is_whole (sK (sV 0) sN)) (s2 (cmpD fun i j => decide (j ≤ i)) (sV 0) (sC (.int 0)))))
def F_is_number : FS := runP 1 f_is_number
def f__law_met (r : RS) : SS := (sTry 1 [100, 101] (sRetO (sLst (sK (sC (.str ("told" : Str))) (sK (sThunk r) sN)))) [⟨100, 0, ("load" : Str)⟩, ⟨101, 0, ("doings" : Str)⟩])

def f_lefts_of : SS := (sSeq (sPar [2, 3] (mO (sLst sN) (mS (sC (.int 0)) mN)))
    (sSeq (sFor (sZip (sK (sV 0) (sK (sV 1) sN))) (gT 2 (gsK (gV 4) (gsK (gV 5) gsN)))
    (sSeq (sSet 3 (sB maxD (sK (sC (.int 0)) (sK (s2 subD (s2 addD (sV 3) (sV 4)) (sV 5)) sN))))
    (sApp 2 (sV 3))))
    (sRet (sV 2))))
def F_lefts_of : FS := runP 6 f_lefts_of
def fo_lefts_of : SS := (sSeq (sPar [2, 3] (mO (sLst sN) (mS (sC (.int 0)) mN)))
    (sSeq (sFor (sZip (sK (sV 0) (sK (sV 1) sN))) (gT 2 (gsK (gV 4) (gsK (gV 5) gsN)))
    (sSeq (sSet 3 (sB maxD (sK (sC (.int 0)) (sK (s2 subD (s2 addD (sV 3) (sV 4)) (sV 5)) sN))))
    (sApp 2 (sV 3))))
    sNop))
def FO_lefts_of : FO := runOV 6 2 fo_lefts_of
def f_is_list : SS := (sRet (sB isiT (sK (sV 0) (sK (sTup (sK (sC (.ty "list")) (sK (sC (.ty "tuple")) sN))) sN))))
def F_is_list : FS := runP 1 f_is_list
def f_first_odd : SS := (sSeq (sIfS (sNot (sT (sCall 1 F_is_list (sK (sV 0) sN)))) (sRet (sC (.int 0)))
    sNop)
    (sSeq (sSetO 2 (sComp (sEnA (sK (sV 0) sN)) [3, 4] (gT 2 (gsK (gV 3) (gsK (gV 4) gsN))) (sNot (sT (sCallL 1 0 1 F_is_number (sK (sV 4) sN)))) (sV 3)))
    (sRet (sIf (sT (sV 2)) (s2 ixD (sV 2) (sC (.int 0))) (sC .non)))))
def F_first_odd : FS := runP 5 f_first_odd
def f_checked_load : SS := (sSeq (sSet 1 (sCall 2 F_first_odd (sK (sV 0) (sK (sC (.fn 0)) sN))))
    (sSeq (sIfS (sTb (s2 (isND true) (sV 1) (sC .non))) (sRaise 100 (sV 1))
    sNop)
    (sRetO (sList (sK (sV 0) sN)))))
def F_checked_load : FS := runP 2 f_checked_load
def f_checked_doings : SS := (sSeq (sSet 1 (sCall 2 F_first_odd (sK (sV 0) (sK (sC (.fn 0)) sN))))
    (sSeq (sIfS (sTb (s2 (isND true) (sV 1) (sC .non))) (sRaise 101 (sV 1))
    sNop)
    (sRetO (sList (sK (sV 0) sN)))))
def F_checked_doings : FS := runP 2 f_checked_doings
def f_spread : SS := (sRetO (sComp (sR1 (sK (sV 1) sN)) [2] (gV 2) sYes (sIf (sTb (s2 (cmpD fun i j => decide (i < j)) (sV 2) (sB lenD (sK (sV 0) sN)))) (s2 ixD (sV 0) (sV 2)) (sC (.int 0)))))
def F_spread : FS := runP 3 f_spread
def f_left_behind : SS := (sSeq (sPar [2, 3] (mS (sCall 1 F_checked_load (sK (sV 0) sN)) (mS (sCall 1 F_checked_doings (sK (sV 1) sN)) mN)))
    (sRetO (sCallO 2 FO_lefts_of (sK (sCall 2 F_spread (sK (sV 2) (sK (sB lenD (sK (sV 3) sN)) sN))) (sK (sV 3) sN)))))
def F_left_behind : FS := runP 4 f_left_behind
def FO_left_behind : FO := runO 4 f_left_behind
def f_waits_by : SS := (sSeq (sPar [2, 3, 4] (mS (sC (.int 0)) (mO (sLst sN) (mO (sLst sN) mN))))
    (sSeq (sFor (sZip (sK (sV 0) (sK (sV 1) sN))) (gT 2 (gsK (gV 5) (gsK (gV 6) gsN)))
    (sSeq (sAug 2 augA (sV 5))
    (sApp 3 (s2 subD (sV 2) (sV 6)))))
    (sSeq (sSet 2 (sC (.int 0)))
    (sSeq (sFor (sEnA (sK (sV 0) sN)) (gT 2 (gsK (gV 7) (gsK (gV 5) gsN)))
    (sSeq (sAug 2 augA (sV 5))
    (sIfS (sTb (s2 (eqD false) (sV 5) (sC (.int 0)))) (sApp 4 (sC (.int 0)))
    (sApp 4 (sB minDefD (sK (sSh (sComp (sR1 (sK (s2 subD (sB lenD (sK (sV 0) sN)) (sV 7)) sN)) [8] (gV 8) (sTb (s2 (cmpD fun i j => decide (j ≤ i)) (sIxO 3 (s2 addD (sV 7) (sV 8))) (sV 2))) (sV 8))) sN))))))
    (sRet (sV 4))))))
def F_waits_by : FS := runP 9 f_waits_by
def fo_waits_by : SS := (sSeq (sPar [2, 3, 4] (mS (sC (.int 0)) (mO (sLst sN) (mO (sLst sN) mN))))
    (sSeq (sFor (sZip (sK (sV 0) (sK (sV 1) sN))) (gT 2 (gsK (gV 5) (gsK (gV 6) gsN)))
    (sSeq (sAug 2 augA (sV 5))
    (sApp 3 (s2 subD (sV 2) (sV 6)))))
    (sSeq (sSet 2 (sC (.int 0)))
    (sSeq (sFor (sEnA (sK (sV 0) sN)) (gT 2 (gsK (gV 7) (gsK (gV 5) gsN)))
    (sSeq (sAug 2 augA (sV 5))
    (sIfS (sTb (s2 (eqD false) (sV 5) (sC (.int 0)))) (sApp 4 (sC (.int 0)))
    (sApp 4 (sB minDefD (sK (sSh (sComp (sR1 (sK (s2 subD (sB lenD (sK (sV 0) sN)) (sV 7)) sN)) [8] (gV 8) (sTb (s2 (cmpD fun i j => decide (j ≤ i)) (sIxO 3 (s2 addD (sV 7) (sV 8))) (sV 2))) (sV 8))) sN))))))
    sNop))))
def FO_waits_by : FO := runOV 9 4 fo_waits_by
def f_waits : SS := (sSeq (sPar [2, 3] (mS (sCall 1 F_checked_load (sK (sV 0) sN)) (mS (sCall 1 F_checked_doings (sK (sV 1) sN)) mN)))
    (sSeq (sSet 2 (sCall 2 F_spread (sK (sV 2) (sK (sB lenD (sK (sV 3) sN)) sN))))
    (sRetO (sCallO 2 FO_waits_by (sK (sV 2) (sK (sCall 2 F_lefts_of (sK (sV 2) (sK (sV 3) sN))) sN))))))
def F_waits : FS := runP 4 f_waits
def FO_waits : FO := runO 4 f_waits
def f__law_refused_right : SS := (sSeq (sPar [3, 4] (mS (sCallI 1 F__law_draw 0 (sK (s2 addD (sB lenD (sK (sV 1) sN)) (sC (.int 1))) sN)) (mS (sCallI 1 F__law_draw 0 (sK (s2 addD (sB lenD (sK (sV 2) sN)) (sC (.int 1))) sN)) mN)))
    (sSeq (sFor (sIt (sSh (sLst (sK (sC .non) (sK (s1 negD (sC (.int 1))) (sK (sC (.bl true)) (sK (sC (.str ("1" : Str))) (sK (sTup (sK (sC (.int 1)) sN)) (sK (sSh (sLst sN)) (sK (sC (.dic [] [])) (sK (sC (.fn 1)) sN))))))))))) (gV 5)
    (sSeq (sAsg (sTup (sK (s2 addD (s2 addD (sSl (sV 1) sP0 (sP1 (sV 3))) (sSh (sLst (sK (sV 5) (sK (sC .non) sN))))) (sSl (sV 1) (sP1 (sV 3)) sP0)) (sK (s2 addD (s2 addD (sSl (sV 2) sP0 (sP1 (sV 4))) (sSh (sLst (sK (sV 5) (sK (sC .non) sN))))) (sSl (sV 2) (sP1 (sV 4)) sP0)) sN))) (gT 2 (gsK (gV 6) (gsK (gV 7) gsN))))
    (sSeq (sSetO 8 (sLst sN))
    (sSeq (sFor (sIt (sTup (sK (sC (.fn 2)) (sK (sC (.fn 3)) sN)))) (gV 9)
    (sSeq (sApp 8 (sLam (runL 2 f__law_met) (sAlt (sCallLX 9 2 2 F_left_behind (sK (sV 6) (sK (sV 7) sN))) (sCallLX 9 3 2 F_waits (sK (sV 6) (sK (sV 7) sN))))))
    (sApp 8 (sLam (runL 2 f__law_met) (sAlt (sCallLX 9 2 2 F_left_behind (sK (sV 1) (sK (sV 7) sN))) (sCallLX 9 3 2 F_waits (sK (sV 1) (sK (sV 7) sN))))))))
    (sIfS (sNot (sT (sCall 2 (F__law_same 6) (sK (sV 8) (sK (s2 mulD (sSh (sLst (sK (sSh (sLst (sK (sC (.str ("load" : Str))) (sK (sV 3) sN)))) (sK (sSh (sLst (sK (sC (.str ("doings" : Str))) (sK (sV 4) sN)))) sN)))) (sC (.int 2))) sN))))) (sRet (sC (.bl false)))
    sNop)))))
    (sSeq (sFor (sIt (sSh (sLst (sK (sC .non) (sK (sC (.int 5)) (sK (sC (.str ("12" : Str))) (sK (sC (.dic [] [])) (sK (sC (.bl true)) (sK (sC (.fn 1)) sN))))))))) (gV 5)
    (sSeq (sSetO 8 (sLst sN))
    (sSeq (sFor (sIt (sTup (sK (sC (.fn 2)) (sK (sC (.fn 3)) sN)))) (gV 9)
    (sSeq (sApp 8 (sLam (runL 2 f__law_met) (sAlt (sCallLX 9 2 2 F_left_behind (sK (sV 5) (sK (sC .non) sN))) (sCallLX 9 3 2 F_waits (sK (sV 5) (sK (sC .non) sN))))))
    (sApp 8 (sLam (runL 2 f__law_met) (sAlt (sCallLX 9 2 2 F_left_behind (sK (sV 1) (sK (sV 5) sN))) (sCallLX 9 3 2 F_waits (sK (sV 1) (sK (sV 5) sN))))))))
    (sIfS (sNot (sT (sCall 2 (F__law_same 6) (sK (sV 8) (sK (s2 mulD (sSh (sLst (sK (sSh (sLst (sK (sC (.str ("load" : Str))) (sK (sC (.int 0)) sN)))) (sK (sSh (sLst (sK (sC (.str ("doings" : Str))) (sK (sC (.int 0)) sN)))) sN)))) (sC (.int 2))) sN))))) (sRet (sC (.bl false)))
    sNop))))
    (sRet (sC (.bl true))))))
def F__law_refused_right : FI := runI 10 f__law_refused_right
def f__law_last_left : SS := (sSeq (sPar [2, 3] (mO (sLst sN) (mO (sLst sN) mN)))
    (sSeq (sFor (sEnA (sK (sV 1) sN)) (gT 2 (gsK (gV 4) (gsK (gV 5) gsN)))
    (sSeq (sExt 2 (s2 mulD (sSh (sLst (sK (sV 4) sN))) (sIf (sTb (s2 (cmpD fun i j => decide (i < j)) (sV 4) (sB lenD (sK (sV 0) sN)))) (s2 ixD (sV 0) (sV 4)) (sC (.int 0)))))
    (sSeq (sSetO 2 (sSlOO 2 sP0 (sP1 (sB maxD (sK (sC (.int 0)) (sK (s2 subD (sLenO 2) (sV 5)) sN))))))
    (sApp 3 (sLenO 2)))))
    (sRet (sV 3))))
def F__law_last_left : FS := runP 6 f__law_last_left
def f_law : SS := (sSeq (sFor (sR1 (sK (sC (.int 4)) sN)) (gV 1)
    (sSeq (sSetO 2 (sCallO 2 FO__law_stream (sK (sV 0) (sK (sV 1) sN))))
    (sSeq (sSet 3 (sCallI 1 F__law_numbers 2 (sK (sCallI 1 F__law_draw 2 (sK (sC (.int 20)) sN)) sN)))
    (sSeq (sSet 4 (sCallI 1 F__law_numbers 2 (sK (sCallI 1 F__law_pick 2 (sK (sSh (sLst (sK (sC (.int 0)) (sK (sC (.int 1)) (sK (sB lenD (sK (sV 3) sN)) (sK (s2 addD (sB lenD (sK (sV 3) sN)) (sCallI 1 F__law_draw 2 (sK (sC (.int 9)) sN))) (sK (sC (.int 20)) sN))))))) sN)) sN)))
    (sSeq (sAsg (sCall 2 F__law_run_due (sK (sV 3) (sK (sV 4) sN))) (gT 3 (gsK (gV 5) (gsK (gV 6) (gsK (gV 7) gsN)))))
    (sSeq (sSet 8 (sSh (sLst (sK (sCallI 1 (F__law_as_lists 6) 2 (sK (sV 3) sN)) (sK (sCallI 1 (F__law_as_lists 6) 2 (sK (sV 4) sN)) sN)))))
    (sToldP 9 10 (sB reprD (sK (sV 8) sN)) (sCallO 2 FO_left_behind (sK (s2 ixD (sV 8) (sC (.int 0))) (sK (s2 ixD (sV 8) (sC (.int 1))) sN))) (sCallO 2 FO_waits (sK (s2 ixD (sV 8) (sC (.int 0))) (sK (s2 ixD (sV 8) (sC (.int 1))) sN))) (sOr (sNot (sT (sCall 2 (F__law_same 6) (sK (sV 10) (sK (sSh (sLst (sK (sV 5) (sK (sV 6) sN)))) sN))))) (sOr (sTb (s2 (eqD true) (sB reprD (sK (sV 8) sN)) (sV 9))) (sTb (s2 (eqD true) (sCall 2 F__law_last_left (sK (sV 3) (sK (sV 4) sN))) (sV 5)))))
    (sSeq (sIfS (sNot (sT (sCall 2 (F__law_same 6) (sK (sSh (sLst (sK (sCall 2 F_left_behind (sK (sV 3) (sK (sV 4) sN))) (sK (sCall 2 F_waits (sK (sV 3) (sK (sV 4) sN))) sN)))) (sK (sSh (sLst (sK (sV 5) (sK (sV 6) sN)))) sN))))) (sRet (sC (.bl false)))
    sNop)
    (sSeq (sSetO 11 (sComp (sIt (sV 3)) [12] (gV 12) sYes (s2 mulD (sV 12) (sC (.int 100)))))
    (sSeq (sIfS (sNot (sT (sCall 2 (F__law_same 6) (sK (sCall 2 F_left_behind (sK (sV 11) (sK (sSh (sComp (sIt (sV 4)) [12] (gV 12) sYes (s2 mulD (sV 12) (sC (.int 100))))) sN))) (sK (sSh (sComp (sIt (sV 5)) [13] (gV 13) sYes (s2 mulD (sV 13) (sC (.int 100))))) sN))))) (sRet (sC (.bl false)))
    sNop)
    (sIfS (sNot (sT (sCallI 2 F__law_refused_right 2 (sK (sV 3) (sK (sV 4) sN))))) (sRet (sC (.bl false)))
    sNop)))))))))))
    (sRet (sAndV (s2 (eqD false) (sCall 2 F_left_behind (sK (sSh (sLst sN)) (sK (sSh (sLst sN)) sN))) (sSh (sLst sN))) (sAndV (s2 (eqD false) (sCall 2 F_waits (sK (sSh (sLst (sK (sC (.int 5)) sN))) (sK (sSh (sLst sN)) sN))) (sSh (sLst sN))) (s2 (eqD false) (sCall 2 F_waits (sK (sSh (sLst sN)) (sK (sSh (sLst (sK (sC (.int 0)) (sK (sC (.int 3)) sN)))) sN))) (sSh (sLst (sK (sC (.int 0)) (sK (sC (.int 0)) sN)))))))))
def F_law : FS := runP 14 f_law
end
end K46
set_option Elab.async false
set_option linter.all false
set_option maxRecDepth 100000
set_option maxHeartbeats 1000000
namespace K46
open PySem PySem.Spec L2 Ax
structure Adr where
  f__law_stream : Addr
  d__law_stream : FuncData
  f__law_draw : Addr
  d__law_draw : FuncData
  f__law_pick : Addr
  d__law_pick : FuncData
  f__law_numbers : Addr
  d__law_numbers : FuncData
  f__law_run_due : Addr
  d__law_run_due : FuncData
  f__law_as_lists : Addr
  d__law_as_lists : FuncData
  f__law_same : Addr
  d__law_same : FuncData
  f_is_whole : Addr
  d_is_whole : FuncData
  f_is_number : Addr
  d_is_number : FuncData
  f__law_met : Addr
  d__law_met : FuncData
  f_lefts_of : Addr
  d_lefts_of : FuncData
  f_is_list : Addr
  d_is_list : FuncData
  f_first_odd : Addr
  d_first_odd : FuncData
  f_checked_load : Addr
  d_checked_load : FuncData
  f_checked_doings : Addr
  d_checked_doings : FuncData
  f_spread : Addr
  d_spread : FuncData
  f_left_behind : Addr
  d_left_behind : FuncData
  f_waits_by : Addr
  d_waits_by : FuncData
  f_waits : Addr
  d_waits : FuncData
  f__law_refused_right : Addr
  d__law_refused_right : FuncData
  f__law_last_left : Addr
  d__law_last_left : FuncData
  f_law : Addr
  d_law : FuncData
  c_BadLoad : Addr
  i_BadLoad : Addr
  c_BadDoings : Addr
  i_BadDoings : Addr
  cc__law_refused_right : Addr
  ct__law_refused_right : Addr
def gw (K : PySem.W.Frag) (A : Adr) : GW := ⟨K, fun c => c ∈ ([] : List Nat), fun c => match c with | 100 => A.c_BadLoad | 101 => A.c_BadDoings | _ => 0, gflds, fun i => match i with | 0 => A.f_is_number | 1 => A.f__law_draw | 2 => A.f_left_behind | 3 => A.f_waits | _ => 0, fun i => i ∈ ([0, 1, 2, 3] : List Nat)⟩
theorem kf_is_number {K : PySem.W.Frag} {A : Adr} : (gw K A).kf 0 := by show (0 : Nat) ∈ ([0, 1, 2, 3] : List Nat); decide
theorem kf__law_draw {K : PySem.W.Frag} {A : Adr} : (gw K A).kf 1 := by show (1 : Nat) ∈ ([0, 1, 2, 3] : List Nat); decide
theorem kf_left_behind {K : PySem.W.Frag} {A : Adr} : (gw K A).kf 2 := by show (2 : Nat) ∈ ([0, 1, 2, 3] : List Nat); decide
theorem kf_waits {K : PySem.W.Frag} {A : Adr} : (gw K A).kf 3 := by show (3 : Nat) ∈ ([0, 1, 2, 3] : List Nat); decide
structure Txt (P : Program) (K : PySem.W.Frag) (mg : Str → Option Value) (A : Adr) : Prop where
  F__law_stream : Fun K "_law_stream" "_law_stream" s__law_stream A.f__law_stream A.d__law_stream
  b__law_stream : Binds K A.d__law_stream ["_law_script", "_law_k"] []
  g__law_stream : mg "_law_stream" = some (.ref A.f__law_stream)
  F__law_draw : Fun K "_law_draw" "_law_draw" s__law_draw A.f__law_draw A.d__law_draw
  b__law_draw : Binds K A.d__law_draw ["_law_stream_here", "_law_many"] []
  g__law_draw : mg "_law_draw" = some (.ref A.f__law_draw)
  F__law_pick : Fun K "_law_pick" "_law_pick" s__law_pick A.f__law_pick A.d__law_pick
  b__law_pick : Binds K A.d__law_pick ["_law_stream_here", "_law_things"] []
  g__law_pick : mg "_law_pick" = some (.ref A.f__law_pick)
  F__law_numbers : Fun K "_law_numbers" "_law_numbers" s__law_numbers A.f__law_numbers A.d__law_numbers
  b__law_numbers : Binds K A.d__law_numbers ["_law_stream_here", "_law_many"] []
  g__law_numbers : mg "_law_numbers" = some (.ref A.f__law_numbers)
  F__law_run_due : Fun K "_law_run_due" "_law_run_due" s__law_run_due A.f__law_run_due A.d__law_run_due
  b__law_run_due : Binds K A.d__law_run_due ["_law_load", "_law_doings"] []
  g__law_run_due : mg "_law_run_due" = some (.ref A.f__law_run_due)
  F__law_as_lists : Fun K "_law_as_lists" "_law_as_lists" s__law_as_lists A.f__law_as_lists A.d__law_as_lists
  b__law_as_lists : Binds K A.d__law_as_lists ["_law_stream_here", "_law_thing"] []
  g__law_as_lists : mg "_law_as_lists" = some (.ref A.f__law_as_lists)
  F__law_same : Fun K "_law_same" "_law_same" s__law_same A.f__law_same A.d__law_same
  b__law_same : Binds K A.d__law_same ["_law_found", "_law_due"] []
  g__law_same : mg "_law_same" = some (.ref A.f__law_same)
  F_is_whole : Fun K "is_whole" "is_whole" s_is_whole A.f_is_whole A.d_is_whole
  b_is_whole : Binds K A.d_is_whole ["thing"] []
  g_is_whole : mg "is_whole" = some (.ref A.f_is_whole)
  F_is_number : Fun K "is_number" "is_number" s_is_number A.f_is_number A.d_is_number
  b_is_number : Binds K A.d_is_number ["thing"] []
  g_is_number : mg "is_number" = some (.ref A.f_is_number)
  F__law_met : Fun K "_law_met" "_law_met" s__law_met A.f__law_met A.d__law_met
  b__law_met : Binds K A.d__law_met ["_law_ask"] []
  g__law_met : mg "_law_met" = some (.ref A.f__law_met)
  F_lefts_of : Fun K "lefts_of" "lefts_of" s_lefts_of A.f_lefts_of A.d_lefts_of
  b_lefts_of : Binds K A.d_lefts_of ["comes", "known"] []
  g_lefts_of : mg "lefts_of" = some (.ref A.f_lefts_of)
  F_is_list : Fun K "is_list" "is_list" s_is_list A.f_is_list A.d_is_list
  b_is_list : Binds K A.d_is_list ["thing"] []
  g_is_list : mg "is_list" = some (.ref A.f_is_list)
  F_first_odd : Fun K "first_odd" "first_odd" s_first_odd A.f_first_odd A.d_first_odd
  b_first_odd : Binds K A.d_first_odd ["things", "is_right"] []
  g_first_odd : mg "first_odd" = some (.ref A.f_first_odd)
  F_checked_load : Fun K "checked_load" "checked_load" s_checked_load A.f_checked_load A.d_checked_load
  b_checked_load : Binds K A.d_checked_load ["load"] []
  g_checked_load : mg "checked_load" = some (.ref A.f_checked_load)
  F_checked_doings : Fun K "checked_doings" "checked_doings" s_checked_doings A.f_checked_doings A.d_checked_doings
  b_checked_doings : Binds K A.d_checked_doings ["doings"] []
  g_checked_doings : mg "checked_doings" = some (.ref A.f_checked_doings)
  F_spread : Fun K "spread" "spread" s_spread A.f_spread A.d_spread
  b_spread : Binds K A.d_spread ["load", "many"] []
  g_spread : mg "spread" = some (.ref A.f_spread)
  F_left_behind : Fun K "left_behind" "left_behind" s_left_behind A.f_left_behind A.d_left_behind
  b_left_behind : Binds K A.d_left_behind ["load", "doings"] []
  g_left_behind : mg "left_behind" = some (.ref A.f_left_behind)
  F_waits_by : Fun K "waits_by" "waits_by" s_waits_by A.f_waits_by A.d_waits_by
  b_waits_by : Binds K A.d_waits_by ["comes", "lefts"] []
  g_waits_by : mg "waits_by" = some (.ref A.f_waits_by)
  F_waits : Fun K "waits" "waits" s_waits A.f_waits A.d_waits
  b_waits : Binds K A.d_waits ["load", "doings"] []
  g_waits : mg "waits" = some (.ref A.f_waits)
  F__law_refused_right : Fun K "_law_refused_right" "_law_refused_right" s__law_refused_right A.f__law_refused_right A.d__law_refused_right
  b__law_refused_right : Binds K A.d__law_refused_right ["_law_stream_here", "_law_load", "_law_doings"] []
  g__law_refused_right : mg "_law_refused_right" = some (.ref A.f__law_refused_right)
  F__law_last_left : Fun K "_law_last_left" "_law_last_left" s__law_last_left A.f__law_last_left A.d__law_last_left
  b__law_last_left : Binds K A.d__law_last_left ["_law_load", "_law_doings"] []
  g__law_last_left : mg "_law_last_left" = some (.ref A.f__law_last_left)
  F_law : Fun K "law" "law" s_law A.f_law A.d_law
  b_law : Binds K A.d_law ["_law_script"] []
  g_law : mg "law" = some (.ref A.f_law)
  n_abs : mg "abs" = none
  n_all : mg "all" = none
  n_bool : mg "bool" = none
  n_dict : mg "dict" = none
  n_enumerate : mg "enumerate" = none
  n_int : mg "int" = none
  n_isinstance : mg "isinstance" = none
  n_len : mg "len" = none
  n_list : mg "list" = none
  n_max : mg "max" = none
  n_min : mg "min" = none
  n_range : mg "range" = none
  n_repr : mg "repr" = none
  n_sum : mg "sum" = none
  n_tuple : mg "tuple" = none
  n_zip : mg "zip" = none
  e_BadLoad : AxE.BadC K P.main.file A.c_BadLoad A.i_BadLoad "index" "index"
  g_BadLoad : mg "BadLoad" = some (.ref A.c_BadLoad)
  x_BadLoad : XfC K A.c_BadLoad
  e_BadDoings : AxE.BadC K P.main.file A.c_BadDoings A.i_BadDoings "index" "index"
  g_BadDoings : mg "BadDoings" = some (.ref A.c_BadDoings)
  x_BadDoings : XfC K A.c_BadDoings
  n_super : mg "super" = none
  htop : (P.main.scope.names.lookup ("super" : Str)).isSome = false
  xm : ∀ c ∈ ([100, 101] : List Nat), ∀ c2 ∈ ([100, 101] : List Nat), PySem.W.exmOne K (.ref ((gw K A).cls c)) (.ref ((gw K A).cls c2)) = some (c == c2)
  FC__law_refused_right : FunC K "_law_refused_right" "_law_refused_right" s__law_refused_right A.f__law_refused_right A.d__law_refused_right A.cc__law_refused_right
  kit : KitOk K (gw K A)
theorem Txt.met__law_met {P : Program} {K : PySem.W.Frag} {mg : Str → Option Value} {A : Adr} (T : Txt P K mg A) : MetOk K (gw K A) "_law_met" "_law_ask" s__law_met n__law_met A.f__law_met A.d__law_met f__law_met := ⟨T.F__law_met, T.b__law_met, sc__law_met, T.F__law_met.kp, rfl, .inl rfl⟩
section
variable [T0 : TabC] {P : Program} {w : World} {K : PySem.W.Frag} {mg : Str → Option Value} {base : Heap}
theorem ok__law_stream {A : Adr} (T : Txt P K mg A) : FnOk P w K mg base (L2.CX P w) 1 A.f__law_stream A.d__law_stream ["_law_script", "_law_k"] (spP (gw K A) 2 F__law_stream) :=
  ok_fn (k := 0) T.F__law_stream sc__law_stream fun cdv A' outer s H E hr => (qs_k (q_set (x := .Name "" default) (ps_set (i := 2) sc__law_stream.nd rfl (.inl rfl) (pd_if (pt_cmp opd_lt (pd_v (pv 1)) (pd_cb (cb_len rfl) (by rfl) T.n_len (by decide +kernel) (pl_k (pd_v (pv 0)) pl_n)) (by rfl)) (pd_cb cb_abs (by rfl) T.n_abs (by decide +kernel) (pl_k (pd_ix (pd_v (pv 0)) (pd_v (pv 1)) (fun _ _ => rfl)) pl_n)) (pd_bin opd_add (pd_bin opd_mod (pd_ct cb_int (by rfl) T.n_int (by decide +kernel) (pl_k (pd_cb (cb_sum rfl rfl) (by rfl) T.n_sum (by decide +kernel) (pl_k (pd_sl (pd_v (pv 0)) pp_0 (pp_1 pd_int)) pl_n)) pl_n)) pd_int) (pd_bin opd_mul pd_int (pd_v (pv 1)))))))
    (qs_k (q_set (x := .Name "" default) (ps_set (i := 3) sc__law_stream.nd rfl (.inl rfl) (pd_bin opd_mod (pd_cb (cb_sum rfl rfl) (by rfl) T.n_sum (by decide +kernel) (pl_k (pd_own (po_comp (own := [("_law_at", 4), ("_law_one", 5)]) rfl sc__law_stream.nd (pw_enA (by rfl) T.n_enumerate (pl_k (pd_v (pv 0)) pl_n)) (blkOk_by (own := [("_law_at", 4), ("_law_one", 5)]) (N := n__law_stream) (sc := defScope s__law_stream) (by decide +kernel)) (fun _ _ _ _ _ => (pg_t rfl (pgs_k (pg_v (pg_name (i := 4) sc__law_stream.nd rfl (.inl rfl))) (pgs_k (pg_v (pg_name (i := 5) sc__law_stream.nd rfl (.inl rfl))) pgs_n)))) (fun _ _ _ _ _ => (pts_y pts_nil)) (fun _ _ _ _ _ => (pd_bin opd_mul (pd_bin opd_add (pd_v (pv 4)) pd_int) (pd_ct cb_int (by rfl) T.n_int (by decide +kernel) (pl_k (pd_cb cb_abs (by rfl) T.n_abs (by decide +kernel) (pl_k (pd_v (pv 5)) pl_n)) pl_n)))))) pl_n)) pd_int)))
    (qs_1 (q_retO (po_lst (pl_k (pd_if (pt_cmp opd_ge (pd_v (pv 2)) (pd_bin opd_pow pd_int pd_int) (by rfl)) (pd_v (pv 2)) pd_int) (pl_k (pd_bin opd_add (pd_bin opd_mod (pd_ct cb_int (by rfl) T.n_int (by decide +kernel) (pl_k (pd_bin opd_add (pd_v (pv 2)) (pd_v (pv 3))) pl_n)) pd_int) (pd_bin opd_mul pd_int (pd_v (pv 1)))) (pl_k pd_int pl_n))))))))
theorem okO__law_stream {A : Adr} (T : Txt P K mg A) : FnOk P w K mg base (L2.CX P w) 1 A.f__law_stream A.d__law_stream ["_law_script", "_law_k"] (spO (gw K A) 2 FO__law_stream) :=
  ok_fnO (k := 0) T.F__law_stream sc__law_stream fun cdv A' outer s H E hr => (qs_k (q_set (x := .Name "" default) (ps_set (i := 2) sc__law_stream.nd rfl (.inl rfl) (pd_if (pt_cmp opd_lt (pd_v (pv 1)) (pd_cb (cb_len rfl) (by rfl) T.n_len (by decide +kernel) (pl_k (pd_v (pv 0)) pl_n)) (by rfl)) (pd_cb cb_abs (by rfl) T.n_abs (by decide +kernel) (pl_k (pd_ix (pd_v (pv 0)) (pd_v (pv 1)) (fun _ _ => rfl)) pl_n)) (pd_bin opd_add (pd_bin opd_mod (pd_ct cb_int (by rfl) T.n_int (by decide +kernel) (pl_k (pd_cb (cb_sum rfl rfl) (by rfl) T.n_sum (by decide +kernel) (pl_k (pd_sl (pd_v (pv 0)) pp_0 (pp_1 pd_int)) pl_n)) pl_n)) pd_int) (pd_bin opd_mul pd_int (pd_v (pv 1)))))))
    (qs_k (q_set (x := .Name "" default) (ps_set (i := 3) sc__law_stream.nd rfl (.inl rfl) (pd_bin opd_mod (pd_cb (cb_sum rfl rfl) (by rfl) T.n_sum (by decide +kernel) (pl_k (pd_own (po_comp (own := [("_law_at", 4), ("_law_one", 5)]) rfl sc__law_stream.nd (pw_enA (by rfl) T.n_enumerate (pl_k (pd_v (pv 0)) pl_n)) (blkOk_by (own := [("_law_at", 4), ("_law_one", 5)]) (N := n__law_stream) (sc := defScope s__law_stream) (by decide +kernel)) (fun _ _ _ _ _ => (pg_t rfl (pgs_k (pg_v (pg_name (i := 4) sc__law_stream.nd rfl (.inl rfl))) (pgs_k (pg_v (pg_name (i := 5) sc__law_stream.nd rfl (.inl rfl))) pgs_n)))) (fun _ _ _ _ _ => (pts_y pts_nil)) (fun _ _ _ _ _ => (pd_bin opd_mul (pd_bin opd_add (pd_v (pv 4)) pd_int) (pd_ct cb_int (by rfl) T.n_int (by decide +kernel) (pl_k (pd_cb cb_abs (by rfl) T.n_abs (by decide +kernel) (pl_k (pd_v (pv 5)) pl_n)) pl_n)))))) pl_n)) pd_int)))
    (qs_1 (q_retO (po_lst (pl_k (pd_if (pt_cmp opd_ge (pd_v (pv 2)) (pd_bin opd_pow pd_int pd_int) (by rfl)) (pd_v (pv 2)) pd_int) (pl_k (pd_bin opd_add (pd_bin opd_mod (pd_ct cb_int (by rfl) T.n_int (by decide +kernel) (pl_k (pd_bin opd_add (pd_v (pv 2)) (pd_v (pv 3))) pl_n)) pd_int) (pd_bin opd_mul pd_int (pd_v (pv 1)))) (pl_k pd_int pl_n))))))))
theorem ok__law_draw {A : Adr} (T : Txt P K mg A) : FnOk P w K mg base (L2.CX P w) 1 A.f__law_draw A.d__law_draw ["_law_stream_here", "_law_many"] (spI (gw K A) 1 F__law_draw) :=
  ok_fnI (k := 0) T.F__law_draw sc__law_draw fun cdv A' outer s H E a hr => (qs_k (q_if (pt_cmp opd_gt (pd_ixO (pv 0) pd_int (fun _ _ => rfl)) pd_int (by rfl)) (qs_k (q_set (x := .Name "" default) (ps_set (i := 2) sc__law_draw.nd rfl (.inl rfl) (pd_bin opd_mod (pd_ct cb_int (by rfl) T.n_int (by decide +kernel) (pl_k (pd_ixO (pv 0) pd_int (fun _ _ => rfl)) pl_n)) (pd_v (pv 1)))))
    (qs_k (q_setIx (ps_asg (pd_bin opd_div (pd_ixO (pv 0) pd_int (fun _ _ => rfl)) (pd_v (pv 1))) (pg_sub (pv 0) pd_int set_list)))
    (qs_1 (q_ret (pd_v (pv 2))))))
    qs_n)
    (qs_k (q_setIx (ps_asg (pd_bin opd_add (pd_ixO (pv 0) pd_int (fun _ _ => rfl)) pd_int) (pg_sub (pv 0) pd_int set_list)))
    (qs_k (q_set (x := .Name "" default) (ps_set (i := 3) sc__law_draw.nd rfl (.inl rfl) (pd_bin opd_mod (pd_bin opd_pow (pd_ct cb_int (by rfl) T.n_int (by decide +kernel) (pl_k (pd_bin opd_add (pd_bin opd_add (pd_ixO (pv 0) pd_int (fun _ _ => rfl)) (pd_bin opd_mul pd_int (pd_ixO (pv 0) pd_int (fun _ _ => rfl)))) pd_int) pl_n)) pd_int) pd_int)))
    (qs_1 (q_ret (pd_bin opd_mod (pd_bin opd_div (pd_bin opd_mod (pd_ct cb_int (by rfl) T.n_int (by decide +kernel) (pl_k (pd_bin opd_mul (pd_bin opd_add (pd_v (pv 3)) (pd_ixO (pv 0) pd_int (fun _ _ => rfl))) pd_int) pl_n)) pd_int) pd_int) (pd_v (pv 1))))))))
theorem ok__law_pick {A : Adr} (T : Txt P K mg A) : FnOk P w K mg base (L2.CX P w) 2 A.f__law_pick A.d__law_pick ["_law_stream_here", "_law_things"] (spI (gw K A) 1 F__law_pick) :=
  ok_fnI (k := 1) T.F__law_pick sc__law_pick fun cdv A' outer s H E a hr => (qs_1 (q_ret (pd_ix (pd_v (pv 1)) (pd_callI (ok__law_draw T) (takes_of rfl rfl rfl rfl) (hr.mono (by decide)) (by rfl) T.g__law_draw T.F__law_draw.kp T.b__law_draw (pv 0) (pl_k (pd_cb (cb_len rfl) (by rfl) T.n_len (by decide +kernel) (pl_k (pd_v (pv 1)) pl_n)) pl_n)) (fun _ _ => rfl))))
theorem ok__law_numbers {A : Adr} (T : Txt P K mg A) : FnOk P w K mg base (L2.CX P w) 3 A.f__law_numbers A.d__law_numbers ["_law_stream_here", "_law_many"] (spI (gw K A) 1 F__law_numbers) :=
  ok_fnI (k := 2) T.F__law_numbers sc__law_numbers fun cdv A' outer s H E a hr => (qs_k (q_par2 (ps_par (i := 2) (j := 3) rfl sc__law_numbers.nd rfl rfl (by decide) rfl rfl (pm_o (po_lst pl_n) (pm_s (pd_callI (ok__law_draw T) (takes_of rfl rfl rfl rfl) (hr.mono (by decide)) (by rfl) T.g__law_draw T.F__law_draw.kp T.b__law_draw (pv 0) (pl_k pd_int pl_n)) pm_n)) (by rfl)))
    (qs_k (q_for (passes_of rfl) rfl (pw_r1 (by rfl) T.n_range (pl_k (pd_v (pv 1)) pl_n)) (pg_v (pg_name (i := 4) sc__law_numbers.nd rfl (.inl rfl)))
    (qs_1 (q_app (id := "") (ps_expr (pe_bm PySem.F.plainAttrs_list PySem.F.slot_list_append PySem.F.type_list_append mt_append (pv 2) (pa_cons (pd_callI (ok__law_pick T) (takes_of rfl rfl rfl rfl) (hr.mono (by decide)) (by rfl) T.g__law_pick T.F__law_pick.kp T.b__law_pick (pv 0) (pl_k (pd_ix (pd_own (po_lst (pl_k (pd_own (po_lst (pl_k pd_int (pl_k pd_int (pl_k pd_int (pl_k pd_int (pl_k pd_int pl_n))))))) (pl_k (pd_own (po_lst (pl_k pd_int (pl_k pd_int (pl_k pd_int (pl_k pd_int (pl_k pd_int pl_n))))))) (pl_k (pd_own (po_lst (pl_k pd_int (pl_k pd_int (pl_k pd_int (pl_k pd_int (pl_k pd_int pl_n))))))) pl_n))))) (pd_v (pv 3)) (fun _ _ => rfl)) pl_n)) pa_nil))))))
    (qs_1 (q_ret (pd_v (pv 2))))))
theorem ok__law_run_due {A : Adr} (T : Txt P K mg A) (O : TabsOk base mg [(A.cc__law_refused_right, A.ct__law_refused_right, "_law_refused_right")]) (no : NoMk) : FnOk P w K mg base (L2.CX P w) 1 A.f__law_run_due A.d__law_run_due ["_law_load", "_law_doings"] (spP (gw K A) 2 F__law_run_due) :=
  ok_fn (k := 0) T.F__law_run_due sc__law_run_due fun cdv A' outer s H E hr => (qs_k (q_par3 (ps_par3 (i := 2) (j := 3) (l := 4) rfl sc__law_run_due.nd rfl rfl rfl (by decide) (by decide) (by decide) rfl rfl rfl (pm_o (po_lst pl_n) (pm_o (po_lst pl_n) (pm_o (po_lst pl_n) pm_n))) (by rfl)))
    (qs_k (q_setLc (own := [("_law_at", 10)]) (i := 5) rfl sc__law_run_due.nd rfl rfl (sw_true rfl rfl rfl (by decide +kernel)) (pw_r1 (by rfl) T.n_range (pl_k (pd_cb (cb_len rfl) (by rfl) T.n_len (by decide +kernel) (pl_k (pd_v (pv 1)) pl_n)) pl_n)) (blkOk_by (own := [("_law_at", 10)]) (N := n__law_run_due) (sc := defScope s__law_run_due) (by decide +kernel)) (fun _ _ _ _ _ => (pg_v (pg_name (i := 10) sc__law_run_due.nd rfl (.inl rfl)))) (fun _ _ _ _ _ => (pts_y pts_nil)) (fun _ _ _ _ _ => (pd_if (PW.pt (pw_an (pt_cmp opd_lt (pd_v (pv 10)) (pd_cb (cb_len rfl) (by rfl) T.n_len (by decide +kernel) (pl_k (pd_v (pv 0)) pl_n)) (by rfl)) (pw_and1 (pt_cmp opd_gt (pd_ix (pd_v (pv 0)) (pd_v (pv 10)) (fun _ _ => rfl)) pd_int (by rfl))))) pd_non pd_int)))
    (qs_k (q_for (passes_of rfl) rfl (pw_enA (by rfl) T.n_enumerate (pl_k (pd_v (pv 1)) pl_n)) (pg_t rfl (pgs_k (pg_v (pg_name (i := 6) sc__law_run_due.nd rfl (.inl rfl))) (pgs_k (pg_v (pg_name (i := 7) sc__law_run_due.nd rfl (.inl rfl))) pgs_n)))
    (qs_k (q_ext (ps_expr (pe_bm PySem.F.plainAttrs_list PySem.F.slot_list_extend PySem.F.type_list_extend mt_extend (pv 2) (pa_cons (pd_bin opd_mul (pd_own (po_lst (pl_k (pd_v (pv 6)) pl_n))) (pd_if (pt_cmp opd_lt (pd_v (pv 6)) (pd_cb (cb_len rfl) (by rfl) T.n_len (by decide +kernel) (pl_k (pd_v (pv 0)) pl_n)) (by rfl)) (pd_ix (pd_v (pv 0)) (pd_v (pv 6)) (fun _ _ => rfl)) pd_int)) pa_nil))))
    (qs_k (q_par2 (ps_par (i := 8) (j := 2) rfl sc__law_run_due.nd rfl rfl (by decide) rfl rfl (pm_s (pd_own (po_slO (pv 2) pp_0 (pp_1 (pd_v (pv 7))))) (pm_o (po_slO (pv 2) (pp_1 (pd_v (pv 7))) pp_0) pm_n)) (by rfl)))
    (qs_k (q_for (passes_of rfl) rfl (pw_seq (pd_v (pv 8))) (pg_v (pg_name (i := 9) sc__law_run_due.nd rfl (.inl rfl)))
    (qs_1 (q_setIx (ps_asg (pd_if (pt_bor (n := 0) (i := 2) (no.m 0) rfl (fun a0 => letI : TabC := TkB 0 a0; (pt_cmp opd_notin (pd_v (pv 9)) (pd_v (pv 2)) (by rfl)))) (pd_bin opd_sub (pd_v (pv 6)) (pd_v (pv 9))) pd_non) (pg_sub (pv 5) (pd_v (pv 9)) set_list)))))
    (qs_k (q_app (id := "") (ps_expr (pe_bm PySem.F.plainAttrs_list PySem.F.slot_list_append PySem.F.type_list_append mt_append (pv 3) (pa_cons (pd_lenO (by rfl) T.n_len (pv 2)) pa_nil))))
    (qs_1 (q_app (id := "") (ps_expr (pe_bm PySem.F.plainAttrs_list PySem.F.slot_list_append PySem.F.type_list_append mt_append (pv 4) (pa_cons (pd_cb (cb_len rfl) (by rfl) T.n_len (by decide +kernel) (pl_k (pd_v (pv 8)) pl_n)) pa_nil))))))))))
    (qs_1 (q_ret (pd_tup (pl_k (pd_v (pv 3)) (pl_k (pd_v (pv 5)) (pl_k (pd_v (pv 4)) pl_n)))))))))
theorem ok__law_as_lists {A : Adr} (T : Txt P K mg A) : ∀ j : Nat, FnOk P w K mg base (L2.CX P w) (2 + j) A.f__law_as_lists A.d__law_as_lists ["_law_stream_here", "_law_thing"] (spI (gw K A) 1 (F__law_as_lists j))
  | 0 => ok_noneI
  | j + 1 => by
    have ih := ok__law_as_lists T j
    exact ok_fnI (k := 2 + j) T.F__law_as_lists sc__law_as_lists fun cdv A' outer s H E a hr => (qs_k (q_if (pt_t (pd_cb (cb_isi T.kit) (by rfl) T.n_isinstance (by decide +kernel) (pl_k (pd_v (pv 1)) (pl_k (pd_tup (pl_k (pd_c (pe_bltn (v := .ty "list") (by rfl) T.n_list (by decide +kernel) rfl) fun _ => .ty "list") (pl_k (pd_c (pe_bltn (v := .ty "tuple") (by rfl) T.n_tuple (by decide +kernel) rfl) fun _ => .ty "tuple") pl_n))) pl_n)))) (qs_k (q_setLc (own := [("_law_part", 3)]) (i := 2) rfl sc__law_as_lists.nd rfl rfl (sw_true rfl rfl rfl (by decide +kernel)) (pw_seq (pd_v (pv 1))) (blkOk_by (own := [("_law_part", 3)]) (N := n__law_as_lists) (sc := defScope s__law_as_lists) (by decide +kernel)) (fun _ _ _ _ _ => (pg_v (pg_name (i := 3) sc__law_as_lists.nd rfl (.inl rfl)))) (fun _ _ _ _ _ => (pts_y pts_nil)) (fun _ _ _ _ _ => (pd_callI ih takes0 (hr.mono (by omega)) (by rfl) T.g__law_as_lists T.F__law_as_lists.kp T.b__law_as_lists (pv 0) (pl_k (pd_v (pv 3)) pl_n))))
    (qs_1 (q_ret (pd_if (pt_cmp (opd_eq hr.units) (pd_callI (ok__law_draw T) (takes_of rfl rfl rfl rfl) (hr.mono (by omega)) (by rfl) T.g__law_draw T.F__law_draw.kp T.b__law_draw (pv 0) (pl_k pd_int pl_n)) pd_int (by rfl)) (pd_v (pv 2)) (pd_ct cb_tuple (by rfl) T.n_tuple (by decide +kernel) (pl_k (pd_v (pv 2)) pl_n))))))
    qs_n)
    (qs_1 (q_ret (pd_v (pv 1)))))
theorem ok__law_same {A : Adr} (T : Txt P K mg A) : ∀ j : Nat, FnOk P w K mg base (L2.CX P w) (1 + j) A.f__law_same A.d__law_same ["_law_found", "_law_due"] (spP (gw K A) 2 (F__law_same j))
  | 0 => ok_none
  | j + 1 => by
    have ih := ok__law_same T j
    exact ok_fn (k := 1 + j) T.F__law_same sc__law_same fun cdv A' outer s H E hr => (qs_k (q_if (pt_t (pd_cb (cb_isi T.kit) (by rfl) T.n_isinstance (by decide +kernel) (pl_k (pd_v (pv 1)) (pl_k (pd_tup (pl_k (pd_c (pe_bltn (v := .ty "list") (by rfl) T.n_list (by decide +kernel) rfl) fun _ => .ty "list") (pl_k (pd_c (pe_bltn (v := .ty "tuple") (by rfl) T.n_tuple (by decide +kernel) rfl) fun _ => .ty "tuple") pl_n))) pl_n)))) (qs_k (q_if (pt_cmp (opd_ne hr.units) (pd_cb (cb_isi T.kit) (by rfl) T.n_isinstance (by decide +kernel) (pl_k (pd_v (pv 0)) (pl_k (pd_c (pe_bltn (v := .ty "list") (by rfl) T.n_list (by decide +kernel) rfl) fun _ => .ty "list") pl_n))) (pd_cb (cb_isi T.kit) (by rfl) T.n_isinstance (by decide +kernel) (pl_k (pd_v (pv 1)) (pl_k (pd_c (pe_bltn (v := .ty "list") (by rfl) T.n_list (by decide +kernel) rfl) fun _ => .ty "list") pl_n))) (by rfl)) (qs_1 (q_ret pd_bl))
    qs_n)
    (qs_k (q_if (PW.pt (pw_o (pt_cmp (opd_ne hr.units) (pd_cb (cb_isi T.kit) (by rfl) T.n_isinstance (by decide +kernel) (pl_k (pd_v (pv 0)) (pl_k (pd_c (pe_bltn (v := .ty "tuple") (by rfl) T.n_tuple (by decide +kernel) rfl) fun _ => .ty "tuple") pl_n))) (pd_cb (cb_isi T.kit) (by rfl) T.n_isinstance (by decide +kernel) (pl_k (pd_v (pv 1)) (pl_k (pd_c (pe_bltn (v := .ty "tuple") (by rfl) T.n_tuple (by decide +kernel) rfl) fun _ => .ty "tuple") pl_n))) (by rfl)) (pw_or1 (pt_cmp (opd_ne hr.units) (pd_cb (cb_len rfl) (by rfl) T.n_len (by decide +kernel) (pl_k (pd_v (pv 0)) pl_n)) (pd_cb (cb_len rfl) (by rfl) T.n_len (by decide +kernel) (pl_k (pd_v (pv 1)) pl_n)) (by rfl))))) (qs_1 (q_ret pd_bl))
    qs_n)
    (qs_1 (q_ret (pd_cb (cb_all rfl) (by rfl) T.n_all (by decide +kernel) (pl_k (pd_own (po_comp (own := [("_law_one", 2), ("_law_other", 3)]) rfl sc__law_same.nd (pw_zip (by rfl) T.n_zip (pl_k (pd_v (pv 0)) (pl_k (pd_v (pv 1)) pl_n))) (blkOk_by (own := [("_law_one", 2), ("_law_other", 3)]) (N := n__law_same) (sc := defScope s__law_same) (by decide +kernel)) (fun _ _ _ _ _ => (pg_t rfl (pgs_k (pg_v (pg_name (i := 2) sc__law_same.nd rfl (.inl rfl))) (pgs_k (pg_v (pg_name (i := 3) sc__law_same.nd rfl (.inl rfl))) pgs_n)))) (fun _ _ _ _ _ => (pts_y pts_nil)) (fun _ _ _ _ _ => (pd_call ih takes0 (hr.mono (by omega)) (by rfl) T.g__law_same T.F__law_same.kp T.b__law_same (pl_k (pd_v (pv 2)) (pl_k (pd_v (pv 3)) pl_n)))))) pl_n))))))
    qs_n)
    (qs_k (q_if (pt_t (pd_cb (cb_isi T.kit) (by rfl) T.n_isinstance (by decide +kernel) (pl_k (pd_v (pv 1)) (pl_k (pd_c (pe_bltn (v := .ty "dict") (by rfl) T.n_dict (by decide +kernel) rfl) fun _ => .ty "dict") pl_n)))) (qs_k (q_if (PW.pt (pw_o (pt_no (pt_t (pd_cb (cb_isi T.kit) (by rfl) T.n_isinstance (by decide +kernel) (pl_k (pd_v (pv 0)) (pl_k (pd_c (pe_bltn (v := .ty "dict") (by rfl) T.n_dict (by decide +kernel) rfl) fun _ => .ty "dict") pl_n))))) (pw_or1 (pt_cmp (opd_ne hr.units) (pd_own (po_list (by rfl) T.n_list (pl_k (pd_v (pv 0)) pl_n))) (pd_own (po_list (by rfl) T.n_list (pl_k (pd_v (pv 1)) pl_n))) (by rfl))))) (qs_1 (q_ret pd_bl))
    qs_n)
    (qs_1 (q_ret (pd_cb (cb_all rfl) (by rfl) T.n_all (by decide +kernel) (pl_k (pd_own (po_comp (own := [("_law_key", 4)]) rfl sc__law_same.nd (pw_seq (pd_v (pv 1))) (blkOk_by (own := [("_law_key", 4)]) (N := n__law_same) (sc := defScope s__law_same) (by decide +kernel)) (fun _ _ _ _ _ => (pg_v (pg_name (i := 4) sc__law_same.nd rfl (.inl rfl)))) (fun _ _ _ _ _ => (pts_y pts_nil)) (fun _ _ _ _ _ => (pd_call ih takes0 (hr.mono (by omega)) (by rfl) T.g__law_same T.F__law_same.kp T.b__law_same (pl_k (pd_ix (pd_v (pv 0)) (pd_v (pv 4)) (fun _ _ => rfl)) (pl_k (pd_ix (pd_v (pv 1)) (pd_v (pv 4)) (fun _ _ => rfl)) pl_n)))))) pl_n)))))
    qs_n)
    (qs_k (q_if (pt_t (pd_cb (cb_isi T.kit) (by rfl) T.n_isinstance (by decide +kernel) (pl_k (pd_v (pv 1)) (pl_k (pd_tup (pl_k (pd_c (pe_bltn (v := .ty "bool") (by rfl) T.n_bool (by decide +kernel) rfl) fun _ => .ty "bool") (pl_k (pd_c (pe_bltn (v := .ty "int") (by rfl) T.n_int (by decide +kernel) rfl) fun _ => .ty "int") pl_n))) pl_n)))) (qs_1 (q_ret (pd_and (pd_cb (cb_isi T.kit) (by rfl) T.n_isinstance (by decide +kernel) (pl_k (pd_v (pv 0)) (pl_k (pd_c (pe_bltn (v := .ty "int") (by rfl) T.n_int (by decide +kernel) rfl) fun _ => .ty "int") pl_n))) (pd_and (pd_cmp (opd_eq hr.units) (pd_cb (cb_isi T.kit) (by rfl) T.n_isinstance (by decide +kernel) (pl_k (pd_v (pv 0)) (pl_k (pd_c (pe_bltn (v := .ty "bool") (by rfl) T.n_bool (by decide +kernel) rfl) fun _ => .ty "bool") pl_n))) (pd_cb (cb_isi T.kit) (by rfl) T.n_isinstance (by decide +kernel) (pl_k (pd_v (pv 1)) (pl_k (pd_c (pe_bltn (v := .ty "bool") (by rfl) T.n_bool (by decide +kernel) rfl) fun _ => .ty "bool") pl_n))) (by rfl)) (pe_one (pd_cmp (opd_eq hr.units) (pd_v (pv 0)) (pd_v (pv 1)) (by rfl)))))))
    qs_n)
    (qs_1 (q_ret (pd_and (pd_no (pd_cb (cb_isi T.kit) (by rfl) T.n_isinstance (by decide +kernel) (pl_k (pd_v (pv 0)) (pl_k (pd_tup (pl_k (pd_c (pe_bltn (v := .ty "bool") (by rfl) T.n_bool (by decide +kernel) rfl) fun _ => .ty "bool") (pl_k (pd_c (pe_bltn (v := .ty "int") (by rfl) T.n_int (by decide +kernel) rfl) fun _ => .ty "int") (pl_k (pd_c (pe_bltn (v := .ty "list") (by rfl) T.n_list (by decide +kernel) rfl) fun _ => .ty "list") (pl_k (pd_c (pe_bltn (v := .ty "tuple") (by rfl) T.n_tuple (by decide +kernel) rfl) fun _ => .ty "tuple") (pl_k (pd_c (pe_bltn (v := .ty "dict") (by rfl) T.n_dict (by decide +kernel) rfl) fun _ => .ty "dict") pl_n)))))) pl_n)))) (pe_one (pd_cmp (opd_eq hr.units) (pd_v (pv 0)) (pd_v (pv 1)) (by rfl)))))))))
theorem ok_is_whole {A : Adr} (T : Txt P K mg A) : FnOk P w K mg base (L2.CX P w) 1 A.f_is_whole A.d_is_whole ["thing"] (spP (gw K A) 1 F_is_whole) :=
  ok_fn (k := 0) T.F_is_whole sc_is_whole fun cdv A' outer s H E hr => (qs_1 (q_ret (pd_and (pd_cb (cb_isi T.kit) (by rfl) T.n_isinstance (by decide +kernel) (pl_k (pd_v (pv 0)) (pl_k (pd_c (pe_bltn (v := .ty "int") (by rfl) T.n_int (by decide +kernel) rfl) fun _ => .ty "int") pl_n))) (pe_one (pd_no (pd_cb (cb_isi T.kit) (by rfl) T.n_isinstance (by decide +kernel) (pl_k (pd_v (pv 0)) (pl_k (pd_c (pe_bltn (v := .ty "bool") (by rfl) T.n_bool (by decide +kernel) rfl) fun _ => .ty "bool") pl_n))))))))
theorem ok_is_number {A : Adr} (T : Txt P K mg A) : FnOk P w K mg base (L2.CX P w) 2 A.f_is_number A.d_is_number ["thing"] (spP (gw K A) 1 F_is_number) :=
  ok_fn (k := 1) T.F_is_number sc_is_number fun cdv A' outer s H E hr => (qs_1 (q_ret (pd_and (pd_call (ok_is_whole T) (takes_of rfl rfl rfl rfl) (hr.mono (by decide)) (by rfl) T.g_is_whole T.F_is_whole.kp T.b_is_whole (pl_k (pd_v (pv 0)) pl_n)) (pe_one (pd_cmp opd_ge (pd_v (pv 0)) pd_int (by rfl))))))
theorem mb__law_met {X : Cx} {A : Adr} (T : Txt X.prog X.K X.mg A) (cdv : Value) (T1 : TabC) (s : Shared) (H : Hp) (r : RS)
    (hth : ∀ (W : WX) (pn : List (Addr × Obj)) (xe : Value → Shared → Prop) (p1 p2 : Pos), Takes ((metCx X n__law_met "_law_met" (defScope s__law_met) A.f__law_met cdv s H).tr pn xe) W → PE ((metCx X n__law_met "_law_met" (defScope s__law_met) A.f__law_met cdv s H).tr pn xe) (.Call (.Name "_law_ask" p1) [] [] p2) (@tE T1 ⟨gw X.K A, none, W⟩ (sThunk r))) :
    PSs (metCx X n__law_met "_law_met" (defScope s__law_met) A.f__law_met cdv s H).nox (defBody s__law_met) (@tS T1 ⟨gw X.K A, none, fun _ _ _ _ => False⟩ (f__law_met r)) := (qs_1 (q_try (N := 0) (i := 1) (n := "e") rfl rfl sc__law_met.nd rfl rfl takes0 (fun W pn xe tk => (qs_1 (q_retO (po_lst (pl_k pd_str (pl_k (hth W pn xe _ _ tk) pl_n)))))) (HdsH.cons (h := ⟨100, 0, ("load" : Str)⟩) (f := "index") ⟨by rfl, by decide, .inl T.g_BadLoad⟩ (fun _ => rfl) (fun a oe cls d pn hz hf => h_fl T.x_BadLoad T.e_BadLoad.no hz hf (pv 1)) (HdsH.cons (h := ⟨101, 0, ("doings" : Str)⟩) (f := "index") ⟨by rfl, by decide, .inl T.g_BadDoings⟩ (fun _ => rfl) (fun a oe cls d pn hz hf => h_fl T.x_BadDoings T.e_BadDoings.no hz hf (pv 1)) HdsH.nil)) (fun c hc h hh => T.xm c hc h.c (by simp at hh; rcases hh with rfl | rfl <;> decide))))
theorem ok_lefts_of {A : Adr} (T : Txt P K mg A) : FnOk P w K mg base (L2.CX P w) 1 A.f_lefts_of A.d_lefts_of ["comes", "known"] (spP (gw K A) 2 F_lefts_of) :=
  ok_fn (k := 0) T.F_lefts_of sc_lefts_of fun cdv A' outer s H E hr => (qs_k (q_par2 (ps_par (i := 2) (j := 3) rfl sc_lefts_of.nd rfl rfl (by decide) rfl rfl (pm_o (po_lst pl_n) (pm_s pd_int pm_n)) (by rfl)))
    (qs_k (q_for (passes_of rfl) rfl (pw_zip (by rfl) T.n_zip (pl_k (pd_v (pv 0)) (pl_k (pd_v (pv 1)) pl_n))) (pg_t rfl (pgs_k (pg_v (pg_name (i := 4) sc_lefts_of.nd rfl (.inl rfl))) (pgs_k (pg_v (pg_name (i := 5) sc_lefts_of.nd rfl (.inl rfl))) pgs_n)))
    (qs_k (q_set (x := .Name "" default) (ps_set (i := 3) sc_lefts_of.nd rfl (.inl rfl) (pd_cb (cb_max rfl) (by rfl) T.n_max (by decide +kernel) (pl_k pd_int (pl_k (pd_bin opd_sub (pd_bin opd_add (pd_v (pv 3)) (pd_v (pv 4))) (pd_v (pv 5))) pl_n)))))
    (qs_1 (q_app (id := "") (ps_expr (pe_bm PySem.F.plainAttrs_list PySem.F.slot_list_append PySem.F.type_list_append mt_append (pv 2) (pa_cons (pd_v (pv 3)) pa_nil)))))))
    (qs_1 (q_ret (pd_v (pv 2))))))
theorem okO_lefts_of {A : Adr} (T : Txt P K mg A) : FnOk P w K mg base (L2.CX P w) 1 A.f_lefts_of A.d_lefts_of ["comes", "known"] (spO (gw K A) 2 FO_lefts_of) :=
  ok_fnOV (i := 2) (k := 0) T.F_lefts_of sc_lefts_of fun cdv A' outer s H E hr => (qo_k (q_par2 (ps_par (i := 2) (j := 3) rfl sc_lefts_of.nd rfl rfl (by decide) rfl rfl (pm_o (po_lst pl_n) (pm_s pd_int pm_n)) (by rfl)))
    (qo_k (q_for (passes_of rfl) rfl (pw_zip (by rfl) T.n_zip (pl_k (pd_v (pv 0)) (pl_k (pd_v (pv 1)) pl_n))) (pg_t rfl (pgs_k (pg_v (pg_name (i := 4) sc_lefts_of.nd rfl (.inl rfl))) (pgs_k (pg_v (pg_name (i := 5) sc_lefts_of.nd rfl (.inl rfl))) pgs_n)))
    (qs_k (q_set (x := .Name "" default) (ps_set (i := 3) sc_lefts_of.nd rfl (.inl rfl) (pd_cb (cb_max rfl) (by rfl) T.n_max (by decide +kernel) (pl_k pd_int (pl_k (pd_bin opd_sub (pd_bin opd_add (pd_v (pv 3)) (pd_v (pv 4))) (pd_v (pv 5))) pl_n)))))
    (qs_1 (q_app (id := "") (ps_expr (pe_bm PySem.F.plainAttrs_list PySem.F.slot_list_append PySem.F.type_list_append mt_append (pv 2) (pa_cons (pd_v (pv 3)) pa_nil)))))))
    (qo_ret (pv 2))))
theorem ok_is_list {A : Adr} (T : Txt P K mg A) : FnOk P w K mg base (L2.CX P w) 1 A.f_is_list A.d_is_list ["thing"] (spP (gw K A) 1 F_is_list) :=
  ok_fn (k := 0) T.F_is_list sc_is_list fun cdv A' outer s H E hr => (qs_1 (q_ret (pd_cb (cb_isi T.kit) (by rfl) T.n_isinstance (by decide +kernel) (pl_k (pd_v (pv 0)) (pl_k (pd_tup (pl_k (pd_c (pe_bltn (v := .ty "list") (by rfl) T.n_list (by decide +kernel) rfl) fun _ => .ty "list") (pl_k (pd_c (pe_bltn (v := .ty "tuple") (by rfl) T.n_tuple (by decide +kernel) rfl) fun _ => .ty "tuple") pl_n))) pl_n)))))
theorem ok_first_odd {A : Adr} (T : Txt P K mg A) : FnOk P w K mg base (L2.CX P w) 3 A.f_first_odd A.d_first_odd ["things", "is_right"] (spP (gw K A) 2 F_first_odd) :=
  ok_fn (k := 2) T.F_first_odd sc_first_odd fun cdv A' outer s H E hr => (qs_k (q_if (pt_no (pt_t (pd_call (ok_is_list T) (takes_of rfl rfl rfl rfl) (hr.mono (by decide)) (by rfl) T.g_is_list T.F_is_list.kp T.b_is_list (pl_k (pd_v (pv 0)) pl_n)))) (qs_1 (q_ret pd_int))
    qs_n)
    (qs_k (q_setLc (own := [("index", 3), ("thing", 4)]) (i := 2) rfl sc_first_odd.nd rfl rfl (sw_true rfl rfl rfl (by decide +kernel)) (pw_enA (by rfl) T.n_enumerate (pl_k (pd_v (pv 0)) pl_n)) (blkOk_by (own := [("index", 3), ("thing", 4)]) (N := n_first_odd) (sc := defScope s_first_odd) (by decide +kernel)) (fun _ _ _ _ _ => (pg_t rfl (pgs_k (pg_v (pg_name (i := 3) sc_first_odd.nd rfl (.inl rfl))) (pgs_k (pg_v (pg_name (i := 4) sc_first_odd.nd rfl (.inl rfl))) pgs_n)))) (fun _ _ _ _ _ => (pts_1 (pt_no (pt_t (pd_callL (i := 1) (j := 0) rfl (ok_is_number T) (hr.mono (by decide)) rfl (by first | exact Or.inl rfl | exact Or.inr (Or.inl rfl) | exact Or.inr (Or.inr rfl)) T.F_is_number.kp T.b_is_number (pl_k (pd_v (pv 4)) pl_n)))))) (fun _ _ _ _ _ => (pd_v (pv 3))))
    (qs_1 (q_ret (pd_if (pt_t (pd_v (pv 2))) (pd_ix (pd_v (pv 2)) pd_int (fun _ _ => rfl)) pd_non)))))
theorem ok_checked_load {A : Adr} (T : Txt P K mg A) : FnOk P w K mg base (L2.CX P w) 4 A.f_checked_load A.d_checked_load ["load"] (spP (gw K A) 1 F_checked_load) :=
  ok_fn (k := 3) T.F_checked_load sc_checked_load fun cdv A' outer s H E hr => (qs_k (q_set (x := .Name "" default) (ps_set (i := 1) sc_checked_load.nd rfl (.inl rfl) (pd_call (ok_first_odd T) (takes_of rfl rfl rfl rfl) (hr.mono (by decide)) (by rfl) T.g_first_odd T.F_first_odd.kp T.b_first_odd (pl_k (pd_v (pv 0)) (pl_k (pd_c (pe_glob (v := .ref A.f_is_number) (by rfl) T.g_is_number rfl) fun _ => .fn 0 (kf_is_number)) pl_n)))))
    (qs_k (q_if (pt_cmp opd_isnot (pd_v (pv 1)) pd_non (by rfl)) (qs_1 (q_raise (c := 100) T.e_BadLoad rfl T.n_super T.htop (hr.mono (by decide)) (takes_of rfl rfl rfl rfl) (by rfl) T.g_BadLoad (pd_v (pv 1))))
    qs_n)
    (qs_1 (q_retO (po_list (by rfl) T.n_list (pl_k (pd_v (pv 0)) pl_n))))))
theorem ok_checked_doings {A : Adr} (T : Txt P K mg A) : FnOk P w K mg base (L2.CX P w) 4 A.f_checked_doings A.d_checked_doings ["doings"] (spP (gw K A) 1 F_checked_doings) :=
  ok_fn (k := 3) T.F_checked_doings sc_checked_doings fun cdv A' outer s H E hr => (qs_k (q_set (x := .Name "" default) (ps_set (i := 1) sc_checked_doings.nd rfl (.inl rfl) (pd_call (ok_first_odd T) (takes_of rfl rfl rfl rfl) (hr.mono (by decide)) (by rfl) T.g_first_odd T.F_first_odd.kp T.b_first_odd (pl_k (pd_v (pv 0)) (pl_k (pd_c (pe_glob (v := .ref A.f_is_number) (by rfl) T.g_is_number rfl) fun _ => .fn 0 (kf_is_number)) pl_n)))))
    (qs_k (q_if (pt_cmp opd_isnot (pd_v (pv 1)) pd_non (by rfl)) (qs_1 (q_raise (c := 101) T.e_BadDoings rfl T.n_super T.htop (hr.mono (by decide)) (takes_of rfl rfl rfl rfl) (by rfl) T.g_BadDoings (pd_v (pv 1))))
    qs_n)
    (qs_1 (q_retO (po_list (by rfl) T.n_list (pl_k (pd_v (pv 0)) pl_n))))))
theorem ok_spread {A : Adr} (T : Txt P K mg A) : FnOk P w K mg base (L2.CX P w) 1 A.f_spread A.d_spread ["load", "many"] (spP (gw K A) 2 F_spread) :=
  ok_fn (k := 0) T.F_spread sc_spread fun cdv A' outer s H E hr => (qs_1 (q_retO (po_comp (own := [("tick", 2)]) rfl sc_spread.nd (pw_r1 (by rfl) T.n_range (pl_k (pd_v (pv 1)) pl_n)) (blkOk_by (own := [("tick", 2)]) (N := n_spread) (sc := defScope s_spread) (by decide +kernel)) (fun _ _ _ _ _ => (pg_v (pg_name (i := 2) sc_spread.nd rfl (.inl rfl)))) (fun _ _ _ _ _ => (pts_y pts_nil)) (fun _ _ _ _ _ => (pd_if (pt_cmp opd_lt (pd_v (pv 2)) (pd_cb (cb_len rfl) (by rfl) T.n_len (by decide +kernel) (pl_k (pd_v (pv 0)) pl_n)) (by rfl)) (pd_ix (pd_v (pv 0)) (pd_v (pv 2)) (fun _ _ => rfl)) pd_int)))))
theorem ok_left_behind {A : Adr} (T : Txt P K mg A) : FnOk P w K mg base (L2.CX P w) 5 A.f_left_behind A.d_left_behind ["load", "doings"] (spP (gw K A) 2 F_left_behind) :=
  ok_fn (k := 4) T.F_left_behind sc_left_behind fun cdv A' outer s H E hr => (qs_k (q_par2 (ps_par (i := 2) (j := 3) rfl sc_left_behind.nd rfl rfl (by decide) rfl rfl (pm_s (pd_call (ok_checked_load T) (takes_of rfl rfl rfl rfl) (hr.mono (by decide)) (by rfl) T.g_checked_load T.F_checked_load.kp T.b_checked_load (pl_k (pd_v (pv 0)) pl_n)) (pm_s (pd_call (ok_checked_doings T) (takes_of rfl rfl rfl rfl) (hr.mono (by decide)) (by rfl) T.g_checked_doings T.F_checked_doings.kp T.b_checked_doings (pl_k (pd_v (pv 1)) pl_n)) pm_n)) (by rfl)))
    (qs_1 (q_retO (po_call (okO_lefts_of T) (takes_of rfl rfl rfl rfl) (hr.mono (by decide)) (by rfl) T.g_lefts_of T.F_lefts_of.kp T.b_lefts_of (pl_k (pd_call (ok_spread T) (takes_of rfl rfl rfl rfl) (hr.mono (by decide)) (by rfl) T.g_spread T.F_spread.kp T.b_spread (pl_k (pd_v (pv 2)) (pl_k (pd_cb (cb_len rfl) (by rfl) T.n_len (by decide +kernel) (pl_k (pd_v (pv 3)) pl_n)) pl_n))) (pl_k (pd_v (pv 3)) pl_n))))))
theorem okO_left_behind {A : Adr} (T : Txt P K mg A) : FnOk P w K mg base (L2.CX P w) 5 A.f_left_behind A.d_left_behind ["load", "doings"] (spO (gw K A) 2 FO_left_behind) :=
  ok_fnO (k := 4) T.F_left_behind sc_left_behind fun cdv A' outer s H E hr => (qs_k (q_par2 (ps_par (i := 2) (j := 3) rfl sc_left_behind.nd rfl rfl (by decide) rfl rfl (pm_s (pd_call (ok_checked_load T) (takes_of rfl rfl rfl rfl) (hr.mono (by decide)) (by rfl) T.g_checked_load T.F_checked_load.kp T.b_checked_load (pl_k (pd_v (pv 0)) pl_n)) (pm_s (pd_call (ok_checked_doings T) (takes_of rfl rfl rfl rfl) (hr.mono (by decide)) (by rfl) T.g_checked_doings T.F_checked_doings.kp T.b_checked_doings (pl_k (pd_v (pv 1)) pl_n)) pm_n)) (by rfl)))
    (qs_1 (q_retO (po_call (okO_lefts_of T) (takes_of rfl rfl rfl rfl) (hr.mono (by decide)) (by rfl) T.g_lefts_of T.F_lefts_of.kp T.b_lefts_of (pl_k (pd_call (ok_spread T) (takes_of rfl rfl rfl rfl) (hr.mono (by decide)) (by rfl) T.g_spread T.F_spread.kp T.b_spread (pl_k (pd_v (pv 2)) (pl_k (pd_cb (cb_len rfl) (by rfl) T.n_len (by decide +kernel) (pl_k (pd_v (pv 3)) pl_n)) pl_n))) (pl_k (pd_v (pv 3)) pl_n))))))
theorem ok_waits_by {A : Adr} (T : Txt P K mg A) : FnOk P w K mg base (L2.CX P w) 1 A.f_waits_by A.d_waits_by ["comes", "lefts"] (spP (gw K A) 2 F_waits_by) :=
  ok_fn (k := 0) T.F_waits_by sc_waits_by fun cdv A' outer s H E hr => (qs_k (q_parG (by decide) (ps_asg (pe_tup (pm_s pd_int (pm_o (po_lst pl_n) (pm_o (po_lst pl_n) pm_n)))) (pg_tup rfl (pgs_cons (pg_name (i := 2) sc_waits_by.nd rfl (.inr rfl)) (pgs_cons (pg_name (i := 3) sc_waits_by.nd rfl (.inr rfl)) (pgs_cons (pg_name (i := 4) sc_waits_by.nd rfl (.inl rfl)) pgs_nil))))))
    (qs_k (q_for (passes_of rfl) rfl (pw_zip (by rfl) T.n_zip (pl_k (pd_v (pv 0)) (pl_k (pd_v (pv 1)) pl_n))) (pg_t rfl (pgs_k (pg_v (pg_name (i := 5) sc_waits_by.nd rfl (.inl rfl))) (pgs_k (pg_v (pg_name (i := 6) sc_waits_by.nd rfl (.inl rfl))) pgs_n)))
    (qs_k (q_augAdd (ps_aug (i := 2) sc_waits_by.nd rfl (.inr rfl) (pd_v (pv 5)) ip_add))
    (qs_1 (q_app (id := "") (ps_expr (pe_bm PySem.F.plainAttrs_list PySem.F.slot_list_append PySem.F.type_list_append mt_append (pv 3) (pa_cons (pd_bin opd_sub (pd_v (pv 2)) (pd_v (pv 6))) pa_nil)))))))
    (qs_k (q_set (x := .Name "" default) (ps_set (i := 2) sc_waits_by.nd rfl (.inr rfl) pd_int))
    (qs_k (q_for (passes_of rfl) rfl (pw_enA (by rfl) T.n_enumerate (pl_k (pd_v (pv 0)) pl_n)) (pg_t rfl (pgs_k (pg_v (pg_name (i := 7) sc_waits_by.nd rfl (.inr rfl))) (pgs_k (pg_v (pg_name (i := 5) sc_waits_by.nd rfl (.inl rfl))) pgs_n)))
    (qs_k (q_augAdd (ps_aug (i := 2) sc_waits_by.nd rfl (.inr rfl) (pd_v (pv 5)) ip_add))
    (qs_1 (q_if (pt_cmp (opd_eq hr.units) (pd_v (pv 5)) pd_int (by rfl)) (qs_1 (q_app (id := "") (ps_expr (pe_bm PySem.F.plainAttrs_list PySem.F.slot_list_append PySem.F.type_list_append mt_append (pv 4) (pa_cons pd_int pa_nil)))))
    (qs_1 (q_app (id := "") (ps_expr (pe_bm PySem.F.plainAttrs_list PySem.F.slot_list_append PySem.F.type_list_append mt_append (pv 4) (pa_cons (pd_minDef hr (by rfl) T.n_min (pl_k (pd_own (po_comp (own := [("many", 8)]) rfl sc_waits_by.nd (pw_r1 (by rfl) T.n_range (pl_k (pd_bin opd_sub (pd_cb (cb_len rfl) (by rfl) T.n_len (by decide +kernel) (pl_k (pd_v (pv 0)) pl_n)) (pd_v (pv 7))) pl_n)) (blkOk_by (own := [("many", 8)]) (N := n_waits_by) (sc := defScope s_waits_by) (by decide +kernel)) (fun _ _ _ _ _ => (pg_v (pg_name (i := 8) sc_waits_by.nd rfl (.inl rfl)))) (fun _ _ _ _ _ => (pts_1 (pt_cmp opd_ge (pd_ixO (pv 3) (pd_bin opd_add (pd_v (pv 7)) (pd_v (pv 8))) (fun _ _ => rfl)) (pd_v (pv 2)) (by rfl)))) (fun _ _ _ _ _ => (pd_v (pv 8))))) pl_n)) pa_nil)))))))))
    (qs_1 (q_ret (pd_v (pv 4))))))))
theorem okO_waits_by {A : Adr} (T : Txt P K mg A) : FnOk P w K mg base (L2.CX P w) 1 A.f_waits_by A.d_waits_by ["comes", "lefts"] (spO (gw K A) 2 FO_waits_by) :=
  ok_fnOV (i := 4) (k := 0) T.F_waits_by sc_waits_by fun cdv A' outer s H E hr => (qo_k (q_parG (by decide) (ps_asg (pe_tup (pm_s pd_int (pm_o (po_lst pl_n) (pm_o (po_lst pl_n) pm_n)))) (pg_tup rfl (pgs_cons (pg_name (i := 2) sc_waits_by.nd rfl (.inr rfl)) (pgs_cons (pg_name (i := 3) sc_waits_by.nd rfl (.inr rfl)) (pgs_cons (pg_name (i := 4) sc_waits_by.nd rfl (.inl rfl)) pgs_nil))))))
    (qo_k (q_for (passes_of rfl) rfl (pw_zip (by rfl) T.n_zip (pl_k (pd_v (pv 0)) (pl_k (pd_v (pv 1)) pl_n))) (pg_t rfl (pgs_k (pg_v (pg_name (i := 5) sc_waits_by.nd rfl (.inl rfl))) (pgs_k (pg_v (pg_name (i := 6) sc_waits_by.nd rfl (.inl rfl))) pgs_n)))
    (qs_k (q_augAdd (ps_aug (i := 2) sc_waits_by.nd rfl (.inr rfl) (pd_v (pv 5)) ip_add))
    (qs_1 (q_app (id := "") (ps_expr (pe_bm PySem.F.plainAttrs_list PySem.F.slot_list_append PySem.F.type_list_append mt_append (pv 3) (pa_cons (pd_bin opd_sub (pd_v (pv 2)) (pd_v (pv 6))) pa_nil)))))))
    (qo_k (q_set (x := .Name "" default) (ps_set (i := 2) sc_waits_by.nd rfl (.inr rfl) pd_int))
    (qo_k (q_for (passes_of rfl) rfl (pw_enA (by rfl) T.n_enumerate (pl_k (pd_v (pv 0)) pl_n)) (pg_t rfl (pgs_k (pg_v (pg_name (i := 7) sc_waits_by.nd rfl (.inr rfl))) (pgs_k (pg_v (pg_name (i := 5) sc_waits_by.nd rfl (.inl rfl))) pgs_n)))
    (qs_k (q_augAdd (ps_aug (i := 2) sc_waits_by.nd rfl (.inr rfl) (pd_v (pv 5)) ip_add))
    (qs_1 (q_if (pt_cmp (opd_eq hr.units) (pd_v (pv 5)) pd_int (by rfl)) (qs_1 (q_app (id := "") (ps_expr (pe_bm PySem.F.plainAttrs_list PySem.F.slot_list_append PySem.F.type_list_append mt_append (pv 4) (pa_cons pd_int pa_nil)))))
    (qs_1 (q_app (id := "") (ps_expr (pe_bm PySem.F.plainAttrs_list PySem.F.slot_list_append PySem.F.type_list_append mt_append (pv 4) (pa_cons (pd_minDef hr (by rfl) T.n_min (pl_k (pd_own (po_comp (own := [("many", 8)]) rfl sc_waits_by.nd (pw_r1 (by rfl) T.n_range (pl_k (pd_bin opd_sub (pd_cb (cb_len rfl) (by rfl) T.n_len (by decide +kernel) (pl_k (pd_v (pv 0)) pl_n)) (pd_v (pv 7))) pl_n)) (blkOk_by (own := [("many", 8)]) (N := n_waits_by) (sc := defScope s_waits_by) (by decide +kernel)) (fun _ _ _ _ _ => (pg_v (pg_name (i := 8) sc_waits_by.nd rfl (.inl rfl)))) (fun _ _ _ _ _ => (pts_1 (pt_cmp opd_ge (pd_ixO (pv 3) (pd_bin opd_add (pd_v (pv 7)) (pd_v (pv 8))) (fun _ _ => rfl)) (pd_v (pv 2)) (by rfl)))) (fun _ _ _ _ _ => (pd_v (pv 8))))) pl_n)) pa_nil)))))))))
    (qo_ret (pv 4))))))
theorem ok_waits {A : Adr} (T : Txt P K mg A) : FnOk P w K mg base (L2.CX P w) 5 A.f_waits A.d_waits ["load", "doings"] (spP (gw K A) 2 F_waits) :=
  ok_fn (k := 4) T.F_waits sc_waits fun cdv A' outer s H E hr => (qs_k (q_par2 (ps_par (i := 2) (j := 3) rfl sc_waits.nd rfl rfl (by decide) rfl rfl (pm_s (pd_call (ok_checked_load T) (takes_of rfl rfl rfl rfl) (hr.mono (by decide)) (by rfl) T.g_checked_load T.F_checked_load.kp T.b_checked_load (pl_k (pd_v (pv 0)) pl_n)) (pm_s (pd_call (ok_checked_doings T) (takes_of rfl rfl rfl rfl) (hr.mono (by decide)) (by rfl) T.g_checked_doings T.F_checked_doings.kp T.b_checked_doings (pl_k (pd_v (pv 1)) pl_n)) pm_n)) (by rfl)))
    (qs_k (q_set (x := .Name "" default) (ps_set (i := 2) sc_waits.nd rfl (.inl rfl) (pd_call (ok_spread T) (takes_of rfl rfl rfl rfl) (hr.mono (by decide)) (by rfl) T.g_spread T.F_spread.kp T.b_spread (pl_k (pd_v (pv 2)) (pl_k (pd_cb (cb_len rfl) (by rfl) T.n_len (by decide +kernel) (pl_k (pd_v (pv 3)) pl_n)) pl_n)))))
    (qs_1 (q_retO (po_call (okO_waits_by T) (takes_of rfl rfl rfl rfl) (hr.mono (by decide)) (by rfl) T.g_waits_by T.F_waits_by.kp T.b_waits_by (pl_k (pd_v (pv 2)) (pl_k (pd_call (ok_lefts_of T) (takes_of rfl rfl rfl rfl) (hr.mono (by decide)) (by rfl) T.g_lefts_of T.F_lefts_of.kp T.b_lefts_of (pl_k (pd_v (pv 2)) (pl_k (pd_v (pv 3)) pl_n))) pl_n)))))))
theorem okO_waits {A : Adr} (T : Txt P K mg A) : FnOk P w K mg base (L2.CX P w) 5 A.f_waits A.d_waits ["load", "doings"] (spO (gw K A) 2 FO_waits) :=
  ok_fnO (k := 4) T.F_waits sc_waits fun cdv A' outer s H E hr => (qs_k (q_par2 (ps_par (i := 2) (j := 3) rfl sc_waits.nd rfl rfl (by decide) rfl rfl (pm_s (pd_call (ok_checked_load T) (takes_of rfl rfl rfl rfl) (hr.mono (by decide)) (by rfl) T.g_checked_load T.F_checked_load.kp T.b_checked_load (pl_k (pd_v (pv 0)) pl_n)) (pm_s (pd_call (ok_checked_doings T) (takes_of rfl rfl rfl rfl) (hr.mono (by decide)) (by rfl) T.g_checked_doings T.F_checked_doings.kp T.b_checked_doings (pl_k (pd_v (pv 1)) pl_n)) pm_n)) (by rfl)))
    (qs_k (q_set (x := .Name "" default) (ps_set (i := 2) sc_waits.nd rfl (.inl rfl) (pd_call (ok_spread T) (takes_of rfl rfl rfl rfl) (hr.mono (by decide)) (by rfl) T.g_spread T.F_spread.kp T.b_spread (pl_k (pd_v (pv 2)) (pl_k (pd_cb (cb_len rfl) (by rfl) T.n_len (by decide +kernel) (pl_k (pd_v (pv 3)) pl_n)) pl_n)))))
    (qs_1 (q_retO (po_call (okO_waits_by T) (takes_of rfl rfl rfl rfl) (hr.mono (by decide)) (by rfl) T.g_waits_by T.F_waits_by.kp T.b_waits_by (pl_k (pd_v (pv 2)) (pl_k (pd_call (ok_lefts_of T) (takes_of rfl rfl rfl rfl) (hr.mono (by decide)) (by rfl) T.g_lefts_of T.F_lefts_of.kp T.b_lefts_of (pl_k (pd_v (pv 2)) (pl_k (pd_v (pv 3)) pl_n))) pl_n)))))))
theorem ok__law_refused_right {A : Adr} (T : Txt P K mg A) (O : TabsOk base mg [(A.cc__law_refused_right, A.ct__law_refused_right, "_law_refused_right")]) : FnOk P w K mg base (L2.CX P w) 10 A.f__law_refused_right A.d__law_refused_right ["_law_stream_here", "_law_load", "_law_doings"] (spI (gw K A) 2 F__law_refused_right) :=
  ok_fnCI (k := 9) T.FC__law_refused_right sc__law_refused_right fun A' outer s H E a hr => (qs_k (q_par2 (ps_par (i := 3) (j := 4) rfl sc__law_refused_right.nd rfl rfl (by decide) rfl rfl (pm_s (pd_callI (ok__law_draw T) (takes_of rfl rfl rfl rfl) (hr.mono (by decide)) (by rfl) T.g__law_draw T.F__law_draw.kp T.b__law_draw (pv 0) (pl_k (pd_bin opd_add (pd_cb (cb_len rfl) (by rfl) T.n_len (by decide +kernel) (pl_k (pd_v (pv 1)) pl_n)) pd_int) pl_n)) (pm_s (pd_callI (ok__law_draw T) (takes_of rfl rfl rfl rfl) (hr.mono (by decide)) (by rfl) T.g__law_draw T.F__law_draw.kp T.b__law_draw (pv 0) (pl_k (pd_bin opd_add (pd_cb (cb_len rfl) (by rfl) T.n_len (by decide +kernel) (pl_k (pd_v (pv 2)) pl_n)) pd_int) pl_n)) pm_n)) (by rfl)))
    (qs_k (q_for (passes_of rfl) rfl (pw_seq (pd_own (po_lst (pl_k pd_non (pl_k (pd_neg pd_int) (pl_k pd_bl (pl_k pd_str (pl_k (pd_tup (pl_k pd_int pl_n)) (pl_k (pd_own (po_lst pl_n)) (pl_k pd_dic0 (pl_k (pd_c (pe_glob (v := .ref A.f__law_draw) (by rfl) T.g__law_draw rfl) fun _ => .fn 1 (kf__law_draw)) pl_n))))))))))) (pg_v (pg_name (i := 5) sc__law_refused_right.nd rfl (.inr rfl)))
    (qs_k (q_asg (pd_tup (pl_k (pd_bin opd_add (pd_bin opd_add (pd_sl (pd_v (pv 1)) pp_0 (pp_1 (pd_v (pv 3)))) (pd_own (po_lst (pl_k (pd_v (pv 5)) (pl_k pd_non pl_n))))) (pd_sl (pd_v (pv 1)) (pp_1 (pd_v (pv 3))) pp_0)) (pl_k (pd_bin opd_add (pd_bin opd_add (pd_sl (pd_v (pv 2)) pp_0 (pp_1 (pd_v (pv 4)))) (pd_own (po_lst (pl_k (pd_v (pv 5)) (pl_k pd_non pl_n))))) (pd_sl (pd_v (pv 2)) (pp_1 (pd_v (pv 4))) pp_0)) pl_n))) (pg_t rfl (pgs_k (pg_v (pg_name (i := 6) sc__law_refused_right.nd rfl (.inr rfl))) (pgs_k (pg_v (pg_name (i := 7) sc__law_refused_right.nd rfl (.inr rfl))) pgs_n))))
    (qs_k (q_setO (ps_set (i := 8) sc__law_refused_right.nd rfl (.inl rfl) (po_lst pl_n)))
    (qs_k (q_for (passes_of rfl) rfl (pw_seq (pd_tup (pl_k (pd_c (pe_glob (v := .ref A.f_left_behind) (by rfl) T.g_left_behind rfl) fun _ => .fn 2 (kf_left_behind)) (pl_k (pd_c (pe_glob (v := .ref A.f_waits) (by rfl) T.g_waits rfl) fun _ => .fn 3 (kf_waits)) pl_n)))) (pg_v (pg_name (i := 9) sc__law_refused_right.nd rfl (.inr rfl)))
    (qs_k (q_app (id := "") (ps_expr (pe_bm PySem.F.plainAttrs_list PySem.F.slot_list_append PySem.F.type_list_append mt_append (pv 8) (pa_cons (pd_lam (k := 7) (T.met__law_met) rfl (by rfl) T.g__law_met (fun cdv T1 _ s H r hth => mb__law_met T cdv T1 s H r hth) (O.b 0 (by rfl)) (by rfl) (O.mine 0 (by rfl)) (O.alone 0 (by rfl)) (hr.mono (by decide)) (by show LamX.lamSB (defScope s__law_refused_right) _ = true; decide +kernel) rfl (by intros; rfl) (fun A3 outer3 s3 H3 E3 f3 c3 hr => (pd_alt (pd_callLX (i := 9) (j := 2) rfl (ok_left_behind T) (takes_of rfl rfl rfl rfl) (hr.mono (by decide)) rfl (by first | exact Or.inl rfl | exact Or.inr (Or.inl rfl) | exact Or.inr (Or.inr rfl)) T.F_left_behind.kp T.b_left_behind (pl_k (pd_v (pv 6)) (pl_k (pd_v (pv 7)) pl_n))) (pd_callLX (i := 9) (j := 3) rfl (ok_waits T) (takes_of rfl rfl rfl rfl) (hr.mono (by decide)) rfl (by first | exact Or.inl rfl | exact Or.inr (Or.inl rfl) | exact Or.inr (Or.inr rfl)) T.F_waits.kp T.b_waits (pl_k (pd_v (pv 6)) (pl_k (pd_v (pv 7)) pl_n)))))) pa_nil))))
    (qs_1 (q_app (id := "") (ps_expr (pe_bm PySem.F.plainAttrs_list PySem.F.slot_list_append PySem.F.type_list_append mt_append (pv 8) (pa_cons (pd_lam (k := 7) (T.met__law_met) rfl (by rfl) T.g__law_met (fun cdv T1 _ s H r hth => mb__law_met T cdv T1 s H r hth) (O.b 0 (by rfl)) (by rfl) (O.mine 0 (by rfl)) (O.alone 0 (by rfl)) (hr.mono (by decide)) (by show LamX.lamSB (defScope s__law_refused_right) _ = true; decide +kernel) rfl (by intros; rfl) (fun A3 outer3 s3 H3 E3 f3 c3 hr => (pd_alt (pd_callLX (i := 9) (j := 2) rfl (ok_left_behind T) (takes_of rfl rfl rfl rfl) (hr.mono (by decide)) rfl (by first | exact Or.inl rfl | exact Or.inr (Or.inl rfl) | exact Or.inr (Or.inr rfl)) T.F_left_behind.kp T.b_left_behind (pl_k (pd_v (pv 1)) (pl_k (pd_v (pv 7)) pl_n))) (pd_callLX (i := 9) (j := 3) rfl (ok_waits T) (takes_of rfl rfl rfl rfl) (hr.mono (by decide)) rfl (by first | exact Or.inl rfl | exact Or.inr (Or.inl rfl) | exact Or.inr (Or.inr rfl)) T.F_waits.kp T.b_waits (pl_k (pd_v (pv 1)) (pl_k (pd_v (pv 7)) pl_n)))))) pa_nil)))))))
    (qs_1 (q_if (pt_no (pt_t (pd_call (ok__law_same T 6) (takes_of rfl rfl rfl rfl) (hr.mono (by decide)) (by rfl) T.g__law_same T.F__law_same.kp T.b__law_same (pl_k (pd_v (pv 8)) (pl_k (pd_bin opd_mul (pd_own (po_lst (pl_k (pd_own (po_lst (pl_k pd_str (pl_k (pd_v (pv 3)) pl_n)))) (pl_k (pd_own (po_lst (pl_k pd_str (pl_k (pd_v (pv 4)) pl_n)))) pl_n)))) pd_int) pl_n))))) (qs_1 (q_ret pd_bl))
    qs_n))))))
    (qs_k (q_for (passes_of rfl) rfl (pw_seq (pd_own (po_lst (pl_k pd_non (pl_k pd_int (pl_k pd_str (pl_k pd_dic0 (pl_k pd_bl (pl_k (pd_c (pe_glob (v := .ref A.f__law_draw) (by rfl) T.g__law_draw rfl) fun _ => .fn 1 (kf__law_draw)) pl_n))))))))) (pg_v (pg_name (i := 5) sc__law_refused_right.nd rfl (.inr rfl)))
    (qs_k (q_setO (ps_set (i := 8) sc__law_refused_right.nd rfl (.inl rfl) (po_lst pl_n)))
    (qs_k (q_for (passes_of rfl) rfl (pw_seq (pd_tup (pl_k (pd_c (pe_glob (v := .ref A.f_left_behind) (by rfl) T.g_left_behind rfl) fun _ => .fn 2 (kf_left_behind)) (pl_k (pd_c (pe_glob (v := .ref A.f_waits) (by rfl) T.g_waits rfl) fun _ => .fn 3 (kf_waits)) pl_n)))) (pg_v (pg_name (i := 9) sc__law_refused_right.nd rfl (.inr rfl)))
    (qs_k (q_app (id := "") (ps_expr (pe_bm PySem.F.plainAttrs_list PySem.F.slot_list_append PySem.F.type_list_append mt_append (pv 8) (pa_cons (pd_lam (k := 7) (T.met__law_met) rfl (by rfl) T.g__law_met (fun cdv T1 _ s H r hth => mb__law_met T cdv T1 s H r hth) (O.b 0 (by rfl)) (by rfl) (O.mine 0 (by rfl)) (O.alone 0 (by rfl)) (hr.mono (by decide)) (by show LamX.lamSB (defScope s__law_refused_right) _ = true; decide +kernel) rfl (by intros; rfl) (fun A3 outer3 s3 H3 E3 f3 c3 hr => (pd_alt (pd_callLX (i := 9) (j := 2) rfl (ok_left_behind T) (takes_of rfl rfl rfl rfl) (hr.mono (by decide)) rfl (by first | exact Or.inl rfl | exact Or.inr (Or.inl rfl) | exact Or.inr (Or.inr rfl)) T.F_left_behind.kp T.b_left_behind (pl_k (pd_v (pv 5)) (pl_k pd_non pl_n))) (pd_callLX (i := 9) (j := 3) rfl (ok_waits T) (takes_of rfl rfl rfl rfl) (hr.mono (by decide)) rfl (by first | exact Or.inl rfl | exact Or.inr (Or.inl rfl) | exact Or.inr (Or.inr rfl)) T.F_waits.kp T.b_waits (pl_k (pd_v (pv 5)) (pl_k pd_non pl_n)))))) pa_nil))))
    (qs_1 (q_app (id := "") (ps_expr (pe_bm PySem.F.plainAttrs_list PySem.F.slot_list_append PySem.F.type_list_append mt_append (pv 8) (pa_cons (pd_lam (k := 7) (T.met__law_met) rfl (by rfl) T.g__law_met (fun cdv T1 _ s H r hth => mb__law_met T cdv T1 s H r hth) (O.b 0 (by rfl)) (by rfl) (O.mine 0 (by rfl)) (O.alone 0 (by rfl)) (hr.mono (by decide)) (by show LamX.lamSB (defScope s__law_refused_right) _ = true; decide +kernel) rfl (by intros; rfl) (fun A3 outer3 s3 H3 E3 f3 c3 hr => (pd_alt (pd_callLX (i := 9) (j := 2) rfl (ok_left_behind T) (takes_of rfl rfl rfl rfl) (hr.mono (by decide)) rfl (by first | exact Or.inl rfl | exact Or.inr (Or.inl rfl) | exact Or.inr (Or.inr rfl)) T.F_left_behind.kp T.b_left_behind (pl_k (pd_v (pv 1)) (pl_k (pd_v (pv 5)) pl_n))) (pd_callLX (i := 9) (j := 3) rfl (ok_waits T) (takes_of rfl rfl rfl rfl) (hr.mono (by decide)) rfl (by first | exact Or.inl rfl | exact Or.inr (Or.inl rfl) | exact Or.inr (Or.inr rfl)) T.F_waits.kp T.b_waits (pl_k (pd_v (pv 1)) (pl_k (pd_v (pv 5)) pl_n)))))) pa_nil)))))))
    (qs_1 (q_if (pt_no (pt_t (pd_call (ok__law_same T 6) (takes_of rfl rfl rfl rfl) (hr.mono (by decide)) (by rfl) T.g__law_same T.F__law_same.kp T.b__law_same (pl_k (pd_v (pv 8)) (pl_k (pd_bin opd_mul (pd_own (po_lst (pl_k (pd_own (po_lst (pl_k pd_str (pl_k pd_int pl_n)))) (pl_k (pd_own (po_lst (pl_k pd_str (pl_k pd_int pl_n)))) pl_n)))) pd_int) pl_n))))) (qs_1 (q_ret pd_bl))
    qs_n)))))
    (qs_1 (q_ret pd_bl)))))
theorem ok__law_last_left {A : Adr} (T : Txt P K mg A) : FnOk P w K mg base (L2.CX P w) 1 A.f__law_last_left A.d__law_last_left ["_law_load", "_law_doings"] (spP (gw K A) 2 F__law_last_left) :=
  ok_fn (k := 0) T.F__law_last_left sc__law_last_left fun cdv A' outer s H E hr => (qs_k (q_par2 (ps_par (i := 2) (j := 3) rfl sc__law_last_left.nd rfl rfl (by decide) rfl rfl (pm_o (po_lst pl_n) (pm_o (po_lst pl_n) pm_n)) (by rfl)))
    (qs_k (q_for (passes_of rfl) rfl (pw_enA (by rfl) T.n_enumerate (pl_k (pd_v (pv 1)) pl_n)) (pg_t rfl (pgs_k (pg_v (pg_name (i := 4) sc__law_last_left.nd rfl (.inl rfl))) (pgs_k (pg_v (pg_name (i := 5) sc__law_last_left.nd rfl (.inl rfl))) pgs_n)))
    (qs_k (q_ext (ps_expr (pe_bm PySem.F.plainAttrs_list PySem.F.slot_list_extend PySem.F.type_list_extend mt_extend (pv 2) (pa_cons (pd_bin opd_mul (pd_own (po_lst (pl_k (pd_v (pv 4)) pl_n))) (pd_if (pt_cmp opd_lt (pd_v (pv 4)) (pd_cb (cb_len rfl) (by rfl) T.n_len (by decide +kernel) (pl_k (pd_v (pv 0)) pl_n)) (by rfl)) (pd_ix (pd_v (pv 0)) (pd_v (pv 4)) (fun _ _ => rfl)) pd_int)) pa_nil))))
    (qs_k (q_setO (ps_set (i := 2) sc__law_last_left.nd rfl (.inl rfl) (po_slO (pv 2) pp_0 (pp_1 (pd_cb (cb_max rfl) (by rfl) T.n_max (by decide +kernel) (pl_k pd_int (pl_k (pd_bin opd_sub (pd_lenO (by rfl) T.n_len (pv 2)) (pd_v (pv 5))) pl_n)))))))
    (qs_1 (q_app (id := "") (ps_expr (pe_bm PySem.F.plainAttrs_list PySem.F.slot_list_append PySem.F.type_list_append mt_append (pv 3) (pa_cons (pd_lenO (by rfl) T.n_len (pv 2)) pa_nil))))))))
    (qs_1 (q_ret (pd_v (pv 3))))))
end
end K46
set_option Elab.async false
set_option linter.all false
set_option maxRecDepth 100000
set_option maxHeartbeats 1000000
namespace K46
open PySem PySem.Spec L2 Ax
section
variable [T0 : TabC] {P : Program} {w : World} {K : PySem.W.Frag} {mg : Str → Option Value} {base : Heap}
theorem ok_law {A : Adr} (T : Txt P K mg A) (O : TabsOk base mg [(A.cc__law_refused_right, A.ct__law_refused_right, "_law_refused_right")]) (no : NoMk) : FnG P w K mg base (L2.CX P w) 11 A.f_law A.d_law ["_law_script"] (spP (gw K A) 1 F_law) :=
  ok_fnQ (k := 10) T.F_law sc_law fun cdv A' outer s H E gd hr => (qs_k (q_for (passes_of rfl) rfl (pw_r1 (by rfl) T.n_range (pl_k pd_int pl_n)) (pg_v (pg_name (i := 1) sc_law.nd rfl (.inl rfl)))
    (qs_k (q_setO (ps_set (i := 2) sc_law.nd rfl (.inl rfl) (po_call (okO__law_stream T) (takes_of rfl rfl rfl rfl) (hr.mono (by decide)) (by rfl) T.g__law_stream T.F__law_stream.kp T.b__law_stream (pl_k (pd_v (pv 0)) (pl_k (pd_v (pv 1)) pl_n)))))
    (qs_k (q_set (x := .Name "" default) (ps_set (i := 3) sc_law.nd rfl (.inl rfl) (pd_callI (ok__law_numbers T) (takes_of rfl rfl rfl rfl) (hr.mono (by decide)) (by rfl) T.g__law_numbers T.F__law_numbers.kp T.b__law_numbers (pv 2) (pl_k (pd_callI (ok__law_draw T) (takes_of rfl rfl rfl rfl) (hr.mono (by decide)) (by rfl) T.g__law_draw T.F__law_draw.kp T.b__law_draw (pv 2) (pl_k pd_int pl_n)) pl_n))))
    (qs_k (q_set (x := .Name "" default) (ps_set (i := 4) sc_law.nd rfl (.inl rfl) (pd_callI (ok__law_numbers T) (takes_of rfl rfl rfl rfl) (hr.mono (by decide)) (by rfl) T.g__law_numbers T.F__law_numbers.kp T.b__law_numbers (pv 2) (pl_k (pd_callI (ok__law_pick T) (takes_of rfl rfl rfl rfl) (hr.mono (by decide)) (by rfl) T.g__law_pick T.F__law_pick.kp T.b__law_pick (pv 2) (pl_k (pd_own (po_lst (pl_k pd_int (pl_k pd_int (pl_k (pd_cb (cb_len rfl) (by rfl) T.n_len (by decide +kernel) (pl_k (pd_v (pv 3)) pl_n)) (pl_k (pd_bin opd_add (pd_cb (cb_len rfl) (by rfl) T.n_len (by decide +kernel) (pl_k (pd_v (pv 3)) pl_n)) (pd_callI (ok__law_draw T) (takes_of rfl rfl rfl rfl) (hr.mono (by decide)) (by rfl) T.g__law_draw T.F__law_draw.kp T.b__law_draw (pv 2) (pl_k pd_int pl_n))) (pl_k pd_int pl_n))))))) pl_n)) pl_n))))
    (qs_k (q_asg (pd_call (ok__law_run_due T O no) (takes_of rfl rfl rfl rfl) (hr.mono (by decide)) (by rfl) T.g__law_run_due T.F__law_run_due.kp T.b__law_run_due (pl_k (pd_v (pv 3)) (pl_k (pd_v (pv 4)) pl_n))) (pg_t rfl (pgs_k (pg_v (pg_name (i := 5) sc_law.nd rfl (.inl rfl))) (pgs_k (pg_v (pg_name (i := 6) sc_law.nd rfl (.inl rfl))) (pgs_k (pg_v (pg_name (i := 7) sc_law.nd rfl (.inl rfl))) pgs_n)))))
    (qs_k (q_set (x := .Name "" default) (ps_set (i := 8) sc_law.nd rfl (.inl rfl) (pd_own (po_lst (pl_k (pd_callI (ok__law_as_lists T 6) (takes_of rfl rfl rfl rfl) (hr.mono (by decide)) (by rfl) T.g__law_as_lists T.F__law_as_lists.kp T.b__law_as_lists (pv 2) (pl_k (pd_v (pv 3)) pl_n)) (pl_k (pd_callI (ok__law_as_lists T 6) (takes_of rfl rfl rfl rfl) (hr.mono (by decide)) (by rfl) T.g__law_as_lists T.F__law_as_lists.kp T.b__law_as_lists (pv 2) (pl_k (pd_v (pv 4)) pl_n)) pl_n))))))
    (qs_toldP (i := 10) (j := 9) (by decide) (ps_par (i := 9) (j := 10) rfl sc_law.nd rfl rfl (by decide) rfl rfl (pa_cons (pd_cb (cb_repr gd hr) (by rfl) T.n_repr (by decide +kernel) (pl_k (pd_v (pv 8)) pl_n)) (pa_cons (pe_lst (pa_cons (po_call (okO_left_behind T) (takes_of rfl rfl rfl rfl) (hr.mono (by decide)) (by rfl) T.g_left_behind T.F_left_behind.kp T.b_left_behind (pl_k (pd_ix (pd_v (pv 8)) pd_int (fun _ _ => rfl)) (pl_k (pd_ix (pd_v (pv 8)) pd_int (fun _ _ => rfl)) pl_n))) (pa_cons (po_call (okO_waits T) (takes_of rfl rfl rfl rfl) (hr.mono (by decide)) (by rfl) T.g_waits T.F_waits.kp T.b_waits (pl_k (pd_ix (pd_v (pv 8)) pd_int (fun _ _ => rfl)) (pl_k (pd_ix (pd_v (pv 8)) pd_int (fun _ _ => rfl)) pl_n))) pa_nil))) pa_nil)) (by rfl)) (PW.pt (pw_o (pt_no (pt_t (pd_call (ok__law_same T 6) (takes_of rfl rfl rfl rfl) (hr.mono (by decide)) (by rfl) T.g__law_same T.F__law_same.kp T.b__law_same (pl_k (pd_v (pv 10)) (pl_k (pd_own (po_lst (pl_k (pd_v (pv 5)) (pl_k (pd_v (pv 6)) pl_n)))) pl_n))))) (pw_o (pt_cmp (opd_ne hr.units) (pd_cb (cb_repr gd hr) (by rfl) T.n_repr (by decide +kernel) (pl_k (pd_v (pv 8)) pl_n)) (pd_v (pv 9)) (by rfl)) (pw_or1 (pt_cmp (opd_ne hr.units) (pd_call (ok__law_last_left T) (takes_of rfl rfl rfl rfl) (hr.mono (by decide)) (by rfl) T.g__law_last_left T.F__law_last_left.kp T.b__law_last_left (pl_k (pd_v (pv 3)) (pl_k (pd_v (pv 4)) pl_n))) (pd_v (pv 5)) (by rfl)))))) (late := .str ("late" : Str)) (ps_expr (pe_bm PySem.F.plainAttrs_list PySem.F.slot_list_append PySem.F.type_list_append mt_append (pe_ix ix_list (pv 10) pe_int (fun _ _ => rfl)) (pa_cons pe_str pa_nil))) (ps_expr (pe_bm PySem.F.plainAttrs_list PySem.F.slot_list_append PySem.F.type_list_append mt_append (pe_ix ix_list (pv 10) pe_int (fun _ _ => rfl)) (pa_cons pe_str pa_nil)))
    (qs_k (q_if (pt_no (pt_t (pd_call (ok__law_same T 6) (takes_of rfl rfl rfl rfl) (hr.mono (by decide)) (by rfl) T.g__law_same T.F__law_same.kp T.b__law_same (pl_k (pd_own (po_lst (pl_k (pd_call (ok_left_behind T) (takes_of rfl rfl rfl rfl) (hr.mono (by decide)) (by rfl) T.g_left_behind T.F_left_behind.kp T.b_left_behind (pl_k (pd_v (pv 3)) (pl_k (pd_v (pv 4)) pl_n))) (pl_k (pd_call (ok_waits T) (takes_of rfl rfl rfl rfl) (hr.mono (by decide)) (by rfl) T.g_waits T.F_waits.kp T.b_waits (pl_k (pd_v (pv 3)) (pl_k (pd_v (pv 4)) pl_n))) pl_n)))) (pl_k (pd_own (po_lst (pl_k (pd_v (pv 5)) (pl_k (pd_v (pv 6)) pl_n)))) pl_n))))) (qs_1 (q_ret pd_bl))
    qs_n)
    (qs_k (q_setLc (own := [("_law_number", 12)]) (i := 11) rfl sc_law.nd rfl rfl (sw_true rfl rfl rfl (by decide +kernel)) (pw_seq (pd_v (pv 3))) (blkOk_by (own := [("_law_number", 12)]) (N := n_law) (sc := defScope s_law) (by decide +kernel)) (fun _ _ _ _ _ => (pg_v (pg_name (i := 12) sc_law.nd rfl (.inl rfl)))) (fun _ _ _ _ _ => (pts_y pts_nil)) (fun _ _ _ _ _ => (pd_bin opd_mul (pd_v (pv 12)) pd_int)))
    (qs_k (q_if (pt_no (pt_t (pd_call (ok__law_same T 6) (takes_of rfl rfl rfl rfl) (hr.mono (by decide)) (by rfl) T.g__law_same T.F__law_same.kp T.b__law_same (pl_k (pd_call (ok_left_behind T) (takes_of rfl rfl rfl rfl) (hr.mono (by decide)) (by rfl) T.g_left_behind T.F_left_behind.kp T.b_left_behind (pl_k (pd_v (pv 11)) (pl_k (pd_own (po_comp (own := [("_law_number", 12)]) rfl sc_law.nd (pw_seq (pd_v (pv 4))) (blkOk_by (own := [("_law_number", 12)]) (N := n_law) (sc := defScope s_law) (by decide +kernel)) (fun _ _ _ _ _ => (pg_v (pg_name (i := 12) sc_law.nd rfl (.inl rfl)))) (fun _ _ _ _ _ => (pts_y pts_nil)) (fun _ _ _ _ _ => (pd_bin opd_mul (pd_v (pv 12)) pd_int)))) pl_n))) (pl_k (pd_own (po_comp (own := [("_law_left", 13)]) rfl sc_law.nd (pw_seq (pd_v (pv 5))) (blkOk_by (own := [("_law_left", 13)]) (N := n_law) (sc := defScope s_law) (by decide +kernel)) (fun _ _ _ _ _ => (pg_v (pg_name (i := 13) sc_law.nd rfl (.inl rfl)))) (fun _ _ _ _ _ => (pts_y pts_nil)) (fun _ _ _ _ _ => (pd_bin opd_mul (pd_v (pv 13)) pd_int)))) pl_n))))) (qs_1 (q_ret pd_bl))
    qs_n)
    (qs_1 (q_if (pt_no (pt_t (pd_callI (ok__law_refused_right T O) (takes_of rfl rfl rfl rfl) (hr.mono (by decide)) (by rfl) T.g__law_refused_right T.F__law_refused_right.kp T.b__law_refused_right (pv 2) (pl_k (pd_v (pv 3)) (pl_k (pd_v (pv 4)) pl_n))))) (qs_1 (q_ret pd_bl))
    qs_n))))))))))))
    (qs_1 (q_ret (pd_and (pd_cmp (opd_eq hr.units) (pd_call (ok_left_behind T) (takes_of rfl rfl rfl rfl) (hr.mono (by decide)) (by rfl) T.g_left_behind T.F_left_behind.kp T.b_left_behind (pl_k (pd_own (po_lst pl_n)) (pl_k (pd_own (po_lst pl_n)) pl_n))) (pd_own (po_lst pl_n)) (by rfl)) (pd_and (pd_cmp (opd_eq hr.units) (pd_call (ok_waits T) (takes_of rfl rfl rfl rfl) (hr.mono (by decide)) (by rfl) T.g_waits T.F_waits.kp T.b_waits (pl_k (pd_own (po_lst (pl_k pd_int pl_n))) (pl_k (pd_own (po_lst pl_n)) pl_n))) (pd_own (po_lst pl_n)) (by rfl)) (pe_one (pd_cmp (opd_eq hr.units) (pd_call (ok_waits T) (takes_of rfl rfl rfl rfl) (hr.mono (by decide)) (by rfl) T.g_waits T.F_waits.kp T.b_waits (pl_k (pd_own (po_lst pl_n)) (pl_k (pd_own (po_lst (pl_k pd_int (pl_k pd_int pl_n)))) pl_n))) (pd_own (po_lst (pl_k pd_int (pl_k pd_int pl_n)))) (by rfl))))))))
end
end K46
set_option Elab.async false
set_option linter.all false
set_option maxRecDepth 100000
set_option maxHeartbeats 2000000
namespace K46
open PySem PySem.Spec L2 Ax RowM
/-- the stream of draws after at most t draws -/
def St (t : Nat) (s : OV) : Prop := ∃ a b c : Int, s = .lst [.int a, .int b, .int c] ∧ 0 ≤ a ∧ 0 ≤ b ∧ b < 2 ^ 40 ∧ 0 ≤ c ∧ c ≤ t
theorem draw_ok {t : Nat} {s : OV} {m : Int} (h : St t s) (ht : t < 2 ^ 40) (m0 : 0 < m) (m1 : m < 2 ^ 64) {P : D → OV → Prop} (q : ∀ (r : Int) (s' : OV), 0 ≤ r → r < m → St (t + 1) s' → P (.int r) s') : OR (F__law_draw s [.int m]) P := by
  obtain ⟨a, b, c, rfl, ha, hb, hb2, hc, hct⟩ := h
  have m1 : m < 18446744073709551616 := m1
  refine runI_of (wq fun K hK => ?_)
  by_cases h0 : 0 < a
  · simp [h0, atI, ixN]
    refine wq fun K2 hK2 => ?_
    simp [h0, m0, atI, ixN]
    subst hK2
    refine wq fun K2 hK2 => ?_
    simp [h0, m0, m1, atI, ixN]
    subst hK2
    simp
    exact q _ _ (Int.emod_nonneg _ (by omega)) (Int.emod_lt_of_pos _ m0) ⟨_, _, _, rfl, Int.ediv_nonneg ha (by omega), hb, hb2, hc, by omega⟩
  · simp [h0, atI, ixN]
    subst hK
    refine wq fun K hK => ?_
    simp [atI, ixN]
    subst hK
    refine wq fun K hK => ?_
    have e1 : (b + 7919 * (c + 1) + 104729).natAbs < 18446744073709551616 := by omega
    simp [atI, ixN, mul_l, e1]
    subst hK
    simp [atI, ixN, m0, mul_r]
    exact q _ _ (Int.emod_nonneg _ (by omega)) (Int.emod_lt_of_pos _ m0) ⟨_, _, _, rfl, by omega, hb, hb2, by omega, by omega⟩
theorem pick_ok {t : Nat} {s : OV} {xs : List D} (h : St t s) (ht : t < 2 ^ 40) (h0 : 0 < xs.length) (h1 : xs.length < 1000) {P : D → OV → Prop} (q : ∀ (d : D) (s' : OV), d ∈ xs → St (t + 1) s' → P d s') : OR (F__law_pick s [.lst xs]) P := by
  refine runI_of ?_
  simp [f__law_pick]
  refine wCallI (by rfl) ?_
  simp
  refine draw_ok h ht (by omega) (by omega) fun r s' h2 h3 h4 => ?_
  obtain ⟨n, rfl⟩ := Int.eq_ofNat_of_zero_le h2
  have hn : n < xs.length := by omega
  simp [Ax.atI_nat, hn]
  exact q _ _ (List.getElem_mem hn) h4
theorem zip_lt {ns : List Int} {p : Int × Nat} (h : p ∈ ns.zipIdx) : p.2 < ns.length := by
  obtain ⟨x, i⟩ := p
  have := List.mem_zipIdx' h
  exact this.1
theorem stream_ok {ns : List Int} {k : Nat} (hl : ns.length ≤ 63) (k1 : k ≤ 100) : ∃ o, FO__law_stream [.frl (ns.map .int), .int k] = some o ∧ St 0 o := by
  refine runO_of (wq fun K hK => ?_)
  have key : ∀ cell : Int, 0 ≤ cell → K [.sh (.frl (ns.map .int)), .sh (.int k), .sh (.int cell), .un, .un, .un] := by
    intro cell h0
    subst hK
    refine wq fun K hK => ?_
    simp
    rw [enumD_ints, if_pos (by rfl)]
    refine wCompN _ (fun (p : Int × Nat) => ((p.2 : Int) + 1) * (if p.1 < 0 then -p.1 else p.1)) ns.zipIdx (by rw [sizeLine_eq]; simp; omega) (fun p hp => ?_) ?_
    · have := zip_lt hp
      have hm : ∀ j, mulOk ((p.2 : Int) + 1) j = true := fun j => mul_l (by omega) (by omega)
      simp [hm, back, wipeE]
    · simp [-List.map_map]
      generalize ((List.map _ ns.zipIdx).sum : Int) = z
      subst hK
      simp [mul_l, sizeLine_eq]
      have b1 := Int.emod_nonneg (cell + z % 2147483647) (b := 2147483647) (by omega)
      have b2 := Int.emod_lt_of_pos (cell + z % 2147483647) (b := 2147483647) (by omega)
      by_cases hc : (1000000000000000000 : Int) ≤ cell
      · simp [hc, mul_l]
        exact ⟨_, _, _, rfl, h0, by omega, by omega, by omega, by omega⟩
      · simp [hc, mul_l]
        exact ⟨_, _, _, rfl, by omega, by omega, by omega, by omega, by omega⟩
  simp
  by_cases hk : k < ns.length
  · simp [hk, atI_int k rfl hk]
    apply key
    split <;> omega
  · simp [hk, cut_to1, ← List.map_take, mul_l]
    apply key
    have b1 := Int.emod_nonneg (ns.take 1).sum (b := 1000003) (by omega)
    omega
end K46
set_option Elab.async false
set_option linter.all false
set_option maxRecDepth 100000
set_option maxHeartbeats 2000000
namespace K46
open PySem PySem.Spec L2 Ax RowM
abbrev il (ns : List Int) : D := .lst (ns.map .int)
abbrev it (ns : List Int) : D := .tup (ns.map .int)
/-- ints in a list or in a tuple -/
inductive Sq (ns : List Int) : D → Prop
  | l : Sq ns (il ns)
  | t : Sq ns (it ns)
  | m (k : Nat) : Sq ns (.mk k (ns.map .int))
theorem Sq.itr {ns : List Int} {d : D} (h : Sq ns d) : d.itr = some (ns.map .int) := by cases h <;> rfl
theorem Sq.itrS {ns : List Int} {d : D} (h : Sq ns d) : d.itrS = some (ns.map .int) := by cases h <;> rfl
theorem Sq.len {ns : List Int} {d : D} (h : Sq ns d) : lenD [d] = some (.int ns.length) := by cases h <;> simp
theorem Sq.tup {ns : List Int} {d : D} (h : Sq ns d) : tupleD [d] = some (it ns) := by cases h <;> rfl
theorem isList_ok {ns : List Int} {d : D} (h : Sq ns d) {P : D → OV → Prop} (p : P (.bl true) nil0) : OR (F_is_list [d]) P := by
  refine runP_of ?_
  cases h <;> simp [f_is_list, sizeLine_eq] <;> exact p
theorem isWhole_ok (i : Int) {P : D → OV → Prop} (p : P (.bl true) nil0) : OR (F_is_whole [.int i]) P := by
  refine runP_of ?_
  simp [f_is_whole]
  exact p
theorem isNumber_ok {i : Int} (h : 0 ≤ i) {P : D → OV → Prop} (p : P (.bl true) nil0) : OR (F_is_number [.int i]) P := by
  refine runP_of ?_
  simp [f_is_number]
  refine wCall ?_
  simp
  refine isWhole_ok _ ?_
  simp [h]
  exact p
theorem firstOdd_ok {ns : List Int} {d : D} (h : Sq ns d) (hl : ns.length < 900000) (pos : ∀ v ∈ ns, 0 ≤ v) {P : D → OV → Prop} (p : P .non nil0) : OR (F_first_odd [d, .fn 0]) P := by
  refine runP_of (wq fun K hK => ?_)
  simp
  refine wCall ?_
  simp
  refine isList_ok h ?_
  simp
  subst hK
  refine wq fun K hK => ?_
  simp [h.itrS]
  rw [enumD_ints, if_pos (by rfl)]
  refine wCompF _ (fun (_ : Int × Nat) => false) (fun _ => .non) ns.zipIdx (by rw [sizeLine_eq]; simp; omega) (fun x hx => ?_) ?_
  · have hp : 0 ≤ x.1 := pos _ (by
      obtain ⟨v, n⟩ := x
      have := List.mem_zipIdx' hx
      exact this.2 ▸ List.getElem_mem _)
    simp [wipeE]
    refine wCallL (by rfl) ?_
    simp
    refine isNumber_ok hp ?_
    simp [back]
  · have e : ns.zipIdx.filter (fun _ => false) = [] := by simp
    rw [e]
    simp
    subst hK
    simp
    exact p
theorem checkedLoad_ok {ns : List Int} {d : D} (h : Sq ns d) (hl : ns.length < 900000) (pos : ∀ v ∈ ns, 0 ≤ v) {P : D → OV → Prop} (p : P (il ns) nil0) : OR (F_checked_load [d]) P := by
  refine runP_of (wq fun K hK => ?_)
  simp
  refine wCall ?_
  simp
  refine firstOdd_ok h hl pos ?_
  subst hK
  refine wq fun K hK => ?_
  simp
  subst hK
  cases h <;> simp <;> exact p
theorem checkedDoings_ok {ns : List Int} {d : D} (h : Sq ns d) (hl : ns.length < 900000) (pos : ∀ v ∈ ns, 0 ≤ v) {P : D → OV → Prop} (p : P (il ns) nil0) : OR (F_checked_doings [d]) P := by
  refine runP_of (wq fun K hK => ?_)
  simp
  refine wCall ?_
  simp
  refine firstOdd_ok h hl pos ?_
  subst hK
  refine wq fun K hK => ?_
  simp
  subst hK
  cases h <;> simp <;> exact p
inductive Dp : Nat → D → Prop
  | int (n : Nat) (i : Int) : Dp n (.int i)
  | bl (n : Nat) (b : Bool) : Dp n (.bl b)
  | non (n : Nat) : Dp n .non
  | str (n : Nat) (s : Str) (h : PyData.strOk s = true) : Dp n (.str s)
  | lst {n : Nat} {xs : List D} (hl : xs.length < 900000) (h : ∀ x ∈ xs, Dp n x) : Dp (n + 1) (.lst xs)
  | tup {n : Nat} {xs : List D} (hl : xs.length < 900000) (h : ∀ x ∈ xs, Dp n x) : Dp (n + 1) (.tup xs)
theorem zip_self (xs : List D) : zipD xs xs = xs.map fun x => D.tup [x, x] := by
  unfold zipD
  induction xs with
  | nil => rfl
  | cons x r ih => simp [List.zip_cons_cons, ih]
@[simp] theorem zipOf_l (xs ys : List D) : zipOf (.lst xs) (.lst ys) = some (zipD xs ys) := (rfl)
@[simp] theorem zipOf_t (xs ys : List D) : zipOf (.tup xs) (.tup ys) = some (zipD xs ys) := (rfl)
theorem all_true {α : Type} (xs : List α) : (xs.map fun _ => true).all id = true := by simp
@[simp] theorem is_n_lt : isiT [.non, .tup [.ty "list", .ty "tuple"]] = some (.bl false) := (rfl)
@[simp] theorem is_n_d : isiT [.non, .ty "dict"] = some (.bl false) := (rfl)
@[simp] theorem is_n_bi : isiT [.non, .tup [.ty "bool", .ty "int"]] = some (.bl false) := (rfl)
@[simp] theorem is_n_5 : isiT [.non, .tup [.ty "bool", .ty "int", .ty "list", .ty "tuple", .ty "dict"]] = some (.bl false) := (rfl)
@[simp] theorem is_s_lt (s : Str) : isiT [(.str s), .tup [.ty "list", .ty "tuple"]] = some (.bl false) := (rfl)
@[simp] theorem is_s_d (s : Str) : isiT [(.str s), .ty "dict"] = some (.bl false) := (rfl)
@[simp] theorem is_s_bi (s : Str) : isiT [(.str s), .tup [.ty "bool", .ty "int"]] = some (.bl false) := (rfl)
@[simp] theorem is_s_5 (s : Str) : isiT [(.str s), .tup [.ty "bool", .ty "int", .ty "list", .ty "tuple", .ty "dict"]] = some (.bl false) := (rfl)
@[simp] theorem is_f_lt (i : Nat) : isiT [(.fn i), .tup [.ty "list", .ty "tuple"]] = some (.bl false) := (rfl)
@[simp] theorem is_f_d (i : Nat) : isiT [(.fn i), .ty "dict"] = some (.bl false) := (rfl)
@[simp] theorem is_f_bi (i : Nat) : isiT [(.fn i), .tup [.ty "bool", .ty "int"]] = some (.bl false) := (rfl)
@[simp] theorem is_f_5 (i : Nat) : isiT [(.fn i), .tup [.ty "bool", .ty "int", .ty "list", .ty "tuple", .ty "dict"]] = some (.bl false) := (rfl)
@[simp] theorem is_d_lt : isiT [(.dic [] []), .tup [.ty "list", .ty "tuple"]] = some (.bl false) := (rfl)
@[simp] theorem is_d_d : isiT [(.dic [] []), .ty "dict"] = some (.bl true) := (rfl)
@[simp] theorem is_d_bi : isiT [(.dic [] []), .tup [.ty "bool", .ty "int"]] = some (.bl false) := (rfl)
@[simp] theorem is_d_5 : isiT [(.dic [] []), .tup [.ty "bool", .ty "int", .ty "list", .ty "tuple", .ty "dict"]] = some (.bl true) := (rfl)
@[simp] theorem is_r_lt (xs : List D) : isiT [(.obj 0 xs), .tup [.ty "list", .ty "tuple"]] = some (.bl false) := (rfl)
@[simp] theorem is_r_d (xs : List D) : isiT [(.obj 0 xs), .ty "dict"] = some (.bl false) := (rfl)
@[simp] theorem is_r_bi (xs : List D) : isiT [(.obj 0 xs), .tup [.ty "bool", .ty "int"]] = some (.bl false) := (rfl)
@[simp] theorem is_r_5 (xs : List D) : isiT [(.obj 0 xs), .tup [.ty "bool", .ty "int", .ty "list", .ty "tuple", .ty "dict"]] = some (.bl false) := (rfl)
theorem eqD_refl {d : D} {p : PyData} (h : d.py = some p) (s : SeqAt.shaped p = true) : eqD false d d = some (.bl true) := by
  unfold eqD
  rw [h]
  simp only [s, and_self, if_true, Bool.false_eq_true, if_false]
  rw [SeqAt.eqv_refl]
  unfold SeqAt.shaped at s
  simp only [Bool.and_eq_true] at s
  exact s.1
theorem eqU_non : eqD false .non .non = some (.bl true) := eqD_refl (p := .none) rfl (by decide)
theorem eqU_int (i : Int) : eqD false (.int i) (.int i) = some (.bl true) := eqD_refl (p := .int i) rfl (by simp [SeqAt.shaped, PyData.canLay0, PyData.depth])
theorem eqU_bl (b : Bool) : eqD false (.bl b) (.bl b) = some (.bl true) := eqD_refl (p := .bool b) rfl (by simp [SeqAt.shaped, PyData.canLay0, PyData.depth])
theorem eqU_str (s : Str) (hl : PyData.strOk s = true) : eqD false (.str s) (.str s) = some (.bl true) := eqD_refl (p := .str s) rfl (by simp [SeqAt.shaped, PyData.canLay0, PyData.depth, hl])
theorem same_ok : ∀ {n : Nat} {d : D}, Dp n d → ∀ {P : D → OV → Prop}, P (.bl true) nil0 → OR (F__law_same (n + 1) [d, d]) P
  | _, _, .int n i, P, p => by
    refine runP_of (wq fun K hK => ?_)
    simp [sizeLine_eq]
    subst hK
    refine wq fun K hK => ?_
    simp
    subst hK
    refine wq fun K hK => ?_
    simp [sizeLine_eq, eqU_int]
    exact p
  | _, _, .non n, P, p => by
    refine runP_of (wq fun K hK => ?_)
    simp [sizeLine_eq]
    subst hK
    refine wq fun K hK => ?_
    simp
    subst hK
    refine wq fun K hK => ?_
    simp [sizeLine_eq]
    subst hK
    simp [sizeLine_eq, eqU_non]
    exact p
  | _, _, .str n s h, P, p => by
    refine runP_of (wq fun K hK => ?_)
    simp [sizeLine_eq]
    subst hK
    refine wq fun K hK => ?_
    simp
    subst hK
    refine wq fun K hK => ?_
    simp [sizeLine_eq]
    subst hK
    simp [sizeLine_eq, eqU_str s h]
    exact p
  | _, _, .bl n b, P, p => by
    refine runP_of (wq fun K hK => ?_)
    simp [sizeLine_eq]
    subst hK
    refine wq fun K hK => ?_
    simp
    subst hK
    refine wq fun K hK => ?_
    simp [sizeLine_eq, eqU_bl]
    exact p
  | _, _, @Dp.lst n xs hl h, P, p => by
    refine runP_of (wq fun K hK => ?_)
    simp [sizeLine_eq]
    refine wq fun K2 hK2 => ?_
    simp
    subst hK2
    refine wq fun K2 hK2 => ?_
    simp
    subst hK2
    simp [zip_self]
    rw [if_pos (by rfl)]
    refine wCompB _ (fun _ => true) xs (by rw [sizeLine_eq]; omega) (fun x hx => ?_) ?_
    · simp [wipeE]
      refine wCall ?_
      simp
      refine same_ok (h x hx) ?_
      simp [back]
    · simp [-List.map_map]
      have e : (xs.all fun x => true) = true := by simp
      first
        | exact p
        | (rw [e]; exact p)
  | _, _, @Dp.tup n xs hl h, P, p => by
    refine runP_of (wq fun K hK => ?_)
    simp [sizeLine_eq]
    refine wq fun K2 hK2 => ?_
    simp
    subst hK2
    refine wq fun K2 hK2 => ?_
    simp
    subst hK2
    simp [zip_self]
    rw [if_pos (by rfl)]
    refine wCompB _ (fun _ => true) xs (by rw [sizeLine_eq]; omega) (fun x hx => ?_) ?_
    · simp [wipeE]
      refine wCall ?_
      simp
      refine same_ok (h x hx) ?_
      simp [back]
    · simp [-List.map_map]
      have e : (xs.all fun x => true) = true := by simp
      first
        | exact p
        | (rw [e]; exact p)
theorem Dp.il {n : Nat} {ns : List Int} (h : ns.length < 900000) : Dp (n + 1) (il ns) := .lst (by simpa using h) fun x hx => by
  simp only [List.mem_map] at hx
  obtain ⟨i, _, rfl⟩ := hx
  exact .int _ _
theorem asInt_ok (j : Nat) {s : OV} {i : Int} {P : D → OV → Prop} (p : P (.int i) s) : OR (F__law_as_lists (j + 1) s [.int i]) P := by
  refine runI_of (wq fun K hK => ?_)
  simp [sizeLine_eq]
  subst hK
  simp
  exact p
theorem as_ok {t : Nat} {s : OV} (hs : St t s) (ht : t < 2 ^ 39) (j : Nat) {xs : List Int} (hx : xs.length < 1000) {P : D → OV → Prop} (q : ∀ d s', Sq xs d → St (t + 1) s' → P d s') : OR (F__law_as_lists (j + 2) s [il xs]) P := by
  refine runI_of (wq fun K hK => ?_)
  simp [sizeLine_eq]
  refine wq fun K2 hK2 => ?_
  simp
  rw [if_pos (by rfl)]
  refine wCompN _ (fun (i : Int) => i) _ (by rw [sizeLine_eq]; omega) (fun k hk => ?_) ?_
  · simp [wipeE]
    refine wCallI (by rfl) ?_
    simp
    refine asInt_ok j ?_
    simp [back]
  subst hK2
  simp
  refine wCallI (by rfl) ?_
  simp
  refine draw_ok hs (by omega) (by omega) (by omega) fun r s1 h1 h2 hs1 => ?_
  simp
  by_cases hr : r = 0
  · simp [hr]
    exact q _ _ .l hs1
  · simp [hr]
    exact q _ _ .t hs1
end K46
set_option Elab.async false
set_option linter.all false
set_option maxRecDepth 100000
set_option maxHeartbeats 2000000
namespace K46
open PySem PySem.Spec L2 Ax RowM QM
/-- what comes in a tick -/
def cf (L : List Nat) (i : Nat) : Nat := L.getD i 0
/-- natural numbers as ints -/
def zi (ns : List Nat) : List Int := ns.map fun (n : Nat) => (n : Int)
@[simp] theorem zi_len (ns : List Nat) : (zi ns).length = ns.length := by simp [zi]
theorem zi_get (ns : List Nat) (i : Nat) : (zi ns).getD i 0 = (cf ns i : Nat) := by
  simp only [zi, cf, List.getD_eq_getElem?_getD, List.getElem?_map]
  cases ns[i]? <;> rfl
theorem zi_pos (ns : List Nat) : ∀ v ∈ zi ns, 0 ≤ v := by
  intro v hv
  obtain ⟨n, _, rfl⟩ := List.mem_map.mp hv
  omega
/-- so many first values of a law -/
def rg (n : Nat) (f : Nat → Nat) : List Nat := (List.range n).map f
@[simp] theorem rg_len (n : Nat) (f : Nat → Nat) : (rg n f).length = n := by simp [rg]
theorem rg_get {n : Nat} {f : Nat → Nat} {i : Nat} (h : i < n) : cf (rg n f) i = f i := by simp [rg, cf, h]
theorem spread_ok {L : List Nat} {n : Nat} (hl : L.length < 900000) (hn : n < 900000) {P : D → OV → Prop} (p : P (il (zi (rg n (cf L)))) nil0) : OR (F_spread [il (zi L), .int n]) P := by
  refine runP_of ?_
  simp [f_spread]
  rw [if_pos (rng_ok (by omega) (by omega)), OK_ok, if_pos (by rfl), rangeD_map]
  refine wCompN _ (fun (i : Nat) => (cf L i : Int)) _ (by rw [sizeLine_eq]; simp; omega) (fun i hi => ?_) ?_
  · have hi : i < n := by simpa using hi
    by_cases h : i < L.length
    · have a1 := atI_int (ns := zi L) (i := (i : Int)) i rfl (by simpa using h)
      rw [zi_get] at a1
      simp [wipeE, back, h, a1]
    · have e : cf L i = 0 := by
        unfold cf
        rw [List.getD_eq_getElem?_getD, (List.getElem?_eq_none (by omega))]
        rfl
      simp [wipeE, back, h, e]
  · have e : ((List.range n).map fun (i : Nat) => (cf L i : Int)) = zi (rg n (cf L)) := by simp [zi, rg]
    rw [e]
    simpa using p
end K46
set_option Elab.async false
set_option linter.all false
set_option maxRecDepth 100000
set_option maxHeartbeats 2000000
namespace K46
open PySem PySem.Spec L2 Ax RowM QM
theorem zip_get {a b : List Int} {i : Nat} {d : D} (h : (zipD (a.map .int) (b.map .int))[i]? = some d) : i < a.length ∧ i < b.length ∧ d = .tup [.int (a.getD i 0), .int (b.getD i 0)] := by
  unfold zipD at h
  rw [List.getElem?_map] at h
  obtain ⟨p, h1, rfl⟩ := Option.map_eq_some_iff.mp h
  rw [List.getElem?_zip_eq_some] at h1
  obtain ⟨h2, h3⟩ := h1
  rw [List.getElem?_map] at h2 h3
  obtain ⟨x, x1, x2⟩ := Option.map_eq_some_iff.mp h2
  obtain ⟨y, y1, y2⟩ := Option.map_eq_some_iff.mp h3
  obtain ⟨l1, l2⟩ := List.getElem?_eq_some_iff.mp x1
  obtain ⟨m1, m2⟩ := List.getElem?_eq_some_iff.mp y1
  refine ⟨l1, m1, ?_⟩
  rw [← x2, ← y2, List.getD_eq_getElem?_getD, List.getD_eq_getElem?_getD, x1, y1]
  rfl
theorem zi_succ (n : Nat) (f : Nat → Nat) : zi (rg (n + 1) f) = zi (rg n f) ++ [(f n : Int)] := by simp [zi, rg, List.range_succ]
/-- the loop of what is left -/
theorem lefts_loop {c k : Nat → Nat} {n : Nat} (hn : n < 900000) {fb : SS} {a b : D} {x y : SV} {N : En → Prop} {R : D → En → Prop} {Ro : OV → En → Prop}
    (hfb : fb = sSeq (sSet 3 (sB maxD (sK (sC (.int 0)) (sK (s2 subD (s2 addD (sV 3) (sV 4)) (sV 5)) sN)))) (sApp 2 (sV 3)))
    (p : ∀ x y, N [.sh a, .sh b, .own false (.lst ((zi (rg n fun t => lf c k (t + 1))).map .int)), .sh (.int (lf c k n)), x, y]) :
    WS (loopF (gT 2 (gsK (gV 4) (gsK (gV 5) gsN))) fb (zipD ((zi (rg n c)).map .int) ((zi (rg n k)).map .int)) [.sh a, .sh b, .own false (.lst []), .sh (.int 0), x, y]) N R Ro := by
  subst hfb
  refine wFor0 (fun j e => ∃ x y, e = [.sh a, .sh b, .own false (.lst ((zi (rg j fun t => lf c k (t + 1))).map .int)), .sh (.int (lf c k j)), x, y]) _ _ ⟨x, y, rfl⟩ ?_ ?_
  · intro i d e hd ⟨x, y, he⟩ Kn hKn
    subst he
    obtain ⟨h1, h2, rfl⟩ := zip_get hd
    have h1 : i < n := by simpa using h1
    rw [zi_get, zi_get, rg_get h1, rg_get h1]
    have st := lf_step (c := c) (k := k) (t := i)
    simp
    refine wq fun K hK => ?_
    simp
    subst hK
    simp [sizeLine_eq]
    rw [if_pos (by omega)]
    simp
    have e : (if (k i : Int) < (lf c k i : Int) + (c i : Int) then (lf c k i : Int) + (c i : Int) - (k i : Int) else 0) = (lf c k (i + 1) : Int) := by
      rw [st]; split <;> omega
    rw [e]
    refine hKn _ ⟨.sh (.int (c i)), .sh (.int (k i)), ?_⟩
    rw [zi_succ]
    simp
  · intro e ⟨x, y, he⟩
    have : (zipD ((zi (rg n c)).map D.int) ((zi (rg n k)).map D.int)).length = n := by simp [zipD]
    rw [this] at he
    subst he
    exact p x y
theorem leftsO {C K : List Nat} {n : Nat} {c k : Nat → Nat} (hC : C = rg n c) (hK : K = rg n k) (hn : n < 900000) {P : OV → Prop} (p : P (.lst ((zi (rg n fun t => lf c k (t + 1))).map .int))) : ∃ o, FO_lefts_of [il (zi C), il (zi K)] = some o ∧ P o := by
  subst hC
  subst hK
  refine runOV_of (wq fun K hK => ?_)
  simp
  subst hK
  refine wq fun K hK => ?_
  simp
  refine lefts_loop hn rfl fun x y => ?_
  subst hK
  simp
  exact p
theorem lefts_ok {C K : List Nat} {n : Nat} {c k : Nat → Nat} (hC : C = rg n c) (hK : K = rg n k) (hn : n < 900000) {P : D → OV → Prop} (p : P (il (zi (rg n fun t => lf c k (t + 1)))) nil0) : OR (F_lefts_of [il (zi C), il (zi K)]) P := by
  subst hC
  subst hK
  refine runP_of (wq fun K hK => ?_)
  simp
  subst hK
  refine wq fun K hK => ?_
  simp
  refine lefts_loop hn rfl fun x y => ?_
  subst hK
  simp
  exact p
theorem rg_self (K : List Nat) : K = rg K.length (cf K) := by
  apply List.ext_getElem?
  intro i
  by_cases h : i < K.length
  · simp [rg, cf, h]
  · rw [List.getElem?_eq_none (by omega), List.getElem?_eq_none (by rw [rg_len]; omega)]
/-- both parts of left_behind -/
theorem leftBehind_ok {L K : List Nat} {d1 d2 : D} (h1 : Sq (zi L) d1) (h2 : Sq (zi K) d2) (l1 : L.length < 900000) (l2 : K.length < 900000) {P : D → OV → Prop} (p : P (il (zi (rg K.length fun t => lf (cf L) (cf K) (t + 1)))) nil0) : OR (F_left_behind [d1, d2]) P := by
  refine runP_of (wq fun Kn hK => ?_)
  simp
  refine wCall ?_
  simp
  refine checkedLoad_ok h1 (by simpa using l1) (zi_pos _) ?_
  refine wCall ?_
  simp
  refine checkedDoings_ok h2 (by simpa using l2) (zi_pos _) ?_
  subst hK
  simp
  refine wCallO ?_
  simp
  refine wCall ?_
  simp
  refine spread_ok l1 l2 ?_
  refine leftsO rfl (rg_self K) l2 ?_
  exact ⟨_, rfl, p⟩
theorem leftBehindO {L K : List Nat} {d1 d2 : D} (h1 : Sq (zi L) d1) (h2 : Sq (zi K) d2) (l1 : L.length < 900000) (l2 : K.length < 900000) {P : OV → Prop} (p : P (.lst ((zi (rg K.length fun t => lf (cf L) (cf K) (t + 1))).map .int))) : ∃ o, FO_left_behind [d1, d2] = some o ∧ P o := by
  refine runO_of (wq fun Kn hK => ?_)
  simp
  refine wCall ?_
  simp
  refine checkedLoad_ok h1 (by simpa using l1) (zi_pos _) ?_
  refine wCall ?_
  simp
  refine checkedDoings_ok h2 (by simpa using l2) (zi_pos _) ?_
  subst hK
  simp
  refine wCallO ?_
  simp
  refine wCall ?_
  simp
  refine spread_ok l1 l2 ?_
  refine leftsO rfl (rg_self K) l2 ?_
  exact p
end K46
set_option Elab.async false
set_option linter.all false
set_option maxRecDepth 100000
set_option maxHeartbeats 2000000
namespace K46
open PySem PySem.Spec L2 Ax RowM QM
def od : Option Int → D
  | none => .non
  | some i => .int i
theorem minI_head {m : Int} {r : List Int} (h : ∀ x ∈ r, m ≤ x) : minI m r = m := by
  have h1 := (minI_le m r).1
  rcases List.mem_cons.mp (minI_mem m r) with e | e
  · exact e
  · have := h _ e
    omega
theorem minDef_find (r : Nat) (p : Nat → Bool) : minDefD [.lst (((List.range r).filter p).map fun (m : Nat) => D.int (m : Int))] = some (od (Option.map (fun (m : Nat) => (m : Int)) ((List.range r).find? p))) := by
  have e1 : (((List.range r).filter p).map fun (m : Nat) => D.int (m : Int)) = (zi ((List.range r).filter p)).map .int := by simp [zi]
  have pw : ((List.range r).filter p).Pairwise (· < ·) := List.Pairwise.filter p List.pairwise_lt_range
  rw [e1, ← List.head?_filter]
  unfold minDefD
  dsimp only
  rw [@ints_map ⟨[], fun _ => none, none, fun _ => none⟩]
  cases h : (List.range r).filter p with
  | nil => rfl
  | cons m l =>
    rw [h] at pw
    have hm : ∀ x ∈ zi l, (m : Int) ≤ x := by
      intro x hx
      obtain ⟨y, hy, rfl⟩ := (List.mem_map.mp hx)
      have := (List.pairwise_cons.mp pw).1 y hy
      show (m : Int) ≤ (y : Int)
      omega
    show some (D.int (minI (m : Int) (zi l))) = _
    rw [minI_head hm]
    rfl
abbrev wl (c k : Nat → Nat) (n j : Nat) : List D := (List.range j).map fun b => od (pw c k n b)
theorem gone_loop {c k : Nat → Nat} {n : Nat} (hn : n < 900000) {fb : SS} {a b : D} {o : OV} {x y z u : SV} {N : En → Prop} {R : D → En → Prop} {Ro : OV → En → Prop}
    (hfb : fb = sSeq (sAug 2 augA (sV 5)) (sApp 3 (s2 subD (sV 2) (sV 6))))
    (p : ∀ x y, N [.sh a, .sh b, .sh (.int (S c n)), .own false (.lst ((zi (rg n fun t => G c k (t + 1))).map .int)), .own false o, x, y, z, u]) :
    WS (loopF (gT 2 (gsK (gV 5) (gsK (gV 6) gsN))) fb (zipD ((zi (rg n c)).map .int) ((zi (rg n fun t => lf c k (t + 1))).map .int)) [.sh a, .sh b, .sh (.int 0), .own false (.lst []), .own false o, x, y, z, u]) N R Ro := by
  subst hfb
  refine wFor0 (fun j e => ∃ x y, e = [.sh a, .sh b, .sh (.int (S c j)), .own false (.lst ((zi (rg j fun t => G c k (t + 1))).map .int)), .own false o, x, y, z, u]) _ _ ⟨x, y, rfl⟩ ?_ ?_
  · intro i d e hd ⟨x, y, he⟩ Kn hKn
    subst he
    obtain ⟨h1, h2, rfl⟩ := zip_get hd
    have h1 : i < n := by simpa using h1
    rw [zi_get, zi_get, rg_get h1, rg_get h1]
    have e1 : (S c i : Int) + (c i : Int) = (S c (i + 1) : Nat) := by
      have : S c (i + 1) = S c i + c i := rfl
      omega
    have e2 : (S c (i + 1) : Int) - (lf c k (i + 1) : Int) = (G c k (i + 1) : Nat) := by
      have := G_le (c := c) (k := k) (i + 1)
      unfold lf
      omega
    simp
    refine wq fun K hK => ?_
    simp [augA, e1]
    subst hK
    simp [sizeLine_eq, e2]
    rw [if_pos (by omega)]
    simp
    refine hKn _ ⟨.sh (.int (c i)), .sh (.int (lf c k (i + 1))), ?_⟩
    rw [zi_succ]
    simp
  · intro e ⟨x, y, he⟩
    have : (zipD ((zi (rg n c)).map D.int) ((zi (rg n fun t => lf c k (t + 1))).map D.int)).length = n := by simp [zipD]
    rw [this] at he
    subst he
    exact p x y
theorem wait_loop {c k : Nat → Nat} {n : Nat} (hn : n < 900000) {fb : SS} {b : D} {x y z : SV} {N : En → Prop} {R : D → En → Prop} {Ro : OV → En → Prop}
    (hfb : fb = sSeq (sAug 2 augA (sV 5)) (sIfS (sTb (s2 (eqD false) (sV 5) (sC (.int 0)))) (sApp 4 (sC (.int 0)))
      (sApp 4 (sB minDefD (sK (sSh (sComp (sR1 (sK (s2 subD (sB lenD (sK (sV 0) sN)) (sV 7)) sN)) [8] (gV 8) (sTb (s2 (cmpD fun i j => decide (j ≤ i)) (sIxO 3 (s2 addD (sV 7) (sV 8))) (sV 2))) (sV 8))) sN)))))
    (p : ∀ x s z, N [.sh (il (zi (rg n c))), .sh b, .sh (.int s), .own false (.lst ((zi (rg n fun t => G c k (t + 1))).map .int)), .own false (.lst (wl c k n n)), x, y, z, .un]) :
    WS (loopF (gT 2 (gsK (gV 7) (gsK (gV 5) gsN))) fb ((zi (rg n c)).zipIdx.map fun p => D.tup [.int (p.2 : Int), .int p.1]) [.sh (il (zi (rg n c))), .sh b, .sh (.int 0), .own false (.lst ((zi (rg n fun t => G c k (t + 1))).map .int)), .own false (.lst []), x, y, z, .un]) N R Ro := by
  subst hfb
  refine wFor0 (fun j e => ∃ x z, e = [.sh (il (zi (rg n c))), .sh b, .sh (.int (S c j)), .own false (.lst ((zi (rg n fun t => G c k (t + 1))).map .int)), .own false (.lst (wl c k n j)), x, y, z, .un]) _ _ ⟨x, z, rfl⟩ ?_ ?_
  · intro i d e hd ⟨x, z, he⟩ Kn hKn
    subst he
    rw [List.getElem?_map] at hd
    obtain ⟨q, h1, rfl⟩ := Option.map_eq_some_iff.mp hd
    rw [List.getElem?_zipIdx] at h1
    obtain ⟨v, h2, rfl⟩ := Option.map_eq_some_iff.mp h1
    obtain ⟨h3, h4⟩ := List.getElem?_eq_some_iff.mp h2
    have h3 : i < n := by simpa using h3
    have hv : v = (c i : Int) := by
      have := zi_get (rg n c) i
      rw [rg_get h3, List.getD_eq_getElem?_getD, h2] at this
      exact this
    subst hv
    have e1 : (S c i : Int) + (c i : Int) = (S c (i + 1) : Nat) := by
      have : S c (i + 1) = S c i + c i := rfl
      omega
    have wlen : (wl c k n i).length = i := by unfold wl; rw [List.length_map, List.length_range]
    have wsucc : wl c k n (i + 1) = wl c k n i ++ [od (pw c k n i)] := by unfold wl; rw [List.range_succ, List.map_append]; rfl
    simp
    refine wq fun K hK => ?_
    simp [augA, e1]
    subst hK
    by_cases h0 : c i = 0
    · have pv : pw c k n i = some 0 := by unfold pw; rw [if_pos h0]
      rw [pv] at wsucc
      simp [h0, sizeLine_eq]
      rw [if_pos (by omega)]
      simp
      refine hKn _ ⟨.sh (.int 0), .sh (.int i), ?_⟩
      rw [wsucc]
      simp [od]
    · have h0' : ¬ ((c i : Int) = 0) := by omega
      have pv : pw c k n i = Option.map (fun (m : Nat) => (m : Int)) ((List.range (n - i)).find? fun m => decide (S c (i + 1) ≤ G c k (i + m + 1))) := by unfold pw; rw [if_neg h0]
      have en : ((n : Int) - (i : Int)) = ((n - i : Nat) : Int) := by omega
      simp [h0, sizeLine_eq]
      rw [en, if_pos (rng_ok (by omega) (by omega)), OK_ok, if_pos (by rfl), rangeD_map]
      refine wCompF _ (fun (m : Nat) => decide (S c (i + 1) ≤ G c k (i + m + 1))) (fun m => .int (m : Int)) _ (by rw [sizeLine_eq]; simp; omega) (fun m hm => ?_) ?_
      · have hm : m < n - i := by simpa using hm
        have a1 := atI_int (ns := zi (rg n fun t => G c k (t + 1))) (i := (i : Int) + (m : Int)) (i + m) (by omega) (by simp; omega)
        rw [zi_get, rg_get (by omega)] at a1
        have e3 : decide ((S c (i + 1) : Int) ≤ (G c k (i + m + 1) : Int)) = decide (S c (i + 1) ≤ G c k (i + m + 1)) := by
          apply decide_eq_decide.mpr; omega
        simp [wipeE, a1, e3]
        refine ⟨?_, ?_⟩ <;> intro _ <;> simp [back]
      · simp only [fz_lst, OK_some]
        have mf := minDef_find (n - i) fun m => decide (S c (i + 1) ≤ G c k (i + m + 1))
        rw [← pv] at mf
        simp [mf, sizeLine_eq]
        rw [if_pos (by omega)]
        simp
        refine hKn _ ⟨.sh (.int (c i)), .sh (.int i), ?_⟩
        rw [wsucc]
  · intro e ⟨x, z, he⟩
    have : (((zi (rg n c)).zipIdx.map fun p => D.tup [.int (p.2 : Int), .int p.1])).length = n := by simp
    rw [this] at he
    subst he
    exact p _ _ _
theorem waitsByO {c k : Nat → Nat} {n : Nat} (hn : n < 900000) {P : OV → Prop} (p : P (.lst (wl c k n n))) : ∃ o, FO_waits_by [il (zi (rg n c)), il (zi (rg n fun t => lf c k (t + 1)))] = some o ∧ P o := by
  refine runOV_of (wq fun K hK => ?_)
  simp
  subst hK
  refine wq fun K hK => ?_
  simp
  refine gone_loop hn rfl fun x y => ?_
  subst hK
  refine wq fun K hK => ?_
  simp
  subst hK
  refine wq fun K hK => ?_
  simp
  rw [enumD_ints]
  refine wait_loop hn rfl fun x s z => ?_
  subst hK
  simp
  exact p
theorem waits_ok {L K : List Nat} {d1 d2 : D} (h1 : Sq (zi L) d1) (h2 : Sq (zi K) d2) (l1 : L.length < 900000) (l2 : K.length < 900000) {P : D → OV → Prop} (p : P (.lst (wl (cf L) (cf K) K.length K.length)) nil0) : OR (F_waits [d1, d2]) P := by
  refine runP_of (wq fun Kn hK => ?_)
  simp
  refine wCall ?_
  simp
  refine checkedLoad_ok h1 (by simpa using l1) (zi_pos _) ?_
  refine wCall ?_
  simp
  refine checkedDoings_ok h2 (by simpa using l2) (zi_pos _) ?_
  subst hK
  refine wq fun Kn hK => ?_
  simp
  refine wCall ?_
  simp
  refine spread_ok l1 l2 ?_
  subst hK
  simp
  refine wCallO ?_
  simp
  refine wCall ?_
  simp
  refine lefts_ok rfl (rg_self K) l2 ?_
  refine waitsByO l2 ?_
  exact ⟨_, rfl, p⟩
theorem waitsO {L K : List Nat} {d1 d2 : D} (h1 : Sq (zi L) d1) (h2 : Sq (zi K) d2) (l1 : L.length < 900000) (l2 : K.length < 900000) {P : OV → Prop} (p : P (.lst (wl (cf L) (cf K) K.length K.length))) : ∃ o, FO_waits [d1, d2] = some o ∧ P o := by
  refine runO_of (wq fun Kn hK => ?_)
  simp
  refine wCall ?_
  simp
  refine checkedLoad_ok h1 (by simpa using l1) (zi_pos _) ?_
  refine wCall ?_
  simp
  refine checkedDoings_ok h2 (by simpa using l2) (zi_pos _) ?_
  subst hK
  refine wq fun Kn hK => ?_
  simp
  refine wCall ?_
  simp
  refine spread_ok l1 l2 ?_
  subst hK
  simp
  refine wCallO ?_
  simp
  refine wCall ?_
  simp
  refine lefts_ok rfl (rg_self K) l2 ?_
  refine waitsByO l2 ?_
  exact p
end K46
set_option Elab.async false
set_option linter.all false
set_option maxRecDepth 100000
set_option maxHeartbeats 2000000
namespace K46
open PySem PySem.Spec L2 Ax RowM QM
theorem mulD_lk (xs : List D) (k : Int) : mulD (.lst xs) (.int k) = if -(2 ^ 63) ≤ k ∧ k < 2 ^ 63 ∧ xs.length * k.toNat ≤ sizeLine then some (.lst (List.replicate k.toNat xs).flatten) else none := (rfl)
theorem mul_rep {d : D} {m : Nat} (h : m < 1000000) : mulD (.lst [d]) (.int (m : Int)) = some (.lst (List.replicate m d)) := by
  have e : (List.replicate m [d]).flatten = List.replicate m d := by
    clear h
    induction m with
    | zero => rfl
    | succ m ih => rw [List.replicate_succ, List.flatten_cons, ih, List.replicate_succ]; rfl
  have h2 : -(2 ^ 63 : Int) ≤ (m : Int) ∧ (m : Int) < 2 ^ 63 ∧ [d].length * ((m : Int)).toNat ≤ sizeLine := by
    rw [sizeLine_eq]
    refine ⟨by omega, by omega, ?_⟩
    rw [Int.toNat_natCast, List.length_singleton]
    omega
  have e3 : ((m : Int)).toNat = m := Int.toNat_natCast m
  rw [mulD_lk]
  exact (if_pos h2).trans (by rw [e3, e])
theorem enum_get {K : List Nat} {i : Nat} {d : D} (h : ((zi K).zipIdx.map fun p => D.tup [.int (p.2 : Int), .int p.1])[i]? = some d) : i < K.length ∧ d = .tup [.int (i : Int), .int (cf K i : Nat)] := by
  rw [List.getElem?_map] at h
  obtain ⟨q, h1, rfl⟩ := Option.map_eq_some_iff.mp h
  rw [List.getElem?_zipIdx] at h1
  obtain ⟨v, h2, rfl⟩ := Option.map_eq_some_iff.mp h1
  obtain ⟨h3, h4⟩ := List.getElem?_eq_some_iff.mp h2
  refine ⟨by simpa using h3, ?_⟩
  have := zi_get K i
  rw [List.getD_eq_getElem?_getD, h2] at this
  have hv : v = ((cf K i : Nat) : Int) := this
  rw [hv, Nat.zero_add]
theorem cf_out {L : List Nat} {i : Nat} (h : ¬ i < L.length) : cf L i = 0 := by
  unfold cf
  rw [List.getD_eq_getElem?_getD, (List.getElem?_eq_none (by omega))]
  rfl
/-- so many units of a tick come -/
theorem ext_ok {env : En} {L : List Nat} {i : Nat} {m : Bool} {ds : List D} {j : Nat} (h0 : env[0]? = some (.sh (il (zi L)))) (hj : env[j]? = some (.sh (.int (i : Int)))) (h2 : env[2]? = some (.own m (.lst ds))) (hs : ds.length + cf L i < 1000000) :
    sExt 2 (s2 mulD (sSh (sLst (sK (sV j) sN))) (sIf (sTb (s2 (cmpD fun i j => decide (i < j)) (sV j) (sB lenD (sK (sV 0) sN)))) (s2 ixD (sV 0) (sV j)) (sC (.int 0)))) env = .nx (env.set 2 (.own m (.lst (ds ++ List.replicate (cf L i) (.int (i : Int)))))) := by
  have hm := mul_rep (d := .int (i : Int)) (m := cf L i) (by omega)
  unfold sExt
  rw [h2]
  by_cases h : i < L.length
  · have a1 := atI_int (ns := zi L) (i := (i : Int)) i rfl (by simpa using h)
    rw [zi_get] at a1
    simp [h0, hj, h, a1, hm, sizeLine_eq, ownL, h2, bindS]
    omega
  · have e := cf_out h
    rw [e] at hm ⊢
    have hm' : mulD (.lst [.int (i : Int)]) (.int 0) = some (.lst []) := hm
    simp [h0, hj, h, hm', sizeLine_eq, ownL, h2, bindS]
    omega
theorem lf_bound {L K : List Nat} (hL : ∀ i, cf L i ≤ 9) : ∀ t, lf (cf L) (cf K) t ≤ 9 * t := by
  intro t
  have h : S (cf L) t ≤ 9 * t := by
    induction t with
    | zero => exact Nat.le_refl _
    | succ t ih => have := hL t; show S (cf L) t + cf L t ≤ _; omega
  unfold lf
  omega
theorem lastLeft_ok {L K : List Nat} (hL : ∀ i, cf L i ≤ 9) (l1 : L.length < 1000) (l2 : K.length < 1000) {P : D → OV → Prop} (p : P (il (zi (rg K.length fun t => lf (cf L) (cf K) (t + 1)))) nil0) : OR (F__law_last_left [il (zi L), il (zi K)]) P := by
  refine runP_of (wq fun Kn hK => ?_)
  simp
  subst hK
  refine wq fun Kn hK => ?_
  simp
  rw [enumD_ints]
  refine wFor0 (fun j e => ∃ ds x y, e = [.sh (il (zi L)), .sh (il (zi K)), .own false (.lst ds), .own false (.lst ((zi (rg j fun t => lf (cf L) (cf K) (t + 1))).map .int)), x, y] ∧ ds.length = lf (cf L) (cf K) j) _ _ ⟨[], .un, .un, rfl, rfl⟩ ?_ ?_
  · intro i d e hd ⟨ds, x, y, he, hl⟩ Kn2 hKn
    subst he
    obtain ⟨h1, rfl⟩ := enum_get hd
    have b1 := lf_bound (K := K) hL i
    have b2 := hL i
    have st := lf_step (c := cf L) (k := cf K) (t := i)
    simp
    refine wq fun K2 hK2 => ?_
    rw [ext_ok (i := i) (L := L) (j := 4) rfl rfl rfl (by omega)]
    simp
    subst hK2
    refine wq fun K2 hK2 => ?_
    have e1 : (if ((cf K i : Nat) : Int) < (ds.length : Int) + (cf L i : Int) then (ds.length : Int) + (cf L i : Int) - (cf K i : Int) else 0) = (lf (cf L) (cf K) (i + 1) : Int) := by
      rw [st, hl]; split <;> omega
    have e2 : ((ds ++ List.replicate (cf L i) (D.int (i : Int))).take (lf (cf L) (cf K) (i + 1))).length = lf (cf L) (cf K) (i + 1) := by
      rw [List.length_take, List.length_append, List.length_replicate]
      omega
    simp [ownL, e1, cut_to]
    subst hK2
    generalize (ds ++ List.replicate (cf L i) (D.int (i : Int))).take (lf (cf L) (cf K) (i + 1)) = ds2 at e2 ⊢
    simp [ownL, sizeLine_eq, e2]
    rw [if_pos (by omega)]
    simp
    refine hKn _ ⟨ds2, .sh (.int (i : Int)), .sh (.int (cf K i : Int)), ?_, e2⟩
    rw [zi_succ]
    simp
  · intro e ⟨ds, x, y, he, hl⟩
    have : (((zi K).zipIdx.map fun p => D.tup [.int (p.2 : Int), .int p.1])).length = K.length := by simp
    rw [this] at he
    subst he
    subst hK
    simp
    exact p
end K46
set_option Elab.async false
set_option linter.all false
set_option maxRecDepth 100000
set_option maxHeartbeats 2000000
namespace K46
open PySem PySem.Spec L2 Ax RowM QM
abbrev dl (ns : List Nat) : List D := (zi ns).map .int
theorem flat_dl : ∀ ns : List Nat, flatAll (dl ns) = some ((zi ns).map V.int)
  | [] => rfl
  | n :: r => by
    have := flat_dl r
    show (match D.flat (.int (n : Int)), flatAll (dl r) with | some y, some r => some (y :: r) | _, _ => none) = _
    rw [this]
    rfl
theorem in_zi (b : Nat) : ∀ ns : List Nat, L2.inV (V.int (b : Int)) ((zi ns).map V.int) = decide (b ∈ ns)
  | [] => rfl
  | n :: r => by
    have ih := in_zi b r
    have e : L2.inV (V.int (b : Int)) ((zi (n :: r)).map V.int) = (decide ((n : Int) = (b : Int)) || L2.inV (V.int (b : Int)) ((zi r).map V.int)) := rfl
    rw [e, ih, ← Bool.decide_or]
    apply decide_eq_decide.mpr
    rw [List.mem_cons]
    constructor
    · rintro (h | h)
      · exact .inl (by omega)
      · exact .inr h
    · rintro (h | h)
      · exact .inl (by omega)
      · exact .inr h
theorem in_mk (b k : Nat) (ns : List Nat) : inD true (.int (b : Int)) (.mk k (dl ns)) = some (.bl (!decide (b ∈ ns))) := by
  unfold inD
  have e : (D.mk k (dl ns)).items.bind flatAll = some ((zi ns).map V.int) := flat_dl ns
  rw [e]
  show some (D.bl (if true = true then !(L2.inV (V.int (b : Int)) ((zi ns).map V.int)) else _)) = _
  rw [in_zi]
  rfl
/-- how long each tick's last unit waits, by so many ticks -/
abbrev sl (c k : Nat → Nat) (n t : Nat) : List D := (List.range n).map fun b => od (vl c k t b)
theorem nm_sl (m : Nat) (f : Nat → Option Int) (n : Nat) : nmA m ((List.range n).map fun b => od (f b)) = true := nmA_all fun d hd => by
  obtain ⟨b, _, rfl⟩ := (List.mem_map.mp hd)
  cases f b <;> rfl
theorem nm_map (m n : Nat) (f : Nat → D) (h : ∀ b, nm m (f b) = true) : nmA m ((List.range n).map f) = true := nmA_all fun d hd => by
  obtain ⟨b, _, rfl⟩ := (List.mem_map.mp hd)
  exact h b
theorem range_set (n b : Nat) (f : Nat → D) (d : D) : ((List.range n).map f).set b d = (List.range n).map fun i => if i = b then d else f i := by
  apply List.ext_getElem?
  intro i
  rw [List.getElem?_set]
  by_cases h : b = i
  · subst h
    by_cases hi : b < n <;> simp [hi]
  · have h' : ¬ i = b := fun z => h z.symm
    by_cases hi : i < n <;> simp [h, h', hi]
end K46
set_option Elab.async false
set_option linter.all false
set_option maxRecDepth 100000
set_option maxHeartbeats 2000000
namespace K46
open PySem PySem.Spec L2 Ax RowM QM
theorem dl_get {ns : List Nat} {i : Nat} {d : D} (h : (dl ns)[i]? = some d) : ∃ b, ns[i]? = some b ∧ d = .int (b : Int) := by
  unfold dl zi at h
  rw [List.getElem?_map] at h
  obtain ⟨x, h1, rfl⟩ := Option.map_eq_some_iff.mp h
  rw [List.getElem?_map] at h1
  obtain ⟨y, h2, rfl⟩ := Option.map_eq_some_iff.mp h1
  exact ⟨y, h2, rfl⟩
theorem gone_inner {n t : Nat} {gone W' : List Nat} {f : Nat → D} {a b : D} {A C : List Int} {cn : Int} {x : SV} {N : En → Prop} {R : D → En → Prop} {Ro : OV → En → Prop} {fb : SS} (hnm : ∀ b, nm 0 (f b) = true) (hb : ∀ b ∈ gone, b < n)
    (hfb : fb = sSetIx 5 (sV 9) (sIf (sBorT 0 2 (sTb (s2 (inD true) (sV 9) (sV 2)))) (s2 subD (sV 6) (sV 9)) (sC .non)))
    (p : ∀ x, N [.sh a, .sh b, .own false (.lst (dl W')), .own false (.lst (A.map .int)), .own false (.lst (C.map .int)), .own false (.lst ((List.range n).map fun b => if b ∈ gone then (if b ∈ W' then D.non else .int ((t : Int) - (b : Int))) else f b)), .sh (.int (t : Int)), .sh (.int cn), .sh (.lst (dl gone)), x, .un]) :
    WS (loopF (gV 9) fb (dl gone) [.sh a, .sh b, .own false (.lst (dl W')), .own false (.lst (A.map .int)), .own false (.lst (C.map .int)), .own false (.lst ((List.range n).map f)), .sh (.int (t : Int)), .sh (.int cn), .sh (.lst (dl gone)), x, .un]) N R Ro := by
  subst hfb
  refine wFor0 (fun j e => ∃ x, e = [.sh a, .sh b, .own false (.lst (dl W')), .own false (.lst (A.map .int)), .own false (.lst (C.map .int)), .own false (.lst ((List.range n).map fun b => if b ∈ gone.take j then (if b ∈ W' then D.non else .int ((t : Int) - (b : Int))) else f b)), .sh (.int (t : Int)), .sh (.int cn), .sh (.lst (dl gone)), x, .un]) _ _ ⟨x, by simp⟩ ?_ ?_
  · intro i d e hd ⟨x, he⟩ Kn hKn
    subst he
    obtain ⟨b0, hb0, rfl⟩ := dl_get hd
    have hm := in_mk b0 0 W'
    have hlt := hb b0 (List.mem_of_getElem? hb0)
    have nst : nmA 0 ((List.range n).map fun b => if b ∈ gone.take i then (if b ∈ W' then D.non else .int ((t : Int) - (b : Int))) else f b) = true := nm_map 0 n _ fun b => by
      split
      · split <;> rfl
      · exact hnm b
    have set_ := range_set n b0 (fun b => if b ∈ gone.take i then (if b ∈ W' then D.non else .int ((t : Int) - (b : Int))) else f b) (if b0 ∈ W' then D.non else .int ((t : Int) - (b0 : Int)))
    have same : (fun j => if j = b0 then (if b0 ∈ W' then D.non else .int ((t : Int) - (b0 : Int))) else (if j ∈ gone.take i then (if j ∈ W' then D.non else .int ((t : Int) - (j : Int))) else f j)) = fun j => if j ∈ gone.take (i + 1) then (if j ∈ W' then D.non else .int ((t : Int) - (j : Int))) else f j := by
      funext j
      rw [List.take_succ, hb0]
      by_cases hj : j = b0
      · subst hj; simp
      · simp [hj]
    rw [same] at set_
    have lenS : ((List.range n).map fun b => if b ∈ gone.take i then (if b ∈ W' then D.non else .int ((t : Int) - (b : Int))) else f b).length = n := by simp
    generalize ((List.range n).map fun b => if b ∈ gone.take i then (if b ∈ W' then D.non else .int ((t : Int) - (b : Int))) else f b) = st0 at nst set_ lenS
    simp
    refine wBorG (by rfl) ?_
    simp [hm, nmS, nmO, nst]
    by_cases hw : b0 ∈ W'
    · rw [if_pos hw] at set_
      simp [hw, lenS, ixN, hlt]
      exact hKn _ ⟨_, by rw [set_]⟩
    · rw [if_neg hw] at set_
      simp [hw, lenS, ixN, hlt]
      exact hKn _ ⟨_, by rw [set_]⟩
  · intro e ⟨x, he⟩
    have : (dl gone).length = gone.length := by simp [dl]
    rw [this, List.take_length] at he
    subst he
    exact p x
end K46
set_option Elab.async false
set_option linter.all false
set_option maxRecDepth 100000
set_option maxHeartbeats 2000000
namespace K46
open PySem PySem.Spec L2 Ax RowM QM
theorem dl_rep (ns : List Nat) (m t : Nat) : dl ns ++ List.replicate m (D.int (t : Int)) = dl (ns ++ List.replicate m t) := by simp [dl, zi]
theorem dl_take (ns : List Nat) (m : Nat) : (dl ns).take m = dl (ns.take m) := by simp [dl, zi, List.map_take]
theorem dl_drop (ns : List Nat) (m : Nat) : (dl ns).drop m = dl (ns.drop m) := by simp [dl, zi, List.map_drop]
theorem dl_len (ns : List Nat) : (dl ns).length = ns.length := by simp [dl]
theorem nm_od (o : Option Int) : nm 0 (od o) = true := by cases o <;> rfl
theorem runDue_ok {L K : List Nat} (hL : ∀ i, cf L i ≤ 9) (l1 : L.length < 1000) (l2 : K.length < 1000) {P : D → OV → Prop} (p : ∀ dn : List Int, P (.tup [il (zi (rg K.length fun t => lf (cf L) (cf K) (t + 1))), .lst (sl (cf L) (cf K) K.length K.length), il dn]) nil0) : OR (F__law_run_due [il (zi L), il (zi K)]) P := by
  refine runP_of (wq fun Kn hK => ?_)
  simp
  subst hK
  refine wq fun Kn hK => ?_
  simp
  rw [if_pos (rng_ok (by omega) (by omega)), OK_ok, if_pos (by rfl), rangeD_map]
  refine wComp _ (fun (b : Nat) => od (vl (cf L) (cf K) 0 b)) _ (by rw [sizeLine_eq]; simp; omega) (fun b hb => ?_) ?_
  · by_cases h : b < L.length
    · have a1 := atI_int (ns := zi L) (i := (b : Int)) b rfl (by simpa using h)
      rw [zi_get] at a1
      by_cases h0 : 0 < cf L b
      · simp [wipeE, back, h, a1, h0, vl_zero, od]
      · simp [wipeE, back, h, a1, h0, vl_zero, od]
    · simp [wipeE, back, h, vl_zero, od, cf_out h]
  simp
  subst hK
  refine wq fun Kn hK => ?_
  simp
  rw [enumD_ints]
  refine wFor0 (fun j e => ∃ dn x6 x7 x8 x9, e = [.sh (il (zi L)), .sh (il (zi K)), .own false (.lst (dl (W (cf L) (cf K) j))), .own false (.lst ((zi (rg j fun t => lf (cf L) (cf K) (t + 1))).map .int)), .own false (.lst (dn.map D.int)), .own false (.lst (sl (cf L) (cf K) K.length j)), x6, x7, x8, x9, .un] ∧ dn.length = j) _ _ ⟨[], .un, .un, .un, .un, rfl, rfl⟩ ?_ ?_
  · intro i d e hd ⟨dn, x6, x7, x8, x9, he, hdn⟩ Kn2 hKn
    subst he
    obtain ⟨h1, rfl⟩ := enum_get hd
    have b1 := lf_bound (K := K) hL i
    have b2 := hL i
    have wl_ : (dl (W (cf L) (cf K) i)).length = lf (cf L) (cf K) i := by rw [dl_len, W_len]
    simp
    refine wq fun K2 hK2 => ?_
    rw [ext_ok (i := i) (L := L) (j := 6) rfl rfl rfl (by omega)]
    rw [dl_rep]
    have hst := W_step (c := cf L) (k := cf K) (t := i)
    have hvl := fun b => vl_step (c := cf L) (k := cf K) (t := i) (b := b)
    have hin : ∀ b ∈ (W (cf L) (cf K) i ++ List.replicate (cf L i) i).take (cf K i), b < K.length := fun b hb => by
      have hb2 := List.mem_of_mem_take hb
      rw [W_ext] at hb2
      have := (mem_drop.mp hb2).1
      omega
    generalize W (cf L) (cf K) i ++ List.replicate (cf L i) i = X at hst hvl hin
    simp
    subst hK2
    refine wq fun K2 hK2 => ?_
    simp [ownL, cut_to, cut_from, setAll]
    rw [dl_take, dl_drop, hst]
    subst hK2
    refine wq fun K2 hK2 => ?_
    simp
    refine gone_inner (f := fun b => od (vl (cf L) (cf K) i b)) (fun b => nm_od _) hin rfl fun x => ?_
    have same : (fun b => if b ∈ X.take (cf K i) then (if b ∈ W (cf L) (cf K) (i + 1) then D.non else .int ((i : Int) - (b : Int))) else od (vl (cf L) (cf K) i b)) = fun b => od (vl (cf L) (cf K) (i + 1) b) := by
      funext b
      rw [hvl b]
      split
      · split <;> rfl
      · rfl
    rw [same]
    subst hK2
    refine wq fun K2 hK2 => ?_
    simp [ownL, sizeLine_eq]
    rw [if_pos (by omega)]
    simp
    subst hK2
    simp [ownL, sizeLine_eq]
    rw [if_pos (by omega)]
    simp
    refine hKn _ ⟨dn ++ [((min (cf K i) X.length : Nat) : Int)], .sh (.int (i : Int)), .sh (.int (cf K i : Int)), .sh (.lst (dl (X.take (cf K i)))), x, ?_, by simp [hdn]⟩
    rw [zi_succ, W_len]
    simp
  · intro e ⟨dn, x6, x7, x8, x9, he, _⟩
    have : (((zi K).zipIdx.map fun p => D.tup [.int (p.2 : Int), .int p.1])).length = K.length := by simp
    rw [this] at he
    subst he
    subst hK
    simp [sizeLine_eq]
    exact p dn
end K46
set_option Elab.async false
set_option linter.all false
set_option maxRecDepth 100000
set_option maxHeartbeats 2000000
namespace K46
open PySem PySem.Spec L2 Ax RowM QM
theorem St.le {t u : Nat} {s : OV} (h : St t s) (e : t ≤ u) : St u s := by
  obtain ⟨a, b, c, h0, h1, h2, h3, h4, h5⟩ := h
  exact ⟨a, b, c, h0, h1, h2, h3, h4, by omega⟩
def dig (v : Nat) : Prop := v = 0 ∨ v = 1 ∨ v = 2 ∨ v = 3 ∨ v = 9
theorem dig_le {v : Nat} (h : dig v) : v ≤ 9 := by unfold dig at h; omega
theorem cf_dig {F : List Nat} (h : ∀ v ∈ F, dig v) (i : Nat) : dig (cf F i) := by
  unfold cf
  by_cases hi : i < F.length
  · rw [List.getD_eq_getElem?_getD, List.getElem?_eq_getElem hi]
    exact h _ (List.getElem_mem hi)
  · rw [List.getD_eq_getElem?_getD, List.getElem?_eq_none (by omega)]
    exact .inl rfl
theorem zi_app (F : List Nat) (v : Nat) : (zi (F ++ [v])).map D.int = (zi F).map D.int ++ [.int (v : Int)] := by simp [zi]
theorem numbers_ok {t : Nat} {s : OV} (hs : St t s) (ht : t < 2 ^ 38) {m : Nat} (hm : m < 1000) {P : D → OV → Prop} (q : ∀ (F : List Nat) (s' : OV), F.length = m → (∀ v ∈ F, dig v) → St (t + 1 + m) s' → P (il (zi F)) s') : OR (F__law_numbers s [.int (m : Int)]) P := by
  refine runI_of (wq fun K hK => ?_)
  try simp
  refine wCallI (by rfl) ?_
  try simp
  refine draw_ok hs (by omega) (by omega) (by omega) fun way s1 w1 w2 hs1 => ?_
  try simp [setAll]
  subst hK
  refine wq fun K hK => ?_
  simp
  rw [if_pos (rng_ok (by omega) (by omega)), OK_ok]
  refine wFor0 (fun k e => ∃ F s' x, e = [.own true s', .sh (.int (m : Int)), .own false (.lst ((zi F).map .int)), .sh (.int way), x] ∧ F.length = k ∧ (∀ v ∈ F, dig v) ∧ St (t + 1 + k) s') _ _ ⟨[], s1, .un, rfl, rfl, fun v hv => by simp at hv, hs1⟩ ?_ ?_
  · intro i d e hd ⟨F, s', x, he, f1, f2, f3⟩ Kn hKn
    subst he
    obtain ⟨hi, rfl⟩ := rangeD_get hd
    have hi : i < m := by simpa using hi
    have fin : ∀ (v : Nat) (s2 : OV), dig v → St (t + 1 + i + 1) s2 → Kn [.own true s2, .sh (.int (m : Int)), .own false (.lst ((zi F).map .int ++ [.int (v : Int)])), .sh (.int way), .sh (.int (0 + (i : Int)))] := fun v s2 hv h2 => by
      refine hKn _ ⟨F ++ [v], s2, _, by rw [zi_app], by simp [f1], fun w hw => ?_, by simpa [Nat.add_assoc] using h2⟩
      rcases List.mem_append.mp hw with e | e
      · exact f2 _ e
      · rw [List.mem_singleton] at e; rw [e]; exact hv
    have three : way = 0 ∨ way = 1 ∨ way = 2 := by omega
    have zero : (0 : Int) + (i : Int) = i := by omega
    rw [zero] at fin
    simp
    rcases three with rfl | rfl | rfl
    · refine wCallI (by rfl) ?_
      simp [sizeLine_eq, atI, ixN]
      refine pick_ok f3 (by omega) (by simp) (by simp) fun d s2 hd hs2 => ?_
      simp at hd
      have key : ∃ v : Nat, d = .int (v : Int) ∧ dig v := by
        unfold dig
        rcases hd with e | e | e | e <;> subst e
        · exact ⟨0, rfl, by omega⟩
        · exact ⟨1, rfl, by omega⟩
        · exact ⟨2, rfl, by omega⟩
        · exact ⟨3, rfl, by omega⟩
      obtain ⟨v, rfl, hv⟩ := key
      simp [ownL, sizeLine_eq, f1]
      rw [if_pos (by omega)]
      simp
      exact fin v s2 hv hs2
    · refine wCallI (by rfl) ?_
      simp [sizeLine_eq, atI, ixN]
      refine pick_ok f3 (by omega) (by simp) (by simp) fun d s2 hd hs2 => ?_
      simp at hd
      have key : ∃ v : Nat, d = .int (v : Int) ∧ dig v := by
        unfold dig
        rcases hd with e | e | e <;> subst e
        · exact ⟨0, rfl, by omega⟩
        · exact ⟨1, rfl, by omega⟩
        · exact ⟨2, rfl, by omega⟩
      obtain ⟨v, rfl, hv⟩ := key
      simp [ownL, sizeLine_eq, f1]
      rw [if_pos (by omega)]
      simp
      exact fin v s2 hv hs2
    · refine wCallI (by rfl) ?_
      simp [sizeLine_eq, atI, ixN]
      refine pick_ok f3 (by omega) (by simp) (by simp) fun d s2 hd hs2 => ?_
      simp at hd
      have key : ∃ v : Nat, d = .int (v : Int) ∧ dig v := by
        unfold dig
        rcases hd with e | e <;> subst e
        · exact ⟨0, rfl, by omega⟩
        · exact ⟨9, rfl, by omega⟩
      obtain ⟨v, rfl, hv⟩ := key
      simp [ownL, sizeLine_eq, f1]
      rw [if_pos (by omega)]
      simp
      exact fin v s2 hv hs2
  · intro e ⟨F, s', x, he, f1, f2, f3⟩
    subst he
    subst hK
    simp at f1 f3
    simp
    exact q F s' f1 f2 f3
end K46
set_option Elab.async false
set_option linter.all false
set_option maxRecDepth 100000
set_option maxHeartbeats 2000000
namespace K46
open PySem PySem.Spec L2 Ax RowM QM
theorem shown_dig {v : Nat} (h : dig v) : (PyData.shown (.int (v : Int))).length ≤ 1 := by
  rcases h with rfl | rfl | rfl | rfl | rfl <;> decide
theorem fits_dig {v : Nat} (h : dig v) : PyData.showable (.int (v : Int)) = true := by
  rcases h with rfl | rfl | rfl | rfl | rfl <;> decide +kernel
theorem py_zi : ∀ F : List Nat, pyDs ((zi F).map D.int) = some ((zi F).map PyData.int)
  | [] => rfl
  | v :: r => by
    have := py_zi r
    show (match pyD (.int (v : Int)), pyDs ((zi r).map D.int) with | some a, some b => some (a :: b) | _, _ => none) = _
    rw [this]
    rfl
theorem all_show {F : List Nat} (h : ∀ v ∈ F, dig v) : PyData.showableAll ((zi F).map PyData.int) = true := by
  induction F with
  | nil => rfl
  | cons v r ih =>
    show (PyData.showable (.int (v : Int)) && PyData.showableAll ((zi r).map PyData.int)) = true
    rw [fits_dig (h v List.mem_cons_self), ih fun w hw => h w (List.mem_cons_of_mem _ hw)]
    rfl
theorem all_nodict : ∀ F : List Nat, PyData.hasDictAll ((zi F).map PyData.int) = false
  | [] => rfl
  | v :: r => by
    show (PyData.hasDict (.int (v : Int)) || PyData.hasDictAll ((zi r).map PyData.int)) = false
    rw [all_nodict r]
    rfl
theorem all_len {F : List Nat} (h : ∀ v ∈ F, dig v) : ((PyData.shownAll ((zi F).map PyData.int)).map (·.length)).sum ≤ F.length ∧ (PyData.shownAll ((zi F).map PyData.int)).length = F.length := by
  induction F with
  | nil => exact ⟨Nat.le_refl _, rfl⟩
  | cons v r ih =>
    obtain ⟨h1, h2⟩ := ih fun w hw => h w (List.mem_cons_of_mem _ hw)
    have h3 := shown_dig (h v List.mem_cons_self)
    have e : PyData.shownAll ((zi (v :: r)).map PyData.int) = PyData.shown (.int (v : Int)) :: PyData.shownAll ((zi r).map PyData.int) := rfl
    rw [e, List.map_cons, List.sum_cons, List.length_cons, List.length_cons]
    exact ⟨by omega, by omega⟩
/-- a handed list or tuple -/
theorem fits_sq {F : List Nat} {d : D} (h : Sq (zi F) d) (nm_ : ∀ k xs, d ≠ .mk k xs) (hd : ∀ v ∈ F, dig v) : ∃ p, pyD d = some p ∧ PyData.showable p = true ∧ PyData.hasDict p = false ∧ PyData.depth p ≤ 2 ∧ (PyData.shown p).length ≤ 3 * F.length + 3 := by
  obtain ⟨h1, h2⟩ := all_len hd
  have h3 := deep_ints (zi F)
  cases h with
  | l =>
    refine ⟨.list ((zi F).map .int), ?_, all_show hd, all_nodict F, ?_, ?_⟩
    · show (pyDs _).map _ = _; rw [py_zi]; rfl
    · show PyData.depthAll _ + 1 ≤ 2; omega
    · have := listText_len_le (PyData.shownAll ((zi F).map PyData.int))
      show (listText _).length ≤ _
      omega
  | t =>
    refine ⟨.tuple ((zi F).map .int), ?_, all_show hd, all_nodict F, ?_, ?_⟩
    · show (pyDs _).map _ = _; rw [py_zi]; rfl
    · show PyData.depthAll _ + 1 ≤ 2; omega
    · have := tupleText_len_le (PyData.shownAll ((zi F).map PyData.int))
      show (tupleText _).length ≤ _
      omega
  | m k => exact absurd rfl (nm_ _ _)
end K46
set_option Elab.async false
set_option linter.all false
set_option maxRecDepth 100000
set_option maxHeartbeats 1000000
namespace K46
open PySem PySem.Spec L2 Ax RowM QM
theorem bad_of {r : RS} {c : Nat} {p : List D} (h : ORx r (fun _ _ => False) fun c' p' _ => c' = c ∧ p' = p) : ∃ s, r = .ex c p s := by
  cases r with
  | ok d s => rw [ORx_ok] at h; exact h.elim
  | ex c' p' s => rw [ORx_ex] at h; obtain ⟨rfl, rfl⟩ := h; exact ⟨s, rfl⟩
  | bad => rw [ORx_bad] at h; exact h.elim
/-- no number -/
def Nn (d : D) : Prop := ∃ s, F_is_number [d] = .ok (.bl false) s
def rgt : D → Bool
  | .int i => decide (0 ≤ i)
  | _ => false
/-- what is_number tells of it is known -/
def Kn (d : D) : Prop := ∃ s, F_is_number [d] = .ok (.bl (rgt d)) s
theorem kn_nat (n : Nat) : Kn (.int (n : Int)) := by
  have h : OR (F_is_number [.int (n : Int)]) fun d _ => d = .bl true := isNumber_ok (by omega) rfl
  obtain ⟨d, s, h1, rfl⟩ := h.ex
  refine ⟨s, ?_⟩
  rw [h1]
  have : rgt (.int (n : Int)) = true := by show decide ((0 : Int) ≤ (n : Int)) = true; simp
  rw [this]
theorem fil_mid (x : D) (hx : rgt x = false) (B : List D) : ∀ (A : List D) (a : Nat), (∀ y ∈ A, rgt y = true) → ∃ r, ((A ++ x :: B).zipIdx a).filter (fun q => !rgt q.1) = (x, a + A.length) :: r
  | [], a, _ => by
    refine ⟨(B.zipIdx (a + 1)).filter (fun q => !rgt q.1), ?_⟩
    rw [List.nil_append, List.zipIdx_cons, List.filter_cons_of_pos (by simp [hx])]
    rfl
  | y :: A, a, h => by
    obtain ⟨r, hr⟩ := fil_mid x hx B A (a + 1) fun z hz => h z (List.mem_cons_of_mem _ hz)
    refine ⟨r, ?_⟩
    rw [List.cons_append, List.zipIdx_cons, List.filter_cons_of_neg (by simp [h y List.mem_cons_self]), hr, List.length_cons]
    congr 2
    omega
theorem OR_eq {r : RS} {d : D} {s : OV} {P : D → OV → Prop} (h : r = .ok d s) (p : P d s) : OR r P := by rw [h, OR_ok]; exact p
theorem firstOdd_mid {A B : List D} {x : D} (hA : ∀ y ∈ A, Kn y ∧ rgt y = true) (hx : Kn x ∧ rgt x = false) (hB : ∀ y ∈ B, Kn y) (hl : (A ++ x :: B).length < 10000) {P : D → OV → Prop} (p : P (.int (A.length : Int)) nil0) : OR (F_first_odd [.lst (A ++ x :: B), .fn 0]) P := by
  have all : ∀ y ∈ A ++ x :: B, Kn y := fun y hy => by
    rcases List.mem_append.mp hy with e | e
    · exact (hA y e).1
    · rcases (List.mem_cons.mp e) with e | e
      · rw [e]; exact hx.1
      · exact hB y e
  obtain ⟨r, hr⟩ := fil_mid x hx.2 B A 0 fun y hy => (hA y hy).2
  generalize hz : A ++ x :: B = zs at *
  refine runP_of (wq fun K hK => ?_)
  simp
  refine wCall ?_
  simp
  have il_ : ∃ s, F_is_list [.lst zs] = .ok (.bl true) s := ⟨_, rfl⟩
  obtain ⟨s0, e0⟩ := il_
  refine OR_eq e0 ?_
  simp
  subst hK
  refine wq fun K hK => ?_
  simp
  unfold enumD
  refine wCompF (α := D × Nat) (fun q => D.tup [.int (q.2 : Int), q.1]) (fun q => !rgt q.1) (fun q => .int (q.2 : Int)) zs.zipIdx (by rw [sizeLine_eq]; simp; omega) (fun q hq => ?_) ?_
  · have hm : q.1 ∈ zs := by
      obtain ⟨v, n⟩ := q
      have := List.mem_zipIdx' hq
      exact this.2 ▸ List.getElem_mem _
    obtain ⟨s1, e1⟩ := all _ hm
    simp [wipeE]
    refine wCallL (by rfl) ?_
    simp
    refine OR_eq e1 ?_
    cases hg : rgt q.1 <;> simp [back]
  · rw [hr]
    simp
    subst hK
    simp [truth]
    have a0 : atI (D.int (A.length : Int) :: List.map (fun (q : D × Nat) => D.int (q.2 : Int)) r) 0 = some (.int (A.length : Int)) := atI_of 0 rfl rfl
    rw [a0]
    simp
    exact p
/-- how a list is odd -/
def Fo (d : D) (k : Int) : Prop := ∃ s, F_first_odd [d, .fn 0] = .ok (.int k) s
theorem fo_mid {A B : List D} {x : D} (hA : ∀ y ∈ A, Kn y ∧ rgt y = true) (hx : Kn x ∧ rgt x = false) (hB : ∀ y ∈ B, Kn y) (hl : (A ++ x :: B).length < 10000) : Fo (.lst (A ++ x :: B)) (A.length : Int) := by
  have h : OR (F_first_odd [.lst (A ++ x :: B), .fn 0]) fun d _ => d = .int (A.length : Int) := firstOdd_mid hA hx hB hl rfl
  obtain ⟨d, s, h1, rfl⟩ := h.ex
  exact ⟨s, h1⟩
theorem fo_no {d : D} (h : ∃ s, F_is_list [d] = .ok (.bl false) s) : Fo d 0 := by
  have z : OR (F_first_odd [d, .fn 0]) fun d _ => d = .int 0 := by
    refine runP_of (wq fun K hK => ?_)
    simp
    refine wCall ?_
    simp
    obtain ⟨s0, e0⟩ := h
    refine OR_eq e0 ?_
    simp
  obtain ⟨d, s, h1, rfl⟩ := z.ex
  exact ⟨s, h1⟩
theorem cl_bad {d : D} {k : Int} (h : Fo d k) : ∃ s, F_checked_load [d] = .ex 100 [.int k] s := by
  refine bad_of (runPx_of (wqx fun K hK => ?_))
  simp
  obtain ⟨s, e⟩ := h
  refine OK.x (wCall ?_)
  simp
  refine OR_eq e ?_
  subst hK
  refine wqx fun K hK => ?_
  simp
theorem cd_bad {d : D} {k : Int} (h : Fo d k) : ∃ s, F_checked_doings [d] = .ex 101 [.int k] s := by
  refine bad_of (runPx_of (wqx fun K hK => ?_))
  simp
  obtain ⟨s, e⟩ := h
  refine OK.x (wCall ?_)
  simp
  refine OR_eq e ?_
  subst hK
  refine wqx fun K hK => ?_
  simp
theorem lb_load {d y : D} {k : Int} (h : Fo d k) : ∃ s, F_left_behind [d, y] = .ex 100 [.int k] s := by
  refine bad_of (runPx_of (wqx fun K hK => ?_))
  simp
  obtain ⟨s, e⟩ := cl_bad h
  refine xCall ?_
  simp [e]
theorem wt_load {d y : D} {k : Int} (h : Fo d k) : ∃ s, F_waits [d, y] = .ex 100 [.int k] s := by
  refine bad_of (runPx_of (wqx fun K hK => ?_))
  simp
  obtain ⟨s, e⟩ := cl_bad h
  refine xCall ?_
  simp [e]
theorem lb_doings {L : List Nat} {d y : D} {k : Int} (hd : Sq (zi L) d) (hl : L.length < 900000) (h : Fo y k) : ∃ s, F_left_behind [d, y] = .ex 101 [.int k] s := by
  refine bad_of (runPx_of (wqx fun K hK => ?_))
  simp
  refine OK.x (wCall ?_)
  simp
  refine checkedLoad_ok hd (by simpa using hl) (zi_pos _) ?_
  obtain ⟨s, e⟩ := cd_bad h
  refine xCall ?_
  simp [e]
theorem wt_doings {L : List Nat} {d y : D} {k : Int} (hd : Sq (zi L) d) (hl : L.length < 900000) (h : Fo y k) : ∃ s, F_waits [d, y] = .ex 101 [.int k] s := by
  refine bad_of (runPx_of (wqx fun K hK => ?_))
  simp
  refine OK.x (wCall ?_)
  simp
  refine checkedLoad_ok hd (by simpa using hl) (zi_pos _) ?_
  obtain ⟨s, e⟩ := cd_bad h
  refine xCall ?_
  simp [e]
end K46
set_option Elab.async false
set_option linter.all false
set_option maxRecDepth 100000
set_option maxHeartbeats 1000000
namespace K46
open PySem PySem.Spec L2 Ax RowM QM
theorem met_load (d : D) : ∃ o, runL 2 f__law_met (.ex 100 [d] nil0) = .ok (.lst [.str "load", d]) o := ⟨_, rfl⟩
theorem met_doings (d : D) : ∃ o, runL 2 f__law_met (.ex 101 [d] nil0) = .ok (.lst [.str "doings", d]) o := ⟨_, rfl⟩
theorem sLoad : PyData.strOk ("load" : Str) = true := by decide +kernel
theorem sDoings : PyData.strOk ("doings" : Str) = true := by decide +kernel
theorem wAsk {fl : SL} {env e : En} {ds : List D} {c j : Nat} {p : List D} {d : D} {P : D → En → Prop} (h9 : (roE env)[9]? = some (.sh (.fn j))) (hj : j = 2 ∨ j = 3) (h : fl (roE env) = .ok ds e) (hl : ds.length = 2) (b2 : ∃ s, F_left_behind ds = .ex c p s) (b3 : ∃ s, F_waits ds = .ex c p s)
    (hm : ∃ o, runL 2 f__law_met (.ex c p nil0) = .ok d o) (q : P d env) : OK (sLam (runL 2 f__law_met) (sAlt (sCallLX 9 2 2 F_left_behind fl) (sCallLX 9 3 2 F_waits fl)) env) P := by
  obtain ⟨s2, b2⟩ := b2
  obtain ⟨s3, b3⟩ := b3
  obtain ⟨o, hm⟩ := hm
  refine wLamX ?_
  have key : sAlt (sCallLX 9 2 2 F_left_behind fl) (sCallLX 9 3 2 F_waits fl) (roE env) = .ex c p e := by
    unfold sAlt sCallLX
    rcases hj with rfl | rfl
    · rw [h9]
      simp [sCall, h, hl, b2, O.bind]
    · rw [h9]
      simp [sCall, h, hl, b3, O.bind]
  rw [key, OKx_ex]
  exact ⟨_, _, hm, q⟩
theorem addD_l {xs ys : List D} (h : xs.length + ys.length ≤ 16777216) : addD (.lst xs) (.lst ys) = some (.lst (xs ++ ys)) := by
  simp [addD, sizeLine_eq, h]
/-- what is met by each of both -/
abbrev pr (a b : Int) : List D := [.lst [.str "load", .int a], .lst [.str "doings", .int b]]
abbrev FL (a b : Int) (k : Nat) : List D := (List.replicate k (pr a b)).flatten
theorem FL_succ (a b : Int) (k : Nat) : FL a b (k + 1) = FL a b k ++ pr a b := by
  unfold FL
  rw [List.replicate_succ', List.flatten_append]
  simp
theorem FL_dp (a b : Int) : Dp 5 (.lst (FL a b 2)) := .lst (by simp [FL]) fun x hx => by
  have hx2 : x ∈ pr a b := by
    simp only [FL, List.replicate, List.flatten_cons, List.flatten_nil, List.append_nil, List.mem_append, or_self] at hx
    exact hx
  simp only [List.mem_cons, List.not_mem_nil, or_false] at hx2
  rcases hx2 with rfl | rfl
  · exact .lst (by simp) fun y hy => by
      simp only [List.mem_cons, List.not_mem_nil, or_false] at hy
      rcases hy with rfl | rfl
      · exact .str _ _ sLoad
      · exact .int _ _
  · exact .lst (by simp) fun y hy => by
      simp only [List.mem_cons, List.not_mem_nil, or_false] at hy
      rcases hy with rfl | rfl
      · exact .str _ _ sDoings
      · exact .int _ _
/-- both are asked, with things that are refused -/
theorem ask_loop {a b : Int} {f1 f2 : SL} {d1 d2 d3 d4 : D} {s : OV} {x1 x2 x3 x4 x5 x6 x7 x9 : SV} {N : En → Prop} {R : D → En → Prop} {Ro : OV → En → Prop} {fb : SS}
    (hfb : fb = sSeq (sApp 8 (sLam (runL 2 f__law_met) (sAlt (sCallLX 9 2 2 F_left_behind f1) (sCallLX 9 3 2 F_waits f1)))) (sApp 8 (sLam (runL 2 f__law_met) (sAlt (sCallLX 9 2 2 F_left_behind f2) (sCallLX 9 3 2 F_waits f2)))))
    (e1 : ∀ o y, ∃ e, f1 (roE [.own true s, x1, x2, x3, x4, x5, x6, x7, o, y]) = .ok [d1, d2] e) (e2 : ∀ o y, ∃ e, f2 (roE [.own true s, x1, x2, x3, x4, x5, x6, x7, o, y]) = .ok [d3, d4] e)
    (b1 : ∃ s, F_left_behind [d1, d2] = .ex 100 [.int a] s) (b2 : ∃ s, F_waits [d1, d2] = .ex 100 [.int a] s) (b3 : ∃ s, F_left_behind [d3, d4] = .ex 101 [.int b] s) (b4 : ∃ s, F_waits [d3, d4] = .ex 101 [.int b] s)
    (p : ∀ x9, N [.own true s, x1, x2, x3, x4, x5, x6, x7, .own false (.lst (FL a b 2)), x9]) :
    WS (loopF (gV 9) fb [.fn 2, .fn 3] [.own true s, x1, x2, x3, x4, x5, x6, x7, .own false (.lst []), x9]) N R Ro := by
  subst hfb
  refine wFor0 (fun k e => ∃ x9, e = [.own true s, x1, x2, x3, x4, x5, x6, x7, .own false (.lst (FL a b k)), x9]) _ _ ⟨x9, rfl⟩ ?_ ?_
  · intro i d e hd ⟨x9, he⟩ Kn hKn
    subst he
    have hi : i < 2 := (List.getElem?_eq_some_iff.mp hd).1
    obtain ⟨j, rfl, hj⟩ : ∃ j, d = .fn j ∧ (j = 2 ∨ j = 3) := by
      have := List.mem_of_getElem? hd
      simp only [List.mem_cons, List.not_mem_nil, or_false] at this
      rcases this with rfl | rfl
      · exact ⟨2, rfl, .inl rfl⟩
      · exact ⟨3, rfl, .inr rfl⟩
    have lenF : (FL a b i).length = 2 * i := by simp [FL]; omega
    have suc := FL_succ a b i
    generalize FL a b i = F at lenF suc
    simp
    refine wq fun K hK => ?_
    simp
    obtain ⟨ee, h1⟩ := e1 (.own false (.lst F)) (.sh (.fn j))
    refine wAsk (j := j) (by rfl) hj h1 rfl b1 b2 (met_load _) ?_
    simp [ownL, sizeLine_eq]
    rw [if_pos (by omega)]
    simp
    subst hK
    simp
    obtain ⟨ee2, h2⟩ := e2 (.own false (.lst (F ++ [.lst [.str "load", .int a]]))) (.sh (.fn j))
    refine wAsk (j := j) (by rfl) hj h2 rfl b3 b4 (met_doings _) ?_
    simp [ownL, sizeLine_eq]
    rw [if_pos (by omega)]
    simp
    refine hKn _ ⟨.sh (.fn j), ?_⟩
    rw [suc]
  · intro e ⟨x9, he⟩
    subst he
    exact p x9
theorem kn_all (F : List Nat) : ∀ y ∈ (zi F).map D.int, Kn y ∧ rgt y = true := by
  intro y hy
  obtain ⟨i, hi, rfl⟩ := List.mem_map.mp hy
  obtain ⟨n, _, rfl⟩ := List.mem_map.mp hi
  refine ⟨kn_nat n, ?_⟩
  show decide ((0 : Int) ≤ (n : Int)) = true
  simp
theorem kn_non : Kn .non ∧ rgt .non = false := ⟨⟨_, rfl⟩, rfl⟩
/-- a list with an odd thing in it -/
theorem fo_put {F : List Nat} {k : Nat} (hk : k ≤ F.length) (hl : F.length < 1000) {x : D} (hx : Kn x ∧ rgt x = false) : Fo (.lst (((zi F).map D.int).take k ++ x :: .non :: ((zi F).map D.int).drop k)) (k : Int) := by
  have l : (((zi F).map D.int).take k).length = k := by simp; omega
  have := fo_mid (A := ((zi F).map D.int).take k) (x := x) (B := .non :: ((zi F).map D.int).drop k) (fun y hy => kn_all F y (List.mem_of_mem_take hy)) hx (fun y hy => by
    rcases (List.mem_cons.mp hy) with e | e
    · rw [e]; exact kn_non.1
    · exact (kn_all F y (List.mem_of_mem_drop e)).1) (by simp; omega)
  rw [l] at this
  exact this
theorem mul_two (a b : Int) : mulD (.lst (pr a b)) (.int 2) = some (.lst (FL a b 2)) := by
  rw [mulD_lk]
  exact (if_pos ⟨by decide, by decide, (by rw [sizeLine_eq]; show 2 * 2 ≤ 2 ^ 24; decide)⟩).trans rfl
theorem refused_ok {t : Nat} {s : OV} (hs : St t s) (ht : t < 2 ^ 38) {L K : List Nat} (l1 : L.length < 100) (l2 : K.length < 100) {P : D → OV → Prop} (p : ∀ s', St (t + 2) s' → P (.bl true) s') : OR (F__law_refused_right s [il (zi L), il (zi K)]) P := by
  refine runI_of (wq fun Kn0 hK => ?_)
  simp
  refine wCallI (by rfl) ?_
  simp
  refine draw_ok hs (by omega) (by omega) (by omega) fun r1 s1 a1 a2 hs1 => ?_
  try simp
  refine wCallI (by rfl) ?_
  simp
  refine draw_ok hs1 (by omega) (by omega) (by omega) fun r2 s2 c1 c2 hs2 => ?_
  try simp
  obtain ⟨k1, rfl⟩ := Int.eq_ofNat_of_zero_le a1
  obtain ⟨k2, rfl⟩ := Int.eq_ofNat_of_zero_le c1
  have hk1 : k1 ≤ L.length := by omega
  have hk2 : k2 ≤ K.length := by omega
  subst hK
  have hod : ∀ d ∈ [D.non, .int (-1), .bl true, .str "1", .tup [.int 1], .lst [], .dic [] [], .fn 1], Kn d ∧ rgt d = false := by
    intro d hd
    simp only [List.mem_cons, or_false, List.not_mem_nil] at hd
    rcases hd with rfl | rfl | rfl | rfl | rfl | rfl | rfl | rfl <;> exact ⟨⟨_, rfl⟩, rfl⟩
  generalize hodds : [D.non, .int (-1), .bl true, .str "1", .tup [.int 1], .lst [], .dic [] [], .fn 1] = odds at hod
  refine wq fun Kn0 hK => ?_
  simp [sizeLine_eq]
  rw [hodds]
  refine wFor0 (fun _ e => ∃ x5 x6 x7 x8 x9, e = [.own true s2, .sh (il (zi L)), .sh (il (zi K)), .sh (.int (k1 : Int)), .sh (.int (k2 : Int)), x5, x6, x7, x8, x9]) _ _ ⟨_, _, _, _, _, rfl⟩ (fun i d e hd ⟨x5, x6, x7, x8, x9, he⟩ Kn hKn => ?_) fun e ⟨x5, x6, x7, x8, x9, he⟩ => ?_
  · subst he
    have hd2 := hod d (List.mem_of_getElem? hd)
    simp only [gV_ap, GO_some]
    refine wq fun K2 hK2 => ?_
    simp [cut_to, cut_from, sizeLine_eq]
    rw [addD_l (by simp; omega)]
    simp [cut_from]
    rw [addD_l (by simp; omega)]
    simp [cut_to]
    rw [addD_l (by simp; omega)]
    simp [cut_from]
    rw [addD_l (by simp; omega)]
    simp only [OK_some]
    have hB1 := fo_put (F := L) hk1 (by omega) hd2
    have hB2 := fo_put (F := K) hk2 (by omega) hd2
    simp
    generalize ((zi L).map D.int).take k1 ++ d :: .non :: ((zi L).map D.int).drop k1 = B1 at hB1 ⊢
    generalize ((zi K).map D.int).take k2 ++ d :: .non :: ((zi K).map D.int).drop k2 = B2 at hB2 ⊢
    subst hK2
    refine wq fun K2 hK2 => ?_
    simp [sizeLine_eq]
    subst hK2
    refine wq fun K2 hK2 => ?_
    simp [sizeLine_eq]
    refine ask_loop rfl (d1 := .lst B1) (d2 := .lst B2) (d3 := il (zi L)) (d4 := .lst B2) (fun _ _ => ⟨_, rfl⟩) (fun _ _ => ⟨_, rfl⟩) (lb_load hB1) (wt_load hB1) (lb_doings .l (by omega) hB2) (wt_doings .l (by omega) hB2) fun x9 => ?_
    subst hK2
    have hm := mul_two (k1 : Int) (k2 : Int)
    have hs := FL_dp (k1 : Int) (k2 : Int)
    generalize FL (k1 : Int) (k2 : Int) 2 = FF at hm hs
    simp [sizeLine_eq]
    refine wCall ?_
    simp [sizeLine_eq, hm]
    refine same_ok hs ?_
    simp
    exact hKn _ ⟨_, _, _, _, _, rfl⟩
  · subst he
    subst hK
    have hod2 : ∀ d ∈ [D.non, .int 5, .str "12", .dic [] [], .bl true, .fn 1], ∃ s, F_is_list [d] = .ok (.bl false) s := by
      intro d hd
      simp only [List.mem_cons, or_false, List.not_mem_nil] at hd
      rcases hd with rfl | rfl | rfl | rfl | rfl | rfl <;> exact ⟨_, rfl⟩
    generalize hodds2 : [D.non, .int 5, .str "12", .dic [] [], .bl true, .fn 1] = odds2 at hod2
    refine wq fun Kn0 hK => ?_
    simp [sizeLine_eq]
    rw [hodds2]
    refine wFor0 (fun _ e => ∃ x5 x6 x7 x8 x9, e = [.own true s2, .sh (il (zi L)), .sh (il (zi K)), .sh (.int (k1 : Int)), .sh (.int (k2 : Int)), x5, x6, x7, x8, x9]) _ _ ⟨_, _, _, _, _, rfl⟩ (fun i d e hd ⟨x5, x6, x7, x8, x9, he⟩ Kn hKn => ?_) fun e ⟨x5, x6, x7, x8, x9, he⟩ => ?_
    · subst he
      have hd2 := fo_no (hod2 d (List.mem_of_getElem? hd))
      simp only [gV_ap, GO_some]
      refine wq fun K2 hK2 => ?_
      simp [sizeLine_eq]
      subst hK2
      refine wq fun K2 hK2 => ?_
      simp [sizeLine_eq]
      refine ask_loop rfl (d1 := d) (d2 := .non) (d3 := il (zi L)) (d4 := d) (fun _ _ => ⟨_, rfl⟩) (fun _ _ => ⟨_, rfl⟩) (lb_load hd2) (wt_load hd2) (lb_doings .l (by omega) hd2) (wt_doings .l (by omega) hd2) fun x9 => ?_
      subst hK2
      have hm := mul_two 0 0
      have hs := FL_dp 0 0
      generalize FL 0 0 2 = FF at hm hs
      simp [sizeLine_eq]
      refine wCall ?_
      simp [sizeLine_eq, hm]
      refine same_ok hs ?_
      simp
      exact hKn _ ⟨_, _, _, _, _, rfl⟩
    · subst he
      subst hK
      simp
      exact p _ hs2
end K46
set_option Elab.async false
set_option linter.all false
set_option maxRecDepth 100000
set_option maxHeartbeats 1000000
namespace K46
open PySem PySem.Spec L2 Ax RowM QM
theorem eqD_self (neg : Bool) {d : D} {p : PyData} (h : d.py = some p) (s : SeqAt.shaped p = true) : eqD neg d d = some (.bl (!neg)) := by
  have s2 := s
  unfold SeqAt.shaped at s2
  simp only [Bool.and_eq_true] at s2
  unfold eqD
  rw [h]
  simp only [s, and_self, if_true]
  rw [SeqAt.eqv_refl _ s2.1]
  cases neg <;> rfl
theorem ok_app (a b : Str) : PyData.strOk (a ++ b) = (PyData.strOk a && PyData.strOk b) := by
  show (a.cps ++ b.cps).all _ = _
  rw [Array.all_append]
  rfl
theorem ok_from : ∀ (ts : List Str) (k : Nat) (acc : Str), PyData.strOk acc = true → (∀ t ∈ ts, PyData.strOk t = true) → PyData.strOk (textFrom k acc ts) = true
  | [], _, _, h, _ => h
  | t :: r, k, acc, h, hs => by
    show PyData.strOk (textFrom (k + 1) (acc ++ (if k > 0 then ", " else "" : String) ++ t) r) = true
    refine ok_from r (k + 1) _ ?_ fun u hu => hs u (List.mem_cons_of_mem _ hu)
    rw [ok_app, ok_app, h, hs t List.mem_cons_self]
    split <;> decide +kernel
theorem ok_list {ts : List Str} (h : ∀ t ∈ ts, PyData.strOk t = true) : PyData.strOk (listText ts) = true := by
  show PyData.strOk (textFrom 0 "[" ts ++ "]") = true
  rw [ok_app, ok_from ts 0 "[" (by decide +kernel) h]
  decide +kernel
theorem ok_join : ∀ {ts : List Str}, (∀ t ∈ ts, PyData.strOk t = true) → PyData.strOk (Str.join ", " ts) = true
  | [], _ => by decide +kernel
  | [x], h => h x List.mem_cons_self
  | x :: y :: r, h => by
    show PyData.strOk (x ++ ", " ++ Str.join ", " (y :: r)) = true
    rw [ok_app, ok_app, h x List.mem_cons_self, ok_join fun t ht => h t (List.mem_cons_of_mem _ ht)]
    decide +kernel
theorem ok_tuple {ts : List Str} (h : ∀ t ∈ ts, PyData.strOk t = true) : PyData.strOk (tupleText ts) = true := by
  unfold tupleText
  rw [ok_app, ok_app, ok_join h]
  split <;> decide +kernel
theorem ok_digs {F : List Nat} (h : ∀ v ∈ F, dig v) : ∀ t ∈ PyData.shownAll ((zi F).map PyData.int), PyData.strOk t = true := by
  induction F with
  | nil => intro t ht; cases ht
  | cons v r ih =>
    intro t ht
    have e : PyData.shownAll ((zi (v :: r)).map PyData.int) = PyData.shown (.int (v : Int)) :: PyData.shownAll ((zi r).map PyData.int) := rfl
    rw [e] at ht
    rcases (List.mem_cons.mp ht) with rfl | ht
    · rcases h v List.mem_cons_self with rfl | rfl | rfl | rfl | rfl <;> decide +kernel
    · exact ih (fun w hw => h w (List.mem_cons_of_mem _ hw)) t ht
theorem repr_ok {F K : List Nat} {d1 d2 : D} (h1 : Sq (zi F) d1) (h2 : Sq (zi K) d2) (n1 : ∀ k xs, d1 ≠ .mk k xs) (n2 : ∀ k xs, d2 ≠ .mk k xs) (g1 : ∀ v ∈ F, dig v) (g2 : ∀ v ∈ K, dig v) (l1 : F.length < 1000) (l2 : K.length < 1000) : ∃ t : Str, reprD [.lst [d1, d2]] = some (.str t) ∧ eqD true (.str t) (.str t) = some (.bl false) := by
  obtain ⟨p1, a1, a2, a3, a4, a5⟩ := fits_sq h1 n1 g1
  obtain ⟨p2, b1, b2, b3, b4, b5⟩ := fits_sq h2 n2 g2
  have s1 : PyData.strOk (PyData.shown p1) = true := by
    cases h1 with
    | l =>
      have e : pyD (il (zi F)) = some (.list ((zi F).map .int)) := by show (pyDs _).map _ = _; rw [py_zi]; rfl
      rw [e] at a1; cases a1
      exact ok_list (ok_digs g1)
    | t =>
      have e : pyD (it (zi F)) = some (.tuple ((zi F).map .int)) := by show (pyDs _).map _ = _; rw [py_zi]; rfl
      rw [e] at a1; cases a1
      exact ok_tuple (ok_digs g1)
    | m k => exact absurd rfl (n1 _ _)
  have s2 : PyData.strOk (PyData.shown p2) = true := by
    cases h2 with
    | l =>
      have e : pyD (il (zi K)) = some (.list ((zi K).map .int)) := by show (pyDs _).map _ = _; rw [py_zi]; rfl
      rw [e] at b1; cases b1
      exact ok_list (ok_digs g2)
    | t =>
      have e : pyD (it (zi K)) = some (.tuple ((zi K).map .int)) := by show (pyDs _).map _ = _; rw [py_zi]; rfl
      rw [e] at b1; cases b1
      exact ok_tuple (ok_digs g2)
    | m k => exact absurd rfl (n2 _ _)
  have hp : pyD (.lst [d1, d2]) = some (.list [p1, p2]) := by
    show (pyDs [d1, d2]).map _ = _
    unfold pyDs pyDs pyDs
    rw [a1, b1]
    rfl
  have hf : fitsPy (.list [p1, p2]) := by
    refine ⟨?_, ?_, ?_, ?_⟩
    · show (PyData.showable p1 && (PyData.showable p2 && true)) = true; rw [a2, b2]; rfl
    · show (PyData.hasDict p1 || (PyData.hasDict p2 || false)) = false; rw [a3, b3]; rfl
    · show max (PyData.depth p1) (max (PyData.depth p2) 0) + 1 ≤ 40; omega
    · have := listText_len_le [PyData.shown p1, PyData.shown p2]
      simp at this
      show (listText [PyData.shown p1, PyData.shown p2]).length ≤ sizeLine
      rw [sizeLine_eq]
      omega
  have so : PyData.strOk (PyData.shown (.list [p1, p2])) = true := ok_list (ts := [PyData.shown p1, PyData.shown p2]) fun t ht => by
    simp only [List.mem_cons, List.not_mem_nil, or_false] at ht
    rcases ht with rfl | rfl
    · exact s1
    · exact s2
  refine ⟨PyData.shown (.list [p1, p2]), ?_, ?_⟩
  · unfold reprD
    simp only [hp]
    exact if_pos hf
  · exact eqD_self true (p := .str _) rfl (by simp [SeqAt.shaped, PyData.canLay0, PyData.depth, so])
end K46
set_option Elab.async false
set_option linter.all false
set_option maxRecDepth 100000
set_option maxHeartbeats 1000000
namespace K46
open PySem PySem.Spec L2 Ax RowM QM
theorem wCallI2 {n i : Nat} {F : FI} {fl : SL} {env : En} {P : D → En → Prop} {m : Bool} {s : OV} (h0 : env[i]? = some (.own m s)) (h : OK (fl env) fun ds e => ∃ m2 s2, e[i]? = some (.own m2 s2) ∧ ds.length = n ∧ OR (F s2 ds) fun d s' => P d (e.set i (.own m2 s'))) : OK (sCallI n F i fl env) P := by
  unfold sCallI
  simp only [ownO_ap, h0, OK_bind]
  refine h.mono fun ds e ⟨m2, s2, h3, h1, h2⟩ => ?_
  simp only [h3, h1, if_true]
  revert h2
  cases F s2 ds with
  | ok d s' => intro z; rw [OR_ok] at z; dsimp only; rw [OK_ok]; exact z
  | ex c p s' => intro z; rw [OR_ex] at z; exact z.elim
  | bad => intro z; rw [OR_bad] at z; exact z.elim
theorem wToldP {j i : Nat} {f0 : SE} {f1 f2 : En → O OV} {ft : SB} {g : SS} {env : En} {N : En → Prop} {R : D → En → Prop} {Ro : OV → En → Prop}
    (h : OK (f0 env) fun d e0 => OK (f1 e0) fun o1 e1 => ∃ xs, o1 = .lst xs ∧ OK (f2 e1) fun o2 e2 => ∃ ys, o2 = .lst ys ∧ xs.length < sizeLine ∧ ys.length < sizeLine ∧ i < (e2.set j (.sh d)).length ∧ intsE (e2.set j (.sh d)) ∧
      OK (ft ((e2.set j (.sh d)).set i (.sh (.lst [.lst xs, .lst ys])))) fun b e3 => b = false ∧ e3 = (e2.set j (.sh d)).set i (.sh (.lst [.lst xs, .lst ys])) ∧ WS (g ((e2.set j (.sh d)).set i .un)) N R Ro) :
    WS (sToldP j i f0 f1 f2 ft g env) N R Ro := by
  obtain ⟨d, e0, q0, h⟩ := h.ex
  obtain ⟨o1, e1, q1, xs, rfl, h⟩ := h.ex
  obtain ⟨o2, e2, q2, ys, rfl, lx, ly, hi, hp, h⟩ := h.ex
  obtain ⟨b, e3, q3, rfl, rfl, h⟩ := h.ex
  unfold sToldP
  simp only [q0, q1, q2]
  unfold toldS
  rw [if_pos ⟨lx, ly, hi, hp⟩]
  simp only [q3]
  rw [if_pos trivial]
  exact h
/-- a hundred times as many -/
def hund (F : List Nat) : List Nat := F.map fun v => 100 * v
theorem zi_hund (F : List Nat) : (zi F).map (fun (v : Int) => v * 100) = zi (hund F) := by
  unfold zi hund
  rw [List.map_map, (List.map_map)]
  refine List.map_congr_left fun v _ => ?_
  show (v : Int) * 100 = ((100 * v : Nat) : Int)
  omega
theorem cf_hund (F : List Nat) : cf (hund F) = fun i => 100 * cf F i := by
  funext i
  unfold cf hund
  rw [List.getD_eq_getElem?_getD, List.getD_eq_getElem?_getD, (List.getElem?_map)]
  cases F[i]? <;> rfl
theorem hund_rg {L K : List Nat} : (rg (hund K).length fun t => lf (cf (hund L)) (cf (hund K)) (t + 1)) = hund (rg K.length fun t => lf (cf L) (cf K) (t + 1)) := by
  rw [cf_hund, cf_hund]
  unfold rg hund
  rw [List.map_map, List.length_map]
  refine List.map_congr_left fun t _ => ?_
  exact lf_mul 100
theorem sameTrue {d : D} (h : Dp 5 d) {P : D → OV → Prop} (p : P (.bl true) nil0) : OR (F__law_same 6 [d, d]) P := same_ok h p
theorem dp_lefts {n : Nat} {F : List Nat} (h : F.length < 900000) : Dp (n + 1) (il (zi F)) := Dp.il (by simpa using h)
theorem dp_stays {n m : Nat} (h : n < 900000) (f : Nat → Option Int) : Dp (m + 1) (.lst ((List.range n).map fun b => od (f b))) := .lst (by simpa using h) fun x hx => by
  obtain ⟨b, _, rfl⟩ := List.mem_map.mp hx
  cases f b with
  | none => exact .non _
  | some i => exact .int _ _
theorem dp_two {n : Nat} {x y : D} (h1 : Dp n x) (h2 : Dp n y) : Dp (n + 1) (.lst [x, y]) := .lst (by simp) fun z hz => by
  simp only [List.mem_cons, List.not_mem_nil, or_false] at hz
  rcases hz with rfl | rfl
  · exact h1
  · exact h2
theorem asList_ok {t : Nat} {s : OV} (hs : St t s) (ht : t < 2 ^ 39) {F : List Nat} (hF : F.length < 1000) {P : D → OV → Prop} (q : ∀ d s', Sq (zi F) d → (∀ k xs, d ≠ .mk k xs) → St (t + 1) s' → P d s') : OR (F__law_as_lists 6 s [il (zi F)]) P := by
  refine runI_of (wq fun K hK => ?_)
  simp [sizeLine_eq]
  refine wq fun K2 hK2 => ?_
  simp
  rw [if_pos (by rfl)]
  refine wCompN _ (fun (i : Int) => i) _ (by rw [sizeLine_eq]; simp; omega) (fun k hk => ?_) ?_
  · simp [wipeE]
    refine wCallI (by rfl) ?_
    simp
    refine asInt_ok 4 ?_
    simp [back]
  subst hK2
  simp
  refine wCallI (by rfl) ?_
  simp
  refine draw_ok hs (by omega) (by omega) (by omega) fun r s1 h1 h2 hs1 => ?_
  simp
  by_cases hr : r = 0
  · simp [hr]
    exact q _ _ .l (fun _ _ z => by cases z) hs1
  · simp [hr]
    exact q _ _ .t (fun _ _ z => by cases z) hs1
theorem law_true : ∀ ns : List Int, ns.length ≤ 63 → (∀ z ∈ ns, Builtin.Int.intBits z ≤ 1048576) → ∃ io, F_law [.frl (ns.map .int)] = .ok (.bl true) io := by
  intro ns hl hb
  have : OR (F_law [.frl (ns.map .int)]) fun d _ => d = .bl true := by
    refine runP_of (wq fun Kl hKl => ?_)
    simp
    rw [if_pos (rng_ok (by omega) (by omega)), OK_ok]
    refine wFor0 (fun _ e => ∃ x1 x2 x3 x4 x5 x6 x7 x8 x9 x10 x11, e = [.sh (.frl (ns.map .int)), x1, x2, x3, x4, x5, x6, x7, x8, x9, x10, x11, .un, .un] ∧ (∀ m o, x11 ≠ .own m o) ∧ ∀ m o, x10 ≠ .own m o) _ _ ⟨.un, .un, .un, .un, .un, .un, .un, .un, .un, .un, .un, rfl, (fun _ _ z => by cases z), fun _ _ z => by cases z⟩ ?_ ?_
    · intro i d e hd ⟨x1, x2, x3, x4, x5, x6, x7, x8, x9, x10, x11, he, h11, h10⟩ Kn hKn
      subst he
      obtain ⟨hi, rfl⟩ := rangeD_get hd
      have hi : i < 4 := by omega
      have hz : (0 : Int) + (i : Int) = i := by omega
      rw [hz]
      simp only [gV_ap, GO_some]
      refine wq fun K hK => ?_
      simp
      obtain ⟨o, ho, hs0⟩ := stream_ok (ns := ns) (k := i) hl (by omega)
      refine wCallO ?_
      simp
      refine ⟨o, ho, ?_⟩
      subst hK
      refine wq fun K hK => ?_
      try simp
      refine wCallI2 (by rfl) ?_
      try simp
      refine wCallI (by rfl) ?_
      try simp
      refine draw_ok hs0 (by omega) (by omega) (by omega) fun r1 s1 a1 a2 hs1 => ?_
      obtain ⟨n1, rfl⟩ := Int.eq_ofNat_of_zero_le a1
      try simp
      refine numbers_ok hs1 (by omega) (m := n1) (by omega) fun L s2 hL1 hL2 hs2 => ?_
      have hL3 : L.length < 20 := by omega
      try simp
      subst hK
      refine wq fun K hK => ?_
      try simp
      refine wCallI2 (by rfl) ?_
      try simp
      refine wCallI2 (by rfl) ?_
      try simp
      refine wCallI (by rfl) ?_
      try simp
      refine draw_ok hs2 (by omega) (by omega) (by omega) fun r2 s3 b1 b2 hs3 => ?_
      obtain ⟨n2, rfl⟩ := Int.eq_ofNat_of_zero_le b1
      try simp [sizeLine_eq]
      refine pick_ok hs3 (by omega) (by simp) (by simp) fun dk s4 hdk hs4 => ?_
      obtain ⟨m, rfl, hm⟩ : ∃ n : Nat, dk = .int (n : Int) ∧ n < 40 := by
        simp at hdk
        rcases hdk with e | e | e | e | e <;> subst e
        · exact ⟨0, rfl, by omega⟩
        · exact ⟨1, rfl, by omega⟩
        · exact ⟨L.length, rfl, by omega⟩
        · exact ⟨L.length + n2, by simp, by omega⟩
        · exact ⟨20, rfl, by omega⟩
      try simp
      refine numbers_ok hs4 (by omega) (m := m) (by omega) fun Kd s5 hK1 hK2 hs5 => ?_
      have hK3 : Kd.length < 40 := by omega
      have hLc : ∀ i, cf L i ≤ 9 := fun i => dig_le (cf_dig hL2 i)
      try simp
      subst hK
      refine wq fun K hK => ?_
      try simp
      refine wCall ?_
      try simp
      refine runDue_ok hLc (by omega) (by omega) fun dn => ?_
      try simp
      subst hK
      refine wq fun K hK => ?_
      try simp
      refine wCallI (by rfl) ?_
      try simp
      refine asList_ok hs5 (by omega) (by omega) fun d1 s6 q1 m1 hs6 => ?_
      try simp
      refine wCallI (by rfl) ?_
      try simp
      refine asList_ok hs6 (by omega) (by omega) fun d2 s7 q2 m2 hs7 => ?_
      try simp [sizeLine_eq]
      obtain ⟨tx, rp, rq⟩ := repr_ok q1 q2 m1 m2 hL2 hK2 (by omega) (by omega)
      subst hK
      have ew : wl (cf L) (cf Kd) Kd.length Kd.length = sl (cf L) (cf Kd) Kd.length Kd.length := by
        unfold wl sl
        refine List.map_congr_left fun b hb => ?_
        have hb : b < Kd.length := by simpa using hb
        rw [pw_eq (by omega)]
      have i1 : atI [d1, d2] 0 = some d1 := atI_of 0 rfl rfl
      have i2 : atI [d1, d2] 1 = some d2 := atI_of 1 rfl rfl
      obtain ⟨ea, eb, ec, es5⟩ : ∃ ea eb ec : Int, s7 = .lst [.int ea, .int eb, .int ec] := by
        obtain ⟨a, b, c, h0, _⟩ := hs7
        exact ⟨a, b, c, h0⟩
      have sevenLen : (sl (cf L) (cf Kd) Kd.length Kd.length).length < sizeLine := by rw [sizeLine_eq]; simp; omega
      have leftLen : ((zi (rg Kd.length fun t => lf (cf L) (cf Kd) (t + 1))).map D.int).length < sizeLine := by rw [sizeLine_eq]; simp; omega
      have dps : Dp 4 (.lst (sl (cf L) (cf Kd) Kd.length Kd.length)) := dp_stays (by omega) _
      have dpl : Dp 4 (il (zi (rg Kd.length fun t => lf (cf L) (cf Kd) (t + 1)))) := dp_lefts (by simp; omega)
      have lb : ∀ {P : OV → Prop}, P (.lst ((zi (rg Kd.length fun t => lf (cf L) (cf Kd) (t + 1))).map .int)) → ∃ o, FO_left_behind [d1, d2] = some o ∧ P o := fun p => leftBehindO q1 q2 (by omega) (by omega) p
      have wt : ∀ {P : OV → Prop}, P (.lst (sl (cf L) (cf Kd) Kd.length Kd.length)) → ∃ o, FO_waits [d1, d2] = some o ∧ P o := fun {P} p => waitsO q1 q2 (by omega) (by omega) (P := P) (by rw [ew]; exact p)
      have ll : ∀ {P : D → OV → Prop}, P (il (zi (rg Kd.length fun t => lf (cf L) (cf Kd) (t + 1)))) nil0 → OR (F__law_last_left [il (zi L), il (zi Kd)]) P := fun p => lastLeft_ok hLc (by omega) (by omega) p
      have lb2 : ∀ {P : D → OV → Prop}, P (il (zi (rg Kd.length fun t => lf (cf L) (cf Kd) (t + 1)))) nil0 → OR (F_left_behind [il (zi L), il (zi Kd)]) P := fun p => leftBehind_ok .l .l (by omega) (by omega) p
      have wt2 : ∀ {P : D → OV → Prop}, P (.lst (sl (cf L) (cf Kd) Kd.length Kd.length)) nil0 → OR (F_waits [il (zi L), il (zi Kd)]) P := fun {P} p => waits_ok .l .l (by omega) (by omega) (P := P) (by rw [ew]; exact p)
      have lb3 : ∀ {P : D → OV → Prop}, P (il (zi (hund (rg Kd.length fun t => lf (cf L) (cf Kd) (t + 1))))) nil0 → OR (F_left_behind [il (zi (hund L)), il (zi (hund Kd))]) P := fun {P} p => leftBehind_ok (L := hund L) (K := hund Kd) .l .l (by simp [hund]; omega) (by simp [hund]; omega) (P := P) (by rw [hund_rg]; exact p)
      generalize sl (cf L) (cf Kd) Kd.length Kd.length = SL at *
      refine wToldP ?_
      simp [rp]
      refine wCallO ?_
      simp [i1, i2]
      refine lb ?_
      refine ⟨_, rfl, ?_⟩
      refine wCallO ?_
      simp [i1, i2]
      refine wt ?_
      refine ⟨_, rfl, by rw [sizeLine_eq]; omega, sevenLen, ?_, ?_⟩
      · intro j m0 o0 hj
        have hm0 := List.mem_of_getElem? hj
        simp only [List.mem_cons, reduceCtorEq, false_or, or_false, List.not_mem_nil, SV.own.injEq] at hm0
        rcases hm0 with ⟨_, e0⟩ | e0 | e0
        · exact ⟨[ea, eb, ec], by rw [e0, es5]; rfl⟩
        · exact absurd e0.symm (h10 _ _)
        · exact absurd e0.symm (h11 _ _)
      refine wCall ?_
      simp [sizeLine_eq]
      refine sameTrue (dp_two dpl dps) ?_
      simp [rp, rq]
      refine wCall ?_
      try simp
      refine ll ?_
      rw [eqD_l]
      simp
      refine wq fun K hK => ?_
      simp
      refine wCall ?_
      simp
      refine wCall ?_
      simp
      refine lb2 ?_
      refine wCall ?_
      simp
      refine wt2 ?_
      simp [sizeLine_eq]
      refine sameTrue (dp_two dpl dps) ?_
      simp
      subst hK
      refine wq fun K hK => ?_
      simp
      rw [if_pos (by rfl)]
      refine wCompN D.int (fun (v : Int) => v * 100) (zi L) (by rw [sizeLine_eq]; simp; omega) (fun v hv => ?_) ?_
      · have := mul_r (i := v) (j := 100) (by omega) (by omega)
        simp [wipeE, back, this]
      rw [zi_hund]
      simp
      subst hK
      refine wq fun K hK => ?_
      simp
      refine wCall ?_
      simp
      refine wCall ?_
      simp
      rw [if_pos (by rfl)]
      refine wCompN D.int (fun (v : Int) => v * 100) (zi Kd) (by rw [sizeLine_eq]; simp; omega) (fun v hv => ?_) ?_
      · have := mul_r (i := v) (j := 100) (by omega) (by omega)
        simp [wipeE, back, this]
      rw [zi_hund]
      simp
      refine lb3 ?_
      try simp
      rw [if_pos (by rfl)]
      refine wCompN D.int (fun (v : Int) => v * 100) (zi (rg Kd.length fun t => lf (cf L) (cf Kd) (t + 1))) (by rw [sizeLine_eq]; simp; omega) (fun v hv => ?_) ?_
      · have := mul_r (i := v) (j := 100) (by omega) (by omega)
        simp [wipeE, back, this]
      rw [zi_hund]
      simp
      refine sameTrue (dp_lefts (by simp [hund]; omega)) ?_
      simp
      subst hK
      simp
      refine wCallI (by rfl) ?_
      try simp
      refine refused_ok hs7 (by omega) (by omega) (by omega) fun s8 hs8 => ?_
      try simp
      refine hKn _ ⟨_, _, _, _, _, _, _, _, _, _, _, rfl, (fun _ _ z => by cases z), (fun _ _ z => by cases z)⟩
    · intro e ⟨x1, x2, x3, x4, x5, x6, x7, x8, x9, x10, x11, he, h11, h10⟩
      subst he
      subst hKl
      simp
      have z0 : eqD false (.lst []) (.lst []) = some (.bl true) := eqD_l false [] []
      have z2 : eqD false (.lst [.int 0, .int 0]) (.lst [.int 0, .int 0]) = some (.bl true) := (eqD_l false [0, 0] [0, 0]).trans (by simp)
      have f1 : ∀ {P : D → OV → Prop}, P (.lst []) nil0 → OR (F_left_behind [.lst [], .lst []]) P := fun {P} p => leftBehind_ok (L := []) (K := []) (d1 := .lst []) (d2 := .lst []) .l .l (by simp) (by simp) (P := P) p
      have f2 : ∀ {P : D → OV → Prop}, P (.lst []) nil0 → OR (F_waits [.lst [.int 5], .lst []]) P := fun {P} p => waits_ok (L := [5]) (K := []) (d1 := .lst [.int 5]) (d2 := .lst []) .l .l (by simp) (by simp) (P := P) p
      have f3 : ∀ {P : D → OV → Prop}, P (.lst [.int 0, .int 0]) nil0 → OR (F_waits [.lst [], .lst [.int 0, .int 3]]) P := fun {P} p => waits_ok (L := []) (K := [0, 3]) (d1 := .lst []) (d2 := .lst [.int 0, .int 3]) .l .l (by simp) (by simp) (P := P) p
      refine wCall ?_
      simp
      refine f1 ?_
      simp [z0]
      refine wCall ?_
      simp [sizeLine_eq]
      refine f2 ?_
      simp [z0]
      refine wCall ?_
      simp [sizeLine_eq]
      refine f3 ?_
      simp [z2]
  obtain ⟨d, s, h, rfl⟩ := this.ex
  exact ⟨s, h⟩
end K46
set_option Elab.async false
set_option linter.all false
set_option maxRecDepth 100000
set_option maxHeartbeats 1000000
namespace K46
open PySem PySem.Spec L2 Ax
theorem bd__law_stream {K : PySem.W.Frag} {f : Addr} {d : FuncData} (F : Fun K "_law_stream" "_law_stream" s__law_stream f d) : Binds K d ["_law_script", "_law_k"] [] := F.binds (ps := ["_law_script", "_law_k"]) fun _ _ _ _ _ _ us hl => match us, hl with | [_, _], _ => rfl
theorem bd__law_draw {K : PySem.W.Frag} {f : Addr} {d : FuncData} (F : Fun K "_law_draw" "_law_draw" s__law_draw f d) : Binds K d ["_law_stream_here", "_law_many"] [] := F.binds (ps := ["_law_stream_here", "_law_many"]) fun _ _ _ _ _ _ us hl => match us, hl with | [_, _], _ => rfl
theorem bd__law_pick {K : PySem.W.Frag} {f : Addr} {d : FuncData} (F : Fun K "_law_pick" "_law_pick" s__law_pick f d) : Binds K d ["_law_stream_here", "_law_things"] [] := F.binds (ps := ["_law_stream_here", "_law_things"]) fun _ _ _ _ _ _ us hl => match us, hl with | [_, _], _ => rfl
theorem bd__law_numbers {K : PySem.W.Frag} {f : Addr} {d : FuncData} (F : Fun K "_law_numbers" "_law_numbers" s__law_numbers f d) : Binds K d ["_law_stream_here", "_law_many"] [] := F.binds (ps := ["_law_stream_here", "_law_many"]) fun _ _ _ _ _ _ us hl => match us, hl with | [_, _], _ => rfl
theorem bd__law_run_due {K : PySem.W.Frag} {f : Addr} {d : FuncData} (F : Fun K "_law_run_due" "_law_run_due" s__law_run_due f d) : Binds K d ["_law_load", "_law_doings"] [] := F.binds (ps := ["_law_load", "_law_doings"]) fun _ _ _ _ _ _ us hl => match us, hl with | [_, _], _ => rfl
theorem bd__law_as_lists {K : PySem.W.Frag} {f : Addr} {d : FuncData} (F : Fun K "_law_as_lists" "_law_as_lists" s__law_as_lists f d) : Binds K d ["_law_stream_here", "_law_thing"] [] := F.binds (ps := ["_law_stream_here", "_law_thing"]) fun _ _ _ _ _ _ us hl => match us, hl with | [_, _], _ => rfl
theorem bd__law_same {K : PySem.W.Frag} {f : Addr} {d : FuncData} (F : Fun K "_law_same" "_law_same" s__law_same f d) : Binds K d ["_law_found", "_law_due"] [] := F.binds (ps := ["_law_found", "_law_due"]) fun _ _ _ _ _ _ us hl => match us, hl with | [_, _], _ => rfl
theorem bd_is_whole {K : PySem.W.Frag} {f : Addr} {d : FuncData} (F : Fun K "is_whole" "is_whole" s_is_whole f d) : Binds K d ["thing"] [] := F.binds (ps := ["thing"]) fun _ _ _ _ _ _ us hl => match us, hl with | [_], _ => rfl
theorem bd_is_number {K : PySem.W.Frag} {f : Addr} {d : FuncData} (F : Fun K "is_number" "is_number" s_is_number f d) : Binds K d ["thing"] [] := F.binds (ps := ["thing"]) fun _ _ _ _ _ _ us hl => match us, hl with | [_], _ => rfl
theorem bd__law_met {K : PySem.W.Frag} {f : Addr} {d : FuncData} (F : Fun K "_law_met" "_law_met" s__law_met f d) : Binds K d ["_law_ask"] [] := F.binds (ps := ["_law_ask"]) fun _ _ _ _ _ _ us hl => match us, hl with | [_], _ => rfl
theorem bd_lefts_of {K : PySem.W.Frag} {f : Addr} {d : FuncData} (F : Fun K "lefts_of" "lefts_of" s_lefts_of f d) : Binds K d ["comes", "known"] [] := F.binds (ps := ["comes", "known"]) fun _ _ _ _ _ _ us hl => match us, hl with | [_, _], _ => rfl
theorem bd_is_list {K : PySem.W.Frag} {f : Addr} {d : FuncData} (F : Fun K "is_list" "is_list" s_is_list f d) : Binds K d ["thing"] [] := F.binds (ps := ["thing"]) fun _ _ _ _ _ _ us hl => match us, hl with | [_], _ => rfl
theorem bd_first_odd {K : PySem.W.Frag} {f : Addr} {d : FuncData} (F : Fun K "first_odd" "first_odd" s_first_odd f d) : Binds K d ["things", "is_right"] [] := F.binds (ps := ["things", "is_right"]) fun _ _ _ _ _ _ us hl => match us, hl with | [_, _], _ => rfl
theorem bd_checked_load {K : PySem.W.Frag} {f : Addr} {d : FuncData} (F : Fun K "checked_load" "checked_load" s_checked_load f d) : Binds K d ["load"] [] := F.binds (ps := ["load"]) fun _ _ _ _ _ _ us hl => match us, hl with | [_], _ => rfl
theorem bd_checked_doings {K : PySem.W.Frag} {f : Addr} {d : FuncData} (F : Fun K "checked_doings" "checked_doings" s_checked_doings f d) : Binds K d ["doings"] [] := F.binds (ps := ["doings"]) fun _ _ _ _ _ _ us hl => match us, hl with | [_], _ => rfl
theorem bd_spread {K : PySem.W.Frag} {f : Addr} {d : FuncData} (F : Fun K "spread" "spread" s_spread f d) : Binds K d ["load", "many"] [] := F.binds (ps := ["load", "many"]) fun _ _ _ _ _ _ us hl => match us, hl with | [_, _], _ => rfl
theorem bd_left_behind {K : PySem.W.Frag} {f : Addr} {d : FuncData} (F : Fun K "left_behind" "left_behind" s_left_behind f d) : Binds K d ["load", "doings"] [] := F.binds (ps := ["load", "doings"]) fun _ _ _ _ _ _ us hl => match us, hl with | [_, _], _ => rfl
theorem bd_waits_by {K : PySem.W.Frag} {f : Addr} {d : FuncData} (F : Fun K "waits_by" "waits_by" s_waits_by f d) : Binds K d ["comes", "lefts"] [] := F.binds (ps := ["comes", "lefts"]) fun _ _ _ _ _ _ us hl => match us, hl with | [_, _], _ => rfl
theorem bd_waits {K : PySem.W.Frag} {f : Addr} {d : FuncData} (F : Fun K "waits" "waits" s_waits f d) : Binds K d ["load", "doings"] [] := F.binds (ps := ["load", "doings"]) fun _ _ _ _ _ _ us hl => match us, hl with | [_, _], _ => rfl
theorem bd__law_refused_right {K : PySem.W.Frag} {f : Addr} {d : FuncData} (F : Fun K "_law_refused_right" "_law_refused_right" s__law_refused_right f d) : Binds K d ["_law_stream_here", "_law_load", "_law_doings"] [] := F.binds (ps := ["_law_stream_here", "_law_load", "_law_doings"]) fun _ _ _ _ _ _ us hl => match us, hl with | [_, _, _], _ => rfl
theorem bd__law_last_left {K : PySem.W.Frag} {f : Addr} {d : FuncData} (F : Fun K "_law_last_left" "_law_last_left" s__law_last_left f d) : Binds K d ["_law_load", "_law_doings"] [] := F.binds (ps := ["_law_load", "_law_doings"]) fun _ _ _ _ _ _ us hl => match us, hl with | [_, _], _ => rfl
theorem bd_law {K : PySem.W.Frag} {f : Addr} {d : FuncData} (F : Fun K "law" "law" s_law f d) : Binds K d ["_law_script"] [] := F.binds (ps := ["_law_script"]) fun _ _ _ _ _ _ us hl => match us, hl with | [_], _ => rfl
abbrev se_BadLoad : Stmt := inClass (topS 2) 0
theorem sh_BadLoad : AxE.ShapeE se_BadLoad "index" "index" := ⟨⟨_, _, _, _, _, _, _, _, _, _, rfl, fun env => ⟨_, rfl⟩⟩, ⟨_, rfl, rfl⟩, rfl, rfl, rfl, rfl, rfl, rfl, rfl, by decide +kernel, fun _ _ _ _ _ _ _ _ _ _ => rfl⟩
abbrev se_BadDoings : Stmt := inClass (topS 3) 0
theorem sh_BadDoings : AxE.ShapeE se_BadDoings "index" "index" := ⟨⟨_, _, _, _, _, _, _, _, _, _, rfl, fun env => ⟨_, rfl⟩⟩, ⟨_, rfl, rfl⟩, rfl, rfl, rfl, rfl, rfl, rfl, rfl, by decide +kernel, fun _ _ _ _ _ _ _ _ _ _ => rfl⟩
theorem xm_all {K : PySem.W.Frag} {A : Adr} (h0_0 : PySem.W.exmOne K (.ref A.c_BadLoad) (.ref A.c_BadLoad) = some true) (h0_1 : PySem.W.exmOne K (.ref A.c_BadLoad) (.ref A.c_BadDoings) = some false) (h1_0 : PySem.W.exmOne K (.ref A.c_BadDoings) (.ref A.c_BadLoad) = some false) (h1_1 : PySem.W.exmOne K (.ref A.c_BadDoings) (.ref A.c_BadDoings) = some true) : ∀ c ∈ ([100, 101] : List Nat), ∀ c2 ∈ ([100, 101] : List Nat), PySem.W.exmOne K (.ref ((gw K A).cls c)) (.ref ((gw K A).cls c2)) = some (c == c2) := by
  intro c hc c2 h2
  simp only [List.mem_cons, List.not_mem_nil, or_false] at hc h2
  rcases hc with rfl | rfl <;> rcases h2 with rfl | rfl
  · exact h0_0
  · exact h0_1
  · exact h1_0
  · exact h1_1
theorem fa_all {K : PySem.W.Frag} {A : Adr} (h0 : FnAt K A.f_is_number) (h1 : FnAt K A.f__law_draw) (h2 : FnAt K A.f_left_behind) (h3 : FnAt K A.f_waits) : ∀ i, (gw K A).kf i → FnAt K ((gw K A).fns i) := by
  intro i hi
  replace hi : i ∈ ([0, 1, 2, 3] : List Nat) := hi
  simp only [List.mem_cons, List.not_mem_nil, or_false] at hi
  rcases hi with rfl | rfl | rfl | rfl
  · exact h0
  · exact h1
  · exact h2
  · exact h3
/-! ### the law -/
end K46
open PySem PySem.W PyProof.Rows
set_option maxRecDepth 100000 in
set_option maxHeartbeats 0 in
theorem PySem.Challenge.cw_anyload_k46_whole_left_and_waited_holds : PySem.Challenge.rw_anyload_k46_whole_left_and_waited.Holds := by
  w_on; o_law; k_head; (case hw => w_witness2)
  k_fill
  refine Ax.walk_tabsG (law := PySem.Challenge.rw_anyload_k46_whole_left_and_waited) (most := 63) (lv := 11) (par := "_law_script") (K := _) (CX := fun w => L2.CX PySem.Challenge.rw_anyload_k46_whole_left_and_waited.prog w) rfl (by decide) rfl ⟨rfl, by decide, by decide⟩ (fun w h Y => PySem.W.km_in_of Y) ?F (fun w H s e s' hq => ?hCX)
  case hCX =>
    obtain ⟨_, _, _, _, _, _, _, _, _, _, _, _, z⟩ := hq
    exact z
  case F =>
    intro w mg fa h Y KX G hmg own
    letI : Ax.TabC := Ax.TabC.mk [] (fun _ => none) none (fun _ => none)
    have H__law_stream := by refine' Ax.def_fact "_law_stream" K46.s__law_stream KX G ?a ?l ?c ?k; (case a => k_is); (case l => k_is); (case c => k_is); (case k => k_is)
    have H__law_draw := by refine' Ax.def_factF "_law_draw" K46.s__law_draw KX G ?a ?l ?c ?k ?t; (case a => k_is); (case l => k_is); (case c => k_is); (case k => k_is); (case t => rfl)
    have H__law_pick := by refine' Ax.def_fact "_law_pick" K46.s__law_pick KX G ?a ?l ?c ?k; (case a => k_is); (case l => k_is); (case c => k_is); (case k => k_is)
    have H__law_numbers := by refine' Ax.def_fact "_law_numbers" K46.s__law_numbers KX G ?a ?l ?c ?k; (case a => k_is); (case l => k_is); (case c => k_is); (case k => k_is)
    have H__law_run_due := by refine' Ax.def_fact "_law_run_due" K46.s__law_run_due KX G ?a ?l ?c ?k; (case a => k_is); (case l => k_is); (case c => k_is); (case k => k_is)
    have H__law_as_lists := by refine' Ax.def_fact "_law_as_lists" K46.s__law_as_lists KX G ?a ?l ?c ?k; (case a => k_is); (case l => k_is); (case c => k_is); (case k => k_is)
    have H__law_same := by refine' Ax.def_fact "_law_same" K46.s__law_same KX G ?a ?l ?c ?k; (case a => k_is); (case l => k_is); (case c => k_is); (case k => k_is)
    have H_is_whole := by refine' Ax.def_fact "is_whole" K46.s_is_whole KX G ?a ?l ?c ?k; (case a => k_is); (case l => k_is); (case c => k_is); (case k => k_is)
    have H_is_number := by refine' Ax.def_factF "is_number" K46.s_is_number KX G ?a ?l ?c ?k ?t; (case a => k_is); (case l => k_is); (case c => k_is); (case k => k_is); (case t => rfl)
    have H__law_met := by refine' Ax.def_fact "_law_met" K46.s__law_met KX G ?a ?l ?c ?k; (case a => k_is); (case l => k_is); (case c => k_is); (case k => k_is)
    have H_lefts_of := by refine' Ax.def_fact "lefts_of" K46.s_lefts_of KX G ?a ?l ?c ?k; (case a => k_is); (case l => k_is); (case c => k_is); (case k => k_is)
    have H_is_list := by refine' Ax.def_fact "is_list" K46.s_is_list KX G ?a ?l ?c ?k; (case a => k_is); (case l => k_is); (case c => k_is); (case k => k_is)
    have H_first_odd := by refine' Ax.def_fact "first_odd" K46.s_first_odd KX G ?a ?l ?c ?k; (case a => k_is); (case l => k_is); (case c => k_is); (case k => k_is)
    have H_checked_load := by refine' Ax.def_fact "checked_load" K46.s_checked_load KX G ?a ?l ?c ?k; (case a => k_is); (case l => k_is); (case c => k_is); (case k => k_is)
    have H_checked_doings := by refine' Ax.def_fact "checked_doings" K46.s_checked_doings KX G ?a ?l ?c ?k; (case a => k_is); (case l => k_is); (case c => k_is); (case k => k_is)
    have H_spread := by refine' Ax.def_fact "spread" K46.s_spread KX G ?a ?l ?c ?k; (case a => k_is); (case l => k_is); (case c => k_is); (case k => k_is)
    have H_left_behind := by refine' Ax.def_factF "left_behind" K46.s_left_behind KX G ?a ?l ?c ?k ?t; (case a => k_is); (case l => k_is); (case c => k_is); (case k => k_is); (case t => rfl)
    have H_waits_by := by refine' Ax.def_fact "waits_by" K46.s_waits_by KX G ?a ?l ?c ?k; (case a => k_is); (case l => k_is); (case c => k_is); (case k => k_is)
    have H_waits := by refine' Ax.def_factF "waits" K46.s_waits KX G ?a ?l ?c ?k ?t; (case a => k_is); (case l => k_is); (case c => k_is); (case k => k_is); (case t => rfl)
    have H__law_refused_right := by refine' Ax.lam_at "_law_refused_right" K46.s__law_refused_right KX G ?xa ?xl ?xc ?xk ?xlc ?xp ?xhd ?xnp; (case xa => first | k_is | rfl | decide +kernel); (case xl => first | k_is | rfl | decide +kernel); (case xc => first | k_is | rfl | decide +kernel); (case xk => first | k_is | rfl | decide +kernel); (case xlc => first | k_is | rfl | decide +kernel); (case xp => first | k_is | rfl | decide +kernel); (case xhd => first | k_is | rfl | decide +kernel); (case xnp => first | k_is | rfl | decide +kernel)
    have H__law_last_left := by refine' Ax.def_fact "_law_last_left" K46.s__law_last_left KX G ?a ?l ?c ?k; (case a => k_is); (case l => k_is); (case c => k_is); (case k => k_is)
    have H_law := by refine' Ax.def_fact "law" K46.s_law KX G ?a ?l ?c ?k; (case a => k_is); (case l => k_is); (case c => k_is); (case k => k_is)
    have H_BadLoad := by refine' AxE.bad_fact "BadLoad" "index" "index" K46.se_BadLoad PySem.Challenge.rw_anyload_k46_whole_left_and_waited.prog.main.file K46.sh_BadLoad KX G ?y_aC ?y_lC ?y_rf ?y_sa ?y_ex ?y_ty ?y_kC ?y_ini ?y_typ ?y_no ?y_sup ?y_sVE ?y_own ?y_xin ?y_opq ?y_lI ?y_cod ?y_lcd ?y_file ?y_lcc ?y_ga ?y_gg ?y_hd; (case y_aC => first | k_is | rfl | decide +kernel); (case y_lC => first | k_is | rfl | decide +kernel); (case y_rf => first | k_is | rfl | decide +kernel); (case y_sa => first | k_is | rfl | decide +kernel); (case y_ex => first | k_is | rfl | decide +kernel); (case y_ty => first | k_is | rfl | decide +kernel); (case y_kC => first | k_is | rfl | decide +kernel); (case y_ini => first | k_is | rfl | decide +kernel); (case y_typ => first | k_is | rfl | decide +kernel); (case y_no => first | k_is | rfl | decide +kernel); (case y_sup => first | k_is | rfl | decide +kernel); (case y_sVE => first | k_is | rfl | decide +kernel); (case y_own => first | k_is | rfl | decide +kernel); (case y_xin => first | k_is | rfl | decide +kernel); (case y_opq => first | k_is | rfl | decide +kernel); (case y_lI => first | k_is | rfl | decide +kernel); (case y_cod => first | k_is | rfl | decide +kernel); (case y_lcd => first | k_is | rfl | decide +kernel); (case y_file => first | k_is | rfl | decide +kernel); (case y_lcc => first | k_is | rfl | decide +kernel); (case y_ga => first | k_is | rfl | decide +kernel); (case y_gg => first | k_is | rfl | decide +kernel); (case y_hd => first | k_is | rfl | decide +kernel)
    have H_BadDoings := by refine' AxE.bad_fact "BadDoings" "index" "index" K46.se_BadDoings PySem.Challenge.rw_anyload_k46_whole_left_and_waited.prog.main.file K46.sh_BadDoings KX G ?y_aC ?y_lC ?y_rf ?y_sa ?y_ex ?y_ty ?y_kC ?y_ini ?y_typ ?y_no ?y_sup ?y_sVE ?y_own ?y_xin ?y_opq ?y_lI ?y_cod ?y_lcd ?y_file ?y_lcc ?y_ga ?y_gg ?y_hd; (case y_aC => first | k_is | rfl | decide +kernel); (case y_lC => first | k_is | rfl | decide +kernel); (case y_rf => first | k_is | rfl | decide +kernel); (case y_sa => first | k_is | rfl | decide +kernel); (case y_ex => first | k_is | rfl | decide +kernel); (case y_ty => first | k_is | rfl | decide +kernel); (case y_kC => first | k_is | rfl | decide +kernel); (case y_ini => first | k_is | rfl | decide +kernel); (case y_typ => first | k_is | rfl | decide +kernel); (case y_no => first | k_is | rfl | decide +kernel); (case y_sup => first | k_is | rfl | decide +kernel); (case y_sVE => first | k_is | rfl | decide +kernel); (case y_own => first | k_is | rfl | decide +kernel); (case y_xin => first | k_is | rfl | decide +kernel); (case y_opq => first | k_is | rfl | decide +kernel); (case y_lI => first | k_is | rfl | decide +kernel); (case y_cod => first | k_is | rfl | decide +kernel); (case y_lcd => first | k_is | rfl | decide +kernel); (case y_file => first | k_is | rfl | decide +kernel); (case y_lcc => first | k_is | rfl | decide +kernel); (case y_ga => first | k_is | rfl | decide +kernel); (case y_gg => first | k_is | rfl | decide +kernel); (case y_hd => first | k_is | rfl | decide +kernel)
    have XM_BadLoad_BadLoad := by refine' AxE.xm_of (b := true) KX H_BadLoad.2.1 H_BadLoad.2.1 ?x1 ?x2 ?x3 ?x4; (case x1 => k_is); (case x2 => first | k_is | rfl | decide +kernel); (case x3 => k_is); (case x4 => k_is)
    have XM_BadLoad_BadDoings := by refine' AxE.xm_of (b := false) KX H_BadLoad.2.1 H_BadDoings.2.1 ?x1 ?x2 ?x3 ?x4; (case x1 => k_is); (case x2 => first | k_is | rfl | decide +kernel); (case x3 => k_is); (case x4 => k_is)
    have XM_BadDoings_BadLoad := by refine' AxE.xm_of (b := false) KX H_BadDoings.2.1 H_BadLoad.2.1 ?x1 ?x2 ?x3 ?x4; (case x1 => k_is); (case x2 => first | k_is | rfl | decide +kernel); (case x3 => k_is); (case x4 => k_is)
    have XM_BadDoings_BadDoings := by refine' AxE.xm_of (b := true) KX H_BadDoings.2.1 H_BadDoings.2.1 ?x1 ?x2 ?x3 ?x4; (case x1 => k_is); (case x2 => first | k_is | rfl | decide +kernel); (case x3 => k_is); (case x4 => k_is)
    have N_super := PySem.W.mg_none_of (n := "super") KX G (by k_is)
    have N_abs := PySem.W.mg_none_of (n := "abs") KX G (by k_is)
    have N_all := PySem.W.mg_none_of (n := "all") KX G (by k_is)
    have N_bool := PySem.W.mg_none_of (n := "bool") KX G (by k_is)
    have N_dict := PySem.W.mg_none_of (n := "dict") KX G (by k_is)
    have N_enumerate := PySem.W.mg_none_of (n := "enumerate") KX G (by k_is)
    have N_int := PySem.W.mg_none_of (n := "int") KX G (by k_is)
    have N_isinstance := PySem.W.mg_none_of (n := "isinstance") KX G (by k_is)
    have N_len := PySem.W.mg_none_of (n := "len") KX G (by k_is)
    have N_list := PySem.W.mg_none_of (n := "list") KX G (by k_is)
    have N_max := PySem.W.mg_none_of (n := "max") KX G (by k_is)
    have N_min := PySem.W.mg_none_of (n := "min") KX G (by k_is)
    have N_range := PySem.W.mg_none_of (n := "range") KX G (by k_is)
    have N_repr := PySem.W.mg_none_of (n := "repr") KX G (by k_is)
    have N_sum := PySem.W.mg_none_of (n := "sum") KX G (by k_is)
    have N_tuple := PySem.W.mg_none_of (n := "tuple") KX G (by k_is)
    have N_zip := PySem.W.mg_none_of (n := "zip") KX G (by k_is)
    obtain ⟨f__law_stream, d__law_stream, F__law_stream, g__law_stream⟩ := H__law_stream
    obtain ⟨f__law_draw, d__law_draw, F__law_draw, g__law_draw, fa__law_draw⟩ := H__law_draw
    obtain ⟨f__law_pick, d__law_pick, F__law_pick, g__law_pick⟩ := H__law_pick
    obtain ⟨f__law_numbers, d__law_numbers, F__law_numbers, g__law_numbers⟩ := H__law_numbers
    obtain ⟨f__law_run_due, d__law_run_due, F__law_run_due, g__law_run_due⟩ := H__law_run_due
    obtain ⟨f__law_as_lists, d__law_as_lists, F__law_as_lists, g__law_as_lists⟩ := H__law_as_lists
    obtain ⟨f__law_same, d__law_same, F__law_same, g__law_same⟩ := H__law_same
    obtain ⟨f_is_whole, d_is_whole, F_is_whole, g_is_whole⟩ := H_is_whole
    obtain ⟨f_is_number, d_is_number, F_is_number, g_is_number, fa_is_number⟩ := H_is_number
    obtain ⟨f__law_met, d__law_met, F__law_met, g__law_met⟩ := H__law_met
    obtain ⟨f_lefts_of, d_lefts_of, F_lefts_of, g_lefts_of⟩ := H_lefts_of
    obtain ⟨f_is_list, d_is_list, F_is_list, g_is_list⟩ := H_is_list
    obtain ⟨f_first_odd, d_first_odd, F_first_odd, g_first_odd⟩ := H_first_odd
    obtain ⟨f_checked_load, d_checked_load, F_checked_load, g_checked_load⟩ := H_checked_load
    obtain ⟨f_checked_doings, d_checked_doings, F_checked_doings, g_checked_doings⟩ := H_checked_doings
    obtain ⟨f_spread, d_spread, F_spread, g_spread⟩ := H_spread
    obtain ⟨f_left_behind, d_left_behind, F_left_behind, g_left_behind, fa_left_behind⟩ := H_left_behind
    obtain ⟨f_waits_by, d_waits_by, F_waits_by, g_waits_by⟩ := H_waits_by
    obtain ⟨f_waits, d_waits, F_waits, g_waits, fa_waits⟩ := H_waits
    obtain ⟨f__law_refused_right, d__law_refused_right, cc__law_refused_right, FC__law_refused_right, g__law_refused_right, hd__law_refused_right, tab__law_refused_right⟩ := H__law_refused_right.ex
    have F__law_refused_right := FC__law_refused_right.fn
    obtain ⟨f__law_last_left, d__law_last_left, F__law_last_left, g__law_last_left⟩ := H__law_last_left
    obtain ⟨f_law, d_law, F_law, g_law⟩ := H_law
    let A : K46.Adr := { f__law_stream := f__law_stream, d__law_stream := d__law_stream, f__law_draw := f__law_draw, d__law_draw := d__law_draw, f__law_pick := f__law_pick, d__law_pick := d__law_pick, f__law_numbers := f__law_numbers, d__law_numbers := d__law_numbers, f__law_run_due := f__law_run_due, d__law_run_due := d__law_run_due, f__law_as_lists := f__law_as_lists, d__law_as_lists := d__law_as_lists, f__law_same := f__law_same, d__law_same := d__law_same, f_is_whole := f_is_whole, d_is_whole := d_is_whole, f_is_number := f_is_number, d_is_number := d_is_number, f__law_met := f__law_met, d__law_met := d__law_met, f_lefts_of := f_lefts_of, d_lefts_of := d_lefts_of, f_is_list := f_is_list, d_is_list := d_is_list, f_first_odd := f_first_odd, d_first_odd := d_first_odd, f_checked_load := f_checked_load, d_checked_load := d_checked_load, f_checked_doings := f_checked_doings, d_checked_doings := d_checked_doings, f_spread := f_spread, d_spread := d_spread, f_left_behind := f_left_behind, d_left_behind := d_left_behind, f_waits_by := f_waits_by, d_waits_by := d_waits_by, f_waits := f_waits, d_waits := d_waits, f__law_refused_right := f__law_refused_right, d__law_refused_right := d__law_refused_right, f__law_last_left := f__law_last_left, d__law_last_left := d__law_last_left, f_law := f_law, d_law := d_law, c_BadLoad := AxE.cOf H_BadLoad.1, i_BadLoad := AxE.iOf H_BadLoad.1, c_BadDoings := AxE.cOf H_BadDoings.1, i_BadDoings := AxE.iOf H_BadDoings.1, cc__law_refused_right := cc__law_refused_right, ct__law_refused_right := Ax.pAt H__law_refused_right }
    have T : K46.Txt PySem.Challenge.rw_anyload_k46_whole_left_and_waited.prog _ mg A := { F__law_stream := F__law_stream, b__law_stream := K46.bd__law_stream F__law_stream, g__law_stream := g__law_stream, F__law_draw := F__law_draw, b__law_draw := K46.bd__law_draw F__law_draw, g__law_draw := g__law_draw, F__law_pick := F__law_pick, b__law_pick := K46.bd__law_pick F__law_pick, g__law_pick := g__law_pick, F__law_numbers := F__law_numbers, b__law_numbers := K46.bd__law_numbers F__law_numbers, g__law_numbers := g__law_numbers, F__law_run_due := F__law_run_due, b__law_run_due := K46.bd__law_run_due F__law_run_due, g__law_run_due := g__law_run_due, F__law_as_lists := F__law_as_lists, b__law_as_lists := K46.bd__law_as_lists F__law_as_lists, g__law_as_lists := g__law_as_lists, F__law_same := F__law_same, b__law_same := K46.bd__law_same F__law_same, g__law_same := g__law_same, F_is_whole := F_is_whole, b_is_whole := K46.bd_is_whole F_is_whole, g_is_whole := g_is_whole, F_is_number := F_is_number, b_is_number := K46.bd_is_number F_is_number, g_is_number := g_is_number, F__law_met := F__law_met, b__law_met := K46.bd__law_met F__law_met, g__law_met := g__law_met, F_lefts_of := F_lefts_of, b_lefts_of := K46.bd_lefts_of F_lefts_of, g_lefts_of := g_lefts_of, F_is_list := F_is_list, b_is_list := K46.bd_is_list F_is_list, g_is_list := g_is_list, F_first_odd := F_first_odd, b_first_odd := K46.bd_first_odd F_first_odd, g_first_odd := g_first_odd, F_checked_load := F_checked_load, b_checked_load := K46.bd_checked_load F_checked_load, g_checked_load := g_checked_load, F_checked_doings := F_checked_doings, b_checked_doings := K46.bd_checked_doings F_checked_doings, g_checked_doings := g_checked_doings, F_spread := F_spread, b_spread := K46.bd_spread F_spread, g_spread := g_spread, F_left_behind := F_left_behind, b_left_behind := K46.bd_left_behind F_left_behind, g_left_behind := g_left_behind, F_waits_by := F_waits_by, b_waits_by := K46.bd_waits_by F_waits_by, g_waits_by := g_waits_by, F_waits := F_waits, b_waits := K46.bd_waits F_waits, g_waits := g_waits, F__law_refused_right := F__law_refused_right, b__law_refused_right := K46.bd__law_refused_right F__law_refused_right, g__law_refused_right := g__law_refused_right, F__law_last_left := F__law_last_left, b__law_last_left := K46.bd__law_last_left F__law_last_left, g__law_last_left := g__law_last_left, F_law := F_law, b_law := K46.bd_law F_law, g_law := g_law, n_abs := N_abs, n_all := N_all, n_bool := N_bool, n_dict := N_dict, n_enumerate := N_enumerate, n_int := N_int, n_isinstance := N_isinstance, n_len := N_len, n_list := N_list, n_max := N_max, n_min := N_min, n_range := N_range, n_repr := N_repr, n_sum := N_sum, n_tuple := N_tuple, n_zip := N_zip, kit := Ax.kit_none (fun c h => (nomatch (show c ∈ ([] : List Nat) from h))) (K46.fa_all fa_is_number fa__law_draw fa_left_behind fa_waits), e_BadLoad := H_BadLoad.1, g_BadLoad := H_BadLoad.2.1, x_BadLoad := H_BadLoad.2.2, e_BadDoings := H_BadDoings.1, g_BadDoings := H_BadDoings.2.1, x_BadDoings := H_BadDoings.2.2, n_super := N_super, htop := by first | rfl | decide +kernel, xm := K46.xm_all XM_BadLoad_BadLoad XM_BadLoad_BadDoings XM_BadDoings_BadLoad XM_BadDoings_BadDoings, FC__law_refused_right := FC__law_refused_right }
    have e : f_law = fa := by
      have z := g_law.symm.trans hmg
      cases z
      rfl
    subst e
    refine Ax.law_atG (fd := d_law) [(cc__law_refused_right, Ax.pAt H__law_refused_right, "_law_refused_right")] (by show List.Nodup [Ax.pAt H__law_refused_right]; (try dsimp only [Ax.pAt]); first | decide | decide +kernel | simp) (Ax.all_cons (tab__law_refused_right (own "_law_refused_right" _ (by first | rfl | decide +kernel) g__law_refused_right)) (Ax.all_nil)) (Ax.all_cons H__law_refused_right.np (Ax.all_nil)) (Ax.all_cons hd__law_refused_right (Ax.all_nil)) (fun s v => ?_) fun base O => ?_
    · obtain ⟨_, _, _, _, _, _, _, _, _, hfd, _, _⟩ := F_law.ex
      rw [hfd]
      exact .of_eq rfl
    · letI : Ax.TabC := Ax.tabC [(cc__law_refused_right, Ax.pAt H__law_refused_right, "_law_refused_right")]
      exact Ax.ok_lawG (fun _ => rfl) rfl rfl (K46.ok_law T O ⟨fun _ => rfl, fun _ => rfl⟩) K46.law_true
