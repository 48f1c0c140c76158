import PyProof.Rows.All
import Wide.All
import OpenK.AllK
import Wide.FinOn
import HandS.ForMost
import HandS.ForExc
import HandS.Walk
import HandS.Deep
import HandS.CallSlots
import HandS.AnyAll
import HandS.TupAny
import HandS.Text
import PyProof.StrOps2
import HandS.GenOver
import PyProof.GenRules
import PyProof.GenQ
import HandS.EndTab
import HandS.IsInst
import HandS.HeadHook4
import HandS.HeadWalk
import HandS.Head2
import HandS.Style
import PySem.Challenge.RW_sameterms_k00_names_and_tokens
set_option Elab.async false
set_option linter.all false
set_option maxRecDepth 100000
set_option maxHeartbeats 0
/-! FP: Python code as pure functions on environments; A: values, environments, judgements. -/
namespace FP
open PySem L2 PySem.Spec PyProof.Rows

abbrev D := PyData
abbrev St := L2.St

/-- what an expression gives: a value, an exception (class, fields), or nothing is said -/
inductive R (α : Type) where
  | ok (a : α)
  | ex (c : Str) (as : List (Str × D))
  | no
def R.bnd {α β : Type} (r : R α) (k : α → R β) : R β :=
  match r with
  | .ok a => k a
  | .ex c as => .ex c as
  | .no => .no

/-- the content of a thing of one's own -/
inductive Own where
  | lst (l : List D)
/-- a slot of a frame -/
inductive Sl where
  | no
  | vl (d : D)
  | ow (o : Own)
abbrev Env := List Sl

section
variable (K : PySem.W.Frag)
def OwnOk (b h : Hp) (a : Addr) : Own → Prop
  | .lst l => ∃ vs, h a = some (.lst vs) ∧ DpAll K b vs l
def SlOk (h0 b h : Hp) (v : Option V) : Sl → Prop
  | .no => True
  | .vl d => ∃ u, v = some u ∧ Dp K b u d
  | .ow o => ∃ a, v = some (.ref a) ∧ OwnOk K b h a o ∧ b a = none ∧ h0 a = none
end

/-- what stands is kept, but for tables, which grow -/
structure Up (h h' : Hp) : Prop where
  st : ∀ a o, h a = some o → (∀ ps, o ≠ .tbl ps) → h' a = some o
  tb : ∀ a ps, h a = some (.tbl ps) → ∃ ps', h' a = some (.tbl ps') ∧ (TriplesOk ps.toList → TriplesOk ps'.toList)
theorem Up.refl (h : Hp) : Up h h := ⟨fun _ _ e _ => e, fun _ _ e => ⟨_, e, fun z => z⟩⟩
theorem Up.trans {h h1 h2 : Hp} (x : Up h h1) (y : Up h1 h2) : Up h h2 := ⟨fun a o e n => y.st a o (x.st a o e n) n, fun a ps e => by
  obtain ⟨p1, e1, z1⟩ := x.tb a ps e
  obtain ⟨p2, e2, z2⟩ := y.tb a p1 e1
  exact ⟨p2, e2, fun z => z2 (z1 z)⟩⟩
theorem Up.of {h h' : Hp} (s : Same h h') : Up h h' := ⟨fun a o e _ => s a o e, fun a ps e => ⟨ps, s a _ e, fun z => z⟩⟩
theorem Up.there {h h' : Hp} (x : Up h h') {a : Addr} {o : HO} (e : h a = some o) : ∃ o', h' a = some o' := by
  cases o with
  | tbl ps => obtain ⟨q, e2, _⟩ := x.tb a ps e; exact ⟨_, e2⟩
  | _ => exact ⟨_, x.st a _ e (fun _ z => by cases z)⟩
theorem Up.free {h h' : Hp} (x : Up h h') {a : Addr} (e : h' a = none) : h a = none := by
  cases q : h a with
  | none => rfl
  | some o => obtain ⟨o', z⟩ := x.there q; rw [e] at z; cases z

theorem Same.sqT {K : PySem.W.Frag} {H H' : Hp} {a : Addr} {xs : List V} (e : Same H H') (h : SqT K H a xs) : SqT K H' a xs := by
  rcases h with (h | ⟨o, h⟩) | h
  · exact .inl (.inl (e _ _ h))
  · exact .inl (.inr ⟨o, e _ _ h⟩)
  · exact .inr h
mutual
theorem dp_mono {K : PySem.W.Frag} {b b' : Hp} (s : Same b b') : ∀ {d : D} {v : V}, Dp K b v d → Dp K b' v d
  | .none, _, h => by cases h; exact .non
  | .bool _, _, h => by cases h; exact .bl _
  | .int _, _, h => by cases h; exact .int _
  | .str _, _, h => by cases h; exact .str _
  | .list _, _, h => by cases h with | lst q r => exact .lst (s.seq q) (dpAll_mono s r)
  | .tuple _, _, h => by cases h with | tup q r => exact .tup (Same.sqT s q) (dpAll_mono s r)
  | .dict _, _, h => by cases h
theorem dpAll_mono {K : PySem.W.Frag} {b b' : Hp} (s : Same b b') : ∀ {ds : List D} {vs : List V}, DpAll K b vs ds → DpAll K b' vs ds
  | [], _, h => by cases h; exact .nil
  | _ :: _, _, h => by cases h with | cons q r => exact .cons (dp_mono s q) (dpAll_mono s r)
end

/-- (b, h) grows to (b', h'): b is what is never changed, h all that is tracked -/
structure Ext (b h b' h' : Hp) : Prop where
  up : Up h h'
  bh : Same b' h'
  fz : ∀ a o, h a = some o → b' a = b a
theorem Ext.refl {b h : Hp} (s : Same b h) : Ext b h b h := ⟨Up.refl _, s, fun _ _ _ => rfl⟩
theorem Ext.bb {b h b' h' : Hp} (s : Same b h) (x : Ext b h b' h') : Same b b' := fun a o e => by rw [x.fz a o (s a o e)]; exact e
theorem Ext.trans {b h b1 h1 b2 h2 : Hp} (x : Ext b h b1 h1) (y : Ext b1 h1 b2 h2) : Ext b h b2 h2 := ⟨x.up.trans y.up, y.bh, fun a o e => by
  obtain ⟨o', e'⟩ := x.up.there e
  rw [y.fz a o' e', x.fz a o e]⟩

/-- a frame: b0, h0 at its entry, b, h now -/
structure Good (K : PySem.W.Frag) (b0 h0 b h : Hp) (σ : St) (env : Env) : Prop where
  len : σ.length = env.length
  ext : Ext b0 h0 b h
  sl : ∀ (i : Nat) (s : Sl), env[i]? = some s → ∃ v, σ[i]? = some v ∧ SlOk K h0 b h v s
  ap : ∀ (i j : Nat) (o o' : Own) (a : Addr), i ≠ j → env[i]? = some (.ow o) → env[j]? = some (.ow o') → σ[i]? = some (some (.ref a)) → σ[j]? = some (some (.ref a)) → False

section
variable {K : PySem.W.Frag} {b0 h0 b h b' h' : Hp} {σ : St} {env : Env}
theorem Good.bh (G : Good K b0 h0 b h σ env) : Same b h := G.ext.bh
theorem OwnOk.up {a : Addr} {o : Own} (s : Same b b') (u : Up h h') (x : OwnOk K b h a o) : OwnOk K b' h' a o := by
  cases o with
  | lst l => obtain ⟨vs, e, r⟩ := x; exact ⟨vs, u.st _ _ e (fun _ z => by cases z), dpAll_mono s r⟩
theorem OwnOk.there {a : Addr} {o : Own} (x : OwnOk K b h a o) : ∃ u, h a = some u := by
  cases o with
  | lst l => obtain ⟨vs, e, _⟩ := x; exact ⟨_, e⟩
theorem SlOk.up {v : Option V} {s : Sl} (bh : Same b h) (x : Ext b h b' h') (q : SlOk K h0 b h v s) : SlOk K h0 b' h' v s := by
  cases s with
  | no => trivial
  | vl d => obtain ⟨u, e, r⟩ := q; exact ⟨u, e, dp_mono (x.bb bh) r⟩
  | ow o =>
    obtain ⟨a, e, r, n, m⟩ := q
    obtain ⟨u, t⟩ := r.there
    exact ⟨a, e, r.up (x.bb bh) x.up, (x.fz a u t).trans n, m⟩
/-- the frame's things are not touched -/
theorem Good.grow (G : Good K b0 h0 b h σ env) (x : Ext b h b' h') : Good K b0 h0 b' h' σ env :=
  ⟨G.len, G.ext.trans x, fun i s e => by
    obtain ⟨v, e1, q⟩ := G.sl i s e
    exact ⟨v, e1, q.up G.bh x⟩, G.ap⟩
theorem Good.var (G : Good K b0 h0 b h σ env) {i : Nat} {d : D} (e : env[i]? = some (.vl d)) : ∃ v, σ[i]? = some (some v) ∧ Dp K b v d := by
  obtain ⟨v, e1, u, e2, r⟩ := G.sl i _ e
  subst e2
  exact ⟨u, e1, r⟩
theorem Good.own (G : Good K b0 h0 b h σ env) {i : Nat} {o : Own} (e : env[i]? = some (.ow o)) : ∃ a, σ[i]? = some (some (.ref a)) ∧ OwnOk K b h a o ∧ b a = none ∧ h0 a = none := by
  obtain ⟨v, e1, a, e2, r, n, m⟩ := G.sl i _ e
  subst e2
  exact ⟨a, e1, r, n, m⟩
theorem get_set_other {α : Type} {l : List α} {i j : Nat} {x y : α} (hij : i ≠ j) (e : (l.set i x)[j]? = some y) : l[j]? = some y := by rw [List.getElem?_set_ne hij] at e; exact e
/-- a value is stored at slot i -/
theorem Good.set (G : Good K b0 h0 b h σ env) {i : Nat} {v : V} {d : D} (r : Dp K b v d) : Good K b0 h0 b h (σ.set i (some v)) (env.set i (.vl d)) := by
  refine ⟨by rw [List.length_set, List.length_set]; exact G.len, G.ext, fun j s e => ?_, fun j k o o' a hjk e1 e2 e3 e4 => ?_⟩
  · by_cases hij : i = j
    · subst hij
      have hl : i < env.length := by
        have := (List.getElem?_eq_some_iff.mp e).1
        rwa [List.length_set] at this
      rw [List.getElem?_set_self hl] at e
      cases e
      exact ⟨_, List.getElem?_set_self (by rw [G.len]; exact hl), v, rfl, r⟩
    · obtain ⟨w, e1, q⟩ := G.sl j s (get_set_other hij e)
      exact ⟨w, by rw [List.getElem?_set_ne hij]; exact e1, q⟩
  · have h1 : i ≠ j := fun z => by
      subst z
      have hl : i < env.length := by
        have := (List.getElem?_eq_some_iff.mp e1).1
        rwa [List.length_set] at this
      rw [List.getElem?_set_self hl] at e1; cases e1
    have h2 : i ≠ k := fun z => by
      subst z
      have hl : i < env.length := by
        have := (List.getElem?_eq_some_iff.mp e2).1
        rwa [List.length_set] at this
      rw [List.getElem?_set_self hl] at e2; cases e2
    exact G.ap j k o o' a hjk (get_set_other h1 e1) (get_set_other h2 e2) (get_set_other h1 e3) (get_set_other h2 e4)
/-- a thing of one's own is stored at slot i: its address is no other slot's -/
theorem Good.setOwn (G : Good K b0 h0 b h σ env) {i : Nat} {a : Addr} {o : Own} (r : OwnOk K b h a o) (n : b a = none) (m : h0 a = none)
    (fr : ∀ j o', j ≠ i → env[j]? = some (.ow o') → σ[j]? ≠ some (some (.ref a))) : Good K b0 h0 b h (σ.set i (some (.ref a))) (env.set i (.ow o)) := by
  refine ⟨by rw [List.length_set, List.length_set]; exact G.len, G.ext, fun j s e => ?_, fun j k o1 o2 c hjk e1 e2 e3 e4 => ?_⟩
  · by_cases hij : i = j
    · subst hij
      have hl : i < env.length := by
        have := (List.getElem?_eq_some_iff.mp e).1
        rwa [List.length_set] at this
      rw [List.getElem?_set_self hl] at e
      cases e
      exact ⟨_, List.getElem?_set_self (by rw [G.len]; exact hl), a, rfl, r, n, m⟩
    · obtain ⟨w, e1, q⟩ := G.sl j s (get_set_other hij e)
      exact ⟨w, by rw [List.getElem?_set_ne hij]; exact e1, q⟩
  · by_cases hij : i = j
    · subst hij
      have hl : i < σ.length := by
        have := (List.getElem?_eq_some_iff.mp e3).1
        rwa [List.length_set] at this
      rw [List.getElem?_set_self hl] at e3
      cases e3
      exact fr k o2 (Ne.symm hjk) (get_set_other hjk e2) (get_set_other hjk e4)
    · by_cases hik : i = k
      · subst hik
        have hl : i < σ.length := by
          have := (List.getElem?_eq_some_iff.mp e4).1
          rwa [List.length_set] at this
        rw [List.getElem?_set_self hl] at e4
        cases e4
        exact fr j o1 hjk (get_set_other hij e1) (get_set_other hij e3)
      · exact G.ap j k o1 o2 c hjk (get_set_other hij e1) (get_set_other hik e2) (get_set_other hij e3) (get_set_other hik e4)
/-- the own thing at slot i is changed in place -/
theorem Good.mut (G : Good K b0 h0 b h σ env) {i : Nat} {a : Addr} {o o' : Own} {u : HO} (e : env[i]? = some (.ow o)) (ea : σ[i]? = some (some (.ref a))) (r : OwnOk K b (upd h a u) a o') (hm : ∀ ps, h a ≠ some (.tbl ps)) :
    Good K b0 h0 b (upd h a u) σ (env.set i (.ow o')) := by
  obtain ⟨a', e1, q, n, m⟩ := G.own e
  rw [ea] at e1
  cases e1
  have hil := (List.getElem?_eq_some_iff.mp e).1
  refine ⟨by rw [List.length_set]; exact G.len, ⟨⟨fun c z ec nt => ?_, fun c ps ec => ?_⟩, fun c z ec => ?_, G.ext.fz⟩, fun j s ej => ?_, fun j k o1 o2 c hjk e1 e2 e3 e4 => ?_⟩
  · have : c ≠ a := fun z => by rw [z, m] at ec; cases ec
    rw [upd_ne this]; exact G.ext.up.st c z ec nt
  · have : c ≠ a := fun z => by rw [z, m] at ec; cases ec
    rw [upd_ne this]; exact G.ext.up.tb c ps ec
  · have : c ≠ a := fun z => by rw [z, n] at ec; cases ec
    rw [upd_ne this]; exact G.ext.bh c z ec
  · by_cases hij : i = j
    · subst hij
      rw [List.getElem?_set_self hil] at ej
      cases ej
      exact ⟨_, ea, a, rfl, r, n, m⟩
    · have ej' := get_set_other hij ej
      obtain ⟨v, e2, q2⟩ := G.sl j s ej'
      refine ⟨v, e2, ?_⟩
      cases s with
      | no => trivial
      | vl d => exact q2
      | ow ow =>
        obtain ⟨c, e3, q3, n3, m3⟩ := q2
        have hca : c ≠ a := fun z => by
          subst z
          subst e3
          exact G.ap i j o ow c hij e ej' ea e2
        refine ⟨c, e3, ?_, n3, m3⟩
        cases ow with
        | lst l => obtain ⟨vs, z, w⟩ := q3; exact ⟨vs, by rw [upd_ne hca]; exact z, w⟩
  · by_cases hij : i = j
    · subst hij
      exact G.ap i k o o2 c hjk e (get_set_other hjk e2) e3 e4
    · by_cases hik : i = k
      · subst hik
        exact G.ap j i o1 o c hjk (get_set_other hij e1) e e3 e4
      · exact G.ap j k o1 o2 c hjk (get_set_other hij e1) (get_set_other hik e2) e3 e4
end
end FP
/-! FP B: judgements, expressions, tests. -/
namespace FP
open PySem L2 PySem.Spec PyProof.Rows

/-- where the code stands -/
structure Fx where
  X : Cx
  W : WX
  b0 : Hp
  h0 : Hp
  T : List Addr
  k : Nat
  pre : ∀ P ∈ T, GxR.TabG h0 P ∧ b0 P = none
  tk : Takes X W
  calm : X.calm = true
  nd : X.N.Nodup
  room : Room k X.A
  owns : PassesOwn (model X.prog X.w) X.A X.env X.xe

def ArgsR (K : PySem.W.Frag) (b : Hp) (fs : List (Str × V)) (as : List (Str × D)) : Prop := Paired (fun p q => p.1 = q.1 ∧ Dp K b p.2 q.2) fs as
abbrev Fx.G (F : Fx) (b h : Hp) (σ : St) (env : Env) : Prop := Good F.X.K F.b0 F.h0 b h σ env
theorem Up.pre {h h' : Hp} (u : Up h h') {P : Addr} (q : GxR.TabG h P) : GxR.TabG h' P := by
  obtain ⟨ps, e, t⟩ := q
  obtain ⟨ps', e', t'⟩ := u.tb P ps e
  exact ⟨ps', e', t' t⟩

def Po (F : Fx) (b h : Hp) (σ : St) {α : Type} (r : R α) (P : α → Hp → Hp → Prop) : Prop := match r with
  | .ok a => ∀ b' h', Ext b h b' h' → P a b' h'
  | .ex c as => ∀ b' h' dd C fs, Ext b h b' h' → F.X.mg c = some (.ref C) → h' dd = some (.xd fs) → ArgsR F.X.K b' fs as → F.W (.ref C) (some dd) σ h'
  | .no => False
section
variable {F : Fx} {b h b1 h1 : Hp} {σ : St} {α β : Type}
theorem Po.grow {r : R α} {P : α → Hp → Hp → Prop} (p : Po F b h σ r P) (x : Ext b h b1 h1) : Po F b1 h1 σ r P := by
  cases r with
  | ok a => exact fun b' h' y => p b' h' (x.trans y)
  | ex c as => exact fun b' h' dd C fs y => p b' h' dd C fs (x.trans y)
  | no => exact p
theorem Po.bnd {r : R α} {k : α → R β} {P : β → Hp → Hp → Prop} {P' : α → Hp → Hp → Prop} (p : Po F b h σ (r.bnd k) P)
    (q : ∀ a, r = .ok a → ∀ b1 h1, Ext b h b1 h1 → Po F b1 h1 σ (k a) P → P' a b1 h1) : Po F b h σ r P' := by
  cases r with
  | ok a => exact fun b' h' x => q a rfl b' h' x (Po.grow (show Po F b h σ (k a) P from p) x)
  | ex c as => exact p
  | no => exact p
theorem Po.imp {r : R α} {P P' : α → Hp → Hp → Prop} (p : Po F b h σ r P) (q : ∀ a b1 h1, Ext b h b1 h1 → P a b1 h1 → P' a b1 h1) : Po F b h σ r P' := by
  cases r with
  | ok a => exact fun b' h' x => q a b' h' x (p b' h' x)
  | ex c as => exact p
  | no => exact p
end

/-- a value that is read now: a list of one's own may stand there -/
def Bp (K : PySem.W.Frag) (b h : Hp) (v : V) (d : D) : Prop := Dp K b v d ∨ ∃ a vs l, v = .ref a ∧ h a = some (.lst vs) ∧ DpAll K b vs l ∧ d = .list l
theorem Bp.grow {K : PySem.W.Frag} {b h b' h' : Hp} {v : V} {d : D} (s : Same b h) (x : Ext b h b' h') (q : Bp K b h v d) : Bp K b' h' v d := by
  rcases q with q | ⟨a, vs, l, e, e1, r, e2⟩
  · exact .inl (dp_mono (x.bb s) q)
  · exact .inr ⟨a, vs, l, e, x.up.st _ _ e1 (fun _ z => by cases z), dpAll_mono (x.bb s) r, e2⟩
theorem Bp.dp {K : PySem.W.Frag} {b h : Hp} {v : V} {d : D} (s : Same b h) (q : Bp K b h v d) : Dp K h v d := by
  rcases q with q | ⟨a, vs, l, e, e1, r, e2⟩
  · exact dp_mono s q
  · subst e e2
    exact .lst (.inl (.inl e1)) (dpAll_mono s r)

def tI (F : Fx) (f : Env → R D) : TE := fun σ h Q => ∃ b env, F.G b h σ env ∧ Po F b h σ (f env) fun d b' h' => ∀ v, Dp F.X.K b' v d → Q v h'
def tIB (F : Fx) (f : Env → R D) : TE := fun σ h Q => ∃ b env, F.G b h σ env ∧ Po F b h σ (f env) fun d b' h' => ∀ v, Bp F.X.K b' h' v d → Q v h'
def tIT (F : Fx) (f : Env → R Bool) : TT := fun σ h Q => ∃ b env, F.G b h σ env ∧ Po F b h σ (f env) fun c _ h' => Q c h'
def tIA (F : Fx) (n : Nat) (f : Env → R (List D)) : TA := fun σ h Q => ∃ b env, F.G b h σ env ∧ Po F b h σ (f env) fun ds b' h' => ∀ vs, vs.length = n → DpAll F.X.K b' vs ds → Q vs h'
def tIF (F : Fx) (f : Env → R Own) : TE := fun σ h Q => ∃ b env, F.G b h σ env ∧ Po F b h σ (f env) fun o b' h' => ∀ p u, h' p = none → (∀ ps, u ≠ .tbl ps) → OwnOk F.X.K b' (upd h' p u) p o → Q (.ref p) (upd h' p u)
abbrev IE (F : Fx) (e : Expr) (f : Env → R D) : Prop := PE F.X e (tI F f)
abbrev IB (F : Fx) (e : Expr) (f : Env → R D) : Prop := PE F.X e (tIB F f)
abbrev IT (F : Fx) (e : Expr) (f : Env → R Bool) : Prop := PT F.X e (tIT F f)
abbrev IW (F : Fx) (e : Expr) (f : Env → R Bool) : Prop := PW F.X e (tIT F f)
abbrev IA (F : Fx) (n : Nat) (es : List Expr) (f : Env → R (List D)) : Prop := PA F.X es (tIA F n f)
abbrev IF (F : Fx) (e : Expr) (f : Env → R Own) : Prop := PE F.X e (tIF F f)

section
variable {X : Cx}
theorem PE.imp {e : Expr} {t t' : TE} (h : PE X e t) (q : ∀ σ H Q, t' σ H Q → t σ H Q) : PE X e t' := ⟨fun pins s σ H Q I z => h.run pins s σ H Q I (q σ H Q z)⟩
theorem PT.imp {e : Expr} {t t' : TT} (h : PT X e t) (q : ∀ σ H Q, t' σ H Q → t σ H Q) : PT X e t' := ⟨fun pins s σ H Q I z => h.run pins s σ H Q I (q σ H Q z)⟩
theorem PW.imp {e : Expr} {t t' : TT} (h : PW X e t) (q : ∀ σ H Q, t' σ H Q → t σ H Q) : PW X e t' := ⟨fun whole pins s σ H Q I z => h.run whole pins s σ H Q I (q σ H Q z)⟩
theorem PA.imp {es : List Expr} {t t' : TA} (h : PA X es t) (q : ∀ σ H Q, t' σ H Q → t σ H Q) : PA X es t' := ⟨fun pos pins s σ H Q I z => h.run pos pins s σ H Q I (q σ H Q z)⟩
theorem PS.imp {st : Stmt} {t t' : TS} (h : PS X st t) (q : ∀ D σ H, t' D σ H → t D σ H) : PS X st t' := ⟨fun pins s σ H D I z => h.run pins s σ H D I (q D σ H z)⟩
theorem PSs.imp {st : List Stmt} {t t' : TS} (h : PSs X st t) (q : ∀ D σ H, t' D σ H → t D σ H) : PSs X st t' := ⟨fun pins s σ H D I z => h.run pins s σ H D I (q D σ H z)⟩
end

section
variable {F : Fx} {e a b c : Expr} {es : List Expr} {pos : Pos} {fa fb fc : Env → R D} {ga gb : Env → R Bool}
theorem ib_of (h : IE F e fa) : IB F e fa := PE.imp h fun σ H Q ⟨b, env, G, p⟩ => ⟨b, env, G, p.imp fun d b1 h1 _ q v r => q v (.inl r)⟩

/-! ### names, constants -/
def eC (d : D) : Env → R D := fun _ => .ok d
def eV (i : Nat) : Env → R D := fun env => match env[i]? with
  | some (.vl d) => .ok d
  | _ => .no
def eO (i : Nat) : Env → R D := fun env => match env[i]? with
  | some (.vl d) => .ok d
  | some (.ow (.lst l)) => .ok (.list l)
  | _ => .no
theorem ie_var (i : Nat) {x : Str} (hN : F.X.N[i]? = some x := by rfl) (hv : Vis F.X.env.scope x := by first | exact Or.inl rfl | exact Or.inr (Or.inl rfl) | exact Or.inr (Or.inr rfl)) (hd : (x == ("__debug__" : Str)) = false := by decide)
    (hcd : (x == ("__classdict__" : Str)) = false := by decide) : IE F (.Name x pos) (eV i) :=
  PE.imp (pe_var hN hv hd hcd) fun σ H Q ⟨b, env, G, p⟩ => by
    unfold eV at p
    split at p
    · rename_i d e
      obtain ⟨v, e1, r⟩ := G.var e
      exact ⟨v, e1, p b H (Ext.refl G.bh) v r⟩
    · exact p.elim
theorem ib_var (i : Nat) {x : Str} (hN : F.X.N[i]? = some x := by rfl) (hv : Vis F.X.env.scope x := by first | exact Or.inl rfl | exact Or.inr (Or.inl rfl) | exact Or.inr (Or.inr rfl)) (hd : (x == ("__debug__" : Str)) = false := by decide)
    (hcd : (x == ("__classdict__" : Str)) = false := by decide) : IB F (.Name x pos) (eO i) :=
  PE.imp (pe_var hN hv hd hcd) fun σ H Q ⟨b, env, G, p⟩ => by
    unfold eO at p
    split at p
    · rename_i d e
      obtain ⟨v, e1, r⟩ := G.var e
      exact ⟨v, e1, p b H (Ext.refl G.bh) v (.inl r)⟩
    · rename_i l e
      obtain ⟨a, e1, r, _⟩ := G.own e
      obtain ⟨vs, e2, r⟩ := r
      exact ⟨_, e1, p b H (Ext.refl G.bh) _ (.inr ⟨a, vs, l, rfl, e2, r, rfl⟩)⟩
    · exact p.elim
theorem ie_con {v : V} {d : D} (h : PE F.X e (tC v)) (r : ∀ K b, Dp K b v d) : IE F e (eC d) := PE.imp h fun σ H Q ⟨b, env, G, p⟩ => p b H (Ext.refl G.bh) v (r _ _)
theorem ie_int {i : Int} {j : Nat} : IE F (.Constant (.int i) j pos) (eC (.int i)) := ie_con pe_int fun _ _ => .int _
theorem ie_bl {i : Bool} {j : Nat} : IE F (.Constant (.bool i) j pos) (eC (.bool i)) := ie_con pe_bl fun _ _ => .bl _
theorem ie_non {j : Nat} : IE F (.Constant .none j pos) (eC .none) := ie_con pe_non fun _ _ => .non
theorem ie_str {x : Str} {j : Nat} : IE F (.Constant (.str x) j pos) (eC (.str x)) := ie_con pe_str fun _ _ => .str _
/-- a constant of the module -/
structure Glob (K : PySem.W.Frag) (mg : Str → Option Value) (x : Str) (d : D) : Prop where
  at_ : ∃ u v, mg x = some u ∧ RelV v u ∧ ∀ b, Dp K b v d
theorem ie_glob {x : Str} {d : D} (h : Glob F.X.K F.X.mg x d) (hg : Gl F.X x := by rfl) (hd : (x == ("__debug__" : Str)) = false := by decide) : IE F (.Name x pos) (eC d) := by
  obtain ⟨u, v, hm, r, q⟩ := h.at_
  exact PE.imp (pe_glob hg hm r hd) fun σ H Q ⟨b, env, G, p⟩ => p b H (Ext.refl G.bh) v (q b)

/-! ### operations -/
def PoV (K : PySem.W.Frag) (b h : Hp) (r : R D) (Q : VK) : Prop := match r with
  | .ok d => ∀ b' h' v, Ext b h b' h' → Dp K b' v d → Q v h'
  | _ => False
theorem Po.v {F : Fx} {b h : Hp} {σ : St} {r : R D} {Q : VK} (n : ∀ c as, r ≠ .ex c as) (p : Po F b h σ r fun d b' h' => ∀ v, Dp F.X.K b' v d → Q v h') : PoV F.X.K b h r Q := by
  cases r with
  | ok d => exact fun b' h' v x => p b' h' x v
  | ex c as => exact (n c as rfl).elim
  | no => exact p.elim
def PoB (r : R Bool) (Q : VK) (h : Hp) : Prop := match r with
  | .ok c => Q (.bl c) h
  | _ => False
/-- what an operation of two values gives -/
structure OpOk (K : PySem.W.Frag) (r : R2) (g : D → D → R D) : Prop where
  run : ∀ (b h : Hp) (x y : V) (d e : D) (Q : VK), Same b h → Bp K b h x d → Bp K b h y e → PoV K b h (g d e) Q → r x y h Q
  nex : ∀ d e c as, g d e ≠ .ex c as
structure UnOk (K : PySem.W.Frag) (r : V → Hp → VK → Prop) (g : D → R D) : Prop where
  run : ∀ (b h : Hp) (x : V) (d : D) (Q : VK), Same b h → Bp K b h x d → PoV K b h (g d) Q → r x h Q
  nex : ∀ d c as, g d ≠ .ex c as
structure CmpOk (K : PySem.W.Frag) (r : R2) (g : D → D → R Bool) : Prop where
  run : ∀ (b h : Hp) (x y : V) (d e : D) (Q : VK), Same b h → Bp K b h x d → Bp K b h y e → PoB (g d e) Q h → r x y h Q
  nex : ∀ d e c as, g d e ≠ .ex c as
def eBin {α : Type} (g : D → D → R α) (fa fb : Env → R D) : Env → R α := fun env => (fa env).bnd fun x => (fb env).bnd fun y => g x y
def eUn {α : Type} (g : D → R α) (fa : Env → R D) : Env → R α := fun env => (fa env).bnd g
theorem op_run {r : R2} {g : D → D → R D} (ho : OpOk F.X.K r g) {σ : St} {H : Hp} {Q : VK} (h : tI F (eBin g fa fb) σ H Q) : tOp r (tIB F fa) (tIB F fb) σ H Q := by
  obtain ⟨b, env, G, p⟩ := h
  refine ⟨b, env, G, Po.bnd p fun d _ b1 h1 x1 p1 v1 r1 => ⟨b1, env, G.grow x1, Po.bnd p1 fun e _ b2 h2 x2 p2 v2 r2 => ?_⟩⟩
  exact ho.run b2 h2 v1 v2 d e Q x2.bh (r1.grow x1.bh x2) r2 (p2.v (ho.nex d e))
theorem ie_op {op : Operator} {r : R2} {g : D → D → R D} (hr : OpR F.X (binaryOp op) r) (ho : OpOk F.X.K r g) (ha : IB F a fa) (hb : IB F b fb) : IE F (.BinOp a op b pos) (eBin g fa fb) :=
  PE.imp (pe_op hr ha hb) fun _ _ _ h => op_run ho h
theorem ie_un {op : UnaryOp} {r : V → Hp → VK → Prop} {g : D → R D} (hr : UnR F.X (unaryOp op) r) (ho : UnOk F.X.K r g) (ha : IB F a fa) : IE F (.UnaryOp op a pos) (eUn g fa) :=
  PE.imp (pe_un hr ha) fun σ H Q ⟨b, env, G, p⟩ => ⟨b, env, G, Po.bnd p fun d _ b1 h1 x1 p1 v1 r1 => ho.run b1 h1 v1 d Q x1.bh r1 (p1.v (ho.nex d))⟩
theorem cmp_run {r : R2} {g : D → D → R Bool} (ho : CmpOk F.X.K r g) {σ : St} {H : Hp} {Q : VK} (h : tIT F (eBin g fa fb) σ H fun c h' => Q (.bl c) h') : tOp r (tIB F fa) (tIB F fb) σ H Q := by
  obtain ⟨b, env, G, p⟩ := h
  refine ⟨b, env, G, Po.bnd p fun d _ b1 h1 x1 p1 v1 r1 => ⟨b1, env, G.grow x1, Po.bnd p1 fun e _ b2 h2 x2 p2 v2 r2 => ?_⟩⟩
  refine ho.run b2 h2 v1 v2 d e _ x2.bh (r1.grow x1.bh x2) r2 ?_
  have n := ho.nex d e
  revert p2 n
  cases g d e with
  | ok c => exact fun p2 _ => p2 b2 h2 (Ext.refl x2.bh)
  | ex c as => exact fun _ n => (n c as rfl).elim
  | no => exact fun p2 _ => p2.elim
theorem it_cmp {op : CmpOp} {r : R2} {g : D → D → R Bool} (hr : OpR F.X (compareOp op) r) (ho : CmpOk F.X.K r g) (ha : IB F a fa) (hb : IB F b fb) (hm : behindInMarks op b = false) : IT F (.Compare a [op] [b] pos) (eBin g fa fb) :=
  PT.imp (pt_cmpR hr ha hb hm) fun _ _ _ ⟨b, env, G, p⟩ => cmp_run ho ⟨b, env, G, p.imp fun c _ _ _ q => ⟨c, rfl, q⟩⟩
def eOfB (g : Env → R Bool) : Env → R D := fun env => (g env).bnd fun c => .ok (.bool c)
theorem ie_cmp {op : CmpOp} {r : R2} {g : D → D → R Bool} (hr : OpR F.X (compareOp op) r) (ho : CmpOk F.X.K r g) (ha : IB F a fa) (hb : IB F b fb) (hm : behindInMarks op b = false) : IE F (.Compare a [op] [b] pos) (eOfB (eBin g fa fb)) :=
  PE.imp (pe_cmpR hr ha hb hm) fun σ H Q ⟨b, env, G, p⟩ => by
    exact cmp_run ho ⟨b, env, G, Po.bnd p fun c _ b1 h1 x1 p1 => p1 b1 h1 (Ext.refl x1.bh) _ (.bl c)⟩

/-! ### tests -/
def toB : D → R Bool
  | .bool c => .ok c
  | _ => .no
def eB (fa : Env → R D) : Env → R Bool := fun env => (fa env).bnd toB
theorem Dp.isB {K : PySem.W.Frag} {b : Hp} {v : V} {c : Bool} (h : Dp K b v (.bool c)) : v = .bl c := by cases h; rfl
/-- a value that is a bool, as a test -/
theorem it_val (h : IE F e fa) (he : ∀ whole, isTrue e F.X.env whole = (do let v ← whole; standAt e.pos; holding [v] (truthy v)) := by intro _; rfl) : IT F e (eB fa) :=
  PT.imp (pt_val h he) fun σ H Q ⟨b, env, G, p⟩ => ⟨b, env, G, Po.bnd p fun d _ b1 h1 x1 p1 v r => by
    cases d with
    | bool c => exact ⟨c, Dp.isB r, p1 b1 h1 (Ext.refl x1.bh)⟩
    | _ => exact p1.elim⟩
def tAndR (ga gb : Env → R Bool) : Env → R Bool := fun env => (ga env).bnd fun c => if c then gb env else .ok false
def tOrR (ga gb : Env → R Bool) : Env → R Bool := fun env => (ga env).bnd fun c => if c then .ok true else gb env
def tNotR (ga : Env → R Bool) : Env → R Bool := fun env => (ga env).bnd fun c => .ok (!c)
variable {rest : List Expr}
theorem iw_and1 (ha : IT F a ga) : IW F (.BoolOp .And [a] pos) ga := pw_and1 ha
theorem iw_or1 (ha : IT F a ga) : IW F (.BoolOp .Or [a] pos) ga := pw_or1 ha
theorem iw_and (ha : IT F a ga) (hb : IW F (.BoolOp .And (b :: rest) pos) gb) : IW F (.BoolOp .And (a :: b :: rest) pos) (tAndR ga gb) :=
  PW.imp (pw_and ha hb) fun σ H Q ⟨b, env, G, p⟩ => ⟨b, env, G, Po.bnd p fun c _ b1 h1 x1 p1 => by
    cases c with
    | true => exact iteT ⟨b1, env, G.grow x1, p1⟩
    | false => exact iteF (p1 b1 h1 (Ext.refl x1.bh))⟩
theorem iw_or (ha : IT F a ga) (hb : IW F (.BoolOp .Or (b :: rest) pos) gb) : IW F (.BoolOp .Or (a :: b :: rest) pos) (tOrR ga gb) :=
  PW.imp (pw_or ha hb) fun σ H Q ⟨b, env, G, p⟩ => ⟨b, env, G, Po.bnd p fun c _ b1 h1 x1 p1 => by
    cases c with
    | false => exact iteF ⟨b1, env, G.grow x1, p1⟩
    | true => exact iteT (p1 b1 h1 (Ext.refl x1.bh))⟩
theorem it_w (h : IW F e ga) : IT F e ga := PW.pt h
theorem it_not (ha : IT F a ga) : IT F (.UnaryOp .Not a pos) (tNotR ga) :=
  PT.imp (pt_not ha) fun σ H Q ⟨b, env, G, p⟩ => ⟨b, env, G, Po.bnd p fun c _ b1 h1 x1 p1 => p1 b1 h1 (Ext.refl x1.bh)⟩
/-- and, or, not as values (bools) -/
theorem ie_one {op} (h : IE F a fa) : IE F (.BoolOp op [a] pos) fa := pe_one h
def eAnd (fa fb : Env → R D) : Env → R D := fun env => (fa env).bnd fun x => match x with
  | .bool true => fb env
  | .bool false => .ok (.bool false)
  | _ => .no
def eOr (fa fb : Env → R D) : Env → R D := fun env => (fa env).bnd fun x => match x with
  | .bool true => .ok (.bool true)
  | .bool false => fb env
  | _ => .no
def eNot (fa : Env → R D) : Env → R D := fun env => (fa env).bnd fun x => match x with
  | .bool c => .ok (.bool (!c))
  | _ => .no
theorem ie_and (ha : IE F a fa) (hb : IE F (.BoolOp .And (b :: rest) pos) fb) : IE F (.BoolOp .And (a :: b :: rest) pos) (eAnd fa fb) :=
  PE.imp (pe_and ha hb) fun σ H Q ⟨b, env, G, p⟩ => ⟨b, env, G, Po.bnd p fun d _ b1 h1 x1 p1 v r => by
    cases d with
    | bool c =>
      refine ⟨c, Dp.isB r, ?_⟩
      cases c with
      | true => exact iteT ⟨b1, env, G.grow x1, p1⟩
      | false => exact iteF (p1 b1 h1 (Ext.refl x1.bh) _ (.bl _))
    | _ => exact p1.elim⟩
theorem ie_or (ha : IE F a fa) (hb : IE F (.BoolOp .Or (b :: rest) pos) fb) : IE F (.BoolOp .Or (a :: b :: rest) pos) (eOr fa fb) :=
  PE.imp (pe_or ha hb) fun σ H Q ⟨b, env, G, p⟩ => ⟨b, env, G, Po.bnd p fun d _ b1 h1 x1 p1 v r => by
    cases d with
    | bool c =>
      refine ⟨c, Dp.isB r, ?_⟩
      cases c with
      | false => exact iteF ⟨b1, env, G.grow x1, p1⟩
      | true => exact iteT (p1 b1 h1 (Ext.refl x1.bh) _ (.bl _))
    | _ => exact p1.elim⟩
theorem ie_not (ha : IE F a fa) : IE F (.UnaryOp .Not a pos) (eNot fa) :=
  PE.imp (pe_not ha) fun σ H Q ⟨b, env, G, p⟩ => ⟨b, env, G, Po.bnd p fun d _ b1 h1 x1 p1 v r => by
    cases d with
    | bool c => exact ⟨c, Dp.isB r, p1 b1 h1 (Ext.refl x1.bh) _ (.bl _)⟩
    | _ => exact p1.elim⟩
def eIf (g : Env → R Bool) (fa fb : Env → R D) : Env → R D := fun env => (g env).bnd fun c => if c then fa env else fb env
theorem ie_if (hc : IT F c ga) (ha : IE F a fa) (hb : IE F b fb) : IE F (.IfExp c a b pos) (eIf ga fa fb) :=
  PE.imp (pe_ifExp hc ha hb) fun σ H Q ⟨b, env, G, p⟩ => ⟨b, env, G, Po.bnd p fun d _ b1 h1 x1 p1 => by
    cases d with
    | true => exact iteT ⟨b1, env, G.grow x1, p1⟩
    | false => exact iteF ⟨b1, env, G.grow x1, p1⟩⟩

/-! ### argument lists, displays -/
def aNil : Env → R (List D) := fun _ => .ok []
def aCons (fa : Env → R D) (fr : Env → R (List D)) : Env → R (List D) := fun env => (fa env).bnd fun x => (fr env).bnd fun xs => .ok (x :: xs)
theorem ia_nil : IA F 0 [] aNil := PA.imp pa_nil fun σ H Q ⟨b, env, G, p⟩ => p b H (Ext.refl G.bh) [] rfl .nil
variable {fr : Env → R (List D)} {n : Nat}
theorem ia_cons (ha : IE F a fa) (hr : IA F n es fr) (hs : starEach (a :: es) F.X.env = (false, eval a F.X.env) :: starEach es F.X.env := by rfl) : IA F (n + 1) (a :: es) (aCons fa fr) :=
  PA.imp (pa_cons ha hr hs) fun σ H Q ⟨b, env, G, p⟩ => ⟨b, env, G, Po.bnd p fun d _ b1 h1 x1 p1 v r => ⟨b1, env, G.grow x1, Po.bnd p1 fun ds _ b2 h2 x2 p2 vs hl rs =>
    p2 b2 h2 (Ext.refl x2.bh) (v :: vs) (by rw [List.length_cons, hl]) (.cons (dp_mono (x2.bb x1.bh) r) rs)⟩⟩
theorem upd_same_sub {H : Hp} {p : Addr} {o : HO} (hp : H p = none) : Same H (upd H p o) := fun c u e => by rw [upd_ne (ne_of_none e hp)]; exact e
/-- a new thing that is never changed from now on -/
theorem Ext.new {b h : Hp} {p : Addr} {o : HO} (s : Same b h) (hp : h p = none) : Ext b h (upd b p o) (upd h p o) where
  up := Up.of (upd_same_sub hp)
  bh := fun c u e => by
    by_cases hc : c = p
    · subst hc; rw [upd_same] at e ⊢; exact e
    · rw [upd_ne hc] at e ⊢; exact s c u e
  fz := fun c u e => upd_ne (ne_of_none e hp)
/-- .. that stands there already, untracked in b -/
theorem Ext.newH {b h : Hp} {p : Addr} {o : HO} (s : Same b h) (hp : h p = none) : Ext b h b (upd h p o) where
  up := Up.of (upd_same_sub hp)
  bh := fun c u e => upd_same_sub hp c u (s c u e)
  fz := fun _ _ _ => rfl
theorem ie_tup {k : Nat} (h : IA F n es fr) (hn : n ≤ sizeLine := by decide) : IE F (.Tuple es k pos) (fun env => (fr env).bnd fun xs => .ok (.tuple xs)) :=
  PE.imp (pe_tup h) fun σ H Q ⟨b, env, G, p⟩ => ⟨b, env, G, Po.bnd p fun ds _ b1 h1 x1 p1 vs hl rs => by
    refine ⟨by rw [hl]; exact hn, fun q hq => ?_⟩
    exact p1 _ _ (Ext.new (o := .tup vs) x1.bh hq) _ (.tup (.inl (.inl upd_same)) (dpAll_mono (upd_same_sub (by cases e : b1 q with | none => rfl | some u => rw [x1.bh q u e] at hq; cases hq)) rs))⟩
theorem none_sub {b h : Hp} (s : Same b h) {p : Addr} (hp : h p = none) : b p = none := by
  cases e : b p with
  | none => rfl
  | some u => rw [s p u e] at hp; cases hp
theorem if_lst (h : IA F n es fr) (hn : n ≤ sizeLine := by decide) : IF F (.List es pos) (fun env => (fr env).bnd fun xs => .ok (.lst xs)) :=
  PE.imp (pe_lst h) fun σ H Q ⟨b, env, G, p⟩ => ⟨b, env, G, Po.bnd p fun ds _ b1 h1 x1 p1 vs hl rs => by
    refine ⟨by rw [hl]; exact hn, fun q hq => ?_⟩
    exact p1 _ _ (Ext.refl x1.bh) q _ hq (fun _ z => by cases z) ⟨vs, upd_same, rs⟩⟩
/-- a new list as a value that is never changed -/
def ofOwn : Own → D
  | .lst l => .list l
theorem ie_new {fo : Env → R Own} (h : IF F e fo) : IE F e (fun env => (fo env).bnd fun o => .ok (ofOwn o)) :=
  PE.imp h fun σ H Q ⟨b, env, G, p⟩ => ⟨b, env, G, Po.bnd p fun o _ b1 h1 x1 p1 q u hq hu ok => by
    cases o with
    | lst l =>
      obtain ⟨vs, e, rs⟩ := ok
      rw [upd_same] at e
      cases e
      exact p1 _ _ (Ext.new x1.bh hq) _ (.lst (.inl (.inl upd_same)) (dpAll_mono (upd_same_sub (none_sub x1.bh hq)) rs))⟩
end
end FP
/-! FP C: statements, loops, calls, defs. -/
namespace FP
open PySem L2 PySem.Spec PyProof.Rows

inductive SR where
  | nx (env : Env)
  | rt (d : D)
  | bk (env : Env)
  | ct (env : Env)
  | ex (c : Str) (as : List (Str × D)) (env : Env)
  | no

def PoS (F : Fx) (Dn : Ends) (b : Hp) : SR → Prop
  | .nx env => ∀ b' h' σ', Same b b' → F.G b' h' σ' env → Dn.nx σ' h'
  | .rt d => ∀ b' h' v, Ext F.b0 F.h0 b' h' → Dp F.X.K b' v d → Dn.rt v h'
  | .bk env => ∀ b' h' σ', Same b b' → F.G b' h' σ' env → Dn.bk σ' h'
  | .ct env => ∀ b' h' σ', Same b b' → F.G b' h' σ' env → Dn.ct σ' h'
  | .ex c as env => ∀ b' h' σ' dd C fs, Same b b' → F.G b' h' σ' env → F.X.mg c = some (.ref C) → h' dd = some (.xd fs) → ArgsR F.X.K b' fs as → F.W (.ref C) (some dd) σ' h'
  | .no => False
theorem PoS.mono {F : Fx} {Dn : Ends} {b b1 : Hp} {r : SR} (p : PoS F Dn b r) (s : Same b b1) : PoS F Dn b1 r := by
  cases r with
  | nx env => exact fun b' h' σ' q => p b' h' σ' (s.trans q)
  | rt d => exact p
  | bk env => exact fun b' h' σ' q => p b' h' σ' (s.trans q)
  | ct env => exact fun b' h' σ' q => p b' h' σ' (s.trans q)
  | ex c as env => exact fun b' h' σ' dd C fs q => p b' h' σ' dd C fs (s.trans q)
  | no => exact p

def tS (F : Fx) (sv : Env → SR) : TS := fun Dn σ h => ∃ b env, F.G b h σ env ∧ PoS F Dn b (sv env)
abbrev IS (F : Fx) (st : Stmt) (sv : Env → SR) : Prop := PS F.X st (tS F sv)
abbrev ISs (F : Fx) (st : List Stmt) (sv : Env → SR) : Prop := PSs F.X st (tS F sv)

def R.s {α : Type} (r : R α) (env : Env) (k : α → SR) : SR := match r with
  | .ok a => k a
  | .ex c as => .ex c as env
  | .no => .no
section
variable {F : Fx} {Dn : Ends} {α : Type}
/-- an expression ahead of the rest -/
theorem PoS.bnd {r : R α} {env : Env} {k : α → SR} {b h : Hp} {σ : St} {P : α → Hp → Hp → Prop} (G : F.G b h σ env) (p : PoS F Dn b (r.s env k))
    (q : ∀ a, r = .ok a → ∀ b1 h1, Ext b h b1 h1 → F.G b1 h1 σ env → PoS F Dn b1 (k a) → P a b1 h1) : Po F b h σ r P := by
  cases r with
  | ok a => exact fun b' h' x => q a rfl b' h' x (G.grow x) (PoS.mono (show PoS F Dn b (k a) from p) (x.bb G.bh))
  | ex c as => exact fun b' h' dd C fs x hm hd ha => p b' h' σ dd C fs (x.bb G.bh) (G.grow x) hm hd ha
  | no => exact p
variable {st : Stmt} {rest : List Stmt} {s1 s2 : Env → SR} {e : Expr} {pos : Pos} {fa : Env → R D}
def sSeq (s1 s2 : Env → SR) : Env → SR := fun env => match s1 env with
  | .nx env' => s2 env'
  | r => r
def sNil : Env → SR := fun env => .nx env
theorem is_nil : ISs F [] sNil := PSs.imp pss_nil fun Dn σ H ⟨b, env, G, p⟩ => p b H σ (Same.refl _) G
theorem is_cons (h1 : IS F st s1) (h2 : ISs F rest s2) : ISs F (st :: rest) (sSeq s1 s2) := PSs.imp (pss_cons h1 h2) fun Dn σ H ⟨b, env, G, p⟩ => by
  refine ⟨b, env, G, ?_⟩
  unfold sSeq at p
  revert p
  cases s1 env with
  | nx env' => exact fun p b' h' σ' q G' => ⟨b', env', G', PoS.mono p q⟩
  | rt d => exact fun p => p
  | bk env' => exact fun p => p
  | ct env' => exact fun p => p
  | ex c as env' => exact fun p => p
  | no => exact fun p => p
theorem is_one (h1 : IS F st s1) : ISs F [st] s1 := pss_one h1
theorem is_pass : IS F (.Pass pos) sNil := PS.imp ps_pass fun Dn σ H ⟨b, env, G, p⟩ => p b H σ (Same.refl _) G
theorem is_break : IS F (.Break pos) (fun env => .bk env) := PS.imp ps_break fun Dn σ H ⟨b, env, G, p⟩ => p b H σ (Same.refl _) G
theorem is_continue : IS F (.Continue pos) (fun env => .ct env) := PS.imp ps_continue fun Dn σ H ⟨b, env, G, p⟩ => p b H σ (Same.refl _) G
theorem is_doc {x : Str} {j : Nat} {pos' : Pos} : IS F (.Expr (.Constant (.str x) j pos) pos') sNil := PS.imp ps_doc fun Dn σ H ⟨b, env, G, p⟩ => p b H σ (Same.refl _) G
def sRet (fa : Env → R D) : Env → SR := fun env => (fa env).s env .rt
theorem is_ret (he : IE F e fa) : IS F (.Return (some e) pos) (sRet fa) := PS.imp (ps_ret he) fun Dn σ H ⟨b, env, G, p⟩ =>
  ⟨b, env, G, PoS.bnd G p fun d _ b1 h1 x1 G1 p1 v r => p1 b1 h1 v G1.ext r⟩
theorem is_retN : IS F (.Return none pos) (fun _ => .rt .none) := PS.imp ps_retN fun Dn σ H ⟨b, env, G, p⟩ => p b H .non G.ext .non
/-- return of one's own list -/
def sRetO (i : Nat) : Env → SR := fun env => match env[i]? with
  | some (.vl d) => .rt d
  | some (.ow (.lst l)) => .rt (.list l)
  | _ => .no
/-- one's own thing is from now on never changed -/
theorem Good.freeze {K : PySem.W.Frag} {b0 h0 b h : Hp} {σ : St} {env : Env} (G : Good K b0 h0 b h σ env) {i : Nat} {l : List D} (e : env[i]? = some (.ow (.lst l))) :
    ∃ b' v, Same b b' ∧ σ[i]? = some (some v) ∧ Dp K b' v (.list l) ∧ Good K b0 h0 b' h σ (env.set i (.vl (.list l))) := by
  obtain ⟨a, ea, ⟨vs, hv, rs⟩, n, m⟩ := G.own e
  have sb : Same b (upd b a (.lst vs)) := upd_same_sub n
  have r : Dp K (upd b a (.lst vs)) (.ref a) (.list l) := .lst (.inl (.inl upd_same)) (dpAll_mono sb rs)
  have hil := (List.getElem?_eq_some_iff.mp e).1
  refine ⟨upd b a (.lst vs), .ref a, sb, ea, r, ⟨by rw [List.length_set]; exact G.len, ⟨G.ext.up, fun c u ec => ?_, fun c u ec => ?_⟩, fun j s ej => ?_, fun j k o o' c hjk e1 e2 e3 e4 => ?_⟩⟩
  · by_cases hc : c = a
    · subst hc; rw [upd_same] at ec; cases ec; exact hv
    · rw [upd_ne hc] at ec; exact G.ext.bh c u ec
  · have hc : c ≠ a := fun z => by rw [z, m] at ec; cases ec
    rw [upd_ne hc]; exact G.ext.fz c u ec
  · by_cases hij : i = j
    · subst hij
      rw [List.getElem?_set_self hil] at ej
      cases ej
      exact ⟨_, ea, _, rfl, r⟩
    · have ej' := get_set_other hij ej
      obtain ⟨v, e1, q⟩ := G.sl j s ej'
      refine ⟨v, e1, ?_⟩
      cases s with
      | no => trivial
      | vl d => obtain ⟨u, z, w⟩ := q; exact ⟨u, z, dp_mono sb w⟩
      | ow ow =>
        obtain ⟨c, e3, q3, n3, m3⟩ := q
        subst e3
        have hca : c ≠ a := fun z => by subst z; exact G.ap i j _ ow c hij e ej' ea e1
        refine ⟨c, rfl, ?_, by rw [upd_ne hca]; exact n3, m3⟩
        exact q3.up sb (Up.refl _)
  · have h1 : i ≠ j := fun z => by
      subst z
      rw [List.getElem?_set_self hil] at e1; cases e1
    have h2 : i ≠ k := fun z => by
      subst z
      rw [List.getElem?_set_self hil] at e2; cases e2
    exact G.ap j k o o' c hjk (get_set_other h1 e1) (get_set_other h2 e2) e3 e4
/-- the name's own list is frozen ahead of a statement -/
def sFz (i : Nat) (sv : Env → SR) : Env → SR := fun env => match env[i]? with
  | some (.ow (.lst l)) => sv (env.set i (.vl (.list l)))
  | _ => sv env
theorem is_fz (i : Nat) (h : IS F st s1) : IS F st (sFz i s1) := PS.imp h fun Dn σ H ⟨b, env, G, p⟩ => by
  unfold sFz at p
  split at p
  · rename_i l e
    obtain ⟨b', v, sb, _, _, G'⟩ := G.freeze e
    exact ⟨b', _, G', p.mono sb⟩
  · exact ⟨b, env, G, p⟩
theorem iss_fz (i : Nat) (h : ISs F rest s1) : ISs F rest (sFz i s1) := PSs.imp h fun Dn σ H ⟨b, env, G, p⟩ => by
  unfold sFz at p
  split at p
  · rename_i l e
    obtain ⟨b', v, sb, _, _, G'⟩ := G.freeze e
    exact ⟨b', _, G', p.mono sb⟩
  · exact ⟨b, env, G, p⟩
def sIf (g : Env → R Bool) (s1 s2 : Env → SR) : Env → SR := fun env => (g env).s env fun c => if c then s1 env else s2 env
theorem is_if {c : Expr} {g : Env → R Bool} {x y : List Stmt} (hc : IT F c g) (ha : ISs F x s1) (hb : ISs F y s2) : IS F (.If c x y pos) (sIf g s1 s2) := PS.imp (ps_if hc ha hb) fun Dn σ H ⟨b, env, G, p⟩ =>
  ⟨b, env, G, PoS.bnd G p fun c _ b1 h1 x1 G1 p1 => by
    cases c with
    | true => exact iteT ⟨b1, env, G1, p1⟩
    | false => exact iteF ⟨b1, env, G1, p1⟩⟩
def sDrop (fa : Env → R D) : Env → SR := fun env => (fa env).s env fun _ => .nx env
theorem is_expr (he : IE F e fa) (hs : swapsWith e none pos.line F.X.env = pure false := by rfl) : IS F (.Expr e pos) (sDrop fa) := PS.imp (ps_expr he hs) fun Dn σ H ⟨b, env, G, p⟩ =>
  ⟨b, env, G, PoS.bnd G p fun d _ b1 h1 x1 G1 p1 v r => p1 b1 h1 σ (Same.refl _) G1⟩

/-! ### targets -/
/-- a target: what is stored, or nothing is said -/
abbrev Tg := D → Env → Option Env
/-- σ' is σ but for the slots ix -/
def But (ix : List Nat) (σ σ' : St) : Prop := σ'.length = σ.length ∧ ∀ i, i ∉ ix → σ'[i]? = σ[i]?
def tIG (F : Fx) (tg : Tg) (ix : List Nat) : TG := fun v σ h Q => ∃ b env d env', F.G b h σ env ∧ Dp F.X.K b v d ∧ tg d env = some env' ∧ ∀ σ', F.G b h σ' env' → But ix σ σ' → Q σ' h
abbrev IG (F : Fx) (e : Expr) (tg : Tg) (ix : List Nat) : Prop := PG F.X e (tIG F tg ix)
abbrev Tgs := List D → Env → Option Env
def tIGs (F : Fx) (tg : Tgs) (ix : List Nat) : TGs := fun vs σ h Q => ∃ b env ds env', F.G b h σ env ∧ DpAll F.X.K b vs ds ∧ tg ds env = some env' ∧ ∀ σ', F.G b h σ' env' → But ix σ σ' → Q σ' h
abbrev IGs (F : Fx) (es : List Expr) (tg : Tgs) (ix : List Nat) : Prop := PGs F.X es (tIGs F tg ix)
theorem PG.imp {X : Cx} {e : Expr} {t t' : TG} (h : PG X e t) (q : ∀ v σ H Q, t' v σ H Q → t v σ H Q) : PG X e t' := ⟨fun pins s σ H v u Q I r z => h.run pins s σ H v u Q I r (q v σ H Q z)⟩
theorem PGs.imp {X : Cx} {e : List Expr} {t t' : TGs} (h : PGs X e t) (q : ∀ v σ H Q, t' v σ H Q → t v σ H Q) : PGs X e t' := ⟨fun pins s σ H v u Q I r z => h.run pins s σ H v u Q I r (q v σ H Q z)⟩
def gNm (i : Nat) : Tg := fun d env => some (env.set i (.vl d))
theorem ig_name (i : Nat) {x : Str} (hi : F.X.N[i]? = some x := by rfl) (hx : Loc F.X.env.scope x := by first | exact Or.inl rfl | exact Or.inr rfl) (hf : F.X.fn x = true ∨ F.X.env.scope.names.lookup x = some .local := by first | exact .inl rfl | exact .inr rfl) : IG F (.Name x pos) (gNm i) [i] :=
  PG.imp (pg_name F.nd hi hx hf) fun v σ H Q ⟨b, env, d, env', G, r, e, q⟩ => by
    cases e
    exact q _ (G.set r) ⟨by rw [List.length_set], fun j hj => List.getElem?_set_ne (fun z => hj (by simp [z]))⟩
def gsNil : Tgs := fun ds env => match ds with
  | [] => some env
  | _ => none
def gsCons (t : Tg) (u : Tgs) : Tgs := fun ds env => match ds with
  | d :: r => (t d env).bind fun env' => u r env'
  | [] => none
theorem igs_nil : IGs F [] gsNil [] := PGs.imp pgs_nil fun vs σ H Q ⟨b, env, ds, env', G, r, e, q⟩ => by
  cases r with
  | nil => cases e; exact ⟨rfl, q _ G ⟨rfl, fun _ _ => rfl⟩⟩
  | cons _ _ => cases e
variable {es : List Expr} {t : Tg} {u : Tgs} {ix iy : List Nat}
theorem igs_cons (h1 : IG F e t ix) (h2 : IGs F es u iy) (hs : (assignEach (e :: es) F.X.env).map (·.2) = assign e F.X.env :: (assignEach es F.X.env).map (·.2) := by rfl) : IGs F (e :: es) (gsCons t u) (ix ++ iy) :=
  PGs.imp (pgs_cons h1 h2 hs) fun vs σ H Q ⟨b, env, ds, env', G, r, e, q⟩ => by
    cases r with
    | nil => cases e
    | @cons v vs d ds r1 r2 =>
      obtain ⟨env1, e1, e2⟩ := Option.bind_eq_some_iff.mp e
      exact ⟨v, vs, rfl, b, env, d, env1, G, r1, e1, fun σ1 G1 b1 => ⟨b, env1, ds, env', G1, r2, e2, fun σ2 G2 b2 => q σ2 G2 ⟨b2.1.trans b1.1, fun i hi => (b2.2 i fun z => hi (List.mem_append_right _ z)).trans (b1.2 i fun z => hi (List.mem_append_left _ z))⟩⟩⟩
def gTp (n : Nat) (u : Tgs) : Tg := fun d env => match d with
  | .tuple ds => if ds.length = n then u ds env else none
  | _ => none
theorem dpAll_len {K : PySem.W.Frag} {b : Hp} : ∀ {vs : List V} {ds : List D}, DpAll K b vs ds → vs.length = ds.length
  | _, _, .nil => rfl
  | _, _, .cons _ r => by rw [List.length_cons, List.length_cons, dpAll_len r]
theorem ig_tup {k : Nat} (n : Nat) (h : IGs F es u ix) (hn : (assignEach es F.X.env).length = n := by rfl) (hst : (assignEach es F.X.env).findIdx? (·.1) = none := by rfl) : IG F (.Tuple es k pos) (gTp n u) ix :=
  PG.imp (pg_tup F.calm h hn hst) fun v σ H Q ⟨b, env, d, env', G, r, e, q⟩ => by
    unfold gTp at e
    split at e
    · rename_i ds
      split at e
      · rename_i hl
        cases r with
        | @tup a xs _ hs hr => exact ⟨a, xs, rfl, Same.sqT G.bh hs, (dpAll_len hr).trans hl, b, env, ds, env', G, hr, e, q⟩
      · cases e
    · cases e
def O2S (o : Option Env) : SR := match o with
  | some env => .nx env
  | none => .no
def sAsg (fa : Env → R D) (t : Tg) : Env → SR := fun env => (fa env).s env fun d => O2S (t d env)
theorem is_asg {tg : Expr} (he : IE F e fa) (hg : IG F tg t ix) (hs : swapsWithSole [tg] e pos.line F.X.env = pure false := by rfl) (hw : swappedStores [tg] e F.X.env = pure none := by rfl) (h1 : (assignEach [tg] F.X.env).map (·.2) = [assign tg F.X.env] := by rfl) : IS F (.Assign [tg] e pos) (sAsg fa t) :=
  PS.imp (ps_asg he hg hs hw h1) fun Dn σ H ⟨b, env, G, p⟩ => ⟨b, env, G, PoS.bnd G p fun d _ b1 h1 x1 G1 p1 v r => by
    revert p1
    cases e : t d env with
    | none => exact fun p1 => p1.elim
    | some env' => exact fun p1 => ⟨b1, env, d, env', G1, r, e, fun σ' G' _ => p1 b1 h1 σ' (Same.refl _) G'⟩⟩
def sSet (i : Nat) (fa : Env → R D) : Env → SR := fun env => (fa env).s env fun d => .nx (env.set i (.vl d))
theorem is_set (i : Nat) {x : Str} {pos' : Pos} (he : IE F e fa) (hi : F.X.N[i]? = some x := by rfl) (hx : Loc F.X.env.scope x := by first | exact Or.inl rfl | exact Or.inr rfl) (hs : swapsWith e (some (.Name x pos')) pos.line F.X.env = pure false := by rfl)
    (hf : F.X.fn x = true ∨ F.X.env.scope.names.lookup x = some .local := by first | exact .inl rfl | exact .inr rfl) : IS F (.Assign [.Name x pos'] e pos) (sSet i fa) :=
  PS.imp (ps_set F.nd hi hx he hs hf) fun Dn σ H ⟨b, env, G, p⟩ => ⟨b, env, G, PoS.bnd G p fun d _ b1 h1 x1 G1 p1 v r => p1 b1 h1 _ (Same.refl _) (G1.set r)⟩
def sSetO (i : Nat) (fo : Env → R Own) : Env → SR := fun env => (fo env).s env fun o => .nx (env.set i (.ow o))
theorem Good.setNew {b h : Hp} {σ : St} {env : Env} {i : Nat} {p : Addr} {u : HO} {o : Own} (G : F.G b h σ env) (hp : h p = none) (ok : OwnOk F.X.K b (upd h p u) p o) : F.G b (upd h p u) (σ.set i (some (.ref p))) (env.set i (.ow o)) := by
  have G2 := G.grow (Ext.newH (o := u) G.bh hp)
  refine Good.setOwn G2 ok (none_sub G.bh hp) (G.ext.up.free hp) fun j o' _ e z => ?_
  obtain ⟨a, ea, ok', _⟩ := G.own e
  rw [ea] at z
  cases z
  obtain ⟨w, hw⟩ := ok'.there
  rw [hp] at hw
  cases hw
theorem is_setO (i : Nat) {x : Str} {pos' : Pos} {fo : Env → R Own} (he : IF F e fo) (hi : F.X.N[i]? = some x := by rfl) (hx : Loc F.X.env.scope x := by first | exact Or.inl rfl | exact Or.inr rfl) (hs : swapsWith e (some (.Name x pos')) pos.line F.X.env = pure false := by rfl)
    (hf : F.X.fn x = true ∨ F.X.env.scope.names.lookup x = some .local := by first | exact .inl rfl | exact .inr rfl) : IS F (.Assign [.Name x pos'] e pos) (sSetO i fo) :=
  PS.imp (ps_set F.nd hi hx he hs hf) fun Dn σ H ⟨b, env, G, p⟩ => ⟨b, env, G, PoS.bnd G p fun o _ b1 h1 x1 G1 p1 q u hq _ ok => p1 b1 _ _ (Same.refl _) (G1.setNew hq ok)⟩
/-- name op= e -/
def sAug (i : Nat) (g : D → D → R D) (fa : Env → R D) : Env → SR := fun env => match env[i]? with
  | some (.vl x) => ((fa env).bnd fun y => g x y).s env fun d => .nx (env.set i (.vl d))
  | _ => .no
theorem is_aug (i : Nat) {x : Str} {op : Operator} {r : R2} {g : D → D → R D} {pos' : Pos} (hr : OpR F.X (inplaceOp op) r) (ho : OpOk F.X.K r g) (he : IB F e fa) (hi : F.X.N[i]? = some x := by rfl) (hx : Loc F.X.env.scope x := by first | exact Or.inl rfl | exact Or.inr rfl)
    (hf : F.X.fn x = true ∨ F.X.env.scope.names.lookup x = some .local := by first | exact .inl rfl | exact .inr rfl) : IS F (.AugAssign (.Name x pos') op e pos) (sAug i g fa) :=
  PS.imp (ps_aug (ti := r) F.nd hi hx he (fun pins s σ H x y v u Q I rx ry h => hr pins s σ H x y v u Q I rx ry h) hf) fun Dn σ H ⟨b, env, G, p⟩ => by
    unfold sAug at p
    split at p
    · rename_i d e
      obtain ⟨v, ev, rv⟩ := G.var e
      refine ⟨v, ev, b, env, G, ?_⟩
      refine Po.bnd (k := fun y => g d y) (PoS.bnd (P := fun d' b' h' => ∀ w, Dp F.X.K b' w d' → Dn.nx (σ.set i (some w)) h') G p fun d' _ b1 h1 x1 G1 p1 w rw => p1 b1 h1 _ (Same.refl _) (G1.set rw)) fun y _ b1 h1 x1 p1 w rw => ?_
      refine ho.run b1 h1 v w d y _ x1.bh (.inl (dp_mono (x1.bb G.bh) rv)) rw ?_
      exact Po.v (F := F) (σ := σ) (ho.nex d y) p1
    · exact p.elim
/-- x.append(e), x one's own list -/
def sApp (i : Nat) (fa : Env → R D) : Env → SR := fun env => match env[i]? with
  | some (.ow (.lst l)) => (fa env).s env fun d => if l.length < sizeLine then .nx (env.set i (.ow (.lst (l ++ [d])))) else .no
  | _ => .no
theorem dpAll_snoc {K : PySem.W.Frag} {b : Hp} : ∀ {vs : List V} {ds : List D} {v : V} {d : D}, DpAll K b vs ds → Dp K b v d → DpAll K b (vs ++ [v]) (ds ++ [d])
  | _, _, _, _, .nil, q => .cons q .nil
  | _, _, _, _, .cons p r, q => .cons p (dpAll_snoc r q)
theorem dpAll_app {K : PySem.W.Frag} {b : Hp} : ∀ {vs ws : List V} {ds es : List D}, DpAll K b vs ds → DpAll K b ws es → DpAll K b (vs ++ ws) (ds ++ es)
  | _, _, _, _, .nil, q => q
  | _, _, _, _, .cons p r, q => .cons p (dpAll_app r q)
theorem is_append (i : Nat) {x : Str} {p1 p2 p3 : Pos} (he : IE F e fa) (hi : F.X.N[i]? = some x := by rfl) (hv : Vis F.X.env.scope x := by first | exact Or.inl rfl | exact Or.inr (Or.inl rfl) | exact Or.inr (Or.inr rfl)) (hd : (x == ("__debug__" : Str)) = false := by decide)
    (hcd : (x == ("__classdict__" : Str)) = false := by decide)
    (hs : swapsWith (.Call (.Attribute (.Name x p1) "append" p2) [e] [] p3) none pos.line F.X.env = pure false := by rfl)
    (hpe : ∀ {te : TE}, PE F.X e te → PE F.X (.Call (.Attribute (.Name x p1) "append" p2) [e] [] p3) (tBM F.X.K "list" rAppend (tVar i) (tCons te tNil)) := by intro te hte; exact pe_bm PySem.F.plainAttrs_list PySem.F.slot_list_append PySem.F.type_list_append mt_append (pv _) (pa_cons hte pa_nil)) :
    IS F (.Expr (.Call (.Attribute (.Name x p1) "append" p2) [e] [] p3) pos) (sApp i fa) :=
  PS.imp (ps_expr (hpe he) hs) fun Dn σ H ⟨b, env, G, p⟩ => by
    unfold sApp at p
    split at p
    · rename_i l e
      obtain ⟨a, ea, ⟨vs, hv, rs⟩, n, m⟩ := G.own e
      refine ⟨_, ea, .inl ⟨rfl, vs, SqL.of hv⟩, b, env, G, PoS.bnd G p fun d _ b1 h1 x1 G1 p1 w rw => ?_⟩
      have hv1 := x1.up.st a _ hv (fun _ z => by cases z)
      have rs1 := dpAll_mono (x1.bb G.bh) rs
      split at p1
      · rename_i hl
        refine ⟨a, vs, w, rfl, rfl, hv1, by rw [dpAll_len rs]; exact hl, ?_⟩
        exact p1 b1 _ _ (Same.refl _) (Good.mut (o := .lst l) G1 e ea ⟨vs ++ [w], upd_same, dpAll_snoc rs1 rw⟩ (fun ps z => by rw [hv1] at z; cases z))
      · exact p1.elim
    · exact p.elim

/-! ### loops -/
def sWhile (g : Env → R Bool) (sb : Env → SR) : Nat → Env → SR
  | 0, _ => .no
  | n + 1, env => (g env).s env fun c => if c then (match sb env with
      | .nx env' => sWhile g sb n env'
      | .ct env' => sWhile g sb n env'
      | .bk env' => .nx env'
      | r => r) else .nx env
theorem is_while (n : Nat) {c : Expr} {g : Env → R Bool} {body : List Stmt} {sb : Env → SR} (hc : IT F c g) (hb : ISs F body sb) : IS F (.While c body [] pos) (sWhile g sb n) :=
  PS.imp (ps_while F.owns hc hb) fun Dn σ H ⟨b, env, G, p⟩ => by
    refine ⟨fun m σ H => ∃ b env, F.G b H σ env ∧ PoS F Dn b (sWhile g sb m env), ⟨n, b, env, G, p⟩, ?_⟩
    rintro m σ H ⟨b, env, G, p⟩
    cases m with
    | zero => exact p.elim
    | succ m =>
      unfold sWhile at p
      refine ⟨b, env, G, PoS.bnd G p fun c _ b1 h1 x1 G1 p1 => ?_⟩
      cases c with
      | false => exact iteF (p1 b1 h1 σ (Same.refl _) G1)
      | true =>
        refine iteT ⟨fun σ' H' => ∃ b env, F.G b H' σ' env ∧ PoS F Dn b (sWhile g sb m env), fun σ' H' q => ⟨m, Nat.lt_succ_self m, q⟩, b1, env, G1, ?_⟩
        revert p1
        show PoS F Dn b1 (match sb env with
          | .nx env' => sWhile g sb m env'
          | .ct env' => sWhile g sb m env'
          | .bk env' => .nx env'
          | r => r) → _
        cases sb env with
        | nx env' => exact fun p1 b' h' σ' q G' => ⟨b', env', G', p1.mono q⟩
        | rt d => exact fun p1 => p1
        | bk env' => exact fun p1 => p1
        | ct env' => exact fun p1 b' h' σ' q G' => ⟨b', env', G', p1.mono q⟩
        | ex c as env' => exact fun p1 => p1
        | no => exact fun p1 => p1
/-- a for over the items xs -/
def sFor (t : Tg) (sb : Env → SR) : List D → Env → SR
  | [], env => .nx env
  | x :: xs, env => match t x env with
    | none => .no
    | some env1 => match sb env1 with
      | .nx env' => sFor t sb xs env'
      | .ct env' => sFor t sb xs env'
      | .bk env' => .nx env'
      | r => r
/-- what a for walks: as long as b stands -/
structure Wk (K : PySem.W.Frag) (b : Hp) (J : It) (ds : List D) : Prop where
  goes : ∀ (i : Nat) b' h', Same b b' → Same b' h' → i < ds.length → J.go i h'
  stops : ∀ b' h', Same b b' → Same b' h' → J.stop ds.length h'
  yields : ∀ (i : Nat) b' h' x h'' d, Same b b' → Same b' h' → ds[i]? = some d → J.yld i h' x h'' → ∃ b'', Ext b' h' b'' h'' ∧ Dp K b'' x d
theorem Wk.mono {K : PySem.W.Frag} {b b1 : Hp} {J : It} {ds : List D} (w : Wk K b J ds) (s : Same b b1) : Wk K b1 J ds :=
  ⟨fun i b' h' q => w.goes i b' h' (s.trans q), fun b' h' q => w.stops b' h' (s.trans q), fun i b' h' x h'' d q => w.yields i b' h' x h'' d (s.trans q)⟩
def tII (F : Fx) (f : Env → R (List D)) : TI := fun σ h R => ∃ b env, F.G b h σ env ∧ Po F b h σ (f env) fun ds b' h' => ∀ J, Wk F.X.K b' J ds → R J h'
abbrev II (F : Fx) (tg e : Expr) (f : Env → R (List D)) : Prop := PI F.X tg e (tII F f)
def sForE (f : Env → R (List D)) (t : Tg) (sb : Env → SR) : Env → SR := fun env => (f env).s env fun ds => sFor t sb ds env
theorem is_for {tg iter : Expr} {f : Env → R (List D)} {t : Tg} {body : List Stmt} {sb : Env → SR} (hi : II F tg iter f) (hg : IG F tg t ix) (hb : ISs F body sb) (hs : ∀ x, foldedSetIterable iter F.X.env x = pure x := by intro _; rfl) :
    IS F (.For tg iter body [] pos) (sForE f t sb) :=
  PS.imp (ps_for F.owns F.calm hi hg hb hs) fun Dn σ H ⟨b, env, G, p⟩ => ⟨b, env, G, PoS.bnd G p fun ds _ b1 h1 x1 G1 p1 J wk => by
    refine ⟨fun i m σ h => m = ds.length - i ∧ i ≤ ds.length ∧ ∃ b env, F.G b h σ env ∧ Same b1 b ∧ PoS F Dn b (sFor t sb (ds.drop i) env), ⟨ds.length, by simp, Nat.zero_le _, b1, env, G1, Same.refl _, by simpa using p1⟩, ?_⟩
    rintro i m σ h ⟨rfl, hi, b, env, G, sb1, p⟩
    by_cases hlt : i < ds.length
    · refine .inr ⟨wk.goes i b h sb1 G.bh hlt, fun σ' h' => ∃ b env, F.G b h' σ' env ∧ Same b1 b ∧ PoS F Dn b (sFor t sb (ds.drop (i + 1)) env), fun σ' h' ⟨b', env', G', s', p'⟩ => ⟨ds.length - (i + 1), by omega, rfl, hlt, b', env', G', s', p'⟩, fun x h' hy => ?_⟩
      have ed : ds[i]? = some ds[i] := List.getElem?_eq_getElem hlt
      obtain ⟨b2, x2, r⟩ := wk.yields i b h x h' _ sb1 G.bh ed hy
      rw [List.drop_eq_getElem_cons hlt] at p
      unfold sFor at p
      revert p
      cases et : t ds[i] env with
      | none => exact fun p => p.elim
      | some env1 =>
        intro p
        refine ⟨b2, env, ds[i], env1, G.grow x2, r, et, fun σ' G' _ => ⟨b2, env1, G', ?_⟩⟩
        have s2 := x2.bb G.bh
        have p2 := PoS.mono p s2
        revert p2
        show PoS F Dn b2 (match sb env1 with
          | .nx env' => sFor t sb (ds.drop (i + 1)) env'
          | .ct env' => sFor t sb (ds.drop (i + 1)) env'
          | .bk env' => .nx env'
          | r => r) → _
        cases sb env1 with
        | nx env' => exact fun p2 b' h' σ' q G' => ⟨b', env', G', sb1.trans (s2.trans q), p2.mono q⟩
        | rt d => exact fun p2 => p2
        | bk env' => exact fun p2 => p2
        | ct env' => exact fun p2 b' h' σ' q G' => ⟨b', env', G', sb1.trans (s2.trans q), p2.mono q⟩
        | ex c as env' => exact fun p2 => p2
        | no => exact fun p2 => p2
    · have e : i = ds.length := by omega
      subst e
      rw [List.drop_length] at p
      exact .inl ⟨wk.stops b h sb1 G.bh, p b h σ (Same.refl _) G⟩⟩

/-! ### what is walked -/
/-- a list, a tuple or a text -/
def iSeq (K : PySem.W.Frag) (te : TE) : TI := fun σ H R => te σ H fun x H1 => (∃ a, x = .ref a ∧ (∃ xs, SqL K H1 a xs) ∧ R (Itl K a) H1) ∨ (∃ a, x = .ref a ∧ (∃ xs, SqT K H1 a xs) ∧ R (Itt K a) H1) ∨ ∃ z, x = .str z ∧ R (Its z) H1
theorem pi_seq {X : Cx} {tg l : Expr} {tl : TE} (hl : PE X l tl) : PI X tg l (iSeq X.K tl) := by
  refine ⟨fun pins s σ H R I h => ?_⟩
  refine thn (hl.run pins s σ H _ I h) fun v s1 ⟨x, H1, I1, r1, q1⟩ => ?_
  rcases q1 with ⟨a, e, ⟨xs, hq⟩, q⟩ | ⟨a, e, ⟨xs, hq⟩, q⟩ | ⟨z, e, q⟩
  · subst e
    cases r1
    obtain ⟨its, rv, p, hz⟩ := I1.list hq
    refine wpAny_pyIter_list p.isList ?_
    refine ⟨s1.heap.objs.size, [s1.heap.objs.size], _, _, H1, rfl, I1.kept (t' := s1.toks) fun b o e => Heap.get?_push_of_some _ e, turn_list a _, ⟨_, Heap.get?_push_size _ rfl, rfl, rfl⟩, fun b hb => ?_, q⟩
    have e : b = s1.heap.objs.size := by simpa using hb
    subst e
    exact I1.fpOk (Nat.le_refl _) (I1.hok.fresh (Nat.le_refl _))
  · subst e
    cases r1
    obtain ⟨its, rv, p, hz⟩ := I1.tuple hq
    refine wpAny_pyIter_tuple (show s1.heap.IsTuple a its.toArray from p) ?_
    refine ⟨s1.heap.objs.size, [s1.heap.objs.size], _, _, H1, rfl, I1.kept (t' := s1.toks) fun b o e => Heap.get?_push_of_some _ e, turn_tuple a _, ⟨_, Heap.get?_push_size _ rfl, rfl, rfl⟩, fun b hb => ?_, q⟩
    have e : b = s1.heap.objs.size := by simpa using hb
    subst e
    exact I1.fpOk (Nat.le_refl _) (I1.hok.fresh (Nat.le_refl _))
  · subst e
    obtain ⟨t, rfl⟩ := r1
    cases ha : z.cps.all (· < 128)
    · exact wpAny_pyIter_wide ha (pi_one (tk := s1.toks) I1 _ (turn_str _ z t "str_iterator" (.inr rfl)) ⟨_, Heap.get?_push_size _ rfl, rfl, rfl⟩ q)
    · exact wpAny_pyIter_ascii ha (pi_one (tk := s1.toks) I1 _ (turn_str _ z t "str_ascii_iterator" (.inl rfl)) ⟨_, Heap.get?_push_size _ rfl, rfl, rfl⟩ q)
theorem PI.imp {X : Cx} {tg e : Expr} {t t' : TI} (h : PI X tg e t) (q : ∀ σ H R, t' σ H R → t σ H R) : PI X tg e t' := ⟨fun pins s σ H R I z => h.run pins s σ H R I (q σ H R z)⟩
/-- a sign as a text -/
def sg (c : Nat) : D := .str ⟨#[c]⟩
/-- the items of a thing -/
def items : D → R (List D)
  | .list l => .ok l
  | .tuple l => .ok l
  | .str z => .ok (z.cps.toList.map sg)
  | _ => .no
theorem dpAll_get {K : PySem.W.Frag} {b : Hp} : ∀ {vs : List V} {ds : List D} {i : Nat} {d : D} {v : V}, DpAll K b vs ds → ds[i]? = some d → vs[i]? = some v → Dp K b v d
  | _, _, 0, _, _, .cons p _, e, e' => by
    simp only [List.getElem?_cons_zero, Option.some.injEq] at e e'
    subst e e'; exact p
  | _, _, i + 1, _, _, .cons _ r, e, e' => by
    simp only [List.getElem?_cons_succ] at e e'
    exact dpAll_get r e e'
  | _, _, _, _, _, .nil, e, _ => by simp at e
theorem Same.sqL {K : PySem.W.Frag} {H H' : Hp} {a : Addr} {xs : List V} (e : Same H H') (h : SqL K H a xs) : SqL K H' a xs := e.seq h
theorem wk_list {K : PySem.W.Frag} {b : Hp} {a : Addr} {vs : List V} {ds : List D} (hs : SqL K b a vs) (r : DpAll K b vs ds) : Wk K b (Itl K a) ds where
  goes := fun i b' h' s s' hi => by
    have hl := dpAll_len r
    exact ⟨vs, vs[i]'(by omega), Same.sqL (s.trans s') hs, List.getElem?_eq_getElem (by omega)⟩
  stops := fun b' h' s s' => ⟨vs, Same.sqL (s.trans s') hs, Nat.le_of_eq (dpAll_len r)⟩
  yields := fun i b' h' x h'' d s s' e y => by
    obtain ⟨rfl, y⟩ := y
    exact ⟨b', Ext.refl s', dpAll_get (dpAll_mono s r) e (y vs (Same.sqL (s.trans s') hs))⟩
theorem wk_tup {K : PySem.W.Frag} {b : Hp} {a : Addr} {vs : List V} {ds : List D} (hs : SqT K b a vs) (r : DpAll K b vs ds) : Wk K b (Itt K a) ds where
  goes := fun i b' h' s s' hi => by
    have hl := dpAll_len r
    exact ⟨vs, vs[i]'(by omega), Same.sqT (s.trans s') hs, List.getElem?_eq_getElem (by omega)⟩
  stops := fun b' h' s s' => ⟨vs, Same.sqT (s.trans s') hs, Nat.le_of_eq (dpAll_len r)⟩
  yields := fun i b' h' x h'' d s s' e y => by
    obtain ⟨rfl, y⟩ := y
    exact ⟨b', Ext.refl s', dpAll_get (dpAll_mono s r) e (y vs (Same.sqT (s.trans s') hs))⟩
theorem wk_str {K : PySem.W.Frag} {b : Hp} {z : Str} : Wk K b (Its z) (z.cps.toList.map sg) where
  goes := fun i b' h' s s' hi => by
    have hi' : i < z.cps.size := by simpa using hi
    exact hi'
  stops := fun b' h' s s' => by
    show z.cps.size ≤ _
    simp
  yields := fun i b' h' x h'' d s s' e y => by
    obtain ⟨rfl, c, hc, rfl⟩ := y
    refine ⟨b', Ext.refl s', ?_⟩
    rw [List.getElem?_map, Array.getElem?_toList, hc] at e
    cases e
    exact .str _
theorem ii_seq {tg : Expr} (he : IE F e fa) : II F tg e (fun env => (fa env).bnd items) :=
  PI.imp (pi_seq he) fun σ H R ⟨b, env, G, p⟩ => ⟨b, env, G, Po.bnd p fun d _ b1 h1 x1 p1 v r => by
    cases d with
    | list l =>
      cases r with
      | @lst a vs _ hs hr => exact .inl ⟨a, rfl, ⟨vs, Same.sqL x1.bh hs⟩, p1 b1 h1 (Ext.refl x1.bh) _ (wk_list hs hr)⟩
    | tuple l =>
      cases r with
      | @tup a vs _ hs hr => exact .inr (.inl ⟨a, rfl, ⟨vs, Same.sqT x1.bh hs⟩, p1 b1 h1 (Ext.refl x1.bh) _ (wk_tup hs hr)⟩)
    | str z =>
      cases r
      exact .inr (.inr ⟨z, rfl, p1 b1 h1 (Ext.refl x1.bh) _ wk_str⟩)
    | none => exact p1.elim
    | bool _ => exact p1.elim
    | int _ => exact p1.elim
    | dict _ => exact p1.elim⟩
/-- lo, lo + 1, .. -/
def upFrom (lo : Int) (n : Nat) : List D := (List.range n).map fun i => .int (lo + (i : Nat))
theorem wk_range {K : PySem.W.Frag} {b : Hp} {lo : Int} {n : Nat} : Wk K b (Itr lo n) (upFrom lo n) where
  goes := fun i b' h' s s' hi => by
    have hi' : i < n := by simpa [upFrom] using hi
    exact hi'
  stops := fun b' h' s s' => by
    show n ≤ _
    simp [upFrom]
  yields := fun i b' h' x h'' d s s' e y => by
    obtain ⟨rfl, rfl⟩ := y
    refine ⟨b', Ext.refl s', ?_⟩
    unfold upFrom at e
    rw [List.getElem?_map] at e
    obtain ⟨j, ej, e⟩ := Option.map_eq_some_iff.mp e
    obtain ⟨hj, rfl⟩ := List.getElem?_eq_some_iff.mp ej
    subst e
    rw [List.getElem_range]
    exact .int _
def rng1 : D → R (List D)
  | .int j => if -(2 ^ 62) ≤ j ∧ j < 2 ^ 62 then .ok (upFrom 0 j.toNat) else .no
  | _ => .no
def rng2 : D → D → R (List D)
  | .int i, .int j => if (-(2 ^ 62) ≤ i ∧ i < 2 ^ 62) ∧ -(2 ^ 62) ≤ j ∧ j < 2 ^ 62 then .ok (upFrom i (j - i).toNat) else .no
  | _, _ => .no
theorem ia_one {a : Expr} {fa : Env → R D} (ha : IE F a fa) (hs : starEach [a] F.X.env = (false, eval a F.X.env) :: starEach [] F.X.env := by rfl) : PA F.X [a] (tCons (tI F fa) tNil) := pa_cons ha pa_nil hs
theorem ii_range1 {tg a : Expr} {p : Pos} (ha : IE F a fa) (hm : F.X.mg "range" = none) (hg : Gl F.X "range" := by rfl) (hs : starEach [a] F.X.env = [(false, eval a F.X.env)] := by rfl) (hs' : starEach [a] F.X.env = (false, eval a F.X.env) :: starEach [] F.X.env := by rfl) :
    II F tg (.Call (.Name "range" p) [a] [] pos) (fun env => (fa env).bnd rng1) :=
  PI.imp (pi_range1 hg hm (ia_one ha hs') hs) fun σ H R ⟨b, env, G, p⟩ => ⟨b, env, G, Po.bnd p fun d _ b1 h1 x1 p1 v r => by
    cases d with
    | int j =>
      cases r
      by_cases hj : -(2 ^ 62) ≤ j ∧ j < 2 ^ 62
      · rw [rng1, if_pos hj] at p1
        exact ⟨j, rfl, hj.1, hj.2, p1 b1 h1 (Ext.refl x1.bh) _ wk_range⟩
      · rw [rng1, if_neg hj] at p1
        exact p1.elim
    | _ => exact p1.elim⟩
theorem ii_range2 {tg a c : Expr} {fc : Env → R D} {p : Pos} (ha : IE F a fa) (hc : IE F c fc) (hm : F.X.mg "range" = none) (hg : Gl F.X "range" := by rfl) (hs : starEach [a, c] F.X.env = [(false, eval a F.X.env), (false, eval c F.X.env)] := by rfl) (hs2 : starEach [c] F.X.env = [(false, eval c F.X.env)] := by rfl)
    (hs' : starEach [a, c] F.X.env = (false, eval a F.X.env) :: starEach [c] F.X.env := by rfl) (hs3 : starEach [c] F.X.env = (false, eval c F.X.env) :: starEach [] F.X.env := by rfl) :
    II F tg (.Call (.Name "range" p) [a, c] [] pos) (fun env => (fa env).bnd fun x => (fc env).bnd fun y => rng2 x y) :=
  PI.imp (pi_range2 hg hm (pa_cons ha (ia_one hc hs3) hs') hs hs2) fun σ H R ⟨b, env, G, p⟩ => ⟨b, env, G, Po.bnd p fun d _ b1 h1 x1 p1 v r => ⟨b1, env, G.grow x1, Po.bnd p1 fun d2 _ b2 h2 x2 p2 v2 r2 => by
    unfold rng2 at p2
    split at p2
    · split at p2
      · rename_i hj
        cases r
        cases r2
        exact ⟨_, _, rfl, ⟨hj.1.1, hj.1.2, hj.2.1, hj.2.2⟩, p2 b2 h2 (Ext.refl x2.bh) _ wk_range⟩
      · exact p2.elim
    · exact p2.elim⟩⟩
end
end FP
/-! FP D: defs and calls. -/
namespace FP
open PySem L2 PySem.Spec PyProof.Rows

/-- a def's promise: it gives what m gives -/
def spF (K : PySem.W.Frag) (mg : Str → Option Value) (T : List Addr) (n : Nat) (m : List D → R D) : Sp := fun vs H Q E => vs.length = n ∧ ∃ b ds, (∀ P ∈ T, GxR.TabG H P ∧ b P = none) ∧ Same b H ∧ DpAll K b vs ds ∧ match m ds with
  | .ok d => ∀ b' h' v, Ext b H b' h' → Dp K b' v d → Q v h'
  | .ex c as => ∀ b' h' dd C fs, Ext b H b' h' → mg c = some (.ref C) → h' dd = some (.xd fs) → ArgsR K b' fs as → E (.ref C) (some dd) h'
  | .no => False
/-- the def that a module's name holds -/
structure Fn (P : Program) (w : World) (K : PySem.W.Frag) (mg : Str → Option Value) (base : Heap) (T : List Addr) (x : Str) (k n : Nat) (m : List D → R D) : Prop where
  at_ : ∃ f fd ps, mg x = some (.ref f) ∧ PySem.W.keepIn K (.ref f) = true ∧ Binds K fd ps [] ∧ FnOk P w K mg base (L2.CX P w) k f fd ps (spF K mg T n m)
theorem Fn.mono {P : Program} {w : World} {K : PySem.W.Frag} {mg : Str → Option Value} {base : Heap} {T : List Addr} {x : Str} {k k' n : Nat} {m : List D → R D} (f : Fn P w K mg base T x k n m) (h : k ≤ k') : Fn P w K mg base T x k' n m := by
  obtain ⟨f, fd, ps, a, b, c, d⟩ := f.at_
  exact ⟨f, fd, ps, a, b, c, d.mono h⟩
abbrev FnF (F : Fx) (x : Str) (k n : Nat) (m : List D → R D) : Prop := Fn F.X.prog F.X.w F.X.K F.X.mg F.X.base F.T x k n m
section
variable {F : Fx} {e : Expr} {es : List Expr} {pos : Pos} {fr : Env → R (List D)}
theorem Good.pre {F : Fx} {b h : Hp} {σ : St} {env : Env} (G : F.G b h σ env) : ∀ P ∈ F.T, GxR.TabG h P ∧ b P = none := fun P hP => by
  obtain ⟨q, n⟩ := F.pre P hP
  refine ⟨G.ext.up.pre q, ?_⟩
  obtain ⟨ps, e, _⟩ := q
  rw [G.ext.fz P _ e]
  exact n
theorem ie_call {x : Str} {k n : Nat} {m : List D → R D} {p : Pos} (f : FnF F x k n m) (hk : k ≤ F.k) (ha : IA F n (e :: es) fr) (hg : Gl F.X x := by rfl) (hdb : (x == ("__debug__" : Str)) = false := by decide)
    (he : starEach (e :: es) F.X.env = (false, eval e F.X.env) :: starEach es F.X.env := by rfl) (hpl : (backTo pos (starEach es F.X.env)).any (·.1) = false := by rfl) : IE F (.Call (.Name x p) (e :: es) [] pos) (fun env => (fr env).bnd m) := by
  obtain ⟨f, fd, ps, hm, kp, bi, ok⟩ := f.at_
  refine PE.imp (pe_callS ok (F.room.mono hk) hg hm kp bi (fun σ => passAt F.tk σ) ha hdb he hpl) fun σ H Q ⟨b, env, G, p⟩ => ⟨b, env, G, Po.bnd p fun ds _ b1 h1 x1 p1 vs hl rs => ?_⟩
  refine ⟨hl, b1, ds, (G.grow x1).pre, x1.bh, rs, ?_⟩
  revert p1
  cases m ds with
  | ok d => exact fun p1 b' h' v x r => p1 b' h' x v r
  | ex c as => exact fun p1 b' h' dd C fs x hc hd ha => p1 b' h' dd C fs x hc hd ha
  | no => exact fun p1 => p1
end

/-- the slots at a def's entry -/
def env0 (n : Nat) (ds : List D) : Env := ds.map .vl ++ List.replicate (n - ds.length) .no
theorem good0 {K : PySem.W.Frag} {b h : Hp} {N : List Str} {vs : List V} {ds : List D} (s : Same b h) (r : DpAll K b vs ds) : Good K b h b h (L2.start N vs) (env0 N.length ds) := by
  have hl := dpAll_len r
  refine ⟨by unfold L2.start env0; simp [hl], Ext.refl s, fun i sl e => ?_, fun i j o o' a _ e => ?_⟩
  · unfold env0 at e
    unfold L2.start
    by_cases hi : i < ds.length
    · rw [List.getElem?_append_left (by simpa using hi), List.getElem?_map, List.getElem?_eq_getElem hi] at e
      cases e
      have hv : i < vs.length := by omega
      refine ⟨some vs[i], by rw [List.getElem?_append_left (by simpa using hv), List.getElem?_map, List.getElem?_eq_getElem hv]; rfl, vs[i], rfl, dpAll_get r (List.getElem?_eq_getElem hi) (List.getElem?_eq_getElem hv)⟩
    · rw [List.getElem?_append_right (by simpa using hi), List.getElem?_replicate] at e
      split at e
      · rename_i hlt
        cases e
        refine ⟨none, ?_, trivial⟩
        rw [List.getElem?_append_right (by simp; omega), List.getElem?_replicate]
        rw [if_pos (by simp at hlt ⊢; omega)]
      · cases e
  · unfold env0 at e
    by_cases hi : i < ds.length
    · rw [List.getElem?_append_left (by simpa using hi), List.getElem?_map, List.getElem?_eq_getElem hi] at e
      cases e
    · rw [List.getElem?_append_right (by simpa using hi), List.getElem?_replicate] at e
      split at e <;> cases e
/-- what a body's end says -/
def SR.r : SR → R D
  | .nx _ => .ok .none
  | .rt d => .ok d
  | .ex c as _ => .ex c as
  | _ => .no
section
variable {P : Program} {w : World} {K : PySem.W.Frag} {mg : Str → Option Value} {base : Heap} {T : List Addr}
/-- a def's body -/
abbrev bodyF (P : Program) (w : World) (K : PySem.W.Frag) (mg : Str → Option Value) (base : Heap) (T : List Addr) (N ps : List Str) (qual : Str) (sc : Scope) (S : FnScope N ps sc) (k : Nat) (f : Addr) (cdv : Value) (A : Around) (outer : List PySem.Env) (s : Shared) (H b : Hp) (E : XK)
    (hr : Room k (A.deeper (envOfC qual sc s.heap.objs.size f cdv))) (pre : ∀ P ∈ T, GxR.TabG H P ∧ b P = none) : Fx where
  X := cxOf (L2.CX P w) P w K mg base N qual sc f cdv A outer s H E
  W := fun cls d _ H => E cls d H
  b0 := b
  h0 := H
  T := T
  k := k
  pre := pre
  tk := takes_of rfl rfl rfl rfl
  calm := rfl
  nd := S.nd
  room := hr
  owns := passes_of rfl
theorem fn_ok {x qual : Str} {st : Stmt} {f : Addr} {fd : FuncData} {N ps : List Str} {k : Nat} {sv : Env → SR} (Fu : Fun K x qual st f fd) (S : FnScope N ps (defScope st)) (hm : mg x = some (.ref f)) (bi : Binds K fd ps [])
    (body : ∀ (cdv : Value) (A : Around) (outer : List PySem.Env) (s : Shared) (H b : Hp) (E : XK) (hr : Room k (A.deeper (envOfC qual (defScope st) s.heap.objs.size f cdv))) (pre : ∀ P ∈ T, GxR.TabG H P ∧ b P = none),
      ISs (bodyF P w K mg base T N ps qual (defScope st) S k f cdv A outer s H b E hr pre) (defBody st) sv) :
    Fn P w K mg base T x (k + 1) ps.length (fun ds => (sv (env0 N.length ds)).r) := by
  refine ⟨f, fd, ps, hm, Fu.kp, bi, Fu.okX S (fun vs H Q E h => h.1) fun cdv A outer s H vs Q E hr hsp => ?_⟩
  obtain ⟨hl, b, ds, pre, sb, rs, q⟩ := hsp
  refine ⟨_, body cdv A outer s H b E hr pre, b, env0 N.length ds, good0 sb rs, ?_⟩
  dsimp only at q
  revert q
  generalize sv (env0 N.length ds) = r
  cases r with
  | nx env => exact fun q b' h' σ' _ G => q b' h' .non G.ext .non
  | rt d => exact fun q b' h' v x r => q b' h' v x r
  | bk env => exact fun q => q.elim
  | ct env => exact fun q => q.elim
  | ex c as env => exact fun q b' h' σ' dd C fs _ G hc hd ha => q b' h' dd C fs G.ext hc hd ha
  | no => exact fun q => q.elim
end
end FP
/-! FP E: operations on values. -/
namespace FP
open PySem L2 PySem.Spec PyProof.Rows

/-! ### texts as lists of codes -/
abbrev tl (z : Str) : List Nat := z.cps.toList
def mkS (l : List Nat) : Str := ⟨⟨l⟩⟩
theorem tl_mkS (l : List Nat) : tl (mkS l) = l := rfl
theorem mkS_tl (z : Str) : mkS (tl z) = z := rfl
theorem mkS_app (i j : Str) : mkS (tl i ++ tl j) = i ++ j := by
  show (⟨⟨i.cps.toList ++ j.cps.toList⟩⟩ : Str) = ⟨i.cps ++ j.cps⟩
  congr 1
  rw [← Array.toList_append]
theorem len_tl (z : Str) : (tl z).length = z.length := by
  show z.cps.toList.length = z.cps.size
  simp
theorem tl_inj {a b : Str} (h : tl a = tl b) : a = b := by rw [← mkS_tl a, ← mkS_tl b, h]

/-! ### what Dp says of a value's kind -/
section
variable {K : PySem.W.Frag} {b h : Hp} {v : V}
theorem Bp.int {i : Int} (q : Bp K b h v (.int i)) : v = .int i := by
  rcases q with q | ⟨a, vs, l, _, _, _, e⟩
  · cases q; rfl
  · cases e
theorem Bp.str {z : Str} (q : Bp K b h v (.str z)) : v = .str z := by
  rcases q with q | ⟨a, vs, l, _, _, _, e⟩
  · cases q; rfl
  · cases e
theorem Bp.bl {c : Bool} (q : Bp K b h v (.bool c)) : v = .bl c := by
  rcases q with q | ⟨a, vs, l, _, _, _, e⟩
  · cases q; rfl
  · cases e
theorem Bp.non (q : Bp K b h v .none) : v = .non := by
  rcases q with q | ⟨a, vs, l, _, _, _, e⟩
  · cases q; rfl
  · cases e
theorem Bp.tup {ds : List D} (q : Bp K b h v (.tuple ds)) : ∃ a vs, v = .ref a ∧ SqT K b a vs ∧ DpAll K b vs ds := by
  rcases q with q | ⟨a, vs, l, _, _, _, e⟩
  · cases q with | tup hs hr => exact ⟨_, _, rfl, hs, hr⟩
  · cases e
/-- a list, read in h, its items in b -/
theorem Bp.lst {ds : List D} (s : Same b h) (q : Bp K b h v (.list ds)) : ∃ a vs, v = .ref a ∧ SqL K h a vs ∧ DpAll K b vs ds := by
  rcases q with q | ⟨a, vs, l, e1, e2, r, e⟩
  · cases q with | lst hs hr => exact ⟨_, _, rfl, Same.sqL s hs, hr⟩
  · cases e
    exact ⟨a, vs, e1, .inl (.inl e2), r⟩
end

/-! ### + -/
def pyAdd : D → D → R D
  | .int i, .int j => .ok (.int (i + j))
  | .str x, .str y => if x.length + y.length ≤ sizeLine then .ok (.str (mkS (tl x ++ tl y))) else .no
  | .list x, .list y => if x.length + y.length ≤ sizeLine then .ok (.list (x ++ y)) else .no
  | .tuple x, .tuple y => if x.length + y.length ≤ sizeLine then .ok (.tuple (x ++ y)) else .no
  | _, _ => .no
/-- two lists, any that can be read -/
def rCatS (K : PySem.W.Frag) : R2 := fun x y H Q => ∃ l b xs zs, x = .ref l ∧ y = .ref b ∧ SqL K H l xs ∧ SqL K H b zs ∧ xs.length + zs.length ≤ sizeLine ∧ ∀ p, H p = none → Q (.ref p) (upd H p (.lst (xs ++ zs)))
theorem list_addW (l b : Addr) (items items2 : Array Value) (n n2 : Nat) (sl sl2 : Array (Option Value)) (hsz : items.size + items2.size ≤ sizeLine) :
    Meets (Builtin.«list.__add__» ⟨[.ref l, .ref b], []⟩) (fun _ R s => s.heap.get? l = some { cls := .type "list", dict := none, data := .seq items n, slots := sl } ∧ s.heap.get? b = some { cls := .type "list", dict := none, data := .seq items2 n2, slots := sl2 } ∧
      R (.ok (.ret (Value.ref s.heap.objs.size))) { s with heap := s.heap.push { cls := Value.type "list", data := Data.seq (items ++ items2) } }) :=
  .of_wp fun prog w A R s h => by
    obtain ⟨hp, g, d, tk, os⟩ := s
    obtain ⟨hl, hb, h⟩ := h
    have f1 := AutoSeq1.idx_int
    have f2 := AutoSeq1.sub_tuple_tuple
    have f3 := AutoSeq1.sub_list_list
    have f4 := AutoSeq1.sub_tuple_list
    have f5 := AutoSeq1.sub_list_tuple
    wp_walk using wpAny_loadPart' hl, wpAny_loadPart' hb
    exact ⟨_, rfl, h⟩
theorem op_catS {X : Cx} : OpR X (binaryOp .Add) (rCatS X.K) := by
  intro pins s σ H x y v u Q I rx ry h
  obtain ⟨l, b, xs, zs, rfl, rfl, hH, hB, hz, q⟩ := h
  cases rx
  cases ry
  obtain ⟨its, r, p, hl⟩ := I.list hH
  obtain ⟨its2, r2, p2, hl2⟩ := I.list hB
  have e1 := r.length
  have e2 := r2.length
  obtain ⟨⟨cls, dd, data, sl⟩, n, ho, hc, hdn, hd⟩ := p
  obtain ⟨⟨cls2, dd2, data2, sl2⟩, n2, ho2, hc2, hdn2, hd2⟩ := p2
  simp only at hc hd hc2 hd2 hdn hdn2
  subst hc hd hc2 hd2 hdn hdn2
  refine concat_meets ⟨_, ho, rfl⟩ ⟨_, ho2, rfl⟩ noFill_list_add seq_list_add PySem.F.slot_list_add PySem.F.entry_list_add (PySem.F.args_list_add_2 _ _) (list_addW l b _ _ _ _ _ _ (by rw [List.size_toArray, List.size_toArray]; omega)) ⟨ho, ho2, ?_⟩
  have ea : its.toArray ++ its2.toArray = (its ++ its2).toArray := by simp
  rw [ea]
  exact ⟨.ref _, _, I.lnew (t' := s.toks) (r.append r2) (by rw [List.length_append]; omega), rfl, q _ I.fresh⟩
def rAddA (K : PySem.W.Frag) : R2 := fun x y H Q => ((rI0 fun i j => .int (i + j)) x y H Q ∨ (∃ i j, x = .str i ∧ y = .str j ∧ i.length + j.length ≤ sizeLine ∧ Q (.str (i ++ j)) H)) ∨ rCatS K x y H Q ∨ rCatA K x y H Q
theorem op_addA {X : Cx} : OpR X (binaryOp .Add) (rAddA X.K) := (op_add.or op_add_str).or (op_catS.or op_catA)
theorem nil_dp {K : PySem.W.Frag} {b : Hp} {vs : List V} {ds : List D} (r : DpAll K b vs ds) : vs = [] ↔ ds = [] := by
  cases r with
  | nil => simp
  | cons _ _ => simp
theorem ok_add {K : PySem.W.Frag} : OpOk K (rAddA K) pyAdd where
  run := fun b h x y d e Q s rx ry p => by
    unfold pyAdd at p
    split at p
    · cases rx.int
      cases ry.int
      exact .inl (.inl ⟨_, _, rfl, rfl, p b h _ (Ext.refl s) (.int _)⟩)
    · split at p
      · rename_i hl
        cases rx.str
        cases ry.str
        refine .inl (.inr ⟨_, _, rfl, rfl, hl, ?_⟩)
        rw [← mkS_app]
        exact p b h _ (Ext.refl s) (.str _)
      · exact p.elim
    · split at p
      · rename_i hl
        obtain ⟨a, vs, rfl, q1, r1⟩ := rx.lst s
        obtain ⟨c, ws, rfl, q2, r2⟩ := ry.lst s
        refine .inr (.inl ⟨a, c, vs, ws, rfl, rfl, q1, q2, by rw [dpAll_len r1, dpAll_len r2]; exact hl, fun q hq => ?_⟩)
        exact p _ _ _ (Ext.new s hq) (.lst (.inl (.inl upd_same)) (dpAll_mono (upd_same_sub (none_sub s hq)) (dpAll_app r1 r2)))
      · exact p.elim
    · split at p
      · rename_i hl
        obtain ⟨a, vs, rfl, q1, r1⟩ := rx.tup
        obtain ⟨c, ws, rfl, q2, r2⟩ := ry.tup
        refine .inr (.inr ⟨a, c, vs, ws, rfl, rfl, Same.sqT s q1, Same.sqT s q2, by rw [dpAll_len r1, dpAll_len r2]; exact hl, fun z => ?_, fun z1 z2 => ?_, fun z1 z2 q hq => ?_⟩)
        · have := (nil_dp r1).mp z
          subst this
          exact p b h _ (Ext.refl s) (.tup q2 r2)
        · have := (nil_dp r2).mp z2
          subst this
          rw [List.append_nil] at p
          exact p b h _ (Ext.refl s) (.tup q1 r1)
        · exact p _ _ _ (Ext.new s hq) (.tup (.inl (.inl upd_same)) (dpAll_mono (upd_same_sub (none_sub s hq)) (dpAll_app r1 r2)))
      · exact p.elim
    · exact p.elim
  nex := fun d e c as z => by
    unfold pyAdd at z
    split at z
    · cases z
    all_goals first | cases z | (split at z <;> cases z)
/-! ### += of ints and texts -/
def pyIAdd : D → D → R D
  | .int i, .int j => .ok (.int (i + j))
  | .str x, .str y => if x.length + y.length ≤ sizeLine then .ok (.str (mkS (tl x ++ tl y))) else .no
  | _, _ => .no
def rIAddA : R2 := fun x y H Q => (rI0 fun i j => .int (i + j)) x y H Q ∨ (∃ i j, x = .str i ∧ y = .str j ∧ i.length + j.length ≤ sizeLine ∧ Q (.str (i ++ j)) H)
theorem op_iaddA {X : Cx} : OpR X (inplaceOp .Add) rIAddA := iop_add.or iop_add_str
theorem ok_iadd {K : PySem.W.Frag} : OpOk K rIAddA pyIAdd where
  run := fun b h x y d e Q s rx ry p => by
    unfold pyIAdd at p
    split at p
    · cases rx.int
      cases ry.int
      exact .inl ⟨_, _, rfl, rfl, p b h _ (Ext.refl s) (.int _)⟩
    · split at p
      · rename_i hl
        cases rx.str
        cases ry.str
        refine .inr ⟨_, _, rfl, rfl, hl, ?_⟩
        rw [← mkS_app]
        exact p b h _ (Ext.refl s) (.str _)
      · exact p.elim
    · exact p.elim
  nex := fun d e c as z => by
    unfold pyIAdd at z
    split at z
    · cases z
    all_goals first | cases z | (split at z <;> cases z)

/-! ### ints -/
def pyI (g : Int → Int → R D) : D → D → R D
  | .int i, .int j => g i j
  | _, _ => .no
theorem ok_int {K : PySem.W.Frag} {C : Int → Int → Prop} {f : Int → Int → Int} {g : Int → Int → R D} (hg : ∀ i j, (C i j ∧ g i j = .ok (.int (f i j))) ∨ g i j = .no) : OpOk K (rI C fun i j => .int (f i j)) (pyI g) where
  run := fun b h x y d e Q s rx ry p => by
    unfold pyI at p
    split at p
    · rename_i i j
      rcases hg i j with ⟨hc, e⟩ | e
      · rw [e] at p
        cases rx.int
        cases ry.int
        exact ⟨_, _, rfl, rfl, hc, p b h _ (Ext.refl s) (.int _)⟩
      · rw [e] at p
        exact p.elim
    · exact p.elim
  nex := fun d e c as z => by
    unfold pyI at z
    split at z
    · rename_i i j
      rcases hg i j with ⟨_, e⟩ | e <;> · rw [e] at z; cases z
    · cases z
def pySub : D → D → R D := pyI fun i j => .ok (.int (i - j))
def rSubA : R2 := rI (fun _ _ => True) fun i j => .int (i - j)
theorem op_subA {X : Cx} : OpR X (binaryOp .Sub) rSubA := fun pins s σ H x y v u Q I rx ry ⟨i, j, e1, e2, _, q⟩ => op_sub pins s σ H x y v u Q I rx ry ⟨i, j, e1, e2, q⟩
theorem op_isubA {X : Cx} : OpR X (inplaceOp .Sub) rSubA := fun pins s σ H x y v u Q I rx ry ⟨i, j, e1, e2, _, q⟩ => iop_sub pins s σ H x y v u Q I rx ry ⟨i, j, e1, e2, q⟩
theorem ok_sub {K : PySem.W.Frag} : OpOk K rSubA pySub := ok_int fun _ _ => .inl ⟨trivial, rfl⟩
def pyFdiv : D → D → R D := pyI fun i j => if 0 < j ∧ j < 1073741824 then .ok (.int (i / j)) else .no
theorem ok_fdiv {K : PySem.W.Frag} : OpOk K (rI CDiv fun i j => .int (i / j)) pyFdiv := ok_int fun i j => by
  by_cases h : 0 < j ∧ j < 1073741824
  · exact .inl ⟨h, by rw [if_pos h]⟩
  · exact .inr (by rw [if_neg h])
def pyMod : D → D → R D := pyI fun i j => if 0 < j then .ok (.int (i % j)) else .no
theorem ok_mod {K : PySem.W.Frag} : OpOk K (rI (fun _ j => 0 < j) fun i j => .int (i % j)) pyMod := ok_int fun i j => by
  by_cases h : 0 < j
  · exact .inl ⟨h, by rw [if_pos h]⟩
  · exact .inr (by rw [if_neg h])
def pyPow : D → D → R D := pyI fun i j => if 0 ≤ j ∧ j ≤ 1000000 ∧ i.natAbs < 2 ^ 64 then .ok (.int (i ^ j.toNat)) else .no
theorem ok_pow {K : PySem.W.Frag} : OpOk K (rI CPow fun i j => .int (i ^ j.toNat)) pyPow := ok_int fun i j => by
  by_cases h : 0 ≤ j ∧ j ≤ 1000000 ∧ i.natAbs < 2 ^ 64
  · exact .inl ⟨h, by rw [if_pos h]⟩
  · exact .inr (by rw [if_neg h])
def pyNeg : D → R D
  | .int i => .ok (.int (-i))
  | _ => .no
theorem ok_neg {K : PySem.W.Frag} : UnOk K (rU fun i => .int (-i)) pyNeg where
  run := fun b h x d Q s rx p => by
    unfold pyNeg at p
    split at p
    · cases rx.int
      exact ⟨_, rfl, p b h _ (Ext.refl s) (.int _)⟩
    · exact p.elim
  nex := fun d c as z => by
    unfold pyNeg at z
    split at z <;> cases z
/-! ### * : ints, a text times an int, a list times an int -/
def rMulS : R2 := fun x y H Q => ∃ (z : Str) (n : Int), x = .str z ∧ y = .int n ∧ (0 ≤ n ∧ n ≤ 10000) ∧ z.length ≤ 1000 ∧ Q (.str (mkS (List.replicate n.toNat (tl z)).flatten)) H
theorem foldl_repN (its : List Nat) : ∀ (k : Nat) (acc : List Nat), List.foldl (fun x1 x2 => x1 ++ x2) acc.toArray (List.replicate k its.toArray) = (acc ++ (List.replicate k its).flatten).toArray
  | 0, acc => by simp
  | k + 1, acc => by
    have e : acc.toArray ++ its.toArray = (acc ++ its).toArray := by simp
    have e2 : (acc ++ its) ++ (List.replicate k its).flatten = acc ++ (List.replicate (k + 1) its).flatten := by
      rw [List.replicate_succ, List.flatten_cons, List.append_assoc]
    rw [← e2, ← foldl_repN its k (acc ++ its), ← e, List.replicate_succ, List.foldl_cons]
theorem op_mulS {X : Cx} : OpR X (binaryOp .Mult) rMulS := by
  intro pins s σ H x y v u Q I rx ry h
  obtain ⟨z, n, rfl, rfl, ⟨h0, h1⟩, h2, q⟩ := h
  obtain ⟨t, rfl⟩ := rx
  obtain ⟨t', rfl⟩ := ry
  by_cases hn : n < 1
  · have : n = 0 := by omega
    subst this
    refine PySem.P.mul_str_none hn (by omega) ⟨.str _, H, I.tok _, ⟨_, rfl⟩, ?_⟩
    exact q
  · refine PySem.P.mul_str ?_ (fun _ _ => ?_) (fun _ _ => ?_) ?_
    · rw [decide_eq_false (by omega), decide_eq_false (by omega)]; rfl
    · have e1 : (1000 : Int) ≤ (2 ^ 63 - 1) / n := Int.le_ediv_of_mul_le (by omega) (by omega)
      have e2 : (z.length : Int) ≤ 1000 := by omega
      omega
    · unfold Builtin.Str.tooLong
      refine decide_eq_false ?_
      have : z.length * n.toNat ≤ 1000 * 10000 := Nat.mul_le_mul h2 (by omega)
      rw [sizeLine_eq]
      omega
    · rw [if_neg hn]
      by_cases e : (n == 1 || z.length == 0) = true
      · rw [if_pos e]
        have e' : mkS (List.replicate n.toNat (tl z)).flatten = z := by
          rcases Bool.or_eq_true_iff.mp e with e | e
          · have : n = 1 := by simpa using e
            subst this
            exact tl_inj (by simp [tl_mkS])
          · have : (tl z) = [] := List.length_eq_zero_iff.mp (by rw [len_tl]; simpa using e)
            refine tl_inj ?_
            rw [tl_mkS, this]
            simp
        rw [e'] at q
        exact ⟨.str z, H, I, ⟨_, rfl⟩, q⟩
      · rw [if_neg e]
        have e1 : (List.replicate n.toNat z.cps).foldl (· ++ ·) #[] = (List.replicate n.toNat (tl z)).flatten.toArray := by
          have := foldl_repN (tl z) n.toNat []
          simpa using this
        rw [e1]
        have e2 : (⟨(List.replicate n.toNat (tl z)).flatten.toArray⟩ : Str) = mkS (List.replicate n.toNat (tl z)).flatten := rfl
        rw [e2]
        refine ⟨?_, ⟨.str _, H, I.tok _, ⟨_, rfl⟩, q⟩⟩
        rw [← len_tl, tl_mkS]
        have e3 : (List.replicate n.toNat (tl z)).flatten.length = n.toNat * z.length := by
          rw [List.length_flatten, List.map_replicate, List.sum_replicate_nat, len_tl]
        have : n.toNat * z.length ≤ 10000 * 1000 := Nat.mul_le_mul (by omega) h2
        rw [e3, sizeLine_eq]
        omega
end FP
/-! FP G: equality and membership of data at any depth. -/
namespace FP
open PySem PySem.Spec PyProof.Rows L2 SeqAt

section
variable {X : Cx} {pins : List (Addr × Obj)} {σ : St} {H : Hp} {s : Shared}
theorem not_both (I : L2.Inv X pins σ H s) {a : Addr} {xs ys : List V} (h : SqL X.K H a xs) (h' : SqT X.K H a ys) : False := by
  obtain ⟨_, _, ⟨o, _, e1, e2, _⟩, _⟩ := I.list h
  obtain ⟨_, _, ⟨o', e1', e2', _⟩, _⟩ := I.tuple h'
  rw [e1] at e1'
  cases e1'
  rw [e2] at e2'
  injection e2' with e3
  exact absurd e3 (by decide)
/-- a value is one thing -/
theorem dpU (I : L2.Inv X pins σ H s) : ∀ (n : Nat) (d e : D) (x : V), d.depth ≤ n → Dp X.K H x d → Dp X.K H x e → d = e := by
  intro n
  induction n with
  | zero =>
    intro d e x hn h1 h2
    cases h1 with
    | lst => simp [PyData.depth] at hn
    | tup => simp [PyData.depth] at hn
    | _ => cases h2; rfl
  | succ n ih =>
    have all : ∀ (ds es : List D) (xs : List V), PyData.depthAll ds ≤ n → DpAll X.K H xs ds → DpAll X.K H xs es → ds = es := by
      intro ds
      induction ds with
      | nil => intro es xs _ h1 h2; cases h1; cases h2; rfl
      | cons d ds ih2 =>
        intro es xs hn h1 h2
        cases h1 with
        | cons p1 q1 =>
          cases h2 with
          | cons p2 q2 =>
            have h3 : max d.depth (PyData.depthAll ds) ≤ n := hn
            rw [ih d _ _ (by omega) p1 p2, ih2 _ _ (by omega) q1 q2]
    intro d e x hn h1 h2
    cases h1 with
    | @lst a xs ds hs hr =>
      cases h2 with
      | lst hs2 hr2 =>
        have e0 := I.list_inj hs hs2
        subst e0
        rw [all _ _ _ (Nat.le_of_succ_le_succ hn) hr hr2]
      | tup hs2 hr2 => exact (not_both I hs hs2).elim
    | @tup a xs ds hs hr =>
      cases h2 with
      | lst hs2 hr2 => exact (not_both I hs2 hs).elim
      | tup hs2 hr2 =>
        have e0 := I.tuple_inj hs hs2
        subst e0
        rw [all _ _ _ (Nat.le_of_succ_le_succ hn) hr hr2]
    | _ => cases h2; rfl
theorem eqvR : ∀ (n : Nat) (d : D), d.depth ≤ n → ∀ {K : PySem.W.Frag} {H : Hp} {x : V}, Dp K H x d → PyData.eqv d d = true := by
  intro n
  induction n with
  | zero =>
    intro d hn K H x h
    cases h with
    | lst => simp [PyData.depth] at hn
    | tup => simp [PyData.depth] at hn
    | _ => simp [PyData.eqv]
  | succ n ih =>
    intro d hn K H x h
    have all : ∀ (ds : List D) (xs : List V), PyData.depthAll ds ≤ n → DpAll K H xs ds → PyData.eqvAll ds ds = true := by
      intro ds
      induction ds with
      | nil => intro xs _ _; rfl
      | cons d ds ih2 =>
        intro xs hn hr
        have h3 : max d.depth (PyData.depthAll ds) ≤ n := hn
        cases hr with
        | cons p q => rw [PyData.eqvAll, ih d (by omega) p, ih2 _ (by omega) q]; rfl
    cases h with
    | lst hs hr => exact all _ _ (Nat.le_of_succ_le_succ hn) hr
    | tup hs hr => exact all _ _ (Nat.le_of_succ_le_succ hn) hr
    | _ => simp [PyData.eqv]
/-- the items' answers from the items -/
theorem eqItems {A : Around} {s : Shared} (P : D → D → Prop) {xs ys : List D} {us ws : List Value} (f : ∀ (j : Nat) (d e : D) (u w : Value), xs[j]? = some d → ys[j]? = some e → us[j]? = some u → ws[j]? = some w → EqAt A s u w (PyData.eqv d e)) (hu : us.length = xs.length) (hw : ws.length = ys.length) :
    ∀ j (h1 : j < us.length) (h2 : j < ws.length), EqAt A s us[j] ws[j] (pairEq xs ys j) := by
  intro j h1 h2
  have e1 : xs[j]? = some (xs[j]'(by omega)) := List.getElem?_eq_getElem _
  have e2 : ys[j]? = some (ys[j]'(by omega)) := List.getElem?_eq_getElem _
  have q := f j _ _ _ _ e1 e2 (List.getElem?_eq_getElem h1) (List.getElem?_eq_getElem h2)
  have e3 : pairEq xs ys j = PyData.eqv (xs[j]'(by omega)) (ys[j]'(by omega)) := by
    unfold pairEq
    rw [List.getD_eq_getElem?_getD, List.getD_eq_getElem?_getD, e1, e2]
    rfl
  rw [e3]
  exact q
theorem get_vals {xs : List V} {us : List Value} (r : Vals xs us) {j : Nat} {u : Value} (e : us[j]? = some u) : ∃ x, xs[j]? = some x ∧ RelV x u := by
  have hj := (List.getElem?_eq_some_iff.mp e).1
  have hx : j < xs.length := by rw [r.length]; exact hj
  obtain ⟨u', e', q⟩ := r.get (List.getElem?_eq_getElem hx)
  rw [e] at e'
  cases e'
  exact ⟨_, List.getElem?_eq_getElem hx, q⟩
theorem depth_mem : ∀ {ds : List D} {j : Nat} {d : D}, ds[j]? = some d → d.depth ≤ PyData.depthAll ds
  | [], _, _, e => by simp at e
  | d :: ds, 0, _, e => by
    simp only [List.getElem?_cons_zero, Option.some.injEq] at e
    subst e
    exact Nat.le_max_left _ _
  | d :: ds, j + 1, _, e => by
    simp only [List.getElem?_cons_succ] at e
    exact Nat.le_trans (depth_mem e) (Nat.le_max_right _ _)
/-- == of two things that are read -/
theorem eqAtD (I : L2.Inv X pins σ H s) : ∀ (n : Nat) (d e : D) (A : Around) (x y : V) (v u : Value), d.depth ≤ n → Dp X.K H x d → Dp X.K H y e → RelV x v → RelV y u → A.units + min d.depth e.depth < cLine → EqAt A s v u (PyData.eqv d e) ∧ RcAt A s v u (PyData.eqv d e) := by
  intro n
  induction n with
  | zero =>
    intro d e A x y v u hn hx hy rx ry hu
    have h0 : A.units < cLine := by omega
    cases hx with
    | lst => simp [PyData.depth] at hn
    | tup => simp [PyData.depth] at hn
    | non =>
      cases rx
      cases hy with
      | non => cases ry; exact ⟨EqAt.same _, RcAt.none_none⟩
      | bl b => cases ry; exact ⟨EqAt.none_bool b, RcAt.none_bool b⟩
      | int i => obtain ⟨t, rfl⟩ := ry; exact ⟨EqAt.none_int i t, RcAt.none_int i t⟩
      | str z => obtain ⟨t, rfl⟩ := ry; exact ⟨EqAt.none_str z t, RcAt.none_str z t⟩
      | lst hs hr => cases ry; obtain ⟨its, _, p, _⟩ := I.list hs; exact ⟨EqAt.none_list p.isList h0, RcAt.none_list p.isList h0⟩
      | tup hs hr => cases ry; obtain ⟨its, _, p, _⟩ := I.tuple hs; exact ⟨EqAt.none_tuple p h0, RcAt.none_tuple p h0⟩
    | bl c =>
      cases rx
      cases hy with
      | non => cases ry; exact ⟨EqAt.bool_none c, RcAt.bool_none c⟩
      | bl b => cases ry; exact ⟨EqAt.bool_bool c b, RcAt.bool_bool c b⟩
      | int i => obtain ⟨t, rfl⟩ := ry; exact ⟨EqAt.bool_int c i t, RcAt.bool_int c i t⟩
      | str z => obtain ⟨t, rfl⟩ := ry; exact ⟨EqAt.bool_str c z t, RcAt.bool_str c z t⟩
      | lst hs hr => cases ry; obtain ⟨its, _, p, _⟩ := I.list hs; exact ⟨EqAt.bool_list c p.isList h0, RcAt.bool_list c p.isList h0⟩
      | tup hs hr => cases ry; obtain ⟨its, _, p, _⟩ := I.tuple hs; exact ⟨EqAt.bool_tuple c p h0, RcAt.bool_tuple c p h0⟩
    | int k =>
      obtain ⟨tk, rfl⟩ := rx
      cases hy with
      | non => cases ry; exact ⟨EqAt.int_none k tk, RcAt.int_none k tk⟩
      | bl b => cases ry; exact ⟨EqAt.int_bool k tk b, RcAt.int_bool k tk b⟩
      | int i => obtain ⟨t, rfl⟩ := ry; exact ⟨EqAt.int_int k tk i t, RcAt.int_int k tk i t⟩
      | str z => obtain ⟨t, rfl⟩ := ry; exact ⟨EqAt.int_str k tk z t, RcAt.int_str k tk z t⟩
      | lst hs hr => cases ry; obtain ⟨its, _, p, _⟩ := I.list hs; exact ⟨EqAt.int_list k tk p.isList h0, RcAt.int_list k tk p.isList h0⟩
      | tup hs hr => cases ry; obtain ⟨its, _, p, _⟩ := I.tuple hs; exact ⟨EqAt.int_tuple k tk p h0, RcAt.int_tuple k tk p h0⟩
    | str k =>
      obtain ⟨tk, rfl⟩ := rx
      cases hy with
      | non => cases ry; exact ⟨EqAt.str_none k tk, RcAt.str_none k tk⟩
      | bl b => cases ry; exact ⟨EqAt.str_bool k tk b, RcAt.str_bool k tk b⟩
      | int i => obtain ⟨t, rfl⟩ := ry; exact ⟨EqAt.str_int k tk i t, RcAt.str_int k tk i t⟩
      | str z => obtain ⟨t, rfl⟩ := ry; exact ⟨EqAt.str_str k tk z t, RcAt.str_str k tk z t⟩
      | lst hs hr => cases ry; obtain ⟨its, _, p, _⟩ := I.list hs; exact ⟨EqAt.str_list k tk p.isList h0, RcAt.str_list k tk p.isList h0⟩
      | tup hs hr => cases ry; obtain ⟨its, _, p, _⟩ := I.tuple hs; exact ⟨EqAt.str_tuple k tk p h0, RcAt.str_tuple k tk p h0⟩
  | succ n ih =>
    intro d e A x y v u hn hx hy rx ry hu
    have h0 : A.units < cLine := by omega
    by_cases hd : d.depth ≤ n
    · exact ih d e A x y v u hd hx hy rx ry hu
    cases hx with
    | @lst a xs ds hs hr =>
      cases rx
      obtain ⟨its, r1, p, _⟩ := I.list hs
      have hn' : PyData.depthAll ds ≤ n := Nat.le_of_succ_le_succ hn
      cases hy with
      | non => cases ry; exact ⟨EqAt.list_none p.isList h0, RcAt.list_none p.isList h0⟩
      | bl b => cases ry; exact ⟨EqAt.list_bool b p.isList h0, RcAt.list_bool b p.isList h0⟩
      | int i => obtain ⟨t, rfl⟩ := ry; exact ⟨EqAt.list_int i t p.isList h0, RcAt.list_int i t p.isList h0⟩
      | str z => obtain ⟨t, rfl⟩ := ry; exact ⟨EqAt.list_str z t p.isList h0, RcAt.list_str z t p.isList h0⟩
      | tup hs2 hr2 => cases ry; obtain ⟨_, _, p2, _⟩ := I.tuple hs2; exact ⟨EqAt.list_tuple p.isList p2 h0, RcAt.list_tuple p.isList p2 h0⟩
      | @lst a2 xs2 es hs2 hr2 =>
        cases ry
        obtain ⟨its2, r2, p2, _⟩ := I.list hs2
        have l1 : its.length = ds.length := by rw [← r1.length]; exact dpAll_len hr
        have l2 : its2.length = es.length := by rw [← r2.length]; exact dpAll_len hr2
        have it := eqItems (A := A.in1) (s := s) (fun _ _ => True) (xs := ds) (ys := es) (us := its) (ws := its2) (fun j d e u w e1 e2 e3 e4 => by
          obtain ⟨xv, f1, q1⟩ := get_vals r1 e3
          obtain ⟨yv, f2, q2⟩ := get_vals r2 e4
          have m1 := depth_mem e1
          have m2 := depth_mem e2
          refine (ih d e A.in1 xv yv u w (by omega) (dpAll_get hr e1 f1) (dpAll_get hr2 e2 f2) q1 q2 ?_).1
          have hu2 : A.units + min (PyData.depthAll ds + 1) (PyData.depthAll es + 1) < cLine := hu
          show A.units + 1 + min d.depth e.depth < cLine
          omega) l1 l2
        have rc : RcAt A s (.ref a) (.ref a2) (PyData.eqvAll ds es) := by
          by_cases hl : ds.length = es.length
          · rw [← eqvAll_same_length hl]
            have l3 : its.toArray.size = ds.length := by simpa using l1
            rw [← l3]
            exact RcAt.lists p.isList p2.isList (by simp; omega) h0 fun j j1 j2 => by simpa using it j (by simpa using j1) (by simpa using j2)
          · rw [eqvAll_other_length hl]
            exact RcAt.lists_lengths p.isList p2.isList (by simp; omega) h0
        refine ⟨?_, rc⟩
        by_cases ea : a = a2
        · subst ea
          have := dpU I _ _ _ _ (Nat.le_refl _) (Dp.lst hs hr) (Dp.lst hs2 hr2)
          cases this
          rw [eqvR _ _ (Nat.le_refl _) (Dp.lst hs hr)]
          exact EqAt.same _
        · exact EqAt.of_refs ea rc
    | @tup a xs ds hs hr =>
      cases rx
      obtain ⟨its, r1, p, _⟩ := I.tuple hs
      have hn' : PyData.depthAll ds ≤ n := Nat.le_of_succ_le_succ hn
      cases hy with
      | non => cases ry; exact ⟨EqAt.tuple_none p h0, RcAt.tuple_none p h0⟩
      | bl b => cases ry; exact ⟨EqAt.tuple_bool b p h0, RcAt.tuple_bool b p h0⟩
      | int i => obtain ⟨t, rfl⟩ := ry; exact ⟨EqAt.tuple_int i t p h0, RcAt.tuple_int i t p h0⟩
      | str z => obtain ⟨t, rfl⟩ := ry; exact ⟨EqAt.tuple_str z t p h0, RcAt.tuple_str z t p h0⟩
      | lst hs2 hr2 => cases ry; obtain ⟨_, _, p2, _⟩ := I.list hs2; exact ⟨EqAt.tuple_list p p2.isList h0, RcAt.tuple_list p p2.isList h0⟩
      | @tup a2 xs2 es hs2 hr2 =>
        cases ry
        obtain ⟨its2, r2, p2, _⟩ := I.tuple hs2
        have l1 : its.length = ds.length := by rw [← r1.length]; exact dpAll_len hr
        have l2 : its2.length = es.length := by rw [← r2.length]; exact dpAll_len hr2
        have it := eqItems (A := A.in1) (s := s) (fun _ _ => True) (xs := ds) (ys := es) (us := its) (ws := its2) (fun j d e u w e1 e2 e3 e4 => by
          obtain ⟨xv, f1, q1⟩ := get_vals r1 e3
          obtain ⟨yv, f2, q2⟩ := get_vals r2 e4
          have m1 := depth_mem e1
          have m2 := depth_mem e2
          refine (ih d e A.in1 xv yv u w (by omega) (dpAll_get hr e1 f1) (dpAll_get hr2 e2 f2) q1 q2 ?_).1
          have hu2 : A.units + min (PyData.depthAll ds + 1) (PyData.depthAll es + 1) < cLine := hu
          show A.units + 1 + min d.depth e.depth < cLine
          omega) l1 l2
        have rc : RcAt A s (.ref a) (.ref a2) (PyData.eqvAll ds es) := by
          have l3 : its.toArray.size = ds.length := by simpa using l1
          have l4 : its2.toArray.size = es.length := by simpa using l2
          rw [← eqvAll_eq ds es, ← l3, ← l4]
          exact RcAt.tuples p p2 h0 fun j j1 j2 => by simpa using it j (by simpa using j1) (by simpa using j2)
        refine ⟨?_, rc⟩
        by_cases ea : a = a2
        · subst ea
          have := dpU I _ _ _ _ (Nat.le_refl _) (Dp.tup hs hr) (Dp.tup hs2 hr2)
          cases this
          rw [eqvR _ _ (Nat.le_refl _) (Dp.tup hs hr)]
          exact EqAt.same _
        · exact EqAt.of_refs ea rc
    | _ => exact absurd (Nat.zero_le n) hd
end
end FP
/-! FP H: comparisons, membership, places, slices, len. -/
namespace FP
open PySem PySem.Spec PyProof.Rows L2 SeqAt

/-! ### a fast == -/
def leq : List Nat → List Nat → Bool
  | [], [] => true
  | x :: xs, y :: ys => Nat.beq x y && leq xs ys
  | _, _ => false
theorem leq_eq : ∀ a b : List Nat, leq a b = (a == b)
  | [], [] => rfl
  | [], _ :: _ => rfl
  | _ :: _, [] => rfl
  | x :: xs, y :: ys => by
    show (Nat.beq x y && leq xs ys) = (x == y && xs == ys)
    have e : Nat.beq x y = (x == y) := by
      by_cases h : x = y
      · subst h
        rw [Nat.beq_refl, beq_self_eq_true]
      · rw [beq_eq_false_iff_ne.mpr h]
        cases h2 : Nat.beq x y with
        | false => rfl
        | true => exact absurd (Nat.eq_of_beq_eq_true h2) h
    rw [leq_eq xs ys, e]
def seq (x y : Str) : Bool := leq (tl x) (tl y)
theorem seq_eq (x y : Str) : seq x y = (x == y) := by
  unfold seq
  rw [leq_eq, Bool.eq_iff_iff, beq_iff_eq, beq_iff_eq]
  exact ⟨tl_inj, fun e => by rw [e]⟩
def allF (f : D → D → Bool) : List D → List D → Bool
  | [], [] => true
  | x :: xs, y :: ys => f x y && allF f xs ys
  | _, _ => false
def deqF : Nat → D → D → Bool
  | _, .none, .none => true
  | _, .bool a, .bool b => a == b
  | _, .bool a, .int j => decide ((if a then 1 else 0) = j)
  | _, .int i, .bool b => decide (i = (if b then 1 else 0))
  | _, .int i, .int j => decide (i = j)
  | _, .str x, .str y => seq x y
  | n + 1, .list x, .list y => allF (deqF n) x y
  | n + 1, .tuple x, .tuple y => allF (deqF n) x y
  | _, _, _ => false
theorem allF_eq {f : D → D → Bool} : ∀ (x y : List D), (∀ d ∈ x, ∀ e ∈ y, f d e = PyData.eqv d e) → allF f x y = PyData.eqvAll x y
  | [], [], _ => rfl
  | [], _ :: _, _ => rfl
  | _ :: _, [], _ => rfl
  | d :: x, e :: y, h => by
    rw [allF, PyData.eqvAll, h d List.mem_cons_self e List.mem_cons_self, allF_eq x y fun d' hd e' he => h d' (List.mem_cons_of_mem _ hd) e' (List.mem_cons_of_mem _ he)]
theorem depth_in : ∀ {ds : List D} {d : D}, d ∈ ds → d.depth ≤ PyData.depthAll ds := fun {ds d} h => by
  obtain ⟨j, e⟩ := List.mem_iff_getElem?.mp h
  exact depth_mem e
theorem deqF_eq : ∀ (n : Nat) (d e : D), min d.depth e.depth ≤ n → deqF n d e = PyData.eqv d e := by
  intro n
  induction n with
  | zero =>
    intro d e h
    cases d <;> cases e <;> first
      | rfl
      | (simp [deqF, PyData.eqv, seq_eq]; done)
      | (simp [PyData.depth] at h; done)
      | (simp only [deqF, PyData.eqv]; rw [← Bool.beq_eq_decide_eq])
      | (simp only [deqF, PyData.eqv, seq_eq])
  | succ n ih =>
    intro d e h
    have all : ∀ x y : List D, min (PyData.depthAll x) (PyData.depthAll y) ≤ n → allF (deqF n) x y = PyData.eqvAll x y := fun x y hx => allF_eq x y fun d hd e he => ih d e (by
      have := depth_in hd
      have := depth_in he
      omega)
    cases d <;> cases e <;> first
      | rfl
      | (simp [deqF, PyData.eqv, seq_eq]; done)
      | (simp only [deqF, PyData.eqv]; exact all _ _ (by simp only [PyData.depth] at h; omega))
      | (simp only [deqF, PyData.eqv]; rw [← Bool.beq_eq_decide_eq])
      | (simp only [deqF, PyData.eqv, seq_eq])
/-- the depth is at most n -/
def depLe : Nat → D → Bool
  | n + 1, .list x => x.all (depLe n)
  | n + 1, .tuple x => x.all (depLe n)
  | 0, .list _ => false
  | 0, .tuple _ => false
  | _, .dict _ => false
  | _, _ => true
theorem depLe_ok : ∀ (n : Nat) (d : D), depLe n d = true → d.depth ≤ n := by
  intro n
  induction n with
  | zero => intro d h; cases d <;> simp_all [depLe, PyData.depth]
  | succ n ih =>
    have all : ∀ x : List D, x.all (depLe n) = true → PyData.depthAll x ≤ n := by
      intro x
      induction x with
      | nil => intro _; exact Nat.zero_le _
      | cons d x ih2 =>
        intro h
        rw [List.all_cons, Bool.and_eq_true] at h
        exact Nat.max_le.mpr ⟨ih d h.1, ih2 h.2⟩
    intro d h
    cases d with
    | list x => exact Nat.succ_le_succ (all x h)
    | tuple x => exact Nat.succ_le_succ (all x h)
    | dict x => simp [depLe] at h
    | _ => exact Nat.zero_le _
def DEP : Nat := 64
/-- == -/
def pyEq (d e : D) : R Bool := if depLe 64 d then .ok (deqF 64 d e) else .no
def pyNe (d e : D) : R Bool := if depLe 64 d then .ok (!deqF 64 d e) else .no
theorem neAtD {X : Cx} {pins : List (Addr × Obj)} {σ : St} {H : Hp} {s : Shared} (I : L2.Inv X pins σ H s) (d e : D) (A : Around) (x y : V) (v u : Value) (hx : Dp X.K H x d) (hy : Dp X.K H y e) (rx : RelV x v) (ry : RelV y u) (hu : A.units + min d.depth e.depth < cLine) :
    RcNeAt A s v u (!PyData.eqv d e) := by
  have h0 : A.units < cLine := by omega
  cases hx with
  | non  =>
    cases rx
    cases hy with
    | non  => cases ry; exact RcNeAt.none_none  
    | bl b => cases ry; exact RcNeAt.none_bool  b
    | int i => obtain ⟨t, rfl⟩ := ry; exact RcNeAt.none_int  i t
    | str z => obtain ⟨t, rfl⟩ := ry; exact RcNeAt.none_str  z t
    | lst hs hr => cases ry; obtain ⟨_, _, p, _⟩ := I.list hs; exact RcNeAt.none_list  p.isList h0
    | tup hs hr => cases ry; obtain ⟨_, _, p, _⟩ := I.tuple hs; exact RcNeAt.none_tuple  p h0
  | bl c =>
    cases rx
    cases hy with
    | non  => cases ry; exact RcNeAt.bool_none c 
    | bl b => cases ry; exact RcNeAt.bool_bool c b
    | int i => obtain ⟨t, rfl⟩ := ry; exact RcNeAt.bool_int c i t
    | str z => obtain ⟨t, rfl⟩ := ry; exact RcNeAt.bool_str c z t
    | lst hs hr => cases ry; obtain ⟨_, _, p, _⟩ := I.list hs; exact RcNeAt.bool_list c p.isList h0
    | tup hs hr => cases ry; obtain ⟨_, _, p, _⟩ := I.tuple hs; exact RcNeAt.bool_tuple c p h0
  | int k =>
    obtain ⟨tk, rfl⟩ := rx
    cases hy with
    | non  => cases ry; exact RcNeAt.int_none k tk 
    | bl b => cases ry; exact RcNeAt.int_bool k tk b
    | int i => obtain ⟨t, rfl⟩ := ry; exact RcNeAt.int_int k tk i t
    | str z => obtain ⟨t, rfl⟩ := ry; exact RcNeAt.int_str k tk z t
    | lst hs hr => cases ry; obtain ⟨_, _, p, _⟩ := I.list hs; exact RcNeAt.int_list k tk p.isList h0
    | tup hs hr => cases ry; obtain ⟨_, _, p, _⟩ := I.tuple hs; exact RcNeAt.int_tuple k tk p h0
  | str m =>
    obtain ⟨tm, rfl⟩ := rx
    cases hy with
    | non  => cases ry; exact RcNeAt.str_none m tm 
    | bl b => cases ry; exact RcNeAt.str_bool m tm b
    | int i => obtain ⟨t, rfl⟩ := ry; exact RcNeAt.str_int m tm i t
    | str z => obtain ⟨t, rfl⟩ := ry; exact RcNeAt.str_str m tm z t
    | lst hs hr => cases ry; obtain ⟨_, _, p, _⟩ := I.list hs; exact RcNeAt.str_list m tm p.isList h0
    | tup hs hr => cases ry; obtain ⟨_, _, p, _⟩ := I.tuple hs; exact RcNeAt.str_tuple m tm p h0
  | @lst a xs ds hs hr =>
    cases rx
    obtain ⟨its, r1, p, _⟩ := I.list hs
    cases hy with
    | non  => cases ry; exact RcNeAt.list_none  p.isList h0
    | bl b => cases ry; exact RcNeAt.list_bool b p.isList h0
    | int i => obtain ⟨t, rfl⟩ := ry; exact RcNeAt.list_int i t p.isList h0
    | str z => obtain ⟨t, rfl⟩ := ry; exact RcNeAt.list_str z t p.isList h0
    | tup hs2 hr2 => cases ry; obtain ⟨_, _, p2, _⟩ := I.tuple hs2; exact RcNeAt.list_tuple p.isList p2 h0
    | @lst a2 xs2 es hs2 hr2 =>
      cases ry
      obtain ⟨its2, r2, p2, _⟩ := I.list hs2
      have l1 : its.length = ds.length := by rw [← r1.length]; exact dpAll_len hr
      have l2 : its2.length = es.length := by rw [← r2.length]; exact dpAll_len hr2
      have it := eqItems (A := A.in1) (s := s) (fun _ _ => True) (xs := ds) (ys := es) (us := its) (ws := its2) (fun j d e u w e1 e2 e3 e4 => by
        obtain ⟨xv, f1, q1⟩ := get_vals r1 e3
        obtain ⟨yv, f2, q2⟩ := get_vals r2 e4
        have m1 := depth_mem e1
        have m2 := depth_mem e2
        refine (eqAtD I _ d e A.in1 xv yv u w (Nat.le_refl _) (dpAll_get hr e1 f1) (dpAll_get hr2 e2 f2) q1 q2 ?_).1
        have hu2 : A.units + min (PyData.depthAll ds + 1) (PyData.depthAll es + 1) < cLine := hu
        show A.units + 1 + min d.depth e.depth < cLine
        omega) l1 l2
      show RcNeAt A s _ _ (!PyData.eqvAll ds es)
      have l3 : its.toArray.size = ds.length := by simpa using l1
      have l4 : its2.toArray.size = es.length := by simpa using l2
      by_cases hl : ds.length = es.length
      · rw [← eqvAll_same_length hl, ← l3]
        exact RcNeAt.lists p.isList p2.isList (by simp; omega) h0 fun j j1 j2 => by simpa using it j (by simpa using j1) (by simpa using j2)
      · rw [eqvAll_other_length hl]
        exact RcNeAt.lists_lengths p.isList p2.isList (by simp; omega) h0
  | @tup a xs ds hs hr =>
    cases rx
    obtain ⟨its, r1, p, _⟩ := I.tuple hs
    cases hy with
    | non  => cases ry; exact RcNeAt.tuple_none  p h0
    | bl b => cases ry; exact RcNeAt.tuple_bool b p h0
    | int i => obtain ⟨t, rfl⟩ := ry; exact RcNeAt.tuple_int i t p h0
    | str z => obtain ⟨t, rfl⟩ := ry; exact RcNeAt.tuple_str z t p h0
    | lst hs2 hr2 => cases ry; obtain ⟨_, _, p2, _⟩ := I.list hs2; exact RcNeAt.tuple_list p p2.isList h0
    | @tup a2 xs2 es hs2 hr2 =>
      cases ry
      obtain ⟨its2, r2, p2, _⟩ := I.tuple hs2
      have l1 : its.length = ds.length := by rw [← r1.length]; exact dpAll_len hr
      have l2 : its2.length = es.length := by rw [← r2.length]; exact dpAll_len hr2
      have it := eqItems (A := A.in1) (s := s) (fun _ _ => True) (xs := ds) (ys := es) (us := its) (ws := its2) (fun j d e u w e1 e2 e3 e4 => by
        obtain ⟨xv, f1, q1⟩ := get_vals r1 e3
        obtain ⟨yv, f2, q2⟩ := get_vals r2 e4
        have m1 := depth_mem e1
        have m2 := depth_mem e2
        refine (eqAtD I _ d e A.in1 xv yv u w (Nat.le_refl _) (dpAll_get hr e1 f1) (dpAll_get hr2 e2 f2) q1 q2 ?_).1
        have hu2 : A.units + min (PyData.depthAll ds + 1) (PyData.depthAll es + 1) < cLine := hu
        show A.units + 1 + min d.depth e.depth < cLine
        omega) l1 l2
      show RcNeAt A s _ _ (!PyData.eqvAll ds es)
      have l3 : its.toArray.size = ds.length := by simpa using l1
      have l4 : its2.toArray.size = es.length := by simpa using l2
      rw [← eqvAll_eq ds es, ← l3, ← l4]
      exact RcNeAt.tuples p p2 h0 fun j j1 j2 => by simpa using it j (by simpa using j1) (by simpa using j2)
def rEqM (K : PySem.W.Frag) : R2 := fun x y H Q => ∃ d e, Dp K H x d ∧ Dp K H y e ∧ d.depth ≤ 64 ∧ Q (.bl (PyData.eqv d e)) H
def rNeM (K : PySem.W.Frag) : R2 := fun x y H Q => ∃ d e, Dp K H x d ∧ Dp K H y e ∧ d.depth ≤ 64 ∧ Q (.bl (!PyData.eqv d e)) H
section
variable {X : Cx}
theorem op_eqM (hu : X.A.units + 64 < cLine) : OpR X (compareOp .Eq) (rEqM X.K) := by
  intro pins s σ H x y v u Q I rx ry ⟨d, e, hd, he, hl, q⟩
  exact (eqAtD I _ d e X.A x y v u (Nat.le_refl _) hd he rx ry (by omega)).2 X.prog X.w X.xe _ ⟨.bl _, H, I, rfl, q⟩
end
theorem ok_eq {K : PySem.W.Frag} : CmpOk K (rEqM K) pyEq where
  run := fun b h x y d e Q s rx ry p => by
    unfold pyEq at p
    split at p
    · rename_i hl
      have h1 := depLe_ok _ _ hl
      have p' : Q (.bl (deqF 64 d e)) h := p
      rw [deqF_eq 64 d e (by omega)] at p'
      exact ⟨d, e, rx.dp s, ry.dp s, h1, p'⟩
    · exact p.elim
  nex := fun d e c as z => by unfold pyEq at z; split at z <;> cases z
section
variable {X : Cx}
theorem op_neM (hu : X.A.units + 64 < cLine) : OpR X (compareOp .NotEq) (rNeM X.K) := by
  intro pins s σ H x y v u Q I rx ry ⟨d, e, hd, he, hl, q⟩
  exact neAtD I d e X.A x y v u hd he rx ry (by omega) X.prog X.w X.xe _ ⟨.bl _, H, I, rfl, q⟩
end
theorem ok_ne {K : PySem.W.Frag} : CmpOk K (rNeM K) pyNe where
  run := fun b h x y d e Q s rx ry p => by
    unfold pyNe at p
    split at p
    · rename_i hl
      have h1 := depLe_ok _ _ hl
      have p' : Q (.bl (!deqF 64 d e)) h := p
      rw [deqF_eq 64 d e (by omega)] at p'
      exact ⟨d, e, rx.dp s, ry.dp s, h1, p'⟩
    · exact p.elim
  nex := fun d e c as z => by unfold pyNe at z; split at z <;> cases z

/-! ### in, not in -/
/-- x in c: a sign in a text, a thing in a list or tuple -/
def isIn (x : D) : D → R Bool
  | .list ds => if depLe 64 x then .ok (ds.any fun z => deqF 64 z x) else .no
  | .tuple ds => if depLe 64 x then .ok (ds.any fun z => deqF 64 z x) else .no
  | .str z => match x with
    | .str k => match tl k with
      | [c] => .ok (decide (c ∈ tl z))
      | _ => .no
    | _ => .no
  | _ => .no
def pyIn (x c : D) : R Bool := isIn x c
def pyNotIn (x c : D) : R Bool := (isIn x c).bnd fun k => .ok (!k)
def rInM (K : PySem.W.Frag) (g : Bool → Bool) : R2 := fun x y H Q => (∃ (c : Nat) (z : Str), x = .str ⟨#[c]⟩ ∧ y = .str z ∧ Q (.bl (g (decide (c ∈ z.cps.toList)))) H) ∨
  ∃ d ds, Dp K H x d ∧ (Dp K H y (.list ds) ∨ Dp K H y (.tuple ds)) ∧ d.depth ≤ 64 ∧ Q (.bl (g (ds.any fun z => PyData.eqv z d))) H
section
variable {X : Cx} {pins : List (Addr × Obj)} {σ : St} {H : Hp} {s : Shared}
/-- the answer of an item, read off its value -/
noncomputable def ansOf (us : List Value) (ds : List D) (d : D) (u : Value) : Bool :=
  open Classical in if ∃ (j : Nat) (z : D), us[j]? = some u ∧ ds[j]? = some z ∧ PyData.eqv z d = true then true else false
theorem ans_items (I : L2.Inv X pins σ H s) {xs : List V} {us : List Value} {ds : List D} {d : D} (r : Vals xs us) (hr : DpAll X.K H xs ds) : ∀ {j : Nat} {u : Value} {z : D}, us[j]? = some u → ds[j]? = some z → ansOf us ds d u = PyData.eqv z d := by
  intro j u z e1 e2
  unfold ansOf
  obtain ⟨x1, f1, q1⟩ := get_vals r e1
  have hz := dpAll_get hr e2 f1
  by_cases h : PyData.eqv z d = true
  · rw [if_pos ⟨j, z, e1, e2, h⟩, h]
  · rw [if_neg, (Bool.not_eq_true _).mp h]
    rintro ⟨k, z2, e3, e4, h2⟩
    obtain ⟨x2, f2, q2⟩ := get_vals r e3
    have hz2 := dpAll_get hr e4 f2
    cases RelV.inj q1 q2
    rw [dpU I _ _ _ _ (Nat.le_refl _) hz hz2] at h
    exact h h2
theorem any_ans (I : L2.Inv X pins σ H s) {d : D} {us0 : List Value} {ds0 : List D} (f : ∀ {j : Nat} {u : Value} {z : D}, us0[j]? = some u → ds0[j]? = some z → ansOf us0 ds0 d u = PyData.eqv z d) (hl : us0.length = ds0.length) :
    us0.any (ansOf us0 ds0 d) = ds0.any fun z => PyData.eqv z d := by
  rw [Bool.eq_iff_iff, List.any_eq_true, List.any_eq_true]
  constructor
  · rintro ⟨u, hu, ha⟩
    obtain ⟨j, hj, e⟩ := List.getElem_of_mem hu
    have e1 : us0[j]? = some u := by rw [List.getElem?_eq_getElem hj, e]
    have e2 : ds0[j]? = some (ds0[j]'(by omega)) := List.getElem?_eq_getElem _
    rw [f e1 e2] at ha
    exact ⟨_, List.getElem_mem _, ha⟩
  · rintro ⟨z, hz, ha⟩
    obtain ⟨j, hj, e⟩ := List.getElem_of_mem hz
    have e2 : ds0[j]? = some z := by rw [List.getElem?_eq_getElem hj, e]
    have hj2 : j < us0.length := by omega
    have e1 : us0[j]? = some (us0[j]'hj2) := List.getElem?_eq_getElem _
    refine ⟨us0[j]'hj2, List.getElem_mem hj2, ?_⟩
    rw [f e1 e2]
    exact ha
theorem in_seq (I : L2.Inv X pins σ H s) {x y : V} {v u : Value} {d : D} {ds : List D} (hd : Dp X.K H x d) (hy : Dp X.K H y (.list ds) ∨ Dp X.K H y (.tuple ds)) (rx : RelV x v) (ry : RelV y u) (hu : X.A.units + 1 + d.depth < cLine) {E : Value → Shared → Prop} {Q : Value → Shared → Prop} :
    (Q (.bool (ds.any fun z => PyData.eqv z d)) s → wpAny (model X.prog X.w) X.A (compareOp .In v u) Q E s) ∧ (Q (.bool (!ds.any fun z => PyData.eqv z d)) s → wpAny (model X.prog X.w) X.A (compareOp .NotIn v u) Q E s) := by
  have main : ∀ {xs : List V} {its : List Value}, Vals xs its → DpAll X.K H xs ds → (∀ z, z ∈ its.toArray → EqAt X.A.in1 s z v (ansOf its ds d z)) ∧ its.toArray.any (ansOf its ds d) = ds.any fun z => PyData.eqv z d := by
    intro xs its r hr
    have hl : its.length = ds.length := by rw [← r.length]; exact dpAll_len hr
    have f : ∀ {j : Nat} {u : Value} {z : D}, its[j]? = some u → ds[j]? = some z → ansOf its ds d u = PyData.eqv z d := ans_items I r hr
    refine ⟨fun z hz => ?_, ?_⟩
    · obtain ⟨j, hj, e⟩ := List.getElem_of_mem (show z ∈ its by simpa using hz)
      have e1 : its[j]? = some z := by rw [List.getElem?_eq_getElem hj, e]
      have e2 : ds[j]? = some (ds[j]'(by omega)) := List.getElem?_eq_getElem _
      rw [f e1 e2]
      obtain ⟨xv, f1, q1⟩ := get_vals r e1
      exact (eqAtD I _ _ d X.A.in1 xv x z v (Nat.le_refl _) (dpAll_get hr e2 f1) hd q1 rx (by show X.A.units + 1 + _ < cLine; omega)).1
    · rw [← any_ans I f hl]
      simp
  rcases hy with hy | hy
  · cases hy with
    | @lst a xs _ hs hr =>
      cases ry
      obtain ⟨its, r, p, _⟩ := I.list hs
      obtain ⟨m1, m2⟩ := main r hr
      rw [← m2]
      exact ⟨fun q => in_listAt _ p.isList m1 q, fun q => notIn_listAt _ p.isList m1 q⟩
  · cases hy with
    | @tup a xs _ hs hr =>
      cases ry
      obtain ⟨its, r, p, _⟩ := I.tuple hs
      obtain ⟨m1, m2⟩ := main r hr
      rw [← m2]
      exact ⟨fun q => in_tupleAt _ p m1 q, fun q => notIn_tupleAt _ p m1 q⟩
theorem op_inM (hu : X.A.units + 65 < cLine) : OpR X (compareOp .In) (rInM X.K id) := by
  intro pins s σ H x y v u Q I rx ry h
  rcases h with h | ⟨d, ds, hd, hy, hl, q⟩
  · exact op_in_sign pins s σ H x y v u Q I rx ry h
  · exact (in_seq I hd hy rx ry (by omega)).1 ⟨.bl _, H, I, rfl, q⟩
theorem op_notInM (hu : X.A.units + 65 < cLine) : OpR X (compareOp .NotIn) (rInM X.K not) := by
  intro pins s σ H x y v u Q I rx ry h
  rcases h with h | ⟨d, ds, hd, hy, hl, q⟩
  · exact op_notIn_sign pins s σ H x y v u Q I rx ry h
  · exact (in_seq I hd hy rx ry (by omega)).2 ⟨.bl _, H, I, rfl, q⟩
end
theorem any_congr {f g : D → Bool} : ∀ {l : List D}, (∀ x ∈ l, f x = g x) → l.any f = l.any g
  | [], _ => rfl
  | x :: l, h => by rw [List.any_cons, List.any_cons, h x List.mem_cons_self, any_congr fun y hy => h y (List.mem_cons_of_mem _ hy)]
theorem isIn_run {K : PySem.W.Frag} {g : Bool → Bool} {b h : Hp} {x y : V} {d e : D} {Q : VK} {c : Bool} (s : Same b h) (rx : Bp K b h x d) (ry : Bp K b h y e) (hc : isIn d e = .ok c) (q : Q (.bl (g c)) h) : rInM K g x y h Q := by
  unfold isIn at hc
  split at hc
  · split at hc
    · rename_i ds hl
      injection hc with hc
      subst hc
      have h1 := depLe_ok _ _ hl
      refine .inr ⟨d, ds, rx.dp s, .inl (ry.dp s), h1, ?_⟩
      rw [← any_congr (f := fun z => deqF 64 z d) fun z _ => deqF_eq 64 z d (by omega)]
      exact q
    · cases hc
  · split at hc
    · rename_i ds hl
      injection hc with hc
      subst hc
      have h1 := depLe_ok _ _ hl
      refine .inr ⟨d, ds, rx.dp s, .inr (ry.dp s), h1, ?_⟩
      rw [← any_congr (f := fun z => deqF 64 z d) fun z _ => deqF_eq 64 z d (by omega)]
      exact q
    · cases hc
  · split at hc
    · split at hc
      · rename_i z1 z k c' ek
        injection hc with hc
        subst hc
        cases rx.str
        cases ry.str
        refine .inl ⟨c', _, ?_, rfl, q⟩
        exact congrArg V.str (tl_inj (by rw [ek]))
      · cases hc
    · cases hc
  · cases hc
theorem isIn_nex (d e : D) (c : Str) (as : List (Str × D)) : isIn d e ≠ .ex c as := fun z => by
  unfold isIn at z
  split at z
  · split at z <;> cases z
  · split at z <;> cases z
  · split at z
    · split at z <;> cases z
    · cases z
  · cases z
theorem ok_in {K : PySem.W.Frag} : CmpOk K (rInM K id) pyIn where
  run := fun b h x y d e Q s rx ry p => by
    unfold pyIn at p
    cases hc : isIn d e with
    | ok c => rw [hc] at p; exact isIn_run (g := id) s rx ry hc p
    | ex c as => exact (isIn_nex _ _ _ _ hc).elim
    | no => rw [hc] at p; exact p.elim
  nex := fun d e c as z => isIn_nex _ _ _ _ z
theorem ok_notIn {K : PySem.W.Frag} : CmpOk K (rInM K not) pyNotIn where
  run := fun b h x y d e Q s rx ry p => by
    unfold pyNotIn at p
    cases hc : isIn d e with
    | ok c => rw [hc] at p; exact isIn_run (g := not) s rx ry hc p
    | ex c as => exact (isIn_nex _ _ _ _ hc).elim
    | no => rw [hc] at p; exact p.elim
  nex := fun d e c as z => by
    unfold pyNotIn at z
    cases hc : isIn d e with
    | ok c => rw [hc] at z; cases z
    | ex c as => exact (isIn_nex _ _ _ _ hc).elim
    | no => rw [hc] at z; cases z
end FP
/-! FP I: places, slices, len, is None. -/
namespace FP
open PySem L2 PySem.Spec PyProof.Rows

/-- the place that an index means -/
def atP {α : Type} (l : List α) (i : Int) : Option α := if 0 ≤ i then l[i.toNat]? else if -(l.length : Int) ≤ i then l[(i + l.length).toNat]? else none
theorem atP_eq {α : Type} (l : List α) (i : Int) : atP l i = atI l i := by
  unfold atP atI ixN
  by_cases h : 0 ≤ i
  · rw [if_pos h, if_pos h]
    by_cases h2 : i < l.length
    · rw [if_pos h2]; rfl
    · rw [if_neg h2]
      exact List.getElem?_eq_none_iff.mpr (by omega)
  · rw [if_neg h, if_neg h]
    by_cases h2 : -(l.length : Int) ≤ i
    · rw [if_pos h2, if_pos h2]; rfl
    · rw [if_neg h2, if_neg h2]; rfl
theorem atP_lt {α : Type} {l : List α} {i : Int} {x : α} (e : atP l i = some x) : ∃ j : Nat, l[j]? = some x ∧ ∀ {β : Type} (m : List β), m.length = l.length → atP m i = m[j]? := by
  unfold atP at e
  split at e
  · rename_i h
    exact ⟨i.toNat, e, fun m _ => by unfold atP; rw [if_pos h]⟩
  · rename_i h
    split at e
    · rename_i h2
      exact ⟨_, e, fun m hm => by unfold atP; rw [if_neg h, hm, if_pos h2]⟩
    · cases e
def RO {α : Type} : Option α → R α
  | some a => .ok a
  | none => .no
/-- x[i] of a list, a tuple, a text -/
def pyIx : D → D → R D
  | .list l, .int i => RO (atP l i)
  | .tuple l, .int i => RO (atP l i)
  | .str z, .int i => if z.length ≤ sizeLine then RO ((atP (tl z) i).map sg) else .no
  | _, _ => .no
theorem dpAll_ex {K : PySem.W.Frag} {b : Hp} {vs : List V} {ds : List D} {j : Nat} {d : D} (r : DpAll K b vs ds) (e : ds[j]? = some d) : ∃ v, vs[j]? = some v ∧ Dp K b v d := by
  have hj := (List.getElem?_eq_some_iff.mp e).1
  have hl := dpAll_len r
  have e1 : vs[j]? = some (vs[j]'(by omega)) := List.getElem?_eq_getElem _
  exact ⟨_, e1, dpAll_get r e e1⟩
theorem ok_ix {K : PySem.W.Frag} : OpOk K (rIx K) pyIx where
  run := fun b h x y d e Q s rx ry p => by
    unfold pyIx at p
    split at p
    · rename_i l i
      cases ry.int
      obtain ⟨a, vs, rfl, hs, hr⟩ := rx.lst s
      cases ea : atP l i with
      | none => rw [ea] at p; exact p.elim
      | some d =>
        rw [ea] at p
        obtain ⟨j, e1, e2⟩ := atP_lt ea
        obtain ⟨v, e3, r⟩ := dpAll_ex hr e1
        exact .inl ⟨a, vs, i, v, rfl, rfl, hs, by rw [← atP_eq, e2 vs (dpAll_len hr), e3], p b h v (Ext.refl s) r⟩
    · rename_i l i
      cases ry.int
      obtain ⟨a, vs, rfl, hs, hr⟩ := rx.tup
      cases ea : atP l i with
      | none => rw [ea] at p; exact p.elim
      | some d =>
        rw [ea] at p
        obtain ⟨j, e1, e2⟩ := atP_lt ea
        obtain ⟨v, e3, r⟩ := dpAll_ex hr e1
        exact .inr (.inl ⟨a, vs, i, v, rfl, rfl, Same.sqT s hs, by rw [← atP_eq, e2 vs (dpAll_len hr), e3], p b h v (Ext.refl s) r⟩)
    · rename_i z i
      split at p
      · rename_i hl
        cases rx.str
        cases ry.int
        cases ea : atP (tl z) i with
        | none => rw [ea] at p; exact p.elim
        | some c =>
          rw [ea] at p
          exact .inr (.inr ⟨z, i, c, rfl, rfl, hl, by rw [← atP_eq, ea], p b h _ (Ext.refl s) (.str _)⟩)
      · exact p.elim
    · exact p.elim
  nex := fun d e c as z => by
    unfold pyIx at z
    split at z
    · rename_i l i
      cases h : atP l i <;> rw [h] at z <;> cases z
    · rename_i l i
      cases h : atP l i <;> rw [h] at z <;> cases z
    · rename_i l i
      split at z
      · cases h : atP (tl l) i <;> rw [h] at z <;> cases z
      · cases z
    · cases z
section
variable {F : Fx} {e a b : Expr} {pos p2 : Pos} {fa fb : Env → R D}
theorem ie_ix (ha : IB F a fa) (hb : IB F b fb) (hs : PlainIx b := by exact fun _ _ => rfl) : IE F (.Subscript a b pos) (eBin pyIx fa fb) :=
  PE.imp (pe_ix ix_seq ha hb hs) fun _ _ _ h => op_run ok_ix h

/-! ### slices -/
/-- a bound as a place among n -/
def cutIx (n d : Nat) : Option Int → Nat
  | none => d
  | some i => if i < 0 then (i + n).toNat else min i.toNat n
theorem cutIx_eq (n d : Nat) (o : Option Int) : cutIx n d o = HT.sIx n d o := by
  cases o with
  | none => rfl
  | some i =>
    have := HT.clip_eq i n d
    show (if i < 0 then (i + n).toNat else min i.toNat n) = _
    by_cases h : i < 0
    · rw [if_pos h] at this ⊢; omega
    · rw [if_neg h] at this ⊢; omega
def cut {α : Type} (l : List α) (lo hi : Option Int) : List α := (l.drop (cutIx l.length 0 lo)).take (cutIx l.length l.length hi - cutIx l.length 0 lo)
theorem cut_eq (l : List V) (lo hi : Option Int) : cut l lo hi = cutV l lo hi := by unfold cut cutV; rw [cutIx_eq, cutIx_eq]
theorem cut_all {α : Type} {l : List α} {lo hi : Option Int} (h : cutIx l.length 0 lo = 0 ∧ cutIx l.length l.length hi = l.length) : cut l lo hi = l := by
  unfold cut
  rw [h.1, h.2, List.drop_zero, Nat.sub_zero, List.take_length]
def pySl (lo hi : Option Int) : D → R D
  | .list l => .ok (.list (cut l lo hi))
  | .tuple l => .ok (.tuple (cut l lo hi))
  | .str z => if z.length ≤ sizeLine then .ok (.str (mkS (cut (tl z) lo hi))) else .no
  | _ => .no
/-- a bound of a slice -/
def tIO (F : Fx) (f : Env → R (Option Int)) : TO := fun σ h Q => ∃ b env, F.G b h σ env ∧ Po F b h σ (f env) fun o _ h' => Q o h'
abbrev IO (F : Fx) (e : Option Expr) (f : Env → R (Option Int)) : Prop := PO F.X e (tIO F f)
theorem PO.imp {X : Cx} {e : Option Expr} {t t' : TO} (h : PO X e t) (q : ∀ σ H Q, t' σ H Q → t σ H Q) : PO X e t' := ⟨fun pins s σ H Q I z => h.run pins s σ H Q I (q σ H Q z)⟩
def toI : D → R (Option Int)
  | .int i => .ok (some i)
  | _ => .no
theorem io_none : IO F none (fun _ => .ok none) := PO.imp po_none fun σ H Q ⟨b, env, G, p⟩ => p b H (Ext.refl G.bh)
theorem io_some (h : IE F e fa) : IO F (some e) (fun env => (fa env).bnd toI) := PO.imp (po_some h) fun σ H Q ⟨b, env, G, p⟩ => ⟨b, env, G, Po.bnd p fun d _ b1 h1 x1 p1 v r => by
  cases d with
  | int i => cases r; exact ⟨i, rfl, p1 b1 h1 (Ext.refl x1.bh)⟩
  | _ => exact p1.elim⟩
def rSlM (K : PySem.W.Frag) : V → Option Int → Option Int → Hp → VK → Prop := fun x lo hi H Q => rSlL K x lo hi H Q ∨ rSlA K x lo hi H Q ∨ rSlS x lo hi H Q
theorem sl_m {X : Cx} : SlR X (rSlM X.K) := sl_list.or (sl_tupA.or sl_str)
theorem dpAll_take {K : PySem.W.Frag} {b : Hp} : ∀ {vs : List V} {ds : List D} (n : Nat), DpAll K b vs ds → DpAll K b (vs.take n) (ds.take n)
  | _, _, 0, _ => .nil
  | _, _, _ + 1, .nil => .nil
  | _, _, n + 1, .cons p r => .cons p (dpAll_take n r)
theorem dpAll_drop {K : PySem.W.Frag} {b : Hp} : ∀ {vs : List V} {ds : List D} (n : Nat), DpAll K b vs ds → DpAll K b (vs.drop n) (ds.drop n)
  | _, _, 0, r => r
  | _, _, _ + 1, .nil => .nil
  | _, _, n + 1, .cons p r => dpAll_drop n r
theorem dpAll_cut {K : PySem.W.Frag} {b : Hp} {vs : List V} {ds : List D} (lo hi : Option Int) (r : DpAll K b vs ds) : DpAll K b (cutV vs lo hi) (cut ds lo hi) := by
  rw [← cut_eq]
  unfold cut
  rw [dpAll_len r]
  exact dpAll_take _ (dpAll_drop _ r)
theorem sl_run {K : PySem.W.Frag} {b h : Hp} {x : V} {d : D} {lo hi : Option Int} {Q : VK} (s : Same b h) (rx : Bp K b h x d) (p : PoV K b h (pySl lo hi d) Q) : rSlM K x lo hi h Q := by
  unfold pySl at p
  split at p
  · obtain ⟨a, vs, rfl, hs, hr⟩ := rx.lst s
    exact .inl ⟨a, vs, rfl, hs, fun q hq => p _ _ _ (Ext.new s hq) (.lst (.inl (.inl upd_same)) (dpAll_mono (upd_same_sub (none_sub s hq)) (dpAll_cut lo hi hr)))⟩
  · obtain ⟨a, vs, rfl, hs, hr⟩ := rx.tup
    refine .inr (.inl ⟨a, vs, rfl, Same.sqT s hs, fun hw => ?_, fun hw q hq => ?_⟩)
    · rename_i l
      rw [← cutIx_eq, ← cutIx_eq, dpAll_len hr] at hw
      rw [cut_all hw] at p
      exact p b h _ (Ext.refl s) (.tup hs hr)
    · exact p _ _ _ (Ext.new s hq) (.tup (.inl (.inl upd_same)) (dpAll_mono (upd_same_sub (none_sub s hq)) (dpAll_cut lo hi hr)))
  · split at p
    · rename_i z hl
      cases rx.str
      refine .inr (.inr ⟨z, rfl, hl, ?_⟩)
      have e : mkS (cut (tl z) lo hi) = cutS z lo hi := by
        refine tl_inj ?_
        rw [tl_mkS]
        show cut (tl z) lo hi = (cutS z lo hi).cps.toList
        unfold cutS cut
        rw [cutIx_eq, cutIx_eq, len_tl]
      rw [← e]
      exact p b h _ (Ext.refl s) (.str _)
    · exact p.elim
  · exact p.elim
theorem sl_nex (lo hi : Option Int) (d : D) (c : Str) (as : List (Str × D)) : pySl lo hi d ≠ .ex c as := fun z => by
  unfold pySl at z
  split at z
  · cases z
  · cases z
  · split at z <;> cases z
  · cases z
def eSl (fa : Env → R D) (fl fh : Env → R (Option Int)) : Env → R D := fun env => (fa env).bnd fun d => (fl env).bnd fun lo => (fh env).bnd fun hi => pySl lo hi d
theorem ie_sl {lo hi : Option Expr} {fl fh : Env → R (Option Int)} (ha : IB F e fa) (hl : IO F lo fl) (hh : IO F hi fh) : IE F (.Subscript e (.Slice lo hi none p2) pos) (eSl fa fl fh) :=
  PE.imp (pe_slice sl_m ha hl hh) fun σ H Q ⟨b, env, G, p⟩ => ⟨b, env, G, Po.bnd p fun d _ b1 h1 x1 p1 v r => ⟨b1, env, G.grow x1, Po.bnd p1 fun lo _ b2 h2 x2 p2 => ⟨b2, env, (G.grow x1).grow x2, Po.bnd p2 fun hi _ b3 h3 x3 p3 => by
    exact sl_run x3.bh ((r.grow x1.bh x2).grow x2.bh x3) (p3.v (sl_nex lo hi d))⟩⟩⟩

/-! ### len -/
def pyLen : D → R D
  | .list l => .ok (.int l.length)
  | .tuple l => .ok (.int l.length)
  | .str z => if z.length ≤ sizeLine then .ok (.int (tl z).length) else .no
  | _ => .no
/-- an argument list whose only item is read -/
theorem pa_oneB {a : Expr} {fa : Env → R D} (ha : IB F a fa) (hs : starEach [a] F.X.env = (false, eval a F.X.env) :: starEach [] F.X.env := by rfl) : PA F.X [a] (tCons (tIB F fa) tNil) := pa_cons ha pa_nil hs
theorem len_run {K : PySem.W.Frag} {b h : Hp} {x : V} {d : D} {Q : VK} (s : Same b h) (rx : Bp K b h x d) (p : PoV K b h (pyLen d) Q) : ∃ y n, [x] = [y] ∧ LenV K y h n ∧ Q (.int n) h := by
  unfold pyLen at p
  split at p
  · obtain ⟨a, vs, rfl, hs, hr⟩ := rx.lst s
    exact ⟨_, _, rfl, .inl ⟨vs, hs, (dpAll_len hr).symm⟩, p b h _ (Ext.refl s) (.int _)⟩
  · obtain ⟨a, vs, rfl, hs, hr⟩ := rx.tup
    exact ⟨_, _, rfl, .inr ⟨vs, Same.sqT s hs, (dpAll_len hr).symm⟩, p b h _ (Ext.refl s) (.int _)⟩
  · split at p
    · rename_i z hl
      cases rx.str
      rw [len_tl] at p
      exact ⟨_, _, rfl, ⟨hl, rfl⟩, p b h _ (Ext.refl s) (.int _)⟩
    · exact p.elim
  · exact p.elim
theorem len_nex (d : D) (c : Str) (as : List (Str × D)) : pyLen d ≠ .ex c as := fun z => by
  unfold pyLen at z
  split at z
  · cases z
  · cases z
  · split at z <;> cases z
  · cases z
theorem ie_len {p : Pos} (hm : F.X.mg "len" = none) (ha : IB F a fa) (hg : Gl F.X "len" := by rfl) (hs : starEach [a] F.X.env = (false, eval a F.X.env) :: starEach [] F.X.env := by rfl) (hpl : (backTo pos (starEach [] F.X.env)).any (·.1) = false := by rfl) :
    IE F (.Call (.Name "len" p) [a] [] pos) (eUn pyLen fa) :=
  PE.imp (pe_callB call_len hg hm PySem.boot_len (pa_oneB ha hs) (by decide) (by decide) hs hpl) fun σ H Q ⟨b, env, G, p⟩ => ⟨b, env, G, Po.bnd p fun d _ b1 h1 x1 p1 v r => len_run x1.bh r (p1.v (len_nex d))⟩

/-! ### is None -/
def isNone : D → Bool
  | .none => true
  | _ => false
theorem Bp.isNone {K : PySem.W.Frag} {b h : Hp} {v : V} {d : D} (q : Bp K b h v d) : decide (v = .non) = isNone d := by
  rcases q with q | ⟨a, vs, l, e, _, _, e2⟩
  · cases q <;> first | rfl | exact decide_eq_false (fun z => by cases z)
  · subst e e2
    exact decide_eq_false (fun z => by cases z)
theorem it_isN {j : Nat} {pos' : Pos} (ha : IB F a fa) : IT F (.Compare a [.Is] [.Constant .none j pos'] pos) (fun env => (fa env).bnd fun d => .ok (isNone d)) :=
  PT.imp (pt_cmp (pc_isN ha)) fun σ H Q ⟨b, env, G, p⟩ => ⟨b, env, G, Po.bnd p fun d _ b1 h1 x1 p1 v r => ⟨_, by rw [r.isNone], p1 b1 h1 (Ext.refl x1.bh)⟩⟩
theorem it_notN {j : Nat} {pos' : Pos} (ha : IB F a fa) : IT F (.Compare a [.IsNot] [.Constant .none j pos'] pos) (fun env => (fa env).bnd fun d => .ok (!isNone d)) :=
  PT.imp (pt_cmp (pc_notN ha)) fun σ H Q ⟨b, env, G, p⟩ => ⟨b, env, G, Po.bnd p fun d _ b1 h1 x1 p1 v r => ⟨_, by rw [r.isNone], p1 b1 h1 (Ext.refl x1.bh)⟩⟩
theorem ie_isN {j : Nat} {pos' : Pos} (ha : IB F a fa) : IE F (.Compare a [.Is] [.Constant .none j pos'] pos) (eOfB fun env => (fa env).bnd fun d => .ok (isNone d)) :=
  PE.imp (pe_cmp (pc_isN ha)) fun σ H Q ⟨b, env, G, p⟩ => by
    refine ⟨b, env, G, ?_⟩
    unfold eOfB at p
    dsimp only at p
    cases hd : fa env with
    | ok d =>
      rw [hd] at p
      intro b1 h1 x1 v r
      rw [r.isNone]
      exact p b1 h1 x1 _ (.bl _)
    | ex c as => rw [hd] at p; exact p
    | no => rw [hd] at p; exact p
end
end FP
/-! FP J: list comprehensions. -/
namespace FP
open PySem L2 PySem.Spec PyProof.Rows

/-- the block of a comprehension -/
abbrev Fx.blk (F : Fx) (s : Shared) (H : Hp) (scope : Scope) (C : Addr) (cl : List (Str × Addr)) (fp : List Addr) : Fx where
  X := F.X.blk s H scope (compEnvC scope cl C F.X.env) fp
  W := fun _ _ _ _ => False
  b0 := F.b0
  h0 := F.h0
  T := F.T
  k := F.k
  pre := F.pre
  tk := takes0
  calm := F.calm
  nd := F.nd
  room := F.room
  owns := PassesOwn.never

def wipeE (env : Env) : List Nat → Env
  | [] => env
  | v :: vs => (wipeE env vs).set v .no
/-- the items of a comprehension -/
def compL (t : Tg) (g : Env → R Bool) (fe : Env → R D) (env : Env) : List D → R (List D)
  | [] => .ok []
  | d :: ds => match t d env with
    | none => .no
    | some env1 => match g env1 with
      | .ok true => match fe env1 with
        | .ok y => (compL t g fe env ds).bnd fun r => .ok (y :: r)
        | _ => .no
      | .ok false => compL t g fe env ds
      | _ => .no
def eComp (f : Env → R (List D)) (t : Tg) (g : Env → R Bool) (fe : Env → R D) (vs : List Nat) : Env → R Own := fun env => (f env).bnd fun ds => if ds.length ≤ sizeLine then (compL t g fe (wipeE env vs) ds).bnd fun r => .ok (.lst r) else .no

section
variable {K : PySem.W.Frag} {b0 h0 b h : Hp} {σ : St} {env : Env}
theorem Good.forget (G : Good K b0 h0 b h σ env) (v : Nat) : Good K b0 h0 b h (σ.set v none) (env.set v .no) := by
  refine ⟨by rw [List.length_set, List.length_set]; exact G.len, G.ext, fun j s e => ?_, fun j k o1 o2 c hjk e1 e2 e3 e4 => ?_⟩
  · by_cases hij : v = j
    · subst hij
      have hl : v < env.length := by
        have := (List.getElem?_eq_some_iff.mp e).1
        rwa [List.length_set] at this
      rw [List.getElem?_set_self hl] at e
      cases e
      exact ⟨none, List.getElem?_set_self (by rw [G.len]; exact hl), trivial⟩
    · obtain ⟨w, e1, q⟩ := G.sl j s (get_set_other hij e)
      exact ⟨w, by rw [List.getElem?_set_ne hij]; exact e1, q⟩
  · have h1 : v ≠ j := fun z => by
      subst z
      have hl := (List.getElem?_eq_some_iff.mp e1).1
      rw [List.length_set] at hl
      rw [List.getElem?_set_self hl] at e1; cases e1
    have h2 : v ≠ k := fun z => by
      subst z
      have hl := (List.getElem?_eq_some_iff.mp e2).1
      rw [List.length_set] at hl
      rw [List.getElem?_set_self hl] at e2; cases e2
    exact G.ap j k o1 o2 c hjk (get_set_other h1 e1) (get_set_other h2 e2) (get_set_other h1 e3) (get_set_other h2 e4)
theorem Good.wipe (G : Good K b0 h0 b h σ env) : ∀ vs : List Nat, Good K b0 h0 b h (wipe σ vs) (wipeE env vs)
  | [] => G
  | v :: vs => (G.wipe vs).forget v
theorem wipe_get {σ : St} (i : Nat) : ∀ vs : List Nat, (L2.wipe σ vs)[i]? = if i ∈ vs then (if i < σ.length then some none else none) else σ[i]?
  | [] => by rw [if_neg (by simp)]; rfl
  | v :: vs => by
    unfold L2.wipe
    by_cases hi : v = i
    · subst hi
      rw [if_pos (by simp)]
      by_cases hl : v < σ.length
      · rw [List.getElem?_set_self (by rw [wipe_length]; exact hl), if_pos hl]
      · rw [List.getElem?_eq_none (by rw [List.length_set, wipe_length]; omega), if_neg hl]
    · rw [List.getElem?_set_ne hi, wipe_get i vs]
      by_cases hm : i ∈ vs
      · rw [if_pos hm, if_pos (List.mem_cons_of_mem _ hm)]
      · rw [if_neg hm, if_neg (by simp only [List.mem_cons, not_or]; exact ⟨fun e => hi e.symm, hm⟩)]
theorem wipe_but {σ σ' : St} {vs ix : List Nat} (hb : But ix (L2.wipe σ vs) σ') (hs : ∀ i ∈ ix, i ∈ vs) : L2.wipe σ' vs = L2.wipe σ vs := by
  refine List.ext_getElem? fun i => ?_
  have hl : σ'.length = σ.length := by rw [hb.1, wipe_length]
  rw [wipe_get, wipe_get, hl]
  by_cases hm : i ∈ vs
  · rw [if_pos hm, if_pos hm]
  · rw [if_neg hm, if_neg hm, hb.2 i (fun z => hm (hs i z)), wipe_get, if_neg hm]
/-- a list apart from the frame's things is changed -/
theorem Good.updApart (G : Good K b0 h0 b h σ env) {a : Addr} {u w : HO} (ha : h a = some u) (n : b a = none) (m : h0 a = none) (hap : ∀ (i : Nat) (o : Own), env[i]? = some (.ow o) → σ[i]? ≠ some (some (.ref a))) : Good K b0 h0 b (upd h a w) σ env := by
  refine ⟨G.len, ⟨⟨fun c z ec nt => ?_, fun c ps ec => ?_⟩, fun c z ec => ?_, G.ext.fz⟩, fun j s ej => ?_, G.ap⟩
  · have : c ≠ a := fun z => by rw [z, m] at ec; cases ec
    rw [upd_ne this]; exact G.ext.up.st c z ec nt
  · have : c ≠ a := fun z => by rw [z, m] at ec; cases ec
    rw [upd_ne this]; exact G.ext.up.tb c ps ec
  · have : c ≠ a := fun z => by rw [z, n] at ec; cases ec
    rw [upd_ne this]; exact G.ext.bh c z ec
  · obtain ⟨v, e1, q⟩ := G.sl j s ej
    refine ⟨v, e1, ?_⟩
    cases s with
    | no => trivial
    | vl d => exact q
    | ow o =>
      obtain ⟨c, e2, q2, n2, m2⟩ := q
      subst e2
      have hca : c ≠ a := fun z => by subst z; exact hap j o ej e1
      refine ⟨c, rfl, ?_, n2, m2⟩
      cases o with
      | lst l => obtain ⟨vs, z, r⟩ := q2; exact ⟨vs, by rw [upd_ne hca]; exact z, r⟩
end

/-- a clause's tests -/
def tITs (F : Fx) (f : Env → R Bool) : TT := tIT F f
abbrev ITs (F : Fx) (es : List Expr) (f : Env → R Bool) : Prop := PTs F.X es (tIT F f)
theorem PTs.imp {X : Cx} {e : List Expr} {t t' : TT} (h : PTs X e t) (q : ∀ σ H Q, t' σ H Q → t σ H Q) : PTs X e t' := ⟨fun pins s σ H Q I z => h.run pins s σ H Q I (q σ H Q z)⟩
def tYesR : Env → R Bool := fun _ => .ok true
theorem its_nil {F : Fx} : ITs F [] tYesR := PTs.imp pts_nil fun σ H Q ⟨b, env, G, p⟩ => p b H (Ext.refl G.bh)
theorem its_one {F : Fx} {c : Expr} {g : Env → R Bool} (h : IT F c g) : ITs F [c] g := pts_one h

section
variable {F : Fx} {elt tg iter : Expr} {ifs : List Expr} {scope : Scope} {pos : Pos} {f : Env → R (List D)} {t : Tg} {g : Env → R Bool} {fe : Env → R D}
/-- the reading of a comprehension -/
theorem comp_run {vs ix : List Nat} (hix : ∀ i ∈ ix, i ∈ vs) {σ : St} {H : Hp} {Q : VK} {Fb : Fx} (hF : Fb.X.K = F.X.K ∧ Fb.b0 = F.b0 ∧ Fb.h0 = F.h0) (hW : ∀ c d s h, ¬ Fb.W c d s h)
    (h : ∃ b env, F.G b H σ env ∧ Po F b H σ (eComp f t g fe vs env) fun o b' h' => ∀ p u, h' p = none → (∀ ps, u ≠ .tbl ps) → OwnOk F.X.K b' (upd h' p u) p o → Q (.ref p) (upd h' p u)) : tLc (tII F f) (tIG Fb t ix) (tIT Fb g) (tI Fb fe) vs σ H Q := by
  obtain ⟨b, env, G, p⟩ := h
  obtain ⟨eK, eb, eh⟩ := hF
  refine ⟨b, env, G, Po.bnd p fun ds _ b1 h1 x1 p1 J wk Dn hDn => ?_⟩
  split at p1
  · rename_i hsz
    cases hc : compL t g fe (wipeE env vs) ds with
    | ex c as =>
      exfalso
      have nex : ∀ (l : List D) (c : Str) (as : List (Str × D)), compL t g fe (wipeE env vs) l ≠ .ex c as := by
        intro l
        induction l with
        | nil => intro c as z; cases z
        | cons d l ih =>
          intro c as z
          unfold compL at z
          split at z
          · cases z
          · split at z
            · split at z
              · cases hr : compL t g fe (wipeE env vs) l with
                | ok r => rw [hr] at z; cases z
                | ex c' as' => exact ih c' as' hr
                | no => rw [hr] at z; cases z
              · cases z
            · exact ih c as z
            · cases z
      exact nex _ _ _ hc
    | no => rw [hc] at p1; exact p1.elim
    | ok res =>
      rw [hc] at p1
      have G1 := G.grow x1
      have hq : ∀ b' h' u, Ext b1 h1 b' h' → h' Dn = none → (∀ ps, u ≠ .tbl ps) → OwnOk F.X.K b' (upd h' Dn u) Dn (.lst res) → Q (.ref Dn) (upd h' Dn u) := fun b' h' u x hn hu ok => p1 b' h' x Dn u hn hu ok
      -- the new list's states, told without it
      refine ⟨fun i m h => m = ds.length - i ∧ i ≤ ds.length ∧ ∃ b' h' acc vacc rest, Ext b1 h1 b' h' ∧ h' Dn = none ∧ h = upd h' Dn (.lst vacc) ∧ DpAll F.X.K b' vacc acc ∧ acc.length ≤ i ∧ compL t g fe (wipeE env vs) (ds.drop i) = .ok rest ∧ res = acc ++ rest,
        ⟨ds.length, by simp, Nat.zero_le _, b1, h1, [], [], res, Ext.refl x1.bh, hDn, rfl, .nil, Nat.zero_le _, by simpa using hc, rfl⟩, ?_⟩
      rintro i m h ⟨rfl, hi, b', h', acc, vacc, rest, xe, hn, rfl, ra, hal, hcr, hres⟩
      have G' := G1.grow xe
      have hb' : Same b' (upd h' Dn (.lst vacc)) := fun a o e => by
        have : a ≠ Dn := fun z => by subst z; rw [none_sub xe.bh hn] at e; cases e
        rw [upd_ne this]; exact xe.bh a o e
      have nb : b' Dn = none := none_sub xe.bh hn
      have nh0 : F.h0 Dn = none := G'.ext.up.free hn
      have s1 : Same b1 b' := xe.bb x1.bh
      have G2 : F.G b' (upd h' Dn (.lst vacc)) σ env := G'.grow (Ext.newH (o := .lst vacc) xe.bh hn)
      by_cases hlt : i < ds.length
      · have ed : ds[i]? = some ds[i] := List.getElem?_eq_getElem hlt
        refine .inr ⟨wk.goes i b' _ s1 hb' hlt, fun h => ∃ b' h' acc vacc rest, Ext b1 h1 b' h' ∧ h' Dn = none ∧ h = upd h' Dn (.lst vacc) ∧ DpAll F.X.K b' vacc acc ∧ acc.length ≤ i + 1 ∧ compL t g fe (wipeE env vs) (ds.drop (i + 1)) = .ok rest ∧ res = acc ++ rest,
          fun h ⟨b', h', acc, vacc, rest, z⟩ => ⟨ds.length - (i + 1), by omega, rfl, hlt, b', h', acc, vacc, rest, z⟩, fun x h3 hy => ?_⟩
        obtain ⟨b3, x3, r3⟩ := wk.yields i b' _ x h3 _ s1 hb' ed hy
        rw [List.drop_eq_getElem_cons hlt] at hcr
        unfold compL at hcr
        cases et : t ds[i] (wipeE env vs) with
        | none => rw [et] at hcr; cases hcr
        | some env1 =>
          rw [et] at hcr
          dsimp only at hcr
          -- all states from here on: h5 with the list at Dn within
          have back : ∀ b5 h5, Ext b' (upd h' Dn (.lst vacc)) b5 h5 → ∃ h6, h6 Dn = none ∧ h5 = upd h6 Dn (.lst vacc) ∧ Ext b1 h1 b5 h6 := fun b5 h5 x5 => by
            have hd5 : h5 Dn = some (.lst vacc) := x5.up.st _ _ upd_same (fun _ z => by cases z)
            have bd5 : b5 Dn = none := (x5.fz Dn _ upd_same).trans nb
            refine ⟨fun a => if a = Dn then none else h5 a, if_pos rfl, ?_, ⟨⟨fun a o e nt => ?_, fun a ps e => ?_⟩, fun a o e => ?_, fun a o e => ?_⟩⟩
            · funext a
              by_cases ha : a = Dn
              · subst ha; rw [hd5, upd_same]
              · rw [upd_ne ha]; exact (if_neg ha).symm
            · have ha : a ≠ Dn := fun z => by subst z; rw [hDn] at e; cases e
              show (if a = Dn then none else h5 a) = some o
              rw [if_neg ha]
              exact x5.up.st a o (by rw [upd_ne ha]; exact xe.up.st a o e nt) nt
            · have ha : a ≠ Dn := fun z => by subst z; rw [hDn] at e; cases e
              show ∃ ps', (if a = Dn then none else h5 a) = some (.tbl ps') ∧ _
              rw [if_neg ha]
              obtain ⟨p1, e1, z1⟩ := xe.up.tb a ps e
              obtain ⟨p2, e2, z2⟩ := x5.up.tb a p1 (by rw [upd_ne ha]; exact e1)
              exact ⟨p2, e2, fun z => z2 (z1 z)⟩
            · have ha : a ≠ Dn := fun z => by subst z; rw [bd5] at e; cases e
              show (if a = Dn then none else h5 a) = some o
              rw [if_neg ha]
              exact x5.bh a o e
            · have ha : a ≠ Dn := fun z => by subst z; rw [hDn] at e; cases e
              obtain ⟨o', e'⟩ := xe.up.there e
              rw [x5.fz a o' (by rw [upd_ne ha]; exact e'), xe.fz a o e]
          have Gb : ∀ {b5 h5 : Hp} {σ5 : St} {env5 : Env}, F.G b5 h5 σ5 env5 → Fb.G b5 h5 σ5 env5 := fun {b5 h5 σ5 env5} G => by
            show Good Fb.X.K Fb.b0 Fb.h0 b5 h5 σ5 env5
            rw [eK, eb, eh]; exact G
          have Gf : ∀ {b5 h5 : Hp} {σ5 : St} {env5 : Env}, Fb.G b5 h5 σ5 env5 → F.G b5 h5 σ5 env5 := fun {b5 h5 σ5 env5} G => by
            show Good F.X.K F.b0 F.h0 b5 h5 σ5 env5
            rw [← eK, ← eb, ← eh]; exact G
          refine ⟨b3, wipeE env vs, ds[i], env1, Gb ((G2.grow x3).wipe vs), by rw [eK]; exact r3, et, fun σ' Gs hbt => ⟨wipe_but hbt hix, ?_⟩⟩
          cases hg : g env1 with
          | ex c as => rw [hg] at hcr; cases hcr
          | no => rw [hg] at hcr; cases hcr
          | ok cc =>
            rw [hg] at hcr
            refine ⟨b3, env1, Gs, ?_⟩
            rw [hg]
            intro b4 h4 x4
            cases cc with
            | false =>
              refine iteF ?_
              obtain ⟨h6, e6, rfl, x6⟩ := back b4 h4 (x3.trans x4)
              exact ⟨b4, h6, acc, vacc, rest, x6, e6, rfl, dpAll_mono ((x3.trans x4).bb hb') ra, by omega, hcr, hres⟩
            | true =>
              refine iteT ?_
              dsimp only at hcr
              cases hfe : fe env1 with
              | ex c as => rw [hfe] at hcr; cases hcr
              | no => rw [hfe] at hcr; cases hcr
              | ok y =>
                rw [hfe] at hcr
                dsimp only at hcr
                cases hcl : compL t g fe (wipeE env vs) (ds.drop (i + 1)) with
                | ex c as => rw [hcl] at hcr; cases hcr
                | no => rw [hcl] at hcr; cases hcr
                | ok r =>
                  rw [hcl] at hcr
                  have hr : y :: r = rest := by injection hcr
                  refine ⟨b4, env1, Gs.grow x4, ?_⟩
                  rw [hfe]
                  intro b5 h5 x5 v rv
                  obtain ⟨h6, e6, rfl, x6⟩ := back b5 h5 ((x3.trans x4).trans x5)
                  refine ⟨vacc, upd_same, by rw [dpAll_len ra]; omega, b5, h6, acc ++ [y], vacc ++ [v], r, x6, e6, upd_upd, dpAll_snoc (dpAll_mono (((x3.trans x4).trans x5).bb hb') ra) (by rw [← eK]; exact rv), by rw [List.length_append]; simpa using hal, rfl, ?_⟩
                  rw [hres, ← hr, List.append_assoc]
                  rfl
      · have e : i = ds.length := by omega
        subst e
        rw [List.drop_length] at hcr
        have hr : rest = [] := by injection hcr with z; exact z.symm
        subst hr
        rw [List.append_nil] at hres
        subst hres
        exact .inl ⟨wk.stops b' _ s1 hb', hq b' h' _ xe hn (fun _ z => by cases z) ⟨vacc, upd_same, ra⟩⟩
  · exact p1.elim
theorem if_comp {ix : List Nat} (own : List (Str × Nat)) (hi : II F tg iter f) (ok : blkC F.X.N F.X.env.scope scope own = true) (hix : ∀ i ∈ ix, i ∈ own.map (·.2))
    (hg : ∀ (s : Shared) (H : Hp) (C : Addr) (cl : List (Str × Addr)) (fp : List Addr), IG (F.blk s H scope C cl fp) tg t ix) (ht : ∀ (s : Shared) (H : Hp) (C : Addr) (cl : List (Str × Addr)) (fp : List Addr), ITs (F.blk s H scope C cl fp) ifs g)
    (he : ∀ (s : Shared) (H : Hp) (C : Addr) (cl : List (Str × Addr)) (fp : List Addr), IE (F.blk s H scope C cl fp) elt fe) (hs : ∀ x, foldedSetIterable iter F.X.env x = pure x := by intro _; rfl) :
    IF F (.ListComp elt [⟨tg, iter, ifs, 0⟩] scope pos) (eComp f t g fe (own.map (·.2))) :=
  PE.imp (pe_lc (wi := tII F f) (g := tIG (F.blk F.X.s_0 F.X.H_0 scope 0 [] []) t ix) (tt := tIT (F.blk F.X.s_0 F.X.H_0 scope 0 [] []) g) (te := tI (F.blk F.X.s_0 F.X.H_0 scope 0 [] []) fe) F.calm F.nd hi (blkOk_by ok) (fun s H C cl fp => hg s H C cl fp) (fun s H C cl fp => ht s H C cl fp) (fun s H C cl fp => he s H C cl fp) hs)
    fun σ H Q h => comp_run hix ⟨rfl, rfl, rfl⟩ (fun _ _ _ _ z => z) h
end
end FP
/-! FP K: generator expressions. -/
namespace FP
open PySem L2 PySem.Spec PyProof.Rows

/-- where a generator expression's code runs -/
abbrev gX (X : Cx) (s : Shared) (H : Hp) (cenv : PySem.Env) (A : Around) (fp : List Addr) : Cx :=
  { X with A := A, s_0 := s, H_0 := H, env := cenv, outer := X.stack, stack := cenv :: X.stack, ex := fp, fn := fun _ => false, pn := [], xe := fun _ _ => False }
/-- a generator's own scope -/
structure GSc (scope : Scope) : Prop where
  kind : scope.kind = .function
  co : scope.isCoroutine = false
  cell : ∀ y ∈ scope.names, y.2 ≠ .cell
  dot : scope.names.lookup (".0" : Str) = some NameKind.local
theorem clo_in {X : Cx} {pins : List (Addr × Obj)} {σ : St} {H : Hp} {s : Shared} {scope : Scope} {own : List (Str × Nat)} (I : L2.Inv X pins σ H s) (ok : BlkOk X.N X.env.scope scope own) {y : Str} {c : Addr} (h : (cloFrom X.env.cells scope.names []).lookup y = some c) :
    X.env.cells.lookup y = some c := by
  rcases cloFrom_mem (PySem.mem_of_lookup h) with z | ⟨z, e⟩
  · cases z
  · have hf := ok.free _ z rfl
    obtain ⟨c2, h2⟩ := I.ok.has y (hf.elim .inl .inr)
    rw [e, h2]
    rfl
theorem clo_has {X : Cx} {pins : List (Addr × Obj)} {σ : St} {H : Hp} {s : Shared} {scope : Scope} {own : List (Str × Nat)} (I : L2.Inv X pins σ H s) (ok : BlkOk X.N X.env.scope scope own) {y : Str} (h : scope.names.lookup y = some .free) :
    ∃ c, (cloFrom X.env.cells scope.names []).lookup y = some c ∧ X.env.cells.lookup y = some c := by
  obtain ⟨c, e⟩ := mem_lookup (cloFrom_has (cells := X.env.cells) (acc := []) (PySem.mem_of_lookup h))
  exact ⟨c, e, clo_in I ok e⟩
/-- the generator's frame stands: its code's state -/
theorem gen_inv {X : Cx} {pins : List (Addr × Obj)} {σ : St} {H : Hp} {s s6 : Shared} {scope : Scope} {own : List (Str × Nat)} {fp : List Addr} {cenv : PySem.Env} {A : Around} (I : L2.Inv X pins σ H s) (ok : BlkOk X.N X.env.scope scope own) (hN : X.N.Nodup) (S : GSc scope)
    (hfp : ∀ b ∈ fp, FpOk X pins H b ∧ b < s.heap.objs.size) (hsc : cenv.scope = scope) (hgl : cenv.globals = X.env.globals) (hbt : cenv.builtins = builtinsNs) (hL : cenv.locals = s.heap.objs.size) (hcl : cenv.cells = cloFrom X.env.cells scope.names []) (hfr : cenv.frame = some cenv.locals)
    (hA : A.frames = some (cenv :: X.stack)) (hh : A.handled = none) (kp : ∀ b o, s.heap.get? b = some o → s6.heap.get? b = some o) (hos : s6.os = s.os) (hba : AllBare s6.gens) {m : Str → Option Value} (hns : s6.heap.Ns cenv.locals m) :
    L2.Inv (gX X s H cenv A fp) [] (L2.wipe σ (own.map (·.2))) H s6 := by
  have cX : ∀ {y c}, cenv.cells.lookup y = some c → X.env.cells.lookup y = some c := fun {y c} h => clo_in I ok (by rw [← hcl]; exact h)
  have okB : (gX X s H cenv A fp).Ok := {
    mod := I.ok.mod
    kind := by show cenv.scope.kind = _; rw [hsc]; exact S.kind
    glob := hgl.trans I.ok.glob
    blt := hbt
    above := Nat.le_of_eq hL.symm
    inj := fun x y c e1 e2 => I.ok.inj x y c (cX e1) (cX e2)
    has := fun y hy => by
      have h2 : scope.names.lookup y = some .cell ∨ scope.names.lookup y = some .free := by rw [← hsc]; exact hy
      rcases h2 with z | z
      · exact absurd rfl (S.cell _ (PySem.mem_of_lookup z))
      · obtain ⟨c, e, _⟩ := clo_has I ok z
        exact ⟨c, by show cenv.cells.lookup y = _; rw [hcl]; exact e⟩
    cab := fun _ _ z => by cases z
    hd := fun _ => hh
    frames := hA
    stk := .inr ⟨rfl, hfr⟩
    exf := fun b hb => ⟨by rw [hL]; exact Nat.ne_of_lt (hfp b hb).2, fun x c e => (hfp b hb).1.2.2.2.2.1 x c (cX e)⟩
    bs := I.bs
    bsz := Nat.le_trans I.ok.bsz I.sz
    noex := fun b o e hb => by
      rcases (hfp b hb).1.2.2.2.1 with z | z
      · exact I.ok.noex b o e z
      · have := Nat.lt_of_lt_of_le (Heap.lt_size e) (Nat.le_trans I.ok.bsz z)
        exact Nat.lt_irrefl _ this
    exfs := fun b hb z => (List.mem_cons.mp (I.stkSub b z)).elim (fun y => (hfp b hb).1.2.1 y) fun y => (hfp b hb).1.2.2.1 y
    funs := I.stack
    frf := I.stkFree }
  have cellK : ∀ {y c}, cenv.cells.lookup y = some c → ∃ v, s6.heap.IsCell c v := fun {y c} e => by
    obtain ⟨v, z⟩ := I.cell y c (cX e)
    exact ⟨v, z.keeps kp⟩
  refine ⟨okB, hos, hba, Un.kept kp, ⟨m, hns, fun i y av e1 e2 e3 => ?_⟩, fun y c e => cellK e, ?_, fun y c e => I.freeC y c (cX e), fun p hp => by simp at hp, I.hok.kept kp, by rw [wipe_length]; exact I.len⟩
  · obtain ⟨e2, hne⟩ := wipe_some e2
    have e3' : Vis scope y := by rw [← hsc]; exact e3
    have noOwn : ∀ k, (y, k) ∈ scope.names → k = .local ∨ k = .cell → False := fun k hm hk => by
      rcases ok.own _ hm hk with z | z
      · obtain ⟨p, hp, hpy⟩ := List.mem_map.mp z
        have e4 := ok.ix p hp
        rw [show p.1 = y from hpy] at e4
        exact hne (List.mem_map.mpr ⟨p, hp, nodup_ix hN e4 e1⟩)
      · exact z (List.mem_of_getElem? e1)
    have hf : scope.names.lookup y = some .free := by
      rcases e3' with z | z | z
      · exact (noOwn _ (PySem.mem_of_lookup z) (.inl rfl)).elim
      · exact (noOwn _ (PySem.mem_of_lookup z) (.inr rfl)).elim
      · exact z
    obtain ⟨c, h1, h2⟩ := clo_has I ok hf
    have hvis : Vis X.env.scope y := (ok.free _ (PySem.mem_of_lookup hf) rfl).elim (fun k => .inr (.inl k)) fun k => .inr (.inr k)
    obtain ⟨m0, hn0, hl0⟩ := I.loc
    obtain ⟨u, r, q⟩ := hl0 i y av e1 e2 hvis
    refine ⟨u, r, .inr ⟨.inr (by show cenv.scope.names.lookup y = _; rw [hsc]; exact hf), c, by show cenv.cells.lookup y = _; rw [hcl]; exact h1, ?_⟩⟩
    rcases q with ⟨k, _⟩ | ⟨_, c', e', z⟩
    · have k' : X.env.scope.names.lookup y = some .local := k
      rcases ok.free _ (PySem.mem_of_lookup hf) rfl with w | w
      · rw [show X.env.scope.names.lookup y = some .cell from w] at k'; cases k'
      · rw [show X.env.scope.names.lookup y = some .free from w] at k'; cases k'
    · rw [h2] at e'
      cases e'
      exact z.keeps kp
  · show H cenv.locals = none
    rw [hL]
    exact I.hok.fresh (Nat.le_refl _)
end FP
/-! FP L: a generator's turns. -/
namespace FP
open PySem L2 PySem.Spec PyProof.Rows

/-- where a generator's elements are evaluated -/
abbrev Fx.gen (F : Fx) (s : Shared) (H : Hp) (cenv : PySem.Env) (A : Around) (fp : List Addr) (k : Nat) (hr : Room k A) : Fx where
  X := gX F.X s H cenv A fp
  W := fun _ _ _ _ => False
  b0 := F.b0
  h0 := F.h0
  T := F.T
  k := k
  pre := F.pre
  tk := takes0
  calm := F.calm
  nd := F.nd
  room := hr
  owns := PassesOwn.never

/-! ### what it yields -/
def nextY (t : Tg) (g : Env → R Bool) (fe : Env → R D) (env : Env) : List D → R (Option (D × List D))
  | [] => .ok none
  | d :: ds => match t d env with
    | none => .no
    | some env1 => match g env1 with
      | .ok true => (match fe env1 with
        | .ok y => .ok (some (y, ds))
        | _ => .no)
      | .ok false => nextY t g fe env ds
      | _ => .no
/-- what is left behind j yields -/
def restY (nx : List D → R (Option (D × List D))) : Nat → List D → Option (List D)
  | 0, ds => some ds
  | j + 1, ds => match nx ds with
    | .ok (some (_, r)) => restY nx j r
    | _ => none
theorem restY_snoc {nx : List D → R (Option (D × List D))} : ∀ (j : Nat) {ds r r' : List D} {y : D}, restY nx j ds = some r → nx r = .ok (some (y, r')) → restY nx (j + 1) ds = some r'
  | 0, ds, r, r', y, e, h => by
    cases e
    unfold restY
    rw [h]
    rfl
  | j + 1, ds, r, r', y, e, h => by
    unfold restY at e ⊢
    cases q : nx ds with
    | ok o =>
      rw [q] at e
      cases o with
      | none => cases e
      | some p => exact restY_snoc j e h
    | ex c as => rw [q] at e; cases e
    | no => rw [q] at e; cases e
theorem nextY_lt {t : Tg} {g : Env → R Bool} {fe : Env → R D} {env : Env} : ∀ {ds r : List D} {y : D}, nextY t g fe env ds = .ok (some (y, r)) → r.length < ds.length
  | [], r, y, h => by cases h
  | d :: ds, r, y, h => by
    unfold nextY at h
    split at h
    · cases h
    · split at h
      · split at h
        · cases h; simp
        · cases h
      · have := nextY_lt h
        simp only [List.length_cons]; omega
      · cases h
theorem nextY_suf {t : Tg} {g : Env → R Bool} {fe : Env → R D} {env : Env} : ∀ {ds r : List D} {y : D}, nextY t g fe env ds = .ok (some (y, r)) → ∃ l, ds = l ++ r
  | [], r, y, h => by cases h
  | d :: ds, r, y, h => by
    unfold nextY at h
    split at h
    · cases h
    · split at h
      · split at h
        · cases h; exact ⟨[d], rfl⟩
        · cases h
      · obtain ⟨l, e⟩ := nextY_suf h
        exact ⟨d :: l, by rw [e]; rfl⟩
      · cases h

/-! ### a generator's state -/
structure GAt (Fg : Fx) (pins : List (Addr × Obj)) (fp : List Addr) (tn : Nat → Heap → Prop) (σw : St) (envw : Env) (b1 h1 : Hp) (i : Nat) (b h : Hp) (s : Shared) : Prop where
  inv : Inv Fg.X pins σw h s
  fpo : ∀ c ∈ fp, h c = none
  st : tn i s.heap
  good : Fg.G b h σw envw
  ext : Ext b1 h1 b h
structure GEnd (Fg : Fx) (pins : List (Addr × Obj)) (σw : St) (envw : Env) (b1 h1 : Hp) (b h : Hp) (s : Shared) : Prop where
  inv : Inv Fg.X pins σw h s
  good : Fg.G b h σw envw
  ext : Ext b1 h1 b h
theorem bare_set {s : Shared} (h : AllBare s.gens) (g : Nat) {x : GenState} (hx : x.bare = true) : AllBare (s.setGen g x).gens := by
  intro y hy
  have hy' : y ∈ s.gens.setIfInBounds g x := hy
  rcases Array.mem_iff_getElem.mp hy' with ⟨j, hj, e⟩
  rw [Array.getElem_setIfInBounds (by simpa using hj)] at e
  split at e
  · rw [← e]; exact hx
  · rw [← e]; exact h _ (Array.getElem_mem _)
theorem inv_set {X : Cx} {pins : List (Addr × Obj)} {σ : St} {H : Hp} {s : Shared} (I : L2.Inv X pins σ H s) (g : Nat) {x : GenState} (hx : x.bare = true) : L2.Inv X pins σ H (s.setGen g x) :=
  ⟨I.ok, I.os, bare_set I.bare g hx, I.base, I.loc, I.cell, I.free, I.freeC, I.pin, I.hok, I.len⟩
theorem set_get {s : Shared} {g : Nat} {x : GenState} (h : g < s.gens.size) : (s.setGen g x).gens[g]? = some x := by
  show (s.gens.setIfInBounds g x)[g]? = some x
  simp [h]
section
variable {Fg : Fx} {pins : List (Addr × Obj)} {fp : List Addr} {tn : Nat → Heap → Prop} {σw : St} {envw : Env} {b1 h1 : Hp}
theorem GAt.setGen {i : Nat} {b h : Hp} {s : Shared} (G : GAt Fg pins fp tn σw envw b1 h1 i b h s) (g : Nat) {x : GenState} (hx : x.bare = true) : GAt Fg pins fp tn σw envw b1 h1 i b h (s.setGen g x) :=
  ⟨inv_set G.inv g hx, G.fpo, G.st, G.good, G.ext⟩
/-- at a yield -/
def gY (Fg : Fx) (pins : List (Addr × Obj)) (fp : List Addr) (tn : Nat → Heap → Prop) (σw : St) (envw : Env) (b1 h1 : Hp) (nx : List D → R (Option (D × List D))) (ds : List D) : Protocol := fun n _ v s₁ k =>
  ∃ r y r' b h u, restY nx (ds.length - n) ds = some r ∧ nx r = .ok (some (y, r')) ∧ RelV u v ∧ Dp Fg.X.K b u y ∧ GAt Fg pins fp tn σw envw b1 h1 (ds.length - r'.length) b h s₁ ∧
    ∀ b'' h'' s'' o, nx r' = .ok o → GAt Fg pins fp tn σw envw b1 h1 (ds.length - r'.length) b'' h'' s'' → k (.send .none) s''
/-- at the end -/
def gE (Fg : Fx) (pins : List (Addr × Obj)) (σw : St) (envw : Env) (b1 h1 : Hp) (nx : List D → R (Option (D × List D))) (ds : List D) : Nat → Shared → Shared → Prop := fun n _ s₁ =>
  ∃ r b h, restY nx (ds.length + 1 - n) ds = some r ∧ nx r = .ok none ∧ GEnd Fg pins σw envw b1 h1 b h s₁
end

theorem over_gen {A : Around} {elt tg iter : Expr} {ifs : List Expr} {scope : Scope} {pos : Pos} {v : Value} {cenv : PySem.Env} :
    (A.over (.compLoop (.GeneratorExp elt [⟨tg, iter, ifs, 0⟩] scope pos) 0 v .none cenv) []).depth ≤ A.depth + 1 ∧ (A.over (.compLoop (.GeneratorExp elt [⟨tg, iter, ifs, 0⟩] scope pos) 0 v .none cenv) []).units ≤ A.units + 3 ∧
    (A.over (.compLoop (.GeneratorExp elt [⟨tg, iter, ifs, 0⟩] scope pos) 0 v .none cenv) []).handled = A.handled ∧ ∀ l, A.frames = some l → (A.over (.compLoop (.GeneratorExp elt [⟨tg, iter, ifs, 0⟩] scope pos) 0 v .none cenv) []).frames = some (cenv :: l) :=
  ⟨Nat.le_of_eq rfl, Nat.le_of_eq rfl, rfl, fun l e => by
    obtain ⟨hd, d, fr, gs, u⟩ := A
    have e' : fr = some l := e
    subst e'
    rfl⟩

section
variable {F : Fx} {s1 : Shared} {H1 : Hp} {cenv : PySem.Env} {Ag : Around} {fp : List Addr} {it : Addr} {tn : Nat → Heap → Prop} {J : It} {tg elt iter : Expr} {ifs : List Expr} {scope : Scope} {pos : Pos} {k : Nat}
  {t : Tg} {ix : List Nat} {g : Env → R Bool} {fe : Env → R D} {b1 h1 : Hp} {ds : List D} {σ0 : St} {env0 : Env} {vs : List Nat} {pins : List (Addr × Obj)}
theorem gen_loop (hr : Room k (Ag.over (.compLoop (.GeneratorExp elt [⟨tg, iter, ifs, 0⟩] scope pos) 0 (.ref it) .none cenv) []))
    (hT : Turn F.X.prog F.X.w F.X.K tg J fp it tn) (hg : IG (F.gen s1 H1 cenv _ fp k hr) tg t ix) (ht : ITs (F.gen s1 H1 cenv _ fp k hr) ifs g) (he : IE (F.gen s1 H1 cenv _ fp k hr) elt fe)
    (wk : Wk F.X.K b1 J ds) (sb1 : Same b1 h1) (hix : ∀ i ∈ ix, i ∈ vs) (hco : cenv.scope.isCoroutine = false) (hpf : ∀ p ∈ pins, p.1 ∉ fp) :
    ∀ (cur : List D) (m : Nat) (s₀ s : Shared) (b h : Hp) (r₀ : List D) (o : Option (D × List D)), (∃ l, ds = l ++ cur) → cur.length < m → m ≤ ds.length + 1 → restY (nextY t g fe (wipeE env0 vs)) (ds.length + 1 - m) ds = some r₀ →
      nextY t g fe (wipeE env0 vs) r₀ = nextY t g fe (wipeE env0 vs) cur → nextY t g fe (wipeE env0 vs) cur = .ok o → GAt (F.gen s1 H1 cenv _ fp k hr) pins fp tn (L2.wipe σ0 vs) (wipeE env0 vs) b1 h1 (ds.length - cur.length) b h s →
      Seg (model F.X.prog F.X.w) Ag (fun n s₀ r s₁ => r = .ok .next ∧ gE (F.gen s1 H1 cenv _ fp k hr) pins (L2.wipe σ0 vs) (wipeE env0 vs) b1 h1 (nextY t g fe (wipeE env0 vs)) ds n s₀ s₁)
        (gY (F.gen s1 H1 cenv _ fp k hr) pins fp tn (L2.wipe σ0 vs) (wipeE env0 vs) b1 h1 (nextY t g fe (wipeE env0 vs)) ds) m s₀
        (.compLoop (.GeneratorExp elt [⟨tg, iter, ifs, 0⟩] scope pos) 0 (.ref it) .none cenv) ((model F.X.prog F.X.w).den (.compLoop (.GeneratorExp elt [⟨tg, iter, ifs, 0⟩] scope pos) 0 (.ref it) .none cenv)) [] s := by
  have fpOkOf : ∀ {σ' : St} {H' : Hp} {s' : Shared}, Inv (F.gen s1 H1 cenv _ fp k hr).X pins σ' H' s' → (∀ c ∈ fp, H' c = none) → ∀ c ∈ fp, FpOk (F.gen s1 H1 cenv _ fp k hr).X pins H' c := fun {σ' H' s'} I hn c hc =>
    ⟨hn c hc, (I.ok.exf c hc).1, I.ok.exfs c hc, .inl hc, fun x d e => (I.ok.exf c hc).2 x d e, fun p hp z => by
      rcases List.mem_append.mp hp with w | w
      · cases w
      · exact hpf p w (z ▸ hc)⟩
  have hy : ∀ v, yieldOut cenv v = yieldValue v := fun v => by simp only [yieldOut, hco, Bool.false_eq_true, if_false]
  intro cur
  induction cur with
  | nil =>
    intro m s₀ s b h r₀ o _ _ hm hr0 hnx hno G
    show Seg _ Ag _ _ _ s₀ _ ((compTurn (.GeneratorExp elt [⟨tg, iter, ifs, 0⟩] scope pos) 0 (.ref it) .none cenv).onRaise (leaving cenv)) [] s
    rw [compTurn_gen, Sem.onRaise_eq_wrap]
    refine seg_bind_wrap (wpAny_standAt ?_)
    have td := hT.done (F.gen s1 H1 cenv _ fp k hr).X rfl rfl rfl F.calm _ pins s _ h (fun _ _ => False) G.inv (fpOkOf G.inv G.fpo) G.st (wk.stops b h (G.ext.bb sb1) G.good.bh)
    refine seg_bind_wrap (thnF td fun r s6 ⟨hr6, I6⟩ => ?_)
    subst hr6
    exact seg_end (.ok .next) ⟨rfl, r₀, b, h, hr0, hnx, I6, G.good, G.ext⟩
  | cons d cur ih =>
    intro m s₀ s b h r₀ o hl hcm hm hr0 hnx hno G
    obtain ⟨l, hl⟩ := hl
    have hpos : ds.length - (d :: cur).length < ds.length := by
      have : ds.length = l.length + (d :: cur).length := by rw [hl, List.length_append]
      simp only [List.length_cons] at this ⊢; omega
    have hget : ds[ds.length - (d :: cur).length]? = some d := by
      have e1 : ds.length - (d :: cur).length = l.length := by rw [hl, List.length_append]; omega
      rw [e1, hl, List.getElem?_append_right (Nat.le_refl _), Nat.sub_self]; rfl
    have hstep : ds.length - (d :: cur).length + 1 = ds.length - cur.length := by
      have : ds.length = l.length + (d :: cur).length := by rw [hl, List.length_append]
      simp only [List.length_cons] at this ⊢; omega
    show Seg _ Ag _ _ _ s₀ _ ((compTurn (.GeneratorExp elt [⟨tg, iter, ifs, 0⟩] scope pos) 0 (.ref it) .none cenv).onRaise (leaving cenv)) [] s
    rw [compTurn_gen, Sem.onRaise_eq_wrap]
    refine seg_bind_wrap (wpAny_standAt ?_)
    have ti := hT.item (F.gen s1 H1 cenv _ fp k hr).X rfl rfl rfl F.calm _ pins s _ h (fun _ _ => False) G.inv (fpOkOf G.inv G.fpo) G.st (wk.goes _ b h (G.ext.bb sb1) G.good.bh hpos)
    refine seg_bind_wrap (thnF ti fun r s6 ⟨u, hr6, h6⟩ => ?_)
    subst hr6
    refine seg_bind_wrap (thnF h6 fun _ s7 ⟨x, H7, I7, r7, y7, st7, n7⟩ => ?_)
    obtain ⟨b7, x7, d7⟩ := wk.yields _ b h x H7 d (G.ext.bb sb1) G.good.bh hget y7
    have I7' := I7.pinned (fpOkOf I7 n7) (hT.obj _ _ st7)
    have hno' := hno
    unfold nextY at hno
    cases et : t d (wipeE env0 vs) with
    | none => rw [et] at hno; cases hno
    | some env1 =>
      rw [et] at hno
      dsimp only at hno
      refine seg_bind_wrap (thnF (hg.run _ s7 _ H7 x u (fun σ8 H8 => (∃ b8, (F.gen s1 H1 cenv _ fp k hr).G b8 H8 σ8 env1 ∧ Ext b h b8 H8) ∧ L2.wipe σ8 vs = L2.wipe σ0 vs) I7' r7 ⟨b7, wipeE env0 vs, d, env1, G.good.grow x7, d7, et, fun σ' G' hb => ⟨⟨b7, G', x7⟩, ?_⟩⟩) fun _ s8 ⟨σ8, H8, I8, ⟨b8, G8, x8⟩, hw8⟩ => ?_)
      · exact wipe_but hb hix
      -- the turn's end
      have fin : ∀ {s' : Shared} {b' H' : Hp}, Inv (F.gen s1 H1 cenv _ fp k hr).X (pins ++ pinsAt fp s7.heap) σ8 H' s' → Ext b8 H8 b' H' → GAt (F.gen s1 H1 cenv _ fp k hr) pins fp tn (L2.wipe σ0 vs) (wipeE env0 vs) b1 h1 (ds.length - cur.length) b' H' s' := fun {s' b' H'} I' x' => by
        have pin' : ∀ c ∈ fp, ∀ o, s7.heap.get? c = some o → s'.heap.get? c = some o ∧ H' c = none := fun c hc o e =>
          let z := I'.pin (c, o) (List.mem_append_right _ (List.mem_append_right _ (mem_pinsAt hc e)))
          ⟨z.1, z.2.1⟩
        have hl8 : (L2.wipe σ0 vs).length = σ8.length := by rw [← hw8, wipe_length]
        refine ⟨(I'.unpinned (pins := pins)).weak hl8 (fun j v e => ?_), fun c hc => ?_, ?_, ?_, ?_⟩
        · rw [← hw8] at e
          exact (wipe_some e).1
        · obtain ⟨o, e, _⟩ := hT.obj _ _ st7 c hc
          exact (pin' c hc o e).2
        · rw [← hstep]
          exact hT.keep _ _ _ st7 fun c hc o e => (pin' c hc o e).1
        · exact G.good.grow (x8.trans x')
        · exact (G.ext.trans x8).trans x'
      have again : ∀ {s' : Shared} {b' H' : Hp}, Inv (F.gen s1 H1 cenv _ fp k hr).X (pins ++ pinsAt fp s7.heap) σ8 H' s' → Ext b8 H8 b' H' → nextY t g fe (wipeE env0 vs) (d :: cur) = nextY t g fe (wipeE env0 vs) cur → Seg (model F.X.prog F.X.w) Ag _ _ m s₀ _ ((model F.X.prog F.X.w).den (.compLoop (.GeneratorExp elt [⟨tg, iter, ifs, 0⟩] scope pos) 0 (.ref it) .none cenv)) [] s' := fun {s' b' H'} I' x' hcn =>
        ih m s₀ s' b' H' r₀ o ⟨l ++ [d], by rw [hl]; simp⟩ (by simp only [List.length_cons] at hcm; omega) hm hr0 (hnx.trans hcn) (hcn ▸ hno') (fin I' x')
      refine seg_bind_wrap (thnF (ht.run _ s8 σ8 H8 (fun c H9 => g env1 = .ok c ∧ ∃ b9, Ext b8 H8 b9 H9) I8 ⟨b8, env1, G8, ?_⟩) fun c s9 ⟨H9, I9, hgc, b9, x9⟩ => ?_)
      · cases hgc : g env1 with
        | ok c => exact fun b' h' x' => ⟨rfl, b', x'⟩
        | ex c as => rw [hgc] at hno; cases hno
        | no => rw [hgc] at hno; cases hno
      rw [hgc] at hno
      cases c with
      | false =>
        simp only [Bool.false_eq_true, if_false]
        refine seg_again rfl (again I9 x9 ?_)
        show nextY t g fe (wipeE env0 vs) (d :: cur) = _
        conv => lhs; unfold nextY
        rw [et]; dsimp only; rw [hgc]
      | true =>
        simp only [if_true]
        dsimp only at hno
        cases hfe : fe env1 with
        | ex c as => rw [hfe] at hno; cases hno
        | no => rw [hfe] at hno; cases hno
        | ok y =>
          rw [hfe] at hno
          have ho : o = some (y, cur) := by injection hno with z; exact z.symm
          subst ho
          simp only [hy]
          rw [Sem.bind_eq_wrap', Sem.bind_eq_wrap', Sem.wrap_wrap, Sem.wrap_wrap]
          refine seg_wrap (thnF (he.run _ s9 σ8 H9 (fun v H10 => ∃ b10, Ext b9 H9 b10 H10 ∧ Dp F.X.K b10 v y) I9 ⟨b9, env1, G8.grow x9, ?_⟩) fun z s10 ⟨yv, H10, I10, r10, b10, x10, d10⟩ => ?_)
          · rw [hfe]
            exact fun b' h' x' v rv => ⟨b', x', rv⟩
          obtain ⟨m', rfl⟩ : ∃ m', m = m' + 1 := ⟨m - 1, by simp only [List.length_cons] at hcm; omega⟩
          have hrest : restY (nextY t g fe (wipeE env0 vs)) (ds.length + 1 - m') ds = some cur := by
            have e1 : ds.length + 1 - m' = ds.length + 1 - (m' + 1) + 1 := by omega
            rw [e1]
            exact restY_snoc _ hr0 (hnx.trans hno')
          refine seg_at (seg_yield rfl rfl rfl ⟨r₀, y, cur, b10, H10, yv, ?_, hnx.trans hno', r10, d10, fin I10 (x9.trans x10), fun b'' h'' s'' o' ho' G' => ?_⟩)
          · have e1 : ds.length - m' = ds.length + 1 - (m' + 1) := by omega
            show restY _ (ds.length - m') ds = some r₀
            rw [e1]; exact hr0
          · refine seg_again rfl (ih m' s'' s'' b'' h'' cur o' ⟨l ++ [d], by rw [hl]; simp⟩ (by simp only [List.length_cons] at hcm; omega) (by omega) hrest rfl ho' G')
end
end FP
/-! FP M: any, all of a generator expression. -/
namespace FP
open PySem L2 PySem.Spec PyProof.Rows

section
variable {F : Fx} {s1 : Shared} {H1 : Hp} {cenv : PySem.Env} {fp : List Addr} {it : Addr} {tn : Nat → Heap → Prop} {J : It} {tg elt iter : Expr} {ifs : List Expr} {scope : Scope} {pos : Pos} {k : Nat}
  {t : Tg} {ix : List Nat} {g : Env → R Bool} {fe : Env → R D} {b1 h1 : Hp} {ds : List D} {σ0 : St} {env0 : Env} {vs : List Nat} {a : Addr} {ob : Obj}
/-- the generator gn at a waits -/
def GR (Fg : Fx) (prog : Program) (w : World) (Ag : Around) (a : Addr) (ob : Obj) (gn : Nat) (fp : List Addr) (tn : Nat → Heap → Prop) (σw : St) (envw : Env) (b1 h1 : Hp) (nx : List D → R (Option (D × List D))) (ds r : List D) (m : Nat) (s : Shared) : Prop :=
  ∃ gs b h, s.gens[gn]? = some gs ∧ GAt Fg [(a, ob)] fp tn σw envw b1 h1 (ds.length - r.length) b h s ∧ restY nx (ds.length + 1 - m) ds = some r ∧ r.length < m ∧ m ≤ ds.length + 1 ∧
    ∀ s'' b'' h'' o, nx r = .ok o → GAt Fg [(a, ob)] fp tn σw envw b1 h1 (ds.length - r.length) b'' h'' s'' →
      gs.Goes (model prog w) Ag (fun n s₀ q s₁ => q = .ok .next ∧ gE Fg [(a, ob)] σw envw b1 h1 nx ds n s₀ s₁) (gY Fg [(a, ob)] fp tn σw envw b1 h1 nx ds) m (.send .none) s''
theorem gens_lt {s : Shared} {gn : Nat} {gs : GenState} (h : s.gens[gn]? = some gs) : gn < s.gens.size := by
  obtain ⟨h', _⟩ := Array.getElem?_eq_some_iff.mp h
  exact h'
/-- the next item -/
theorem gen_next {Fg : Fx} {A : Around} {gn : Nat} {σw : St} {envw : Env} {nx : List D → R (Option (D × List D))} {r : List D} {m : Nat} {s : Shared} {o : Option (D × List D)} {E : Value → Shared → Prop} (hh : A.handled = none) (hd : A.depth < recursionLimit)
    (hob : ob.cls = .type "generator" ∧ ∃ nm qn, ob.data = .fields #[.int gn 0, nm, qn] ∧ ob.slots = #[]) (G : GR Fg F.X.prog F.X.w A.in1 a ob gn fp tn σw envw b1 h1 nx ds r m s) (ho : nx r = .ok o) (hlt : ∀ y r', nx r = .ok (some (y, r')) → r'.length < r.length) :
    wpAny (model F.X.prog F.X.w) A (pyNext (.ref a)) (fun v s' => match o with
      | none => v = none ∧ ∃ b h, GEnd Fg [(a, ob)] σw envw b1 h1 b h s'
      | some (y, r') => ∃ u x b, v = some u ∧ RelV x u ∧ Dp Fg.X.K b x y ∧ GR Fg F.X.prog F.X.w A.in1 a ob gn fp tn σw envw b1 h1 nx ds r' (m - 1) s' ∧ r'.length < r.length) E s := by
  obtain ⟨gs, b, h, hgs, hat, hrest, hrm, hm, hgo⟩ := G
  have isG : ∀ {s' : Shared} {σ' : St} {H' : Hp}, L2.Inv Fg.X [(a, ob)] σ' H' s' → s'.heap.IsGen a gn := fun {s' σ' H'} I => by
    obtain ⟨e, _⟩ := I.pin (a, ob) (List.mem_append_right _ (List.mem_singleton.mpr rfl))
    obtain ⟨hc, nm, qn, hdd⟩ := hob
    exact ⟨ob, nm, qn, e, hc, hdd⟩
  refine GenW.wpAny_gsz (n := s.gens.size) (Nat.le_refl _) ?_
  refine wpAny_pyNext_genexpQ (P := gE Fg [(a, ob)] σw envw b1 h1 nx ds) hh hat.inv.nolimit hd (isG hat.inv) hgs (hgo _ b h o ho (hat.setGen gn (x := .running) rfl)) (fun v s₁ gs' hb hv => ?_) fun s₁ hp h' hk => ?_
  · intro hsz
    obtain ⟨r₁, y, r', b', h', u, e1, e2, ru, du, hat', hkont⟩ := hv
    obtain ⟨m', rfl⟩ : ∃ m', m = m' + 1 := ⟨m - 1, by omega⟩
    have e3 : ds.length - (m' + 1 - 1) = ds.length + 1 - (m' + 1) := by omega
    rw [e3, hrest] at e1
    cases e1
    rw [ho] at e2
    cases e2
    refine ⟨v, u, b', rfl, ru, du, ⟨gs', b', h', set_get ?_, hat'.setGen gn hb, ?_, ?_, ?_, fun s'' b'' h'' o' ho' G' => hkont b'' h'' s'' o' ho' G'⟩, hlt _ _ ho⟩
    · have h9 : s.gens.size ≤ (s₁.setGen gn gs').gens.size := hsz
      rw [GenW.setGen_size] at h9
      exact Nat.lt_of_lt_of_le (gens_lt hgs) h9
    · have e4 : ds.length + 1 - (m' + 1 - 1) = ds.length + 1 - (m' + 1) + 1 := by omega
      rw [e4]
      exact restY_snoc _ hrest ho
    · have := hlt _ _ ho; omega
    · omega
  · intro _
    obtain ⟨r₁, b', h'', e1, e2, I', G', X'⟩ := hp
    rw [hrest] at e1
    cases e1
    rw [ho] at e2
    cases e2
    exact ⟨rfl, b', h'', (inv_set I' gn (x := .finished) rfl).kept (t' := s₁.toks) hk, G', X'⟩

/-! ### all, any -/
def toB1 : D → R Bool
  | .bool c => .ok c
  | _ => .no
/-- all(..) of the items, from the left -/
def allL (t : Tg) (g : Env → R Bool) (fe : Env → R D) (env : Env) : List D → R Bool
  | [] => .ok true
  | d :: ds => match t d env with
    | none => .no
    | some env1 => match g env1 with
      | .ok true => (match fe env1 with
        | .ok (.bool true) => allL t g fe env ds
        | .ok (.bool false) => .ok false
        | _ => .no)
      | .ok false => allL t g fe env ds
      | _ => .no
def anyL (t : Tg) (g : Env → R Bool) (fe : Env → R D) (env : Env) : List D → R Bool
  | [] => .ok false
  | d :: ds => match t d env with
    | none => .no
    | some env1 => match g env1 with
      | .ok true => (match fe env1 with
        | .ok (.bool true) => .ok true
        | .ok (.bool false) => anyL t g fe env ds
        | _ => .no)
      | .ok false => anyL t g fe env ds
      | _ => .no
theorem allL_nx {env : Env} : ∀ {r : List D} {c : Bool}, allL t g fe env r = .ok c → (nextY t g fe env r = .ok none ∧ c = true) ∨ ∃ d r', nextY t g fe env r = .ok (some (.bool d, r')) ∧ ((d = true ∧ allL t g fe env r' = .ok c) ∨ (d = false ∧ c = false))
  | [], c, h => by cases h; exact .inl ⟨rfl, rfl⟩
  | x :: r, c, h => by
    unfold allL at h
    unfold nextY
    cases et : t x env with
    | none => rw [et] at h; cases h
    | some env1 =>
      rw [et] at h
      dsimp only at h ⊢
      cases eg : g env1 with
      | ex _ _ => rw [eg] at h; cases h
      | no => rw [eg] at h; cases h
      | ok b =>
        rw [eg] at h
        cases b with
        | false => exact allL_nx h
        | true =>
          dsimp only at h ⊢
          split at h
          · rename_i ef
            rw [ef]
            exact .inr ⟨true, r, rfl, .inl ⟨rfl, h⟩⟩
          · rename_i ef
            rw [ef]
            cases h
            exact .inr ⟨false, r, rfl, .inr ⟨rfl, rfl⟩⟩
          · cases h
theorem anyL_nx {env : Env} : ∀ {r : List D} {c : Bool}, anyL t g fe env r = .ok c → (nextY t g fe env r = .ok none ∧ c = false) ∨ ∃ d r', nextY t g fe env r = .ok (some (.bool d, r')) ∧ ((d = false ∧ anyL t g fe env r' = .ok c) ∨ (d = true ∧ c = true))
  | [], c, h => by cases h; exact .inl ⟨rfl, rfl⟩
  | x :: r, c, h => by
    unfold anyL at h
    unfold nextY
    cases et : t x env with
    | none => rw [et] at h; cases h
    | some env1 =>
      rw [et] at h
      dsimp only at h ⊢
      cases eg : g env1 with
      | ex _ _ => rw [eg] at h; cases h
      | no => rw [eg] at h; cases h
      | ok b =>
        rw [eg] at h
        cases b with
        | false => exact anyL_nx h
        | true =>
          dsimp only at h ⊢
          split at h
          · rename_i ef
            rw [ef]
            cases h
            exact .inr ⟨true, r, rfl, .inr ⟨rfl, rfl⟩⟩
          · rename_i ef
            rw [ef]
            exact .inr ⟨false, r, rfl, .inl ⟨rfl, h⟩⟩
          · cases h
theorem GR.left {Fg : Fx} {prog : Program} {w : World} {Ag : Around} {gn : Nat} {σw : St} {envw : Env} {nx : List D → R (Option (D × List D))} {r : List D} {m : Nat} {s : Shared} (G : GR Fg prog w Ag a ob gn fp tn σw envw b1 h1 nx ds r m s) : ∃ b h, GEnd Fg [(a, ob)] σw envw b1 h1 b h s := by
  obtain ⟨gs, b, h, _, hat, _⟩ := G
  exact ⟨b, h, hat.inv, hat.good, hat.ext⟩
theorem all_loop {Fg : Fx} {A : Around} {gn : Nat} {σw : St} {envw : Env} {Rr : Result → Shared → Prop} {c : Bool} (hh : A.handled = none) (hd : A.depth < recursionLimit) (hob : ob.cls = .type "generator" ∧ ∃ nm qn, ob.data = .fields #[.int gn 0, nm, qn] ∧ ob.slots = #[])
    (hR : ∀ b h s', GEnd Fg [(a, ob)] σw envw b1 h1 b h s' → Rr (.ok (.ret (.bool c))) s') : ∀ (n : Nat) (r : List D) (m : Nat) (s : Shared), r.length < n → allL t g fe envw r = .ok c → GR Fg F.X.prog F.X.w A.in1.in1 a ob gn fp tn σw envw b1 h1 (nextY t g fe envw) ds r m s →
      codeAny (model F.X.prog F.X.w) A (.builtin "all.loop" ⟨[.ref a], []⟩) Rr s
  | 0, _, _, _, hn, _, _ => absurd hn (Nat.not_lt_zero _)
  | n + 1, r, m, s, hn, hc, G => by
    refine codeAny_builtin PySem.F.entry_all_loop ?_
    rw [Around.under_plainId PySem.F.plain_all_loop _]
    show wpAny _ A.in1 (pyNext (.ref a) >>= _) _ _ s
    rcases allL_nx hc with ⟨e, rfl⟩ | ⟨d, r', e, hd'⟩
    · refine wpAny_bind (thnF (gen_next (F := F) (A := A.in1) hh hd hob G e (fun y r' q => nextY_lt q)) fun v s' ⟨hv, b, h, hE⟩ => ?_)
      subst hv
      exact wpAny_bind (wpAny_rule (wpAny_pure (hR b h s' hE)))
    · refine wpAny_bind (thnF (gen_next (F := F) (A := A.in1) hh hd hob G e (fun y r' q => nextY_lt q)) fun v s' ⟨u, x, b, hv, ru, du, G', hlt⟩ => ?_)
      subst hv
      cases du
      cases ru
      refine wpAny_bind (wpAny_holding (wpAny_truthy_bool ?_))
      refine wpAny_bind (wpAny_letGo ?_)
      rcases hd' with ⟨rfl, hc'⟩ | ⟨rfl, rfl⟩
      · simp only [if_true]
        exact wpAny_pure ⟨plainId_quiet PySem.F.plain_all_loop _, all_loop hh hd hob hR n r' (m - 1) s' (by omega) hc' G'⟩
      · simp only [Bool.false_eq_true, if_false]
        obtain ⟨b', h', hE⟩ := G'.left
        exact wpAny_bind (wpAny_rule (wpAny_pure (hR b' h' s' hE)))
theorem any_loop {Fg : Fx} {A : Around} {gn : Nat} {σw : St} {envw : Env} {Rr : Result → Shared → Prop} {c : Bool} (hh : A.handled = none) (hd : A.depth < recursionLimit) (hob : ob.cls = .type "generator" ∧ ∃ nm qn, ob.data = .fields #[.int gn 0, nm, qn] ∧ ob.slots = #[])
    (hR : ∀ b h s', GEnd Fg [(a, ob)] σw envw b1 h1 b h s' → Rr (.ok (.ret (.bool c))) s') : ∀ (n : Nat) (r : List D) (m : Nat) (s : Shared), r.length < n → anyL t g fe envw r = .ok c → GR Fg F.X.prog F.X.w A.in1.in1 a ob gn fp tn σw envw b1 h1 (nextY t g fe envw) ds r m s →
      codeAny (model F.X.prog F.X.w) A (.builtin "any.loop" ⟨[.ref a], []⟩) Rr s
  | 0, _, _, _, hn, _, _ => absurd hn (Nat.not_lt_zero _)
  | n + 1, r, m, s, hn, hc, G => by
    refine codeAny_builtin PySem.F.entry_any_loop ?_
    rw [Around.under_plainId PySem.F.plain_any_loop _]
    show wpAny _ A.in1 (pyNext (.ref a) >>= _) _ _ s
    rcases anyL_nx hc with ⟨e, rfl⟩ | ⟨d, r', e, hd'⟩
    · refine wpAny_bind (thnF (gen_next (F := F) (A := A.in1) hh hd hob G e (fun y r' q => nextY_lt q)) fun v s' ⟨hv, b, h, hE⟩ => ?_)
      subst hv
      exact wpAny_bind (wpAny_rule (wpAny_pure (hR b h s' hE)))
    · refine wpAny_bind (thnF (gen_next (F := F) (A := A.in1) hh hd hob G e (fun y r' q => nextY_lt q)) fun v s' ⟨u, x, b, hv, ru, du, G', hlt⟩ => ?_)
      subst hv
      cases du
      cases ru
      refine wpAny_bind (wpAny_holding (wpAny_truthy_bool ?_))
      refine wpAny_bind (wpAny_letGo ?_)
      rcases hd' with ⟨rfl, hc'⟩ | ⟨rfl, rfl⟩
      · simp only [Bool.false_eq_true, if_false]
        exact wpAny_pure ⟨plainId_quiet PySem.F.plain_any_loop _, any_loop hh hd hob hR n r' (m - 1) s' (by omega) hc' G'⟩
      · simp only [if_true]
        obtain ⟨b', h', hE⟩ := G'.left
        exact wpAny_bind (wpAny_rule (wpAny_pure (hR b' h' s' hE)))
end
end FP
/-! FP N: a generator expression is made; any, all of it. -/
namespace FP
open PySem L2 PySem.Spec PyProof.Rows

/-- the table of the running def's code -/
structure TabX (X : Cx) (P : Addr) : Prop where
  ex : ∃ c, X.env.code = .ref c ∧ LamX.TabB X.base X.mg c P
theorem upd_at {H : Hp} {p c : Addr} {o : HO} (h : c ≠ p) : upd H p o c = H c := upd_ne h
theorem Ext.tab {b h : Hp} {P : Addr} {ps more : Array Value} (s : Same b h) (e : h P = some (.tbl ps)) (n : b P = none) (ht : TriplesOk ps.toList → TriplesOk (ps ++ more).toList) : Ext b h b (upd h P (.tbl (ps ++ more))) where
  up := ⟨fun c o ec nt => by
      have : c ≠ P := fun z => by rw [z, e] at ec; cases ec; exact nt ps rfl
      rw [upd_ne this]; exact ec, fun c qs ec => by
      by_cases hc : c = P
      · subst hc
        rw [e] at ec
        cases ec
        exact ⟨_, upd_same, ht⟩
      · exact ⟨qs, by rw [upd_ne hc]; exact ec, fun z => z⟩⟩
  bh := fun c o ec => by
    have : c ≠ P := fun z => by rw [z, n] at ec; cases ec
    rw [upd_ne this]; exact s c o ec
  fz := fun _ _ _ => rfl
section
variable {F : Fx} {tg elt iter : Expr} {ifs : List Expr} {scope : Scope} {pos : Pos} {k : Nat} {t : Tg} {ix : List Nat} {g : Env → R Bool} {fe : Env → R D} {f : Env → R (List D)}
  {pins : List (Addr × Obj)} {σ : St} {H : Hp} {s : Shared} {own : List (Str × Nat)} {P : Addr}
theorem gen_make {Q' : Value → Shared → Prop} (I : L2.Inv F.X pins σ H s) (hk : k + 1 ≤ F.k) (hi : II F tg iter f) (ok : BlkOk F.X.N F.X.env.scope scope own) (S : GSc scope) (hP : P ∈ F.T) (TB : TabX F.X P) (hix : ∀ i ∈ ix, i ∈ own.map (·.2))
    (hg : ∀ (s : Shared) (H : Hp) (cl : List (Str × Addr)) (C : Addr) (code : Value) (bi : Addr) (A : Around) (fp : List Addr) (hr : Room k A), IG (F.gen s H (genEnv scope cl C code bi F.X.env) A fp k hr) tg t ix)
    (ht : ∀ (s : Shared) (H : Hp) (cl : List (Str × Addr)) (C : Addr) (code : Value) (bi : Addr) (A : Around) (fp : List Addr) (hr : Room k A), ITs (F.gen s H (genEnv scope cl C code bi F.X.env) A fp k hr) ifs g)
    (he : ∀ (s : Shared) (H : Hp) (cl : List (Str × Addr)) (C : Addr) (code : Value) (bi : Addr) (A : Around) (fp : List Addr) (hr : Room k A), IE (F.gen s H (genEnv scope cl C code bi F.X.env) A fp k hr) elt fe)
    (hs : ∀ v, genFold iter F.X.env v = pure v)
    (h : ∃ b env, F.G b H σ env ∧ Po F b H σ (f env) fun ds b1 h1 => ∀ (Fg : Fx) (a : Addr) (ob : Obj) (gn : Nat) (fp : List Addr) (tn : Nat → Heap → Prop) (b2 h2 : Hp) (s5 : Shared), F.G b2 h2 σ env → Fg.X.K = F.X.K → Ext b1 h1 b2 h2 →
      (ob.cls = .type "generator" ∧ ∃ nm qn, ob.data = .fields #[.int gn 0, nm, qn] ∧ ob.slots = #[]) → s5.heap.get? a = some ob →
      GR Fg F.X.prog F.X.w F.X.A.in1.in1 a ob gn fp tn (L2.wipe σ (own.map (·.2))) (wipeE env (own.map (·.2))) b2 h2 (nextY t g fe (wipeE env (own.map (·.2)))) ds ds (ds.length + 1) s5 →
      (∀ b' h' s', GEnd Fg [(a, ob)] (L2.wipe σ (own.map (·.2))) (wipeE env (own.map (·.2))) b2 h2 b' h' s' → L2.Inv F.X pins σ h' s' ∧ Ext b2 h2 b' h') → Q' (.ref a) s5) :
    wpAny (model F.X.prog F.X.w) F.X.A (eval (.GeneratorExp elt [⟨tg, iter, ifs, 0⟩] scope pos) F.X.env) Q' F.X.xe s := by
  have hfree : ∀ y ∈ scope.names, y.2 = .free → ∃ c, F.X.env.cells.lookup y.1 = some c := fun y hy e => by
    rcases ok.free y hy e with z | z
    · exact I.ok.has _ (.inl z)
    · exact I.ok.has _ (.inr z)
  have hA := F.room.dp
  have hU := F.room.un
  refine wpAny_GeneratorExp_make S.co (closure_ok hfree) S.cell S.dot S.kind (by omega) ?_ hs
  obtain ⟨b, env, G, hpo⟩ := h
  refine thn (hi.run pins s σ H (fun J h1 => ∃ ds b1, Wk F.X.K b1 J ds ∧ Ext b H b1 h1 ∧ _) I ⟨b, env, G, hpo.imp fun ds b1 h1 x1 q J wk => ⟨ds, b1, wk, x1, q⟩⟩) fun xv s1 hx => thn hx fun itv s2 h2 => ?_
  obtain ⟨it, fp, tn, J, H2, e, I2, T, st2, f2, ds, b1, wk, x1, q⟩ := h2
  subst e
  have G1 := G.grow x1
  obtain ⟨⟨ps, hPs, htr⟩, nb⟩ := G1.pre P hP
  obtain ⟨c, hcode, TB⟩ := TB.ex
  have hPo : s2.heap.get? P = some { cls := .none, data := .fields ps } := I2.hok P _ hPs
  have cd : PySem.W.CodeHd s2.heap c P := TB.code.keeps fun b u e => I2.bk b u e
  -- behind the code object
  have cont : ∀ (code : Value) (h3 : Heap) (tk : Nat) (h2' : Hp), L2.Inv F.X pins σ h2' { s2 with heap := h3, toks := tk } → Ext b1 H2 b1 h2' → (∀ b o, b ≠ P → s2.heap.get? b = some o → h3.get? b = some o) → s2.heap.objs.size ≤ h3.objs.size → (∀ b ∈ fp, h2' b = none) →
      wpAny (model F.X.prog F.X.w) F.X.A (builtinsFor F.X.env.globals F.X.env.builtins) (fun bi s₄ =>
        ∀ h', h'.Ns s₄.heap.objs.size (fun y => if y = ".0" then some (Value.ref it) else none) → Heap.SameBut s₄.heap.objs.size (s₄.heap.push { cls := .type "frame", data := .dict #[] }) h' →
          Q' (.ref h'.objs.size) { s₄ with
            gens := s₄.gens.push (.fresh (.compStart (.GeneratorExp elt [⟨tg, iter, ifs, 0⟩] scope pos) 0 (.ref it) .none (genEnv scope (cloFrom F.X.env.cells scope.names []) s₄.heap.objs.size code bi F.X.env))),
            toks := s₄.toks + 1 + 1 + 1,
            heap := h'.push { cls := .type "generator", data := .fields #[.int s₄.gens.size 0, .str "<genexpr>" (s₄.toks + 1), .str (F.X.env.qual ++ "<genexpr>") (s₄.toks + 1 + 1)] } }) F.X.xe { s2 with heap := h3, toks := tk } := by
    intro code h3 tk h2' I3 x2 k3 hsz nfp
    obtain ⟨bm, ob, e1, e2, e3, e4, e5, e6, e7, e8⟩ := TB.bm
    refine wpAny_builtinsFor (m := F.X.mg) (by rw [I2.ok.glob]; exact I3.mod.glob.keeps I3.bk) e1 e2 (k3 _ _ e4 (I2.bk _ _ e5)) e6 e7 e8 ?_
    intro h' hn' hs'
    generalize hs4 : ({ s2 with heap := h3, toks := tk } : Shared) = s4 at I3 hn' hs'
    have h4 : s4.heap = h3 := by rw [← hs4]
    have g4 : s4.gens = s2.gens := by rw [← hs4]
    have hsz' : h'.objs.size = s4.heap.objs.size + 1 := by rw [hs'.1, Heap.size_push]
    have keep' : ∀ b o, s4.heap.get? b = some o → h'.get? b = some o := fun b o e => hs'.extBut b o (Nat.ne_of_lt (Heap.lt_size e)) (Heap.get?_push_of_some _ e)
    generalize hob : ({ cls := .type "generator", data := .fields #[.int s4.gens.size 0, .str "<genexpr>" (s4.toks + 1), .str (F.X.env.qual ++ "<genexpr>") (s4.toks + 1 + 1)] } : Obj) = gob
    have keep5 : ∀ b o, s4.heap.get? b = some o → (h'.push gob).get? b = some o := fun b o e => Heap.get?_push_of_some _ (keep' b o e)
    generalize hce : genEnv scope (cloFrom F.X.env.cells scope.names []) s4.heap.objs.size code builtinsNs F.X.env = ce
    have hg' := hg s4 h2' (cloFrom F.X.env.cells scope.names []) s4.heap.objs.size code builtinsNs
    have ht' := ht s4 h2' (cloFrom F.X.env.cells scope.names []) s4.heap.objs.size code builtinsNs
    have he' := he s4 h2' (cloFrom F.X.env.cells scope.names []) s4.heap.objs.size code builtinsNs
    rw [hce] at hg' ht' he'
    have cL : ce.locals = s4.heap.objs.size := by rw [← hce]; rfl
    have cS : ce.scope = scope := by rw [← hce]; rfl
    -- the elements' around
    obtain ⟨o1, o2, o3, o4⟩ := over_gen (A := F.X.A.in1.in1) (elt := elt) (tg := tg) (iter := iter) (ifs := ifs) (scope := scope) (pos := pos) (v := .ref it) (cenv := ce)
    have hr : Room k ((F.X.A.in1.in1).over (.compLoop (.GeneratorExp elt [⟨tg, iter, ifs, 0⟩] scope pos) 0 (.ref it) .none ce) []) := by
      have o1' : ((F.X.A.in1.in1).over (.compLoop (.GeneratorExp elt [⟨tg, iter, ifs, 0⟩] scope pos) 0 (.ref it) .none ce) []).depth ≤ F.X.A.depth + 1 := o1
      have o2' : ((F.X.A.in1.in1).over (.compLoop (.GeneratorExp elt [⟨tg, iter, ifs, 0⟩] scope pos) 0 (.ref it) .none ce) []).units ≤ F.X.A.units + 1 + 1 + 3 := o2
      refine ⟨o3.trans F.room.hd, ?_, ?_⟩ <;> omega
    have hfp4 : ∀ b ∈ fp, FpOk F.X pins h2' b ∧ b < s4.heap.objs.size := fun b hb => by
      obtain ⟨o, e, _⟩ := T.obj _ _ st2 b hb
      have hlt := Heap.lt_size e
      exact ⟨⟨nfp b hb, (f2 b hb).2⟩, by rw [h4]; exact Nat.lt_of_lt_of_le hlt hsz⟩
    have hfrS : F.X.A.frames = some F.X.stack := I.ok.frames
    have J0 := gen_inv (s6 := { s4 with gens := s4.gens.push (.fresh (.compStart (.GeneratorExp elt [⟨tg, iter, ifs, 0⟩] scope pos) 0 (.ref it) .none ce)), toks := s4.toks + 1 + 1 + 1, heap := h'.push gob }) (cenv := ce) (A := (F.X.A.in1.in1).over (.compLoop (.GeneratorExp elt [⟨tg, iter, ifs, 0⟩] scope pos) 0 (.ref it) .none ce) []) (fp := fp) (m := fun y => if y = ".0" then some (Value.ref it) else none)
      I3 ok F.nd S hfp4 cS (by rw [← hce]; rfl) (by rw [← hce]; rfl) cL (by rw [← hce]; rfl) (by rw [← hce]; rfl) (o4 _ hfrS) hr.hd keep5 rfl (I3.bare.push rfl) (by rw [cL]; exact hn'.push _)
    have ha : s4.heap.objs.size ≤ h'.objs.size := by omega
    have na : h2' h'.objs.size = none := I3.hok.fresh ha
    have naf : h'.objs.size ∉ frs F.X.stack := fun z => by
      rcases List.mem_cons.mp (I3.stkSub _ z) with e | e
      · have h1 : F.X.env.locals < s4.heap.objs.size := I3.lt
        rw [← e] at h1
        exact Nat.lt_irrefl _ (Nat.lt_of_lt_of_le h1 ha)
      · exact I3.nofs ha e
    have J1 : L2.Inv (F.gen s4 h2' ce _ fp k hr).X [(h'.objs.size, gob)] (L2.wipe σ (own.map (·.2))) h2' { s4 with gens := s4.gens.push (.fresh (.compStart (.GeneratorExp elt [⟨tg, iter, ifs, 0⟩] scope pos) 0 (.ref it) .none ce)), toks := s4.toks + 1 + 1 + 1, heap := h'.push gob } :=
      J0.pins_of fun p hp => by
        have e : p = (h'.objs.size, gob) := List.mem_singleton.mp hp
        subst e
        refine ⟨Heap.get?_push_size _ (by rw [← hob]; rfl), na, ?_, naf, fun v z => ?_⟩
        · show h'.objs.size ≠ ce.locals
          rw [cL, hsz']
          exact Nat.succ_ne_self _
        · rw [← hob] at z; cases z
    have G2 : F.G b1 h2' σ env := G1.grow x2
    have sb1 : Same b1 h2' := x2.bh
    have hpf : ∀ p ∈ [(h'.objs.size, gob)], p.1 ∉ fp := fun p hp z => by
      have e : p = (h'.objs.size, gob) := List.mem_singleton.mp hp
      subst e
      have h9 : h'.objs.size < s4.heap.objs.size := (hfp4 _ z).2
      exact Nat.lt_irrefl _ (Nat.lt_of_lt_of_le h9 ha)
    have st4 : ∀ {hh : Heap}, (∀ b o, s4.heap.get? b = some o → hh.get? b = some o) → tn 0 hh := fun {hh} kk => T.keep _ _ _ st2 fun b hb o e => by
      refine kk b o ?_
      rw [h4]
      exact k3 b o (fun z => by have := (f2 b hb).1; rw [z, hPs] at this; cases this) e
    have gl := gen_loop (F := F) (s1 := s4) (H1 := h2') (cenv := ce) (Ag := F.X.A.in1.in1) (fp := fp) (it := it) (tn := tn) (J := J) (tg := tg) (elt := elt) (iter := iter) (ifs := ifs) (scope := scope) (pos := pos) (k := k) (t := t) (ix := ix) (g := g) (fe := fe) (b1 := b1) (h1 := h2') (ds := ds) (σ0 := σ) (env0 := env) (vs := own.map (·.2)) (pins := [(h'.objs.size, gob)])
      hr T (hg' _ fp hr) (ht' _ fp hr) (he' _ fp hr) wk sb1 hix (by rw [cS]; exact S.co) hpf
    have at0 : GAt (F.gen s4 h2' ce _ fp k hr) [(h'.objs.size, gob)] fp tn (L2.wipe σ (own.map (·.2))) (wipeE env (own.map (·.2))) b1 h2' (ds.length - ds.length) b1 h2' { s4 with gens := s4.gens.push (.fresh (.compStart (.GeneratorExp elt [⟨tg, iter, ifs, 0⟩] scope pos) 0 (.ref it) .none ce)), toks := s4.toks + 1 + 1 + 1, heap := h'.push gob } := by
      rw [Nat.sub_self]
      exact ⟨J1, nfp, st4 keep5, G2.wipe _, Ext.refl sb1⟩
    refine q (F.gen s4 h2' ce _ fp k hr) h'.objs.size gob s4.gens.size fp tn b1 h2' _ G2 rfl x2 ⟨by rw [← hob], _, _, by rw [← hob], by rw [← hob]⟩ (Heap.get?_push_size _ (by rw [← hob]; rfl)) ⟨_, b1, h2', Array.getElem?_push_size .., at0, by rw [Nat.sub_self]; rfl, Nat.lt_succ_self _, Nat.le_refl _, fun s'' b'' h'' o ho G' => ⟨rfl, ?_⟩⟩ fun b' h'' s' hE => ?_
    · have loop := gl ds (ds.length + 1) s'' s'' b'' h'' ds o ⟨[], rfl⟩ (Nat.lt_succ_self _) (Nat.le_refl _) (by rw [Nat.sub_self]; rfl) rfl ho G'
      show Seg _ _ _ _ _ s'' _ ((compStart (.GeneratorExp elt [⟨tg, iter, ifs, 0⟩] scope pos) 0 (.ref it) .none ce).onRaise (leaving ce)) [] s''
      unfold compStart
      rw [Sem.onRaise_eq_wrap]
      show Seg _ _ _ _ _ s'' _ ((ask >>= _).wrap _ _ _ _) [] s''
      refine seg_bind_wrap (wpAny_askSetting ?_)
      split
      · exact seg_again rfl loop
      · refine seg_bind_wrap (wpAny_rule ?_)
        show Seg _ _ _ _ _ s'' _ ((standAt iter.pos >>= _).wrap _ _ _ _) [] s''
        refine seg_bind_wrap (wpAny_standAt (seg_bind_wrap (T.self _ _ _ _ _ G'.st ?_)))
        exact seg_again rfl loop
    · refine ⟨?_, hE.ext⟩
      have J := hE.inv
      exact I3.call' (ch := fp) J.os J.base J.hok J.bare fun b hb => ⟨(hfp4 b hb).1.2.2.2.1, (hfp4 b hb).1.2.1, (hfp4 b hb).1.2.2.2.2.1, (hfp4 b hb).1.2.2.2.2.2⟩
  refine ⟨I2.nolimit, ?_⟩
  cases hf : codeAmong pos ps.toList with
  | none =>
    refine wpAny_genexprCodeX hcode (cd.code hPo htr) (cd.tab hPo) hf fun c' h' tk hx hge hlt hco' _ htab' _ => ?_
    obtain ⟨o1, vs1, f1, tf1, fl1, tg1, inF1, tx1, tt1, op1, _, _, _, _, _, _, _, _, _, htr1, _⟩ := hco'
    have I3 := GxR.inv_tab (more := #[rawInt pos.line, rawInt pos.col, .ref c']) (h' := h') (g' := s2.gens) (d' := s2.drawn) (t' := tk) I2 hPs (fun b u hb e => hx b u hb e) htab'.2 I2.bare
    refine cont _ h' tk _ I3 (Ext.tab x1.bh hPs nb fun _ => htr1) (fun b o hb e => hx b o hb e) (Nat.le_trans hge (Nat.le_of_lt hlt)) fun b hb => ?_
    rw [upd_at (fun z => by have := (f2 b hb).1; rw [z, hPs] at this; cases this)]
    exact (f2 b hb).1
  | some cv =>
    refine wpAny_genexprCode_hit hcode (cd.code hPo htr) hf ?_
    exact cont cv s2.heap s2.toks H2 I2 (Ext.refl x1.bh) (fun _ _ _ e => e) (Nat.le_refl _) fun b hb => (f2 b hb).1

def eGen (q : Env → List D → R Bool) (f : Env → R (List D)) (vs : List Nat) : Env → R D := fun env => (f env).bnd fun ds => (q (wipeE env vs) ds).bnd fun c => .ok (.bool c)
theorem R.bnd_ok {α β : Type} {r : R α} {k : α → R β} {c : β} (h : ∃ a, r = .ok a ∧ k a = .ok c) : r.bnd k = .ok c := by
  obtain ⟨a, e, e2⟩ := h
  rw [e]; exact e2
theorem allL_nex {t : Tg} {g : Env → R Bool} {fe : Env → R D} {env : Env} : ∀ {r : List D} {c : Str} {as : List (Str × D)}, allL t g fe env r ≠ .ex c as
  | [], c, as => fun h => by cases h
  | x :: r, c, as => fun h => by
    unfold allL at h
    split at h
    · cases h
    · split at h
      · split at h
        · exact allL_nex h
        · cases h
        · cases h
      · exact allL_nex h
      · cases h
theorem anyL_nex {t : Tg} {g : Env → R Bool} {fe : Env → R D} {env : Env} : ∀ {r : List D} {c : Str} {as : List (Str × D)}, anyL t g fe env r ≠ .ex c as
  | [], c, as => fun h => by cases h
  | x :: r, c, as => fun h => by
    unfold anyL at h
    split at h
    · cases h
    · split at h
      · split at h
        · cases h
        · exact anyL_nex h
        · cases h
      · exact anyL_nex h
      · cases h
theorem ie_all {p gpos : Pos} (own : List (Str × Nat)) (P : Addr) (hm : F.X.mg "all" = none) (hk : k + 1 ≤ F.k) (hi : II F tg iter f) (hP : P ∈ F.T) (TB : TabX F.X P) 
    (hg : ∀ (s : Shared) (H : Hp) (cl : List (Str × Addr)) (C : Addr) (code : Value) (bi : Addr) (A : Around) (fp : List Addr) (hr : Room k A), IG (F.gen s H (genEnv scope cl C code bi F.X.env) A fp k hr) tg t ix)
    (ht : ∀ (s : Shared) (H : Hp) (cl : List (Str × Addr)) (C : Addr) (code : Value) (bi : Addr) (A : Around) (fp : List Addr) (hr : Room k A), ITs (F.gen s H (genEnv scope cl C code bi F.X.env) A fp k hr) ifs g)
    (he : ∀ (s : Shared) (H : Hp) (cl : List (Str × Addr)) (C : Addr) (code : Value) (bi : Addr) (A : Around) (fp : List Addr) (hr : Room k A), IE (F.gen s H (genEnv scope cl C code bi F.X.env) A fp k hr) elt fe)
    (ok : blkC F.X.N F.X.env.scope scope own = true) (S : GSc scope) (hix : ∀ i ∈ ix, i ∈ own.map (·.2))
    (hgl : Gl F.X "all" := by rfl) (hs : ∀ v, genFold iter F.X.env v = pure v := by intro _; rfl)
    (hst : starEach [.GeneratorExp elt [⟨tg, iter, ifs, 0⟩] scope gpos] F.X.env = (false, eval (.GeneratorExp elt [⟨tg, iter, ifs, 0⟩] scope gpos) F.X.env) :: starEach [] F.X.env := by rfl) :
    IE F (.Call (.Name "all" p) [.GeneratorExp elt [⟨tg, iter, ifs, 0⟩] scope gpos] [] pos) (eGen (allL t g fe) f (own.map (·.2))) := by
  refine ⟨fun pins s σ H Q I h => ?_⟩
  obtain ⟨b, env, G, hp⟩ := h
  refine wpAny_Call_Name_kw (ld_blt I hgl hm rfl ?_)
  refine PyProof.Rows.callWith_builtin1 ?_ hst (by rfl)
  rw [hst]
  show wpAny _ _ (spliced ((false, eval (.GeneratorExp elt [⟨tg, iter, ifs, 0⟩] scope gpos) F.X.env) :: backTo pos (starEach [] F.X.env))) _ _ s
  refine Calls.spliced_cons (gen_make I hk hi (blkOk_by ok) S hP TB hix hg ht he hs ⟨b, env, G, Po.bnd hp fun ds _ b1 h1 x1 p1 Fg a ob gn fp tn b2 h2 s5 G2 eK x2 hob hobs hGR hback => ?_⟩)
  have hA := F.room.dp
  cases hc : allL t g fe (wipeE env (own.map (·.2))) ds with
  | ex c as => exact (allL_nex hc).elim
  | no => rw [hc] at p1; exact p1.elim
  | ok c =>
    rw [hc] at p1
    have isG : s5.heap.IsGen a gn := by
      obtain ⟨hcl, nm, qn, hdd, hsl⟩ := hob
      exact ⟨ob, nm, qn, hobs, hcl, hdd, hsl⟩
    refine Calls.spliced_nil (call_function_tree PySem.F.kind_all PySem.F.plain_all PySem.F.entry_all (PySem.F.args_all1 _) ?_)
    unfold Builtin.«all»
    refine wpAny_bind (m := oneArg "all" _) (wpAny_pure ?_)
    refine wpAny_bind (wpAny_pyIter_gen isG ?_)
    refine wpAny_pure ⟨plainId_quiet PySem.F.plain_all_loop _, all_loop (F := F) F.room.hd (by omega) hob (fun b' h' s' hE => ?_) _ ds _ s5 (Nat.lt_succ_self _) hc hGR⟩
    obtain ⟨I', x'⟩ := hback b' h' s' hE
    exact ⟨.bl c, h', I', rfl, p1 b' h' (x2.trans x') _ (.bl c)⟩
theorem ie_any {p gpos : Pos} (own : List (Str × Nat)) (P : Addr) (hm : F.X.mg "any" = none) (hk : k + 1 ≤ F.k) (hi : II F tg iter f) (hP : P ∈ F.T) (TB : TabX F.X P) 
    (hg : ∀ (s : Shared) (H : Hp) (cl : List (Str × Addr)) (C : Addr) (code : Value) (bi : Addr) (A : Around) (fp : List Addr) (hr : Room k A), IG (F.gen s H (genEnv scope cl C code bi F.X.env) A fp k hr) tg t ix)
    (ht : ∀ (s : Shared) (H : Hp) (cl : List (Str × Addr)) (C : Addr) (code : Value) (bi : Addr) (A : Around) (fp : List Addr) (hr : Room k A), ITs (F.gen s H (genEnv scope cl C code bi F.X.env) A fp k hr) ifs g)
    (he : ∀ (s : Shared) (H : Hp) (cl : List (Str × Addr)) (C : Addr) (code : Value) (bi : Addr) (A : Around) (fp : List Addr) (hr : Room k A), IE (F.gen s H (genEnv scope cl C code bi F.X.env) A fp k hr) elt fe)
    (ok : blkC F.X.N F.X.env.scope scope own = true) (S : GSc scope) (hix : ∀ i ∈ ix, i ∈ own.map (·.2))
    (hgl : Gl F.X "any" := by rfl) (hs : ∀ v, genFold iter F.X.env v = pure v := by intro _; rfl)
    (hst : starEach [.GeneratorExp elt [⟨tg, iter, ifs, 0⟩] scope gpos] F.X.env = (false, eval (.GeneratorExp elt [⟨tg, iter, ifs, 0⟩] scope gpos) F.X.env) :: starEach [] F.X.env := by rfl) :
    IE F (.Call (.Name "any" p) [.GeneratorExp elt [⟨tg, iter, ifs, 0⟩] scope gpos] [] pos) (eGen (anyL t g fe) f (own.map (·.2))) := by
  refine ⟨fun pins s σ H Q I h => ?_⟩
  obtain ⟨b, env, G, hp⟩ := h
  refine wpAny_Call_Name_kw (ld_blt I hgl hm boot_any ?_)
  refine PyProof.Rows.callWith_builtin1 ?_ hst (by rfl)
  rw [hst]
  show wpAny _ _ (spliced ((false, eval (.GeneratorExp elt [⟨tg, iter, ifs, 0⟩] scope gpos) F.X.env) :: backTo pos (starEach [] F.X.env))) _ _ s
  refine Calls.spliced_cons (gen_make I hk hi (blkOk_by ok) S hP TB hix hg ht he hs ⟨b, env, G, Po.bnd hp fun ds _ b1 h1 x1 p1 Fg a ob gn fp tn b2 h2 s5 G2 eK x2 hob hobs hGR hback => ?_⟩)
  have hA := F.room.dp
  cases hc : anyL t g fe (wipeE env (own.map (·.2))) ds with
  | ex c as => exact (anyL_nex hc).elim
  | no => rw [hc] at p1; exact p1.elim
  | ok c =>
    rw [hc] at p1
    have isG : s5.heap.IsGen a gn := by
      obtain ⟨hcl, nm, qn, hdd, hsl⟩ := hob
      exact ⟨ob, nm, qn, hobs, hcl, hdd, hsl⟩
    refine Calls.spliced_nil (call_function_tree PySem.F.kind_any PySem.F.plain_any PySem.F.entry_any (PySem.F.args_any1 _) ?_)
    unfold Builtin.«any»
    refine wpAny_bind (m := oneArg "any" _) (wpAny_pure ?_)
    refine wpAny_bind (wpAny_pyIter_gen isG ?_)
    refine wpAny_pure ⟨plainId_quiet PySem.F.plain_any_loop _, any_loop (F := F) F.room.hd (by omega) hob (fun b' h' s' hE => ?_) _ ds _ s5 (Nat.lt_succ_self _) hc hGR⟩
    obtain ⟨I', x'⟩ := hback b' h' s' hE
    exact ⟨.bl c, h', I', rfl, p1 b' h' (x2.trans x') _ (.bl c)⟩
end
end FP
/-! FP O: int comparisons, products, isinstance, split, join, a comprehension stored in a name. -/
namespace FP
open PySem L2 PySem.Spec PyProof.Rows

/-! ### int comparisons -/
def cmpI (g : Int → Int → Bool) : D → D → R Bool
  | .int i, .int j => .ok (g i j)
  | _, _ => .no
theorem ok_cmpI {K : PySem.W.Frag} {g : Int → Int → Bool} : CmpOk K (rI0 fun i j => .bl (g i j)) (cmpI g) where
  run := fun b h x y d e Q s rx ry p => by
    unfold cmpI at p
    split at p
    · cases rx.int
      cases ry.int
      exact ⟨_, _, rfl, rfl, p⟩
    · exact p.elim
  nex := fun d e c as z => by
    unfold cmpI at z
    split at z <;> cases z
abbrev pyLt : D → D → R Bool := cmpI fun i j => decide (i < j)
abbrev pyLe : D → D → R Bool := cmpI fun i j => decide (i ≤ j)
abbrev pyGt : D → D → R Bool := cmpI fun i j => decide (j < i)
abbrev pyGe : D → D → R Bool := cmpI fun i j => decide (j ≤ i)
/-! ### * -/
def pyMul : D → D → R D
  | .int i, .int j => if i.natAbs < 2 ^ 64 then .ok (.int (i * j)) else .no
  | .str z, .int n => if 0 ≤ n ∧ n ≤ 10000 ∧ z.length ≤ 1000 then .ok (.str (mkS (List.replicate n.toNat (tl z)).flatten)) else .no
  | _, _ => .no
def rMulA : R2 := fun x y H Q => rI CMul (fun i j => .int (i * j)) x y H Q ∨ rMulS x y H Q
theorem op_mulA {X : Cx} : OpR X (binaryOp .Mult) rMulA := op_mul.or op_mulS
theorem ok_mul {K : PySem.W.Frag} : OpOk K rMulA pyMul where
  run := fun b h x y d e Q s rx ry p => by
    unfold pyMul at p
    split at p
    · split at p
      · rename_i i j hi
        cases rx.int
        cases ry.int
        exact .inl ⟨_, _, rfl, rfl, by first | exact hi | exact Or.inl hi | exact .inl (by omega) | exact ⟨hi⟩ | (unfold CMul; omega), p b h _ (Ext.refl s) (.int _)⟩
      · exact p.elim
    · split at p
      · rename_i z n hn
        cases rx.str
        cases ry.int
        exact .inr ⟨_, _, rfl, rfl, ⟨hn.1, hn.2.1⟩, hn.2.2, p b h _ (Ext.refl s) (.str _)⟩
      · exact p.elim
    · exact p.elim
  nex := fun d e c as z => by
    unfold pyMul at z
    split at z
    all_goals first | cases z | (split at z <;> cases z)

/-! ### isinstance -/
inductive Ty | bool | int | str | tuple | list
def Ty.nm : Ty → String
  | .bool => "bool"
  | .int => "int"
  | .str => "str"
  | .tuple => "tuple"
  | .list => "list"
def isT : Ty → D → Bool
  | .bool, .bool _ => true
  | .int, .bool _ => true
  | .int, .int _ => true
  | .str, .str _ => true
  | .tuple, .tuple _ => true
  | .list, .list _ => true
  | _, _ => false
def tyNm : D → String
  | .none => "NoneType"
  | .bool _ => "bool"
  | .int _ => "int"
  | .str _ => "str"
  | .list _ => "list"
  | .tuple _ => "tuple"
  | .dict _ => "dict"
theorem kit_isT (T : Ty) (d : D) (h : ∀ l, d ≠ .dict l) : kitB (tyNm d) T.nm = some (isT T d) := by
  cases d with
  | dict l => exact (h l rfl).elim
  | _ => cases T <;> (simp only [tyNm, Ty.nm, isT]; decide +kernel)
theorem Bp.tyX {K : PySem.W.Frag} {b h : Hp} {v : V} {d : D} (s : Same b h) (q : Bp K b h v d) : TyX K h v (.type (tyNm d)) := by
  rcases q with q | ⟨a, vs, l, e, e1, r, e2⟩
  · cases q with
    | non => exact .base .non
    | bl _ => exact .base (.bl _)
    | int _ => exact .base (.int _)
    | str _ => exact .base (.str _)
    | lst hs hr =>
      rcases Same.sqL s hs with (e | ⟨o, e⟩) | ⟨o, its, n, e, c, _⟩
      · exact .base (.lst e)
      · exact .base (.frz e)
      · exact .kList e c
    | tup hs hr =>
      rcases Same.sqT s hs with (e | ⟨o, e⟩) | ⟨o, its, n, e, c, _⟩
      · exact .base (.tup e)
      · exact .fTuple e
      · exact .kTuple e c
  · subst e e2
    exact .base (.lst e1)
theorem Bp.noDict {K : PySem.W.Frag} {b h : Hp} {v : V} {d : D} (q : Bp K b h v d) : ∀ l, d ≠ .dict l := fun l e => by
  subst e
  rcases q with q | ⟨_, _, _, _, _, _, e2⟩
  · cases q
  · cases e2
section
variable {F : Fx} {a e : Expr} {fa fb : Env → R D} {pos : Pos}
theorem boot_isi : ∀ T : Ty, bootBuiltins (Str.ofString T.nm) = some (.type T.nm)
  | .bool => rfl
  | .int => rfl
  | .str => rfl
  | .tuple => rfl
  | .list => rfl
theorem ie_isi {p p2 : Pos} {x : Str} (T : Ty) (hm : F.X.mg "isinstance" = none) (hmT : F.X.mg x = none) (ha : IB F a fa) (hg : Gl F.X "isinstance" := by rfl) (hgT : Gl F.X x := by rfl) (hb : bootBuiltins x = some (.type T.nm) := by exact boot_isi _)
    (hn : x ≠ "__name__" := by decide) (hd : (x == ("__debug__" : Str)) = false := by decide)
    (hs : starEach [a, .Name x p2] F.X.env = (false, eval a F.X.env) :: starEach [.Name x p2] F.X.env := by rfl)
    (hs2 : starEach [.Name x p2] F.X.env = (false, eval (.Name x p2) F.X.env) :: starEach [] F.X.env := by rfl)
    (hpl : (backTo pos (starEach [.Name x p2] F.X.env)).any (·.1) = false := by rfl) :
    IE F (.Call (.Name "isinstance" p) [a, .Name x p2] [] pos) (fun env => (fa env).bnd fun d => .ok (.bool (isT T d))) :=
  PE.imp (pe_callB call_isi hg hm rfl (pa_cons ha (pa_cons (pe_bltn (v := .ty T.nm) hgT hmT hb rfl hn hd) pa_nil hs2) hs) (by decide) (by decide) hs hpl) fun σ H Q ⟨b, env, G, p⟩ => ⟨b, env, G, Po.bnd p fun d _ b1 h1 x1 p1 v r => by
    refine ⟨_, _, _, _, _, rfl, .ty _, r.tyX x1.bh, kit_ty (kit_isT T d r.noDict), ?_⟩
    exact p1 b1 h1 (Ext.refl x1.bh) _ (.bl _)⟩

/-! ### split, join -/
/-- texts as data -/
def txts (l : List Str) : List D := l.map .str
theorem dpAll_txts {K : PySem.W.Frag} {b : Hp} : ∀ l : List Str, DpAll K b (l.map V.str) (txts l)
  | [] => .nil
  | x :: l => .cons (.str x) (dpAll_txts l)
/-- a method of a text -/
def eM1 {α : Type} (g : Str → D → R α) (fa fb : Env → R D) : Env → R α := fun env => (fa env).bnd fun x => match x with
  | .str z => (fb env).bnd (g z)
  | _ => .no
def splitF (a : Str) : D → R Own
  | .str b => if (b.length == 0) = false ∧ a.length + 2 ≤ sizeLine then .ok (.lst (txts (Txt.split a b))) else .no
  | _ => .no
theorem if_split {apos : Pos} (ha : IB F a fa) (hb : IB F e fb) (hs : starEach [e] F.X.env = [(false, eval e F.X.env)] := by rfl) (hbase : attributeBase a "split" F.X.env (eval a F.X.env) = eval a F.X.env := by rfl) (hline : (apos.endLine == pos.line) = true := by rfl) :
    IF F (.Call (.Attribute a "split" apos) [e] [] pos) (eM1 splitF fa fb) :=
  PE.imp (pe_split ha hb hs hbase hline) fun σ H Q ⟨b, env, G, p⟩ => ⟨b, env, G, Po.bnd p fun d _ b1 h1 x1 p1 v r => by
    cases d with
    | str z =>
      cases r.str
      refine ⟨⟨z, rfl⟩, b1, env, G.grow x1, Po.bnd p1 fun y _ b2 h2 x2 p2 w rw => ?_⟩
      unfold splitF at p2
      split at p2
      · split at p2
        · rename_i hb
          cases rw.str
          refine ⟨_, _, rfl, rfl, hb.1, hb.2, fun q hq => ?_⟩
          exact p2 b2 h2 (Ext.refl x2.bh) q _ hq (fun _ z => by cases z) ⟨_, upd_same, dpAll_txts _⟩
        · exact p2.elim
      · exact p2.elim
    | _ => exact p1.elim⟩
/-- the texts of a list -/
def toStrs : List D → Option (List Str)
  | [] => some []
  | .str z :: l => (toStrs l).map (z :: ·)
  | _ => none
theorem dpAll_toStrs {K : PySem.W.Frag} {b : Hp} : ∀ {ds : List D} {vs : List V} {l : List Str}, toStrs ds = some l → DpAll K b vs ds → vs = l.map V.str
  | [], _, _, e, h => by cases e; cases h; rfl
  | d :: ds, _, _, e, h => by
    cases d with
    | str z =>
      obtain ⟨l', e', rfl⟩ := Option.map_eq_some_iff.mp e
      cases h with
      | cons p r => cases p; rw [dpAll_toStrs e' r]; rfl
    | _ => cases e
/-- sep.join, in codes -/
def jnL (sep : List Nat) : List (List Nat) → List Nat
  | [] => []
  | [x] => x
  | x :: y :: l => x ++ sep ++ jnL sep (y :: l)
def joinS (a : Str) (l : List Str) : R D := if (l.map (·.length)).sum + l.length * a.length ≤ 16777216 then .ok (.str (mkS (jnL (tl a) (l.map tl)))) else .no
def joinF (a : Str) : D → R D
  | .list ds => match toStrs ds with
    | some l => joinS a l
    | none => .no
  | .tuple ds => match toStrs ds with
    | some l => joinS a l
    | none => .no
  | _ => .no
theorem tl_join (a : Str) : ∀ l : List Str, tl (Txt.join a l) = jnL (tl a) (l.map tl) := by
  intro l
  show tl (Builtin.Str.glued a l) = _
  rw [StrLaws.glued_eq_join]
  induction l with
  | nil => rfl
  | cons x l ih =>
    cases l with
    | nil => rfl
    | cons y l =>
      show tl (x ++ a ++ Str.join a (y :: l)) = tl x ++ tl a ++ jnL (tl a) ((y :: l).map tl)
      rw [← ih, ← mkS_app, ← mkS_app, tl_mkS, tl_mkS]
theorem ie_join {apos : Pos} (ha : IB F a fa) (hb : IB F e fb) (hs : starEach [e] F.X.env = [(false, eval e F.X.env)] := by rfl) (hbase : attributeBase a "join" F.X.env (eval a F.X.env) = eval a F.X.env := by rfl) (hline : (apos.endLine == pos.line) = true := by rfl) :
    IE F (.Call (.Attribute a "join" apos) [e] [] pos) (eM1 joinF fa fb) :=
  PE.imp (pe_join ha hb hs hbase hline) fun σ H Q ⟨b, env, G, p⟩ => ⟨b, env, G, Po.bnd p fun d _ b1 h1 x1 p1 v r => by
    cases d with
    | str z =>
      cases r.str
      refine ⟨⟨z, rfl⟩, b1, env, G.grow x1, Po.bnd p1 fun y _ b2 h2 x2 p2 w rw => ?_⟩
      have fin : ∀ {ds : List D} {l : List Str} {q : Addr} {vs : List V}, toStrs ds = some l → DpAll F.X.K b2 vs ds → (SqL F.X.K h2 q vs ∨ SqT F.X.K h2 q vs) → w = .ref q → Po F b2 h2 σ (joinS z l) (fun d b' h' => ∀ v, Dp F.X.K b' v d → Q v h') →
          ∃ a p, ∃ ys : List Str, V.str z = .str a ∧ [w] = [.ref p] ∧ (SqL F.X.K h2 p (ys.map V.str) ∨ SqT F.X.K h2 p (ys.map V.str)) ∧ (ys.map (·.length)).sum + ys.length * a.length ≤ 16777216 ∧ Q (.str (Txt.join a ys)) h2 := by
        intro ds l q vs ht hr hq hw p3
        have e := dpAll_toStrs ht hr
        subst e hw
        unfold joinS at p3
        split at p3
        · rename_i hz
          refine ⟨_, _, l, rfl, rfl, hq, hz, ?_⟩
          rw [← tl_join] at p3
          exact p3 b2 h2 (Ext.refl x2.bh) _ (.str _)
        · exact p3.elim
      unfold joinF at p2
      split at p2
      · split at p2
        · rename_i ht
          obtain ⟨q, vs, e, hs, hr⟩ := rw.lst x2.bh
          exact fin ht hr (.inl hs) e p2
        · exact p2.elim
      · split at p2
        · rename_i ht
          obtain ⟨q, vs, e, hs, hr⟩ := rw.tup
          exact fin ht hr (.inr (Same.sqT x2.bh hs)) e p2
        · exact p2.elim
      · exact p2.elim
    | _ => exact p1.elim⟩
/-! ### name = [..] of a local name -/
variable {elt tg iter : Expr} {ifs : List Expr} {scope : Scope} {f : Env → R (List D)} {t : Tg} {g : Env → R Bool} {fe : Env → R D}
theorem is_setLc (i : Nat) {ix : List Nat} {x : Str} {py spos : Pos} (own : List (Str × Nat)) (hi : II F tg iter f) (ok : blkC F.X.N F.X.env.scope scope own = true) (hix : ∀ i ∈ ix, i ∈ own.map (·.2))
    (hg : ∀ (s : Shared) (H : Hp) (C : Addr) (cl : List (Str × Addr)) (fp : List Addr), IG (F.blk s H scope C cl fp) tg t ix) (ht : ∀ (s : Shared) (H : Hp) (C : Addr) (cl : List (Str × Addr)) (fp : List Addr), ITs (F.blk s H scope C cl fp) ifs g)
    (he : ∀ (s : Shared) (H : Hp) (C : Addr) (cl : List (Str × Addr)) (fp : List Addr), IE (F.blk s H scope C cl fp) elt fe) (hN : F.X.N[i]? = some x := by rfl) (hl : F.X.env.scope.names.lookup x = some .local := by rfl)
    (hk : F.X.env.scope.kind = .function := by rfl) (hln : (py.line == pos.line) = true := by rfl) (hany : (scope.names.any fun (n, k) => n == x && (k == .local || k == .cell)) = false := by rfl)
    (hs : ∀ x, foldedSetIterable iter F.X.env x = pure x := by intro _; rfl) :
    IS F (.Assign [.Name x py] (.ListComp elt [⟨tg, iter, ifs, 0⟩] scope pos) spos) (sSetO i (eComp f t g fe (own.map (·.2)))) :=
  PS.imp (ps_setLc (wi := tII F f) (g := tIG (F.blk F.X.s_0 F.X.H_0 scope 0 [] []) t ix) (tt := tIT (F.blk F.X.s_0 F.X.H_0 scope 0 [] []) g) (te := tI (F.blk F.X.s_0 F.X.H_0 scope 0 [] []) fe) F.calm F.nd hN hl (sw_true hk hl hln hany) hi (blkOk_by ok) (fun s H C cl fp => hg s H C cl fp) (fun s H C cl fp => ht s H C cl fp) (fun s H C cl fp => he s H C cl fp) hs)
    fun Dn σ H ⟨b, env, G, p⟩ => comp_run hix ⟨rfl, rfl, rfl⟩ (fun _ _ _ _ z => z) ⟨b, env, G, PoS.bnd G p fun o _ b1 h1 x1 G1 p1 q u hq _ ok => p1 b1 _ _ (Same.refl _) (G1.setNew hq ok)⟩
end
end FP
/-! FP P: defs as the top leaves them, constants of the module, the law. -/
namespace FP
open PySem L2 PySem.Spec PyProof.Rows

section
variable {P : Program} {w : World} {K : PySem.W.Frag} {mg : Str → Option Value} {base : Heap} {T : List Addr}
/-- a def at its address by its body's derivation -/
theorem fnok_T {at_ : Str × Option Str} {x qual : Str} {params : Arguments} {body : List Stmt} {sc : Scope} {dvs : List V} {kws : List (Str × V)} {fd : FuncData} {N ps : List Str} {k : Nat} {sv : Env → SR} (Fu : FunD K x qual params body sc dvs kws (He.fAd K at_) fd) (S : FnScope N ps sc)
    (hb : ∀ (A : Around) (outer : List PySem.Env) (s : Shared) (H b : Hp) (E : XK) (hr : Room k (A.deeper (envOfC qual sc s.heap.objs.size (He.fAd K at_) (.ref (He.codeOf K at_))))) (pre : ∀ P ∈ T, GxR.TabG H P ∧ b P = none),
      ISs (bodyF P w K mg base T N ps qual sc S k (He.fAd K at_) (.ref (He.codeOf K at_)) A outer s H b E hr pre) body sv) :
    FnOk P w K mg base (L2.CX P w) (k + 1) (He.fAd K at_) fd ps (spF K mg T ps.length (fun ds => (sv (env0 N.length ds)).r)) := by
  obtain ⟨oc, od, dV, kV, doc, pm, an, cdv, ct, osl, rfl, lk, hcd, _, _⟩ := Fu.ex
  obtain ⟨c, rfl⟩ := He.codeIn_ref hcd
  have ec : He.codeOf K at_ = c := He.codeOf_eq lk rfl
  rw [ec] at hb
  refine fn_of lk hcd S (fun vs H Q E h => h.1) fun A outer s H vs Q E hr hsp => ?_
  obtain ⟨hl, b, ds, pre, sb, rs, q⟩ := hsp
  refine ⟨_, hb A outer s H b E hr pre, b, env0 N.length ds, good0 sb rs, ?_⟩
  dsimp only at q
  revert q
  generalize sv (env0 N.length ds) = r
  cases r with
  | nx env => exact fun q b' h' σ' _ G => q b' h' .non G.ext .non
  | rt d => exact fun q b' h' v x r => q b' h' v x r
  | bk env => exact fun q => q.elim
  | ct env => exact fun q => q.elim
  | ex c as env => exact fun q b' h' σ' dd C fs _ G hc hd ha => q b' h' dd C fs G.ext hc hd ha
  | no => exact fun q => q.elim
theorem fn_okT {at_ : Str × Option Str} {x qual : Str} {params : Arguments} {body : List Stmt} {sc : Scope} {fd : FuncData} {N ps : List Str} {k : Nat} {sv : Env → SR} (Fu : FunD K x qual params body sc [] [] (He.fAd K at_) fd) (S : FnScope N ps sc) (hm : mg x = some (.ref (He.fAd K at_)))
    (bi : ∀ (kV doc pm : Value) (an : Option Addr) (cdv ct : Value) (us : List Value), us.length = ps.length → bindArgs (PySem.W.fnOf x qual params body sc .none kV doc pm an cdv ct) ⟨us, []⟩ = pure (ps.zip us))
    (hb : ∀ (A : Around) (outer : List PySem.Env) (s : Shared) (H b : Hp) (E : XK) (hr : Room k (A.deeper (envOfC qual sc s.heap.objs.size (He.fAd K at_) (.ref (He.codeOf K at_))))) (pre : ∀ P ∈ T, GxR.TabG H P ∧ b P = none),
      ISs (bodyF P w K mg base T N ps qual sc S k (He.fAd K at_) (.ref (He.codeOf K at_)) A outer s H b E hr pre) body sv) : Fn P w K mg base T x (k + 1) ps.length (fun ds => (sv (env0 N.length ds)).r) :=
  ⟨_, fd, ps, hm, Fu.kp, Fu.bindsN bi, fnok_T Fu S hb⟩
/-- no promise at all -/
theorem fn_no {at_ : Str × Option Str} {x qual : Str} {params : Arguments} {body : List Stmt} {sc : Scope} {fd : FuncData} {ps : List Str} (Fu : FunD K x qual params body sc [] [] (He.fAd K at_) fd) (hm : mg x = some (.ref (He.fAd K at_)))
    (bi : ∀ (kV doc pm : Value) (an : Option Addr) (cdv ct : Value) (us : List Value), us.length = ps.length → bindArgs (PySem.W.fnOf x qual params body sc .none kV doc pm an cdv ct) ⟨us, []⟩ = pure (ps.zip us)) : Fn P w K mg base T x 0 ps.length (fun _ => .no) :=
  ⟨_, fd, ps, hm, Fu.kp, Fu.bindsN bi, ⟨fun vs H Q E h => h.1, fun A outer s H args us vs Q E hr e0 hbn r hsp => by
    obtain ⟨_, b, ds, _, _, _, q⟩ := hsp
    exact q.elim⟩⟩
end

/-! ### constants -/
def wideLe (n : Nat) : Bool := decide (n ≤ sizeLine)
mutual
/-- the written value u is the data d -/
def rdV (K : PySem.W.Frag) : Value → D → Bool
  | u, .none => He.relB .non u
  | u, .bool c => He.relB (.bl c) u
  | u, .int i => He.relB (.int i) u
  | u, .str z => He.relB (.str z) u
  | u, .tuple ds => (match u with
    | .ref a => (match K.lookup a with
      | some ⟨.type c, _, .seq its _, _⟩ => decide (c = "tuple") && (decide (its.size ≤ sizeLine) && rdAll K its.toList ds)
      | _ => false)
    | _ => false)
  | u, .list ds => (match u with
    | .ref a => (match K.lookup a with
      | some ⟨.type c, none, .seq its _, _⟩ => decide (c = "list") && (decide (its.size ≤ sizeLine) && rdAll K its.toList ds)
      | _ => false)
    | _ => false)
  | _, .dict _ => false
def rdAll (K : PySem.W.Frag) : List Value → List D → Bool
  | [], [] => true
  | u :: us, d :: ds => rdV K u d && rdAll K us ds
  | _, _ => false
end
mutual
theorem rdV_ok {K : PySem.W.Frag} : ∀ {u : Value} {d : D}, rdV K u d = true → ∃ v, RelV v u ∧ ∀ b, Dp K b v d
  | u, .none, h => ⟨.non, He.relB_ok (by unfold rdV at h; exact h), fun _ => .non⟩
  | u, .bool c, h => ⟨.bl c, He.relB_ok (by unfold rdV at h; exact h), fun _ => .bl _⟩
  | u, .int i, h => ⟨.int i, He.relB_ok (by unfold rdV at h; exact h), fun _ => .int _⟩
  | u, .str z, h => ⟨.str z, He.relB_ok (by unfold rdV at h; exact h), fun _ => .str _⟩
  | u, .tuple ds, h => by
    unfold rdV at h
    cases u with
    | ref a =>
      dsimp only at h
      cases q : K.lookup a with
      | none => rw [q] at h; cases h
      | some o =>
        obtain ⟨oc, od, dt, osl⟩ := o
        rw [q] at h
        cases oc with
        | type c =>
          cases dt with
          | seq its n =>
            obtain ⟨h1, h2⟩ := He.ba h
            obtain ⟨h3, h4⟩ := He.ba h2
            obtain ⟨vs, r, dd⟩ := rdAll_ok h4
            exact ⟨.ref a, rfl, fun b => .tup (.inr ⟨_, its, n, q, congrArg Value.type (of_decide_eq_true h1), rfl, of_decide_eq_true h3, r⟩) (dd b)⟩
          | _ => cases h
        | _ => cases dt <;> cases h
    | _ => cases h
  | u, .list ds, h => by
    unfold rdV at h
    cases u with
    | ref a =>
      dsimp only at h
      cases q : K.lookup a with
      | none => rw [q] at h; cases h
      | some o =>
        obtain ⟨oc, od, dt, osl⟩ := o
        rw [q] at h
        cases oc with
        | type c =>
          cases od with
          | none =>
            cases dt with
            | seq its n =>
              obtain ⟨h1, h2⟩ := He.ba h
              obtain ⟨h3, h4⟩ := He.ba h2
              obtain ⟨vs, r, dd⟩ := rdAll_ok h4
              exact ⟨.ref a, rfl, fun b => .lst (.inr ⟨_, its, n, q, congrArg Value.type (of_decide_eq_true h1), rfl, rfl, of_decide_eq_true h3, r⟩) (dd b)⟩
            | _ => cases h
          | some _ => cases dt <;> cases h
        | _ => cases od <;> cases dt <;> cases h
    | _ => cases h
  | u, .dict _, h => by unfold rdV at h; cases h
theorem rdAll_ok {K : PySem.W.Frag} : ∀ {us : List Value} {ds : List D}, rdAll K us ds = true → ∃ vs, Vals vs us ∧ ∀ b, DpAll K b vs ds
  | [], [], _ => ⟨[], .nil, fun _ => .nil⟩
  | u :: us, d :: ds, h => by
    unfold rdAll at h
    obtain ⟨h1, h2⟩ := He.ba h
    obtain ⟨v, r, dd⟩ := rdV_ok h1
    obtain ⟨vs, rs, dds⟩ := rdAll_ok h2
    exact ⟨v :: vs, .cons r rs, fun b => .cons (dd b) (dds b)⟩
  | [], _ :: _, h => by unfold rdAll at h; cases h
  | _ :: _, [], h => by unfold rdAll at h; cases h
end
/-- the module's name x is the data d -/
def globB (K : PySem.W.Frag) (x : Str) (d : D) : Bool := match PySem.W.nsIn K mainGlobals x with
  | some (some u) => rdV K u d
  | _ => false
theorem globB_ok {K : PySem.W.Frag} {h : Heap} {mg : Str → Option Value} (X : K.In h) (G : h.Ns mainGlobals mg) {x : Str} {d : D} (c : globB K x d = true) : Glob K mg x d := by
  unfold globB at c
  cases e : PySem.W.nsIn K mainGlobals x with
  | none => rw [e] at c; cases c
  | some r =>
    rw [e] at c
    cases r with
    | none => cases c
    | some u =>
      obtain ⟨v, q, dd⟩ := rdV_ok c
      exact ⟨u, v, PySem.W.mg_of X G e, q, dd⟩

/-! ### the law -/
theorem dpAll_ints {K : PySem.W.Frag} {b : Hp} : ∀ ns : List Int, DpAll K b (ns.map V.int) (ns.map PyData.int)
  | [] => .nil
  | i :: r => .cons (.int i) (dpAll_ints r)
theorem law_sp {K : PySem.W.Frag} {mg : Str → Option Value} {T : List Addr} {m : List D → R D} {H : Hp} {a : Addr} {ns : List Int} (hT : ∀ P ∈ T, H P = some (.tbl #[])) (hS : SqL K H a (ns.map V.int)) (hm : m [.list (ns.map .int)] = .ok (.bool true)) :
    spF K mg T 1 m [.ref a] H (fun v _ => v = .bl true) fun _ _ _ => False := by
  have fin : ∀ (b : Hp), (∀ P ∈ T, b P = none) → Same b H → SqL K b a (ns.map V.int) → spF K mg T 1 m [.ref a] H (fun v _ => v = .bl true) fun _ _ _ => False := fun b hb s q => by
    refine ⟨rfl, b, [.list (ns.map .int)], fun P hP => ⟨⟨#[], hT P hP, trivial⟩, hb P hP⟩, s, .cons (.lst q (dpAll_ints ns)) .nil, ?_⟩
    rw [hm]
    exact fun b' h' v x r => by cases r; rfl
  rcases hS with h | h
  · refine fin (fun c => if c = a then H a else none) (fun P hP => ?_) (fun c o e => ?_) (.inl ?_)
    · have : P ≠ a := fun z => by
        have e := hT P hP
        rw [z] at e
        rcases h with h | ⟨o, h⟩ <;> · rw [e] at h; cases h
      exact if_neg this
    · dsimp only at e
      by_cases hc : c = a
      · rw [if_pos hc] at e; rw [hc]; exact e
      · rw [if_neg hc] at e; cases e
    · rcases h with h | ⟨o, h⟩
      · exact .inl ((if_pos rfl).trans h)
      · exact .inr ⟨o, (if_pos rfl).trans h⟩
  · exact fin (fun _ => none) (fun _ _ => rfl) (fun _ _ e => by cases e) (.inr h)
theorem cx_none {P : Program} {w : World} {H : Hp} {s : Shared} {e : Value} {s' : Shared} : L2.CX P w [] H s (fun _ _ _ => False) e s' → False := fun h => by
  obtain ⟨_, _, _, _, _, _, _, _, _, _, _, _, z⟩ := h
  exact z
/-- what the end of a law's row asks -/
theorem law_at {l : PySem.W.OpenLaw} {w : World} {K : PySem.W.Frag} {mg : Str → Option Value} {h : Heap} {k : Nat} {fa : List He.Fa} {fn : List He.DefD} {tf : List He.Defn} {ex : PySem.W.Frag → Bool} {x : Str} {params : Arguments} {body : List Stmt} {sc : Scope} {fd : FuncData} {f : Addr} {m : List D → R D}
    (X : K.In h) (c : He.SaysX fa fn [] tf ex w h K) (Fu : FunD K "law" "law" params body sc [] [] f fd)
    (bi : ∀ (kV doc pm : Value) (an : Option Addr) (cdv ct : Value) (us : List Value), us.length = 1 → bindArgs (PySem.W.fnOf "law" "law" params body sc .none kV doc pm an cdv ct) ⟨us, []⟩ = pure ([x].zip us))
    (hF : ∀ base : Heap, K.In base → base.Ns mainGlobals mg → (∀ p ∈ tf.map (He.cT K), LamX.TabB base mg p.1 p.2) → FnOk l.prog w K mg base (L2.CX l.prog w) k f fd [x] (spF K mg ((tf.map (He.cT K)).map (·.2)) 1 m))
    (hm : ∀ ns : List Int, ns.length ≤ 63 → (∀ z ∈ ns, Builtin.Int.intBits z ≤ 1048576) → m [.list (ns.map .int)] = .ok (.bool true)) : LamX.LawAtS l w K (L2.CX l.prog w) k 63 x mg f h := by
  refine ⟨fd, tf.map (He.cT K), _, fun p hp => ?_, fun p hp => ?_, fun p hp => ?_, fun s u => Fu.bindsA (ps := [x]) bi s [u] rfl, fun H a ns hl hbits hH hS => law_sp (fun P hP => ?_) hS (hm ns hl hbits), hF⟩
  · obtain ⟨q, hq, e⟩ := List.mem_map.mp hp
    rw [← e]; exact c.empty q hq
  · obtain ⟨q, hq, e⟩ := List.mem_map.mp hp
    rw [← e]; exact c.out q hq
  · obtain ⟨q, hq, e⟩ := List.mem_map.mp hp
    rw [← e]; exact PySem.W.codeHd_of_K X (c.hd q hq)
  · obtain ⟨p, hp, e⟩ := List.mem_map.mp hP
    rw [← e]; exact hH p hp
end FP
/-! FP Q: a, b = x, y of plain local names; odds and ends for printed derivations. -/
namespace FP
open PySem L2 PySem.Spec PyProof.Rows

/-- values and new things of one's own, side by side -/
inductive Mv where
  | vl (d : D)
  | ow (o : Own)
def ownAs : List V → List Mv → List Addr
  | .ref a :: vs, .ow _ :: ms => a :: ownAs vs ms
  | _ :: vs, _ :: ms => ownAs vs ms
  | _, _ => []
inductive MsOk (K : PySem.W.Frag) (hs b h : Hp) : List V → List Mv → Prop where
  | nil : MsOk K hs b h [] []
  | vl {v : V} {d : D} {vs : List V} {ms : List Mv} (r : Dp K b v d) (t : MsOk K hs b h vs ms) : MsOk K hs b h (v :: vs) (.vl d :: ms)
  | ow {a : Addr} {o : Own} {vs : List V} {ms : List Mv} (r : OwnOk K b h a o) (n : b a = none) (m : hs a = none) (u : a ∉ ownAs vs ms) (t : MsOk K hs b h vs ms) : MsOk K hs b h (.ref a :: vs) (.ow o :: ms)
def tM (F : Fx) (n : Nat) (f : Env → R (List Mv)) : TA := fun σ h Q => ∃ b env, F.G b h σ env ∧ Po F b h σ (f env) fun ms b' h' => ∀ vs, vs.length = n → MsOk F.X.K h b' h' vs ms → Q vs h'
abbrev IM (F : Fx) (n : Nat) (es : List Expr) (f : Env → R (List Mv)) : Prop := PA F.X es (tM F n f)
theorem MsOk.old {K : PySem.W.Frag} {hs hs' b h : Hp} (u : ∀ a, hs a = none → hs' a = none) : ∀ {vs : List V} {ms : List Mv}, MsOk K hs b h vs ms → MsOk K hs' b h vs ms
  | _, _, .nil => .nil
  | _, _, .vl r t => .vl r (t.old u)
  | _, _, .ow r n m w t => .ow r n (u _ m) w (t.old u)
theorem MsOk.new_ne {K : PySem.W.Frag} {hs b h : Hp} {a : Addr} {u : HO} (ha : hs a = some u) : ∀ {vs : List V} {ms : List Mv}, MsOk K hs b h vs ms → a ∉ ownAs vs ms
  | _, _, .nil => by intro z; cases z
  | v :: vs, .vl d :: ms, .vl r t => by
    intro z
    have z' : a ∈ ownAs vs ms := by cases v <;> exact z
    exact t.new_ne ha z'
  | _, _, .ow r n m w t => by
    intro z
    rcases List.mem_cons.mp z with e | z
    · rw [e, m] at ha; cases ha
    · exact t.new_ne ha z
section
variable {F : Fx} {a e : Expr} {es : List Expr} {fa : Env → R D} {fo : Env → R Own} {fr : Env → R (List Mv)} {n : Nat}
def mNil : Env → R (List Mv) := fun _ => .ok []
def mCons (fa : Env → R D) (fr : Env → R (List Mv)) : Env → R (List Mv) := fun env => (fa env).bnd fun x => (fr env).bnd fun xs => .ok (.vl x :: xs)
def mConsO (fo : Env → R Own) (fr : Env → R (List Mv)) : Env → R (List Mv) := fun env => (fo env).bnd fun x => (fr env).bnd fun xs => .ok (.ow x :: xs)
theorem im_nil : IM F 0 [] mNil := PA.imp pa_nil fun σ H Q ⟨b, env, G, p⟩ => p b H (Ext.refl G.bh) [] rfl .nil
theorem im_cons (ha : IE F a fa) (hr : IM F n es fr) (hs : starEach (a :: es) F.X.env = (false, eval a F.X.env) :: starEach es F.X.env := by rfl) : IM F (n + 1) (a :: es) (mCons fa fr) :=
  PA.imp (pa_cons ha hr hs) fun σ H Q ⟨b, env, G, p⟩ => ⟨b, env, G, Po.bnd p fun d _ b1 h1 x1 p1 v r => ⟨b1, env, G.grow x1, Po.bnd p1 fun ds _ b2 h2 x2 p2 vs hl rs =>
    p2 b2 h2 (Ext.refl x2.bh) (v :: vs) (by rw [List.length_cons, hl]) (.vl (dp_mono (x2.bb x1.bh) r) (rs.old fun c z => x1.up.free z))⟩⟩
theorem im_consO (ha : IF F a fo) (hr : IM F n es fr) (hs : starEach (a :: es) F.X.env = (false, eval a F.X.env) :: starEach es F.X.env := by rfl) : IM F (n + 1) (a :: es) (mConsO fo fr) :=
  PA.imp (pa_cons ha hr hs) fun σ H Q ⟨b, env, G, p⟩ => ⟨b, env, G, Po.bnd p fun o _ b1 h1 x1 p1 q u hq hu ok => ⟨b1, env, (G.grow x1).grow (Ext.newH (o := u) x1.bh hq), by
    have xq : Ext b1 h1 b1 (upd h1 q u) := Ext.newH (o := u) x1.bh hq
    refine Po.bnd (p1.grow xq) fun ds _ b2 h2 x2 p2 vs hl rs => ?_
    refine p2 b2 h2 (Ext.refl x2.bh) (.ref q :: vs) (by rw [List.length_cons, hl]) ?_
    refine .ow (ok.up (x2.bb xq.bh) x2.up) ((x2.fz q u upd_same).trans (none_sub x1.bh hq)) (x1.up.free hq) (rs.new_ne (u := u) upd_same) (rs.old fun c z => ?_)
    exact x1.up.free (xq.up.free z)⟩⟩
/-- the sum of what is stored -/
def Mv.sl : Mv → Sl
  | .vl d => .vl d
  | .ow o => .ow o
theorem Good.setM {b h hs : Hp} {σ : St} {env : Env} {i : Nat} {v : V} {m : Mv} (G : F.G b h σ env) (r : match m with
    | .vl d => Dp F.X.K b v d
    | .ow o => ∃ a, v = .ref a ∧ OwnOk F.X.K b h a o ∧ b a = none ∧ F.h0 a = none ∧ ∀ j o', j ≠ i → env[j]? = some (.ow o') → σ[j]? ≠ some (some (.ref a))) : F.G b h (σ.set i (some v)) (env.set i m.sl) := by
  cases m with
  | vl d => exact Good.set G r
  | ow o => obtain ⟨a, rfl, q, n, z, fr⟩ := r; exact Good.setOwn G q n z fr
def sPar (i j : Nat) (fm : Env → R (List Mv)) : Env → SR := fun env => (fm env).s env fun ms => match ms with
  | [x, y] => .nx ((env.set i x.sl).set j y.sl)
  | _ => .no
theorem fresh_own {b h hs : Hp} {σ : St} {env : Env} (G0 : F.G b hs σ env) {a : Addr} (m : hs a = none) : ∀ (j : Nat) (o' : Own), env[j]? = some (.ow o') → σ[j]? ≠ some (some (.ref a)) := fun j o' e z => by
  obtain ⟨c, ec, ok, _⟩ := G0.own e
  rw [ec] at z
  cases z
  obtain ⟨w, hw⟩ := ok.there
  rw [m] at hw
  cases hw
theorem par_set {b0 b h hs : Hp} {σ : St} {env : Env} {i j : Nat} {v w : V} {x y : Mv} (G0 : F.G b0 hs σ env) (G : F.G b h σ env) (ok : MsOk F.X.K hs b h [v, w] [x, y]) : F.G b h ((σ.set i (some v)).set j (some w)) ((env.set i x.sl).set j y.sl) := by
  have up := G0.ext.up
  have one : ∀ {v : V} {x : Mv} {vs : List V} {ms : List Mv}, MsOk F.X.K hs b h (v :: vs) (x :: ms) → MsOk F.X.K hs b h vs ms ∧ match x with
    | .vl d => Dp F.X.K b v d
    | .ow o => ∃ a, v = .ref a ∧ OwnOk F.X.K b h a o ∧ b a = none ∧ F.h0 a = none ∧ hs a = none ∧ a ∉ ownAs vs ms := fun z => by
    cases z with
    | vl r t => exact ⟨t, r⟩
    | ow r n m u t => exact ⟨t, _, rfl, r, n, up.free m, m, u⟩
  obtain ⟨t1, r1⟩ := one ok
  obtain ⟨_, r2⟩ := one t1
  have G1 : F.G b h (σ.set i (some v)) (env.set i x.sl) := by
    refine Good.setM (hs := hs) G ?_
    cases x with
    | vl d => exact r1
    | ow o => obtain ⟨a, e, q, n, z, m, u⟩ := r1; exact ⟨a, e, q, n, z, fun k o' _ => fresh_own (h := h) G0 m k o'⟩
  refine Good.setM (hs := hs) G1 ?_
  cases y with
  | vl d => exact r2
  | ow o =>
    obtain ⟨a, e, q, n, z, m, _⟩ := r2
    refine ⟨a, e, q, n, z, fun k o' hk ek => ?_⟩
    by_cases hik : i = k
    · subst hik
      have hil : i < env.length := by
        have := (List.getElem?_eq_some_iff.mp ek).1
        rwa [List.length_set] at this
      rw [List.getElem?_set_self hil] at ek
      cases x with
      | vl d => cases ek
      | ow o1 =>
        obtain ⟨a1, e1, _, _, _, _, u⟩ := r1
        rw [List.getElem?_set_self (by rw [G.len]; exact hil)]
        subst e e1
        intro z2
        have z3 : a1 = a := by injection z2 with z2; injection z2 with z2; injection z2
        exact u (by rw [z3]; exact List.mem_cons_self)
    · rw [List.getElem?_set_ne hik] at ek ⊢
      exact fresh_own (h := h) G0 m k o' ek
theorem is_par (i j : Nat) {x y : Str} {a c : Expr} {px py pt pos : Pos} {kt k2 : Nat} {pt2 : Pos} {fm : Env → R (List Mv)} (ha : IM F 2 [a, c] fm) (hi : F.X.N[i]? = some x := by rfl) (hj : F.X.N[j]? = some y := by rfl) (hij : i ≠ j := by decide)
    (hx : F.X.env.scope.names.lookup x = some .local := by rfl) (hy : F.X.env.scope.names.lookup y = some .local := by rfl)
    (hw : swappedStores [.Tuple [.Name x px, .Name y py] kt pt] (.Tuple [a, c] k2 pt2) F.X.env = pure (some [x, y]) := by rfl)
    (hs : swapsWithSole [.Tuple [.Name x px, .Name y py] kt pt] (.Tuple [a, c] k2 pt2) pos.line F.X.env = pure false := by rfl) :
    IS F (.Assign [.Tuple [.Name x px, .Name y py] kt pt] (.Tuple [a, c] k2 pt2) pos) (sPar i j fm) :=
  PS.imp (ps_par F.calm F.nd hi hj hij hx hy ha hw hs) fun Dn σ H ⟨b, env, G, p⟩ => ⟨b, env, G, PoS.bnd G p fun ms _ b1 h1 x1 G1 p1 vs hl ok => by
    cases ok with
    | nil => cases hl
    | vl r t =>
      cases t with
      | nil => cases hl
      | vl r2 t2 =>
        cases t2 with
        | nil => exact ⟨_, _, rfl, p1 b1 h1 _ (Same.refl _) (par_set G G1 (.vl r (.vl r2 .nil)))⟩
        | vl _ _ => simp at hl
        | ow _ _ _ _ _ => simp at hl
      | ow r2 n2 m2 u2 t2 =>
        cases t2 with
        | nil => exact ⟨_, _, rfl, p1 b1 h1 _ (Same.refl _) (par_set G G1 (.vl r (.ow r2 n2 m2 u2 .nil)))⟩
        | vl _ _ => simp at hl
        | ow _ _ _ _ _ => simp at hl
    | ow r n m u t =>
      cases t with
      | nil => cases hl
      | vl r2 t2 =>
        cases t2 with
        | nil => exact ⟨_, _, rfl, p1 b1 h1 _ (Same.refl _) (par_set G G1 (.ow r n m u (.vl r2 .nil)))⟩
        | vl _ _ => simp at hl
        | ow _ _ _ _ _ => simp at hl
      | ow r2 n2 m2 u2 t2 =>
        cases t2 with
        | nil => exact ⟨_, _, rfl, p1 b1 h1 _ (Same.refl _) (par_set G G1 (.ow r n m u (.ow r2 n2 m2 u2 .nil)))⟩
        | vl _ _ => simp at hl
        | ow _ _ _ _ _ => simp at hl⟩
/-! ### short names of what the rules say -/
def eNew (fo : Env → R Own) : Env → R D := fun env => (fo env).bnd fun o => .ok (ofOwn o)
def eTup (fr : Env → R (List D)) : Env → R D := fun env => (fr env).bnd fun xs => .ok (.tuple xs)
def eLst (fr : Env → R (List D)) : Env → R Own := fun env => (fr env).bnd fun xs => .ok (.lst xs)
def eCall (fr : Env → R (List D)) (m : List D → R D) : Env → R D := fun env => (fr env).bnd m
def eIsi (T : Ty) (fa : Env → R D) : Env → R D := fun env => (fa env).bnd fun d => .ok (.bool (isT T d))
def tIsN (fa : Env → R D) : Env → R Bool := fun env => (fa env).bnd fun d => .ok (isNone d)
def tNotNn (fa : Env → R D) : Env → R Bool := fun env => (fa env).bnd fun d => .ok (!isNone d)
def eIsN (fa : Env → R D) : Env → R D := eOfB (tIsN fa)
def iItems (fa : Env → R D) : Env → R (List D) := fun env => (fa env).bnd items
def iRng1 (fa : Env → R D) : Env → R (List D) := fun env => (fa env).bnd rng1
def iRng2 (fa fc : Env → R D) : Env → R (List D) := fun env => (fa env).bnd fun x => (fc env).bnd fun y => rng2 x y
def oNone : Env → R (Option Int) := fun _ => .ok none
def oSome (fa : Env → R D) : Env → R (Option Int) := fun env => (fa env).bnd toI
def sBrk : Env → SR := fun env => .bk env
def sCnt : Env → SR := fun env => .ct env
def sRetN : Env → SR := fun _ => .rt .none
theorem hu64 : F.X.A.units + 64 < cLine := by have := F.room.un; omega
theorem hu65 : F.X.A.units + 65 < cLine := by have := F.room.un; omega
end
end FP
/-! FP R: the laws' common defs: a cell, a draw. -/
namespace FP
open PySem L2 PySem.Spec PyProof.Rows

def cellSV : Env → SR := (sSeq (sIf (eBin pyLt (eO 1) (eUn pyLen (eO 0))) (sRet (eBin pyIx (eO 0) (eO 1))) sNil) (sRet (eC (.int 0))))
def cellF : List D → R D := fun ds => (cellSV (env0 2 ds)).r
def drawSV : Env → SR := (sSeq (sSet 3 (eCall (aCons (eV 0) (aCons (eV 1) aNil)) cellF)) (sSeq (sIf (eBin pyLt (eO 3) (eC (.int 0))) (sSet 3 (eUn pyNeg (eO 3))) sNil) (sSeq (sSetO 4 (eLst aNil)) (sSeq (sIf (eBin pyGe (eO 3) (eBin pyPow (eC (.int 10)) (eC (.int 18)))) (sSeq (sSet 3 (eBin pySub (eO 3) (eBin pyPow (eC (.int 10)) (eC (.int 18))))) (sSeq (sForE (iItems (eV 2)) (gNm 5) (sSeq (sApp 4 (eBin pyMod (eO 3) (eO 5))) (sSet 3 (eBin pyFdiv (eO 3) (eO 5))))) (sFz 4 (sRet (eV 4))))) sNil) (sSeq (sSet 6 (eBin pyMod (eBin pyAdd (eBin pyAdd (eO 3) (eC (.int 1))) (eBin pyMul (eC (.int 31)) (eO 1))) (eC (.int 2147483647)))) (sSeq (sForE (iRng1 (eUn pyLen (eO 2))) (gNm 7) (sSeq (sSet 6 (eBin pyMod (eBin pyAdd (eBin pyAdd (eBin pyMul (eO 6) (eC (.int 48271))) (eC (.int 11))) (eO 7)) (eC (.int 2147483647)))) (sSeq (sSet 6 (eBin pyMod (eBin pyAdd (eBin pyMul (eO 6) (eC (.int 69621))) (eC (.int 3))) (eC (.int 2147483647)))) (sApp 4 (eBin pyMod (eBin pyFdiv (eO 6) (eC (.int 7))) (eBin pyIx (eO 2) (eO 7))))))) (sFz 4 (sRet (eV 4)))))))))
def drawF : List D → R D := fun ds => (drawSV (env0 8 ds)).r

/-! ### steps -/
theorem sSeq_nx {s1 s2 : Env → SR} {env env' : Env} (h : s1 env = .nx env') : sSeq s1 s2 env = s2 env' := by unfold sSeq; rw [h]
theorem sSeq_rt {s1 s2 : Env → SR} {env : Env} {d : D} (h : s1 env = .rt d) : sSeq s1 s2 env = .rt d := by unfold sSeq; rw [h]
theorem sIf_t {g : Env → R Bool} {s1 s2 : Env → SR} {env : Env} (h : g env = .ok true) : sIf g s1 s2 env = s1 env := by unfold sIf; rw [h]; rfl
theorem sIf_f {g : Env → R Bool} {s1 s2 : Env → SR} {env : Env} (h : g env = .ok false) : sIf g s1 s2 env = s2 env := by unfold sIf; rw [h]; rfl
theorem sIf_b {g : Env → R Bool} {s1 s2 : Env → SR} {env : Env} {c : Bool} (h : g env = .ok c) : sIf g s1 s2 env = if c then s1 env else s2 env := by unfold sIf; rw [h]; rfl
theorem sSet_ok {i : Nat} {fa : Env → R D} {env : Env} {d : D} (h : fa env = .ok d) : sSet i fa env = .nx (env.set i (.vl d)) := by unfold sSet; rw [h]; rfl
theorem sSetO_ok {i : Nat} {fa : Env → R Own} {env : Env} {d : Own} (h : fa env = .ok d) : sSetO i fa env = .nx (env.set i (.ow d)) := by unfold sSetO; rw [h]; rfl
theorem sRet_ok {fa : Env → R D} {env : Env} {d : D} (h : fa env = .ok d) : sRet fa env = .rt d := by unfold sRet; rw [h]; rfl
theorem sForE_ok {f : Env → R (List D)} {t : Tg} {sb : Env → SR} {env : Env} {ds : List D} (h : f env = .ok ds) : sForE f t sb env = sFor t sb ds env := by unfold sForE; rw [h]; rfl
theorem sWhile_t {g : Env → R Bool} {sb : Env → SR} {n : Nat} {env env' : Env} (h : g env = .ok true) (hb : sb env = .nx env') : sWhile g sb (n + 1) env = sWhile g sb n env' := by
  show (g env).s env _ = _
  rw [h]
  show (match sb env with | .nx env' => sWhile g sb n env' | .ct env' => sWhile g sb n env' | .bk env' => .nx env' | r => r) = _
  rw [hb]
theorem sWhile_rt {g : Env → R Bool} {sb : Env → SR} {n : Nat} {env : Env} {d : D} (h : g env = .ok true) (hb : sb env = .rt d) : sWhile g sb (n + 1) env = .rt d := by
  show (g env).s env _ = _
  rw [h]
  show (match sb env with | .nx env' => sWhile g sb n env' | .ct env' => sWhile g sb n env' | .bk env' => .nx env' | r => r) = _
  rw [hb]
theorem sWhile_f {g : Env → R Bool} {sb : Env → SR} {n : Nat} {env : Env} (h : g env = .ok false) : sWhile g sb (n + 1) env = .nx env := by
  show (g env).s env _ = _
  rw [h]; rfl
theorem sFor_nx {t : Tg} {sb : Env → SR} {x : D} {xs : List D} {env env1 env' : Env} (h1 : t x env = some env1) (h : sb env1 = .nx env') : sFor t sb (x :: xs) env = sFor t sb xs env' := by
  show (match t x env with | none => SR.no | some env1 => _) = _
  rw [h1]
  show (match sb env1 with | .nx env' => sFor t sb xs env' | .ct env' => sFor t sb xs env' | .bk env' => .nx env' | r => r) = _
  rw [h]

/-! ### cells -/
theorem cellF_eq (ns : List Int) (k : Nat) : cellF [.list (ns.map .int), .int k] = .ok (.int (ns.getD k 0)) := by
  have env : env0 2 [.list (ns.map .int), .int k] = [.vl (.list (ns.map .int)), .vl (.int k)] := rfl
  unfold cellF
  rw [env]
  unfold cellSV
  have ht : (eBin pyLt (eO 1) (eUn pyLen (eO 0))) [.vl (.list (ns.map .int)), .vl (.int k)] = .ok (decide ((k : Int) < ((ns.map PyData.int).length : Nat))) := rfl
  by_cases h : (k : Int) < ((ns.map PyData.int).length : Nat)
  · have ht' := ht
    rw [decide_eq_true h] at ht'
    have hk : k < ns.length := by simpa using h
    have hr : (eBin pyIx (eO 0) (eO 1)) [.vl (.list (ns.map .int)), .vl (.int k)] = .ok (.int (ns.getD k 0)) := by
      show RO (atP (ns.map PyData.int) (k : Int)) = _
      unfold atP
      rw [if_pos (Int.natCast_nonneg k), Int.toNat_natCast, List.getElem?_map, List.getElem?_eq_getElem hk]
      show R.ok (PyData.int ns[k]) = _
      rw [List.getD_eq_getElem?_getD, List.getElem?_eq_getElem hk]
      rfl
    rw [sSeq_rt ((sIf_t ht').trans (sRet_ok hr))]
    rfl
  · have ht' := ht
    rw [decide_eq_false h] at ht'
    have hk : ¬ k < ns.length := by simpa using h
    rw [sSeq_nx ((sIf_f ht').trans (show sNil _ = SR.nx _ from rfl))]
    show R.ok (PyData.int 0) = _
    rw [List.getD_eq_getElem?_getD, List.getElem?_eq_none (by omega)]
    rfl

/-! ### draws -/
/-- digits below their sizes -/
inductive Dig : List Int → List Int → Prop where
  | nil : Dig [] []
  | cons {d s : Int} {ds ss : List Int} (h0 : 0 ≤ d) (h1 : d < s) (t : Dig ds ss) : Dig (d :: ds) (s :: ss)
theorem Dig.snoc {d s : Int} : ∀ {ds ss : List Int}, Dig ds ss → 0 ≤ d → d < s → Dig (ds ++ [d]) (ss ++ [s])
  | _, _, .nil, h0, h1 => .cons h0 h1 .nil
  | _, _, .cons a b t, h0, h1 => .cons a b (t.snoc h0 h1)
theorem Dig.len : ∀ {ds ss : List Int}, Dig ds ss → ds.length = ss.length
  | _, _, .nil => rfl
  | _, _, .cons _ _ t => by simp [t.len]
abbrev dEnv (a b c : D) (cell : Int) (dr : List Int) (e5 e6 e7 : Sl) : Env := [.vl a, .vl b, .vl c, .vl (.int cell), .ow (.lst (dr.map .int)), e5, e6, e7]
def loopA : Env → SR := sSeq (sApp 4 (eBin pyMod (eO 3) (eO 5))) (sSet 3 (eBin pyFdiv (eO 3) (eO 5)))
theorem app_step {a b c : D} {cell : Int} {dr : List Int} {e5 e6 e7 : Sl} {fa : Env → R D} {d : Int} (h : fa (dEnv a b c cell dr e5 e6 e7) = .ok (.int d)) (hl : dr.length < 1000) : sApp 4 fa (dEnv a b c cell dr e5 e6 e7) = .nx (dEnv a b c cell (dr ++ [d]) e5 e6 e7) := by
  show (fa (dEnv a b c cell dr e5 e6 e7)).s _ _ = _
  rw [h]
  show (if (dr.map PyData.int).length < sizeLine then SR.nx _ else SR.no) = _
  rw [if_pos (by rw [List.length_map]; exact Nat.lt_of_lt_of_le hl (by decide))]
  show SR.nx _ = SR.nx _
  congr 1
  show [_, _, _, _, Sl.ow (.lst (dr.map PyData.int ++ [PyData.int d])), _, _, _] = _
  simp
theorem loopA_ok {a b c : D} {e6 e7 : Sl} : ∀ (ss done : List Int) (cell : Int) (dr : List Int) (e5 : Sl), (∀ s ∈ ss, 0 < s ∧ s < 1073741824) → 0 ≤ cell → Dig dr done → (done ++ ss).length ≤ 999 →
    ∃ cell' ds e5', sFor (gNm 5) loopA (ss.map .int) (dEnv a b c cell dr e5 e6 e7) = .nx (dEnv a b c cell' ds e5' e6 e7) ∧ Dig ds (done ++ ss)
  | [], done, cell, dr, e5, _, _, hd, _ => ⟨cell, dr, e5, rfl, by rw [List.append_nil]; exact hd⟩
  | s :: ss, done, cell, dr, e5, hs, hc, hd, hl => by
    obtain ⟨h0, h1⟩ := hs s (by simp)
    have hl2 : dr.length < 1000 := by
      have := hd.len
      simp only [List.length_append, List.length_cons] at hl; omega
    obtain ⟨cell', ds, e5', e, q⟩ := loopA_ok (a := a) (b := b) (c := c) (e6 := e6) (e7 := e7) ss (done ++ [s]) (cell / s) (dr ++ [cell % s]) (.vl (.int s)) (fun x hx => hs x (by simp [hx])) (Int.ediv_nonneg hc (by omega)) (hd.snoc (Int.emod_nonneg _ (by omega)) (Int.emod_lt_of_pos _ h0)) (by simpa using hl)
    refine ⟨cell', ds, e5', ?_, by simpa using q⟩
    refine (sFor_nx (env1 := dEnv a b c cell dr (.vl (.int s)) e6 e7) rfl ?_).trans e
    unfold loopA
    refine (sSeq_nx (app_step (d := cell % s) ?_ hl2)).trans (sSet_ok ?_)
    · show (if 0 < s then R.ok (PyData.int (cell % s)) else .no) = _
      rw [if_pos h0]
    · show (if 0 < s ∧ s < 1073741824 then R.ok (PyData.int (cell / s)) else .no) = _
      rw [if_pos ⟨h0, h1⟩]
def loopB : Env → SR := (sSeq (sSet 6 (eBin pyMod (eBin pyAdd (eBin pyAdd (eBin pyMul (eO 6) (eC (.int 48271))) (eC (.int 11))) (eO 7)) (eC (.int 2147483647)))) (sSeq (sSet 6 (eBin pyMod (eBin pyAdd (eBin pyMul (eO 6) (eC (.int 69621))) (eC (.int 3))) (eC (.int 2147483647)))) (sApp 4 (eBin pyMod (eBin pyFdiv (eO 6) (eC (.int 7))) (eBin pyIx (eO 2) (eO 7))))))
abbrev bEnv (a b : D) (ss : List Int) (cell : Int) (dr : List Int) (e5 : Sl) (mixed : Int) (e7 : Sl) : Env := [.vl a, .vl b, .vl (.list (ss.map .int)), .vl (.int cell), .ow (.lst (dr.map .int)), e5, .vl (.int mixed), e7]
theorem mod_pos (x : Int) {m : Int} (h : 0 < m) : pyMod (.int x) (.int m) = .ok (.int (x % m)) := by
  show (if 0 < m then R.ok (PyData.int (x % m)) else .no) = _
  rw [if_pos h]
theorem mul_ok {x : Int} (y : Int) (h : x.natAbs < 2 ^ 64) : pyMul (.int x) (.int y) = .ok (.int (x * y)) := by
  show (if x.natAbs < 2 ^ 64 then R.ok (PyData.int (x * y)) else .no) = _
  rw [if_pos h]
theorem eBin_ok {α : Type} {g : D → D → R α} {fa fb : Env → R D} {env : Env} {x y : D} (ha : fa env = .ok x) (hb : fb env = .ok y) : eBin g fa fb env = g x y := by
  unfold eBin
  rw [ha]
  show (fb env).bnd _ = _
  rw [hb]
  rfl
theorem eBin_to {α : Type} {g : D → D → R α} {fa fb : Env → R D} {env : Env} {x y : D} {z : α} (ha : fa env = .ok x) (hb : fb env = .ok y) (h : g x y = .ok z) : eBin g fa fb env = .ok z := (eBin_ok ha hb).trans h
theorem eO_vl {i : Nat} {env : Env} {d : D} (h : env[i]? = some (.vl d)) : eO i env = .ok d := by unfold eO; rw [h]
theorem eV_vl {i : Nat} {env : Env} {d : D} (h : env[i]? = some (.vl d)) : eV i env = .ok d := by unfold eV; rw [h]
theorem eO_ow {i : Nat} {env : Env} {l : List D} (h : env[i]? = some (.ow (.lst l))) : eO i env = .ok (.list l) := by unfold eO; rw [h]
theorem add_i (x y : Int) : pyAdd (.int x) (.int y) = .ok (.int (x + y)) := rfl
theorem ix_at {ss : List Int} {j : Nat} {s : Int} (h : ss[j]? = some s) : pyIx (.list (ss.map .int)) (.int j) = .ok (.int s) := by
  show RO (atP (ss.map PyData.int) (j : Int)) = _
  unfold atP
  rw [if_pos (Int.natCast_nonneg j), Int.toNat_natCast, List.getElem?_map, h]
  rfl
theorem loopB_ok {a b : D} {ss : List Int} {cell : Int} {e5 : Sl} (hs : ∀ s ∈ ss, 0 < s ∧ s < 1073741824) (hl : ss.length ≤ 999) : ∀ (n j : Nat) (dr : List Int) (mixed : Int) (e7 : Sl), j + n = ss.length → Dig dr (ss.take j) → 0 ≤ mixed → mixed < 2147483647 →
    ∃ mixed' ds e7', sFor (gNm 7) loopB ((List.range' j n).map fun i : Nat => PyData.int (i : Int)) (bEnv a b ss cell dr e5 mixed e7) = .nx (bEnv a b ss cell ds e5 mixed' e7') ∧ Dig ds ss
  | 0, j, dr, mixed, e7, hj, hd, _, _ => ⟨mixed, dr, e7, rfl, by rw [List.take_of_length_le (by omega)] at hd; exact hd⟩
  | n + 1, j, dr, mixed, e7, hj, hd, h0, h1 => by
    have hjl : j < ss.length := by omega
    have es : ss[j]? = some ss[j] := List.getElem?_eq_getElem hjl
    obtain ⟨q0, q1⟩ := hs ss[j] (List.getElem_mem hjl)
    have hl2 : dr.length < 1000 := by
      have := hd.len
      rw [List.length_take] at this; omega
    have p : (0 : Int) < 2147483647 := by decide
    have m1 : 0 ≤ (mixed * 48271 + 11 + (j : Int)) % 2147483647 := Int.emod_nonneg _ (by decide)
    have m2 : (mixed * 48271 + 11 + (j : Int)) % 2147483647 < 2147483647 := Int.emod_lt_of_pos _ p
    generalize hA : (mixed * 48271 + 11 + (j : Int)) % 2147483647 = A at m1 m2
    have m3 : 0 ≤ (A * 69621 + 3) % 2147483647 := Int.emod_nonneg _ (by decide)
    have m4 : (A * 69621 + 3) % 2147483647 < 2147483647 := Int.emod_lt_of_pos _ p
    generalize hB : (A * 69621 + 3) % 2147483647 = B at m3 m4
    have hd' : Dig (dr ++ [B / 7 % ss[j]]) (ss.take (j + 1)) := by
      rw [List.take_add_one, es]
      exact hd.snoc (Int.emod_nonneg _ (by omega)) (Int.emod_lt_of_pos _ q0)
    obtain ⟨mixed', ds, e7', e, q⟩ := loopB_ok (a := a) (b := b) (cell := cell) (e5 := e5) hs hl n (j + 1) (dr ++ [B / 7 % ss[j]]) B (.vl (.int j)) (by omega) hd' m3 m4
    refine ⟨mixed', ds, e7', ?_, q⟩
    rw [List.range'_succ, List.map_cons]
    refine (sFor_nx (env1 := bEnv a b ss cell dr e5 mixed (.vl (.int j))) rfl ?_).trans e
    unfold loopB
    refine (sSeq_nx (env' := bEnv a b ss cell dr e5 A (.vl (.int j))) ((sSet_ok (d := .int A) ?_).trans rfl)).trans ?_
    · rw [← hA]
      exact eBin_to (eBin_to (eBin_to (eBin_to (eO_vl rfl) rfl (mul_ok _ (by omega))) rfl (add_i _ _)) (eO_vl rfl) (add_i _ _)) rfl (mod_pos _ p)
    refine (sSeq_nx (env' := bEnv a b ss cell dr e5 B (.vl (.int j))) ((sSet_ok (d := .int B) ?_).trans rfl)).trans ?_
    · rw [← hB]
      exact eBin_to (eBin_to (eBin_to (eO_vl rfl) rfl (mul_ok _ (by omega))) rfl (add_i _ _)) rfl (mod_pos _ p)
    show (((eBin pyMod (eBin pyFdiv (eO 6) (eC (.int 7))) (eBin pyIx (eO 2) (eO 7))) (bEnv a b ss cell dr e5 B (.vl (.int j)))).s _ _) = _
    rw [eBin_to (z := PyData.int (B / 7 % ss[j])) (eBin_to (eO_vl rfl) rfl rfl) (eBin_to (eO_vl rfl) (eO_vl rfl) (ix_at es)) (mod_pos _ q0)]
    show (if (dr.map PyData.int).length < sizeLine then SR.nx _ else SR.no) = _
    rw [if_pos (by rw [List.length_map]; exact Nat.lt_of_lt_of_le hl2 (by decide))]
    show SR.nx _ = SR.nx _
    congr 1
    show [_, _, _, _, Sl.ow (.lst (dr.map PyData.int ++ [PyData.int (B / 7 % ss[j])])), _, _, _] = _
    simp
theorem up_range (n : Nat) : upFrom 0 n = (List.range' 0 n).map fun i : Nat => PyData.int (i : Int) := by
  unfold upFrom
  rw [List.range_eq_range']
  exact List.map_congr_left fun i _ => by rw [Int.zero_add]
theorem rng1_nat {n : Nat} (h : n < 4611686018427387904) : rng1 (.int n) = .ok ((List.range' 0 n).map fun i : Nat => PyData.int (i : Int)) := by
  unfold rng1
  dsimp only
  rw [if_pos ⟨by omega, by omega⟩, Int.toNat_natCast, up_range]
theorem bnd_k {α β : Type} (x : α) (k : α → R β) : (R.ok x).bnd k = k x := rfl
theorem iRng1_to {fa : Env → R D} {env : Env} {n : Nat} (ha : fa env = .ok (.int n)) (h : n < 4611686018427387904) : iRng1 fa env = .ok ((List.range' 0 n).map fun i : Nat => PyData.int (i : Int)) := by
  unfold iRng1
  rw [ha, bnd_k, rng1_nat h]
theorem eUn_to {g : D → R D} {fa : Env → R D} {env : Env} {x z : D} (ha : fa env = .ok x) (h : g x = .ok z) : eUn g fa env = .ok z := by
  unfold eUn
  rw [ha]
  exact h
/-- a draw: its digits are below their sizes -/
theorem drawF_ok (ns : List Int) (k : Nat) (ss : List Int) (hk : k ≤ 1000000) (hs : ∀ s ∈ ss, 0 < s ∧ s < 1073741824) (hl : ss.length ≤ 999) : ∃ ds : List Int, drawF [.list (ns.map .int), .int k, .list (ss.map .int)] = .ok (.list (ds.map .int)) ∧ Dig ds ss := by
  unfold drawF
  have e0 : env0 8 [.list (ns.map .int), .int k, .list (ss.map .int)] = [.vl (.list (ns.map .int)), .vl (.int k), .vl (.list (ss.map .int)), .no, .no, .no, .no, .no] := rfl
  rw [e0]
  generalize ha : PyData.list (ns.map .int) = a
  have hcell : cellF [a, .int k] = .ok (.int (ns.getD k 0)) := by rw [← ha]; exact cellF_eq ns k
  generalize ns.getD k 0 = c0 at hcell
  suffices h : ∃ ds : List Int, drawSV [.vl a, .vl (.int k), .vl (.list (ss.map .int)), .no, .no, .no, .no, .no] = .rt (.list (ds.map .int)) ∧ Dig ds ss by
    obtain ⟨ds, h, q⟩ := h
    exact ⟨ds, congrArg SR.r h, q⟩
  unfold drawSV
  -- if cell < 0
  have h1 : ∃ c1 : Int, 0 ≤ c1 ∧ sIf (eBin pyLt (eO 3) (eC (.int 0))) (sSet 3 (eUn pyNeg (eO 3))) sNil [.vl a, .vl (.int k), .vl (.list (ss.map .int)), .vl (.int c0), .no, .no, .no, .no] = .nx [.vl a, .vl (.int k), .vl (.list (ss.map .int)), .vl (.int c1), .no, .no, .no, .no] := by
    by_cases h : c0 < 0
    · exact ⟨-c0, by omega, (sIf_t (show R.ok (decide (c0 < 0)) = _ by rw [decide_eq_true h])).trans rfl⟩
    · exact ⟨c0, by omega, (sIf_f (show R.ok (decide (c0 < 0)) = _ by rw [decide_eq_false h])).trans rfl⟩
  obtain ⟨c1, hc1, h1⟩ := h1
  have st0 : ∀ {r : SR} {s2 : Env → SR}, s2 [.vl a, .vl (.int k), .vl (.list (ss.map .int)), .vl (.int c1), .ow (.lst []), .no, .no, .no] = r →
      sSeq (sSet 3 (eCall (aCons (eV 0) (aCons (eV 1) aNil)) cellF)) (sSeq (sIf (eBin pyLt (eO 3) (eC (.int 0))) (sSet 3 (eUn pyNeg (eO 3))) sNil) (sSeq (sSetO 4 (eLst aNil)) s2)) [.vl a, .vl (.int k), .vl (.list (ss.map .int)), .no, .no, .no, .no, .no] = r := fun {r s2} h =>
    (sSeq_nx (env' := [.vl a, .vl (.int k), .vl (.list (ss.map .int)), .vl (.int c0), .no, .no, .no, .no]) ((sSet_ok (d := .int c0) hcell).trans rfl)).trans ((sSeq_nx h1).trans ((sSeq_nx (env' := [.vl a, .vl (.int k), .vl (.list (ss.map .int)), .vl (.int c1), .ow (.lst []), .no, .no, .no]) rfl).trans h))
  by_cases hbig : (10 : Int) ^ 18 ≤ c1
  · -- the digits of the cell
    obtain ⟨cell', ds, e5', e, q⟩ := loopA_ok (a := a) (b := .int k) (c := .list (ss.map .int)) (e6 := .no) (e7 := .no) ss [] (c1 - 10 ^ 18) [] .no hs (by omega) .nil (by simpa using hl)
    refine ⟨ds, st0 (sSeq_rt ((sIf_t (show R.ok (decide ((10 : Int) ^ 18 ≤ c1)) = _ by rw [decide_eq_true hbig])).trans ?_)), by simpa using q⟩
    refine (sSeq_nx (env' := dEnv a (.int k) (.list (ss.map .int)) (c1 - 10 ^ 18) [] .no .no .no) rfl).trans ?_
    exact (sSeq_nx (env' := dEnv a (.int k) (.list (ss.map .int)) cell' ds e5' .no .no) ((sForE_ok (ds := ss.map .int) rfl).trans e)).trans rfl
  · have g1 : 0 ≤ (c1 + 1 + 31 * (k : Int)) % 2147483647 := Int.emod_nonneg _ (by decide)
    have g2 : (c1 + 1 + 31 * (k : Int)) % 2147483647 < 2147483647 := Int.emod_lt_of_pos _ (by decide)
    generalize hM : (c1 + 1 + 31 * (k : Int)) % 2147483647 = M at g1 g2
    obtain ⟨mixed', ds, e7', e, q⟩ := loopB_ok (a := a) (b := .int k) (cell := c1) (e5 := .no) hs hl ss.length 0 [] M .no (by omega) .nil g1 g2
    refine ⟨ds, st0 ((sSeq_nx ((sIf_f (show R.ok (decide ((10 : Int) ^ 18 ≤ c1)) = _ by rw [decide_eq_false hbig])).trans (show sNil _ = SR.nx _ from rfl))).trans ?_), q⟩
    refine (sSeq_nx (env' := bEnv a (.int k) ss c1 [] .no M .no) ((sSet_ok (d := .int M) ?_).trans rfl)).trans ?_
    · rw [← hM]
      exact eBin_to (eBin_to (eBin_to (eO_vl rfl) rfl (add_i _ _)) (eBin_to rfl (eO_vl rfl) (mul_ok _ (by decide))) (add_i _ _)) rfl (mod_pos _ (by decide))
    · refine (sSeq_nx (env' := bEnv a (.int k) ss c1 ds .no mixed' e7') ((sForE_ok (ds := (List.range' 0 ss.length).map fun i : Nat => PyData.int (i : Int)) ?_).trans e)).trans rfl
      refine iRng1_to (eUn_to (eO_vl rfl) ?_) (by omega)
      show R.ok (PyData.int ((ss.map PyData.int).length : Nat)) = _
      rw [List.length_map]
end FP
/-! FP S: texts as lists of codes, in mirrors. -/
namespace FP
open PySem L2 PySem.Spec PyProof.Rows

theorem big : (1000000 : Nat) ≤ sizeLine := by decide
theorem len_mkS (L : List Nat) : (mkS L).length = L.length := by rw [← len_tl, tl_mkS]
theorem eqS (a b : Str) : pyEq (.str a) (.str b) = .ok (leq (tl a) (tl b)) := rfl
theorem neS (a b : Str) : pyNe (.str a) (.str b) = .ok (!leq (tl a) (tl b)) := rfl
theorem leq_refl : ∀ l : List Nat, leq l l = true := fun l => by rw [leq_eq]; exact beq_self_eq_true l
theorem leq_ne {a b : List Nat} (h : a ≠ b) : leq a b = false := by rw [leq_eq]; exact beq_eq_false_iff_ne.mpr h
theorem leq_of {a b : List Nat} (h : leq a b = true) : a = b := by rw [leq_eq] at h; exact eq_of_beq h
theorem ixS {L : List Nat} {j c : Nat} (h : L[j]? = some c) (hL : L.length ≤ 1000000) : pyIx (.str (mkS L)) (.int j) = .ok (sg c) := by
  unfold pyIx
  dsimp only
  rw [if_pos (by rw [len_mkS]; exact Nat.le_trans hL big), tl_mkS]
  unfold atP
  rw [if_pos (Int.natCast_nonneg j), Int.toNat_natCast, h]
  rfl
theorem inS (c : Nat) (z : Str) : pyIn (sg c) (.str z) = .ok (decide (c ∈ tl z)) := rfl
theorem lenS {L : List Nat} (hL : L.length ≤ 1000000) : pyLen (.str (mkS L)) = .ok (.int L.length) := by
  unfold pyLen
  dsimp only
  rw [if_pos (by rw [len_mkS]; exact Nat.le_trans hL big), tl_mkS]
theorem slS {L : List Nat} {i j : Nat} (hL : L.length ≤ 1000000) : pySl (some (i : Int)) (some (j : Int)) (.str (mkS L)) = .ok (.str (mkS ((L.drop i).take (min j L.length - min i L.length)))) := by
  unfold pySl
  dsimp only
  rw [if_pos (by rw [len_mkS]; exact Nat.le_trans hL big), tl_mkS]
  have e1 : cutIx L.length 0 (some (i : Int)) = min i L.length := by
    show (if (i : Int) < 0 then ((i : Int) + L.length).toNat else min (i : Int).toNat L.length) = _
    rw [if_neg (by omega), Int.toNat_natCast]
  have e2 : cutIx L.length L.length (some (j : Int)) = min j L.length := by
    show (if (j : Int) < 0 then ((j : Int) + L.length).toNat else min (j : Int).toNat L.length) = _
    rw [if_neg (by omega), Int.toNat_natCast]
  unfold cut
  rw [e1, e2]
  congr 4
  rcases Nat.le_total i L.length with h | h
  · rw [Nat.min_eq_left h]
  · rw [Nat.min_eq_right h, List.drop_of_length_le (Nat.le_refl _), List.drop_of_length_le h]
/-- a piece of p ++ w ++ r -/
theorem slS_mid {p w r : List Nat} (hL : (p ++ w ++ r).length ≤ 1000000) : pySl (some (p.length : Int)) (some ((p ++ w).length : Int)) (.str (mkS (p ++ w ++ r))) = .ok (.str (mkS w)) := by
  rw [slS hL]
  congr 3
  have e1 : min (p ++ w).length (p ++ w ++ r).length - min p.length (p ++ w ++ r).length = w.length := by
    simp only [List.length_append]; omega
  rw [e1, List.append_assoc, List.drop_left, List.take_left]
theorem addS {a b : List Nat} (h : a.length + b.length ≤ 1000000) : pyAdd (.str (mkS a)) (.str (mkS b)) = .ok (.str (mkS (a ++ b))) := by
  unfold pyAdd
  dsimp only
  rw [if_pos (by rw [len_mkS, len_mkS]; exact Nat.le_trans h big), tl_mkS, tl_mkS]
theorem eSl_to {fa : Env → R D} {fl fh : Env → R (Option Int)} {env : Env} {x z : D} {lo hi : Option Int} (ha : fa env = .ok x) (hl : fl env = .ok lo) (hh : fh env = .ok hi) (h : pySl lo hi x = .ok z) : eSl fa fl fh env = .ok z := by
  unfold eSl
  rw [ha, bnd_k, hl, bnd_k, hh, bnd_k, h]
theorem oSome_to {fa : Env → R D} {env : Env} {i : Int} (ha : fa env = .ok (.int i)) : oSome fa env = .ok (some i) := by
  unfold oSome
  rw [ha]; rfl
theorem and_tt {ga gb : Env → R Bool} {env : Env} {c : Bool} (ha : ga env = .ok true) (hb : gb env = .ok c) : tAndR ga gb env = .ok c := by
  unfold tAndR
  rw [ha]; exact hb
theorem and_f {ga gb : Env → R Bool} {env : Env} (ha : ga env = .ok false) : tAndR ga gb env = .ok false := by
  unfold tAndR
  rw [ha]; rfl
theorem or_t {ga gb : Env → R Bool} {env : Env} (ha : ga env = .ok true) : tOrR ga gb env = .ok true := by
  unfold tOrR
  rw [ha]; rfl
theorem or_ff {ga gb : Env → R Bool} {env : Env} {c : Bool} (ha : ga env = .ok false) (hb : gb env = .ok c) : tOrR ga gb env = .ok c := by
  unfold tOrR
  rw [ha]; exact hb
theorem sAug_to {i : Nat} {g : D → D → R D} {fa : Env → R D} {env : Env} {x y z : D} (hx : env[i]? = some (.vl x)) (ha : fa env = .ok y) (h : g x y = .ok z) : sAug i g fa env = .nx (env.set i (.vl z)) := by
  unfold sAug
  rw [hx]
  dsimp only
  rw [ha, bnd_k, h]
  rfl
theorem sApp_to {i : Nat} {fa : Env → R D} {env : Env} {l : List D} {d : D} (hx : env[i]? = some (.ow (.lst l))) (ha : fa env = .ok d) (hl : l.length ≤ 999999) : sApp i fa env = .nx (env.set i (.ow (.lst (l ++ [d])))) := by
  unfold sApp
  rw [hx]
  dsimp only
  rw [ha]
  show (if l.length < sizeLine then _ else _) = _
  rw [if_pos (Nat.lt_of_lt_of_le (Nat.lt_succ_of_le hl) big)]
theorem eB_to {fa : Env → R D} {env : Env} {c : Bool} (h : fa env = .ok (.bool c)) : eB fa env = .ok c := by
  unfold eB
  rw [h]; rfl
theorem tNot_to {ga : Env → R Bool} {env : Env} {c : Bool} (h : ga env = .ok c) : tNotR ga env = .ok (!c) := by
  unfold tNotR
  rw [h]; rfl
theorem eCall_to {fr : Env → R (List D)} {m : List D → R D} {env : Env} {ds : List D} {r : R D} (h : fr env = .ok ds) (h2 : m ds = r) : eCall fr m env = r := by
  unfold eCall
  rw [h]; exact h2
theorem aCons_to {fa : Env → R D} {fr : Env → R (List D)} {env : Env} {d : D} {ds : List D} (ha : fa env = .ok d) (hr : fr env = .ok ds) : aCons fa fr env = .ok (d :: ds) := by
  unfold aCons
  rw [ha, bnd_k, hr]; rfl
theorem eNew_to {fo : Env → R Own} {env : Env} {o : Own} (h : fo env = .ok o) : eNew fo env = .ok (ofOwn o) := by
  unfold eNew
  rw [h]; rfl
theorem sFz_to {i : Nat} {sv : Env → SR} {env : Env} {l : List D} (h : env[i]? = some (.ow (.lst l))) : sFz i sv env = sv (env.set i (.vl (.list l))) := by
  unfold sFz
  rw [h]
end FP
/-! FP T: the laws' common compare. -/
namespace FP
open PySem L2 PySem.Spec PyProof.Rows

def strictLoop (f : List D → R D) : Env → SR := (sIf (tNotR (eB (eCall (aCons (eBin pyIx (eO 0) (eO 2)) (aCons (eBin pyIx (eO 1) (eO 2)) aNil)) f))) (sRet (eC (.bool false))) sNil)
def strictSV (f : List D → R D) : Env → SR := (sSeq (sIf (tIsN (eO 0)) (sRet (eIsN (eO 1))) sNil) (sSeq (sIf (eB (eIsi .bool (eO 0))) (sRet (eAnd (eIsi .int (eO 1)) (eOfB (eBin pyEq (eO 1) (eO 0))))) sNil) (sSeq (sIf (eB (eIsi .int (eO 0))) (sRet (eAnd (eIsi .int (eO 1)) (eAnd (eNot (eIsi .bool (eO 1))) (eOfB (eBin pyEq (eO 1) (eO 0)))))) sNil) (sSeq (sIf (eB (eIsi .str (eO 0))) (sRet (eAnd (eIsi .str (eO 1)) (eOfB (eBin pyEq (eO 1) (eO 0))))) sNil) (sSeq (sIf (tOrR (eBin pyNe (eIsi .tuple (eO 0)) (eIsi .tuple (eO 1))) (eBin pyNe (eIsi .list (eO 0)) (eIsi .list (eO 1)))) (sRet (eC (.bool false))) sNil) (sSeq (sIf (tOrR (eB (eIsi .tuple (eO 0))) (eB (eIsi .list (eO 0)))) (sSeq (sIf (eBin pyNe (eUn pyLen (eO 1)) (eUn pyLen (eO 0))) (sRet (eC (.bool false))) sNil) (sSeq (sForE (iRng1 (eUn pyLen (eO 0))) (gNm 2) (strictLoop f)) (sRet (eC (.bool true))))) sNil) (sRet (eOfB (eBin pyEq (eO 1) (eO 0))))))))))
def strictF : Nat → List D → R D
  | 0 => fun _ => .no
  | n + 1 => fun ds => (strictSV (strictF n) (env0 3 ds)).r
/-- plain data: no dict; lists short -/
def plainD : Nat → D → Bool
  | _, .none => true
  | _, .bool _ => true
  | _, .int _ => true
  | _, .str _ => true
  | n + 1, .list l => decide (l.length ≤ 1000000) && l.all (plainD n)
  | n + 1, .tuple l => decide (l.length ≤ 1000000) && l.all (plainD n)
  | _, _ => false
theorem refl_loop {f : List D → R D} {x : D} {l : List D} (hx : ∀ j d, l[j]? = some d → pyIx x (.int (j : Nat)) = .ok d) (hf : ∀ d ∈ l, f [d, d] = .ok (.bool true)) : ∀ (n j : Nat) (e2 : Sl), j + n ≤ l.length →
    ∃ e2', sFor (gNm 2) (strictLoop f) ((List.range' j n).map fun i : Nat => PyData.int (i : Int)) [.vl x, .vl x, e2] = .nx [.vl x, .vl x, e2']
  | 0, j, e2, _ => ⟨e2, rfl⟩
  | n + 1, j, e2, h => by
    have hj : j < l.length := by omega
    have hg := hx j l[j] (List.getElem?_eq_getElem hj)
    obtain ⟨e2', e⟩ := refl_loop hx hf n (j + 1) (.vl (.int j)) (by omega)
    refine ⟨e2', ?_⟩
    rw [List.range'_succ, List.map_cons]
    refine (sFor_nx (env1 := [.vl x, .vl x, .vl (.int j)]) rfl ?_).trans e
    unfold strictLoop
    exact (sIf_f (tNot_to (eB_to (eCall_to (aCons_to (eBin_to (eO_vl rfl) (eO_vl rfl) hg) (aCons_to (eBin_to (eO_vl rfl) (eO_vl rfl) hg) rfl)) (hf _ (List.getElem_mem hj)))))).trans rfl
theorem eAnd_t {fa fb : Env → R D} {env : Env} (h : fa env = .ok (.bool true)) : eAnd fa fb env = fb env := by
  unfold eAnd
  rw [h]; rfl
theorem eOfB_to {g : Env → R Bool} {env : Env} {c : Bool} (h : g env = .ok c) : eOfB g env = .ok (.bool c) := by
  unfold eOfB
  rw [h]; rfl
theorem seq_refl (z : Str) : pyEq (.str z) (.str z) = .ok true := by rw [eqS, leq_refl]
theorem strict_seq {f : List D → R D} {x : D} {l : List D} (hx : ∀ j d, l[j]? = some d → pyIx x (.int (j : Nat)) = .ok d) (hf : ∀ d ∈ l, f [d, d] = .ok (.bool true)) (hl : l.length ≤ 1000000) (hlen : pyLen x = .ok (.int l.length)) (hk : (∃ l, x = .list l) ∨ ∃ l, x = .tuple l) :
    strictSV f [.vl x, .vl x, .no] = .rt (.bool true) := by
  obtain ⟨e2', e⟩ := refl_loop hx hf l.length 0 .no (by omega)
  unfold strictSV
  have pass : ∀ {s1 s2 : Env → SR} {r : SR}, s1 [.vl x, .vl x, .no] = .nx [.vl x, .vl x, .no] → s2 [.vl x, .vl x, .no] = r → sSeq s1 s2 [.vl x, .vl x, .no] = r := fun h1 h2 => (sSeq_nx h1).trans h2
  refine pass (by rcases hk with ⟨l, rfl⟩ | ⟨l, rfl⟩ <;> rfl) (pass (by rcases hk with ⟨l, rfl⟩ | ⟨l, rfl⟩ <;> rfl) (pass (by rcases hk with ⟨l, rfl⟩ | ⟨l, rfl⟩ <;> rfl) (pass (by rcases hk with ⟨l, rfl⟩ | ⟨l, rfl⟩ <;> rfl) (pass (by rcases hk with ⟨l, rfl⟩ | ⟨l, rfl⟩ <;> rfl) ?_))))
  refine sSeq_rt ((sIf_t (by rcases hk with ⟨l, rfl⟩ | ⟨l, rfl⟩ <;> rfl)).trans ?_)
  refine pass ((sIf_f (eBin_to (eUn_to (eO_vl rfl) hlen) (eUn_to (eO_vl rfl) hlen) ?_)).trans rfl) ?_
  · show R.ok (!decide ((l.length : Int) = (l.length : Int))) = _
    rw [decide_eq_true rfl]; rfl
  · exact (sSeq_nx ((sForE_ok (iRng1_to (eUn_to (eO_vl rfl) hlen) (by omega))).trans e)).trans rfl
theorem strict_refl : ∀ (n : Nat) (d : D), plainD n d = true → strictF (n + 1) [d, d] = .ok (.bool true)
  | _, .none, _ => rfl
  | _, .bool c, _ => by cases c <;> rfl
  | n, .int i, _ => by
    have e : pyEq (.int i) (.int i) = .ok true := by
      show R.ok (decide (i = i)) = _
      rw [decide_eq_true rfl]
    refine congrArg SR.r (?_ : strictSV (strictF n) [.vl (.int i), .vl (.int i), .no] = .rt (.bool true))
    exact (sSeq_nx (env' := [.vl (.int i), .vl (.int i), .no]) rfl).trans ((sSeq_nx (env' := [.vl (.int i), .vl (.int i), .no]) rfl).trans (sSeq_rt ((sIf_t rfl).trans (sRet_ok ((eAnd_t rfl).trans ((eAnd_t rfl).trans (eOfB_to (eBin_to rfl rfl e))))))))
  | n, .str z, _ => by
    refine congrArg SR.r (?_ : strictSV (strictF n) [.vl (.str z), .vl (.str z), .no] = .rt (.bool true))
    exact (sSeq_nx (env' := [.vl (.str z), .vl (.str z), .no]) rfl).trans ((sSeq_nx (env' := [.vl (.str z), .vl (.str z), .no]) rfl).trans ((sSeq_nx (env' := [.vl (.str z), .vl (.str z), .no]) rfl).trans (sSeq_rt ((sIf_t rfl).trans (sRet_ok ((eAnd_t rfl).trans (eOfB_to (eBin_to rfl rfl (seq_refl z)))))))))
  | 0, .list l, h => by cases h
  | 0, .tuple l, h => by cases h
  | n + 1, .list l, h => by
    simp only [plainD, Bool.and_eq_true, decide_eq_true_eq, List.all_eq_true] at h
    show (strictSV (strictF (n + 1)) [.vl (.list l), .vl (.list l), .no]).r = _
    rw [strict_seq (l := l) (fun j d hd => ?_) (fun d hd => strict_refl n d (h.2 d hd)) h.1 rfl (.inl ⟨l, rfl⟩)]
    · rfl
    · show RO (atP l (j : Int)) = _
      unfold atP
      rw [if_pos (Int.natCast_nonneg j), Int.toNat_natCast, hd]; rfl
  | n + 1, .tuple l, h => by
    simp only [plainD, Bool.and_eq_true, decide_eq_true_eq, List.all_eq_true] at h
    show (strictSV (strictF (n + 1)) [.vl (.tuple l), .vl (.tuple l), .no]).r = _
    rw [strict_seq (l := l) (fun j d hd => ?_) (fun d hd => strict_refl n d (h.2 d hd)) h.1 rfl (.inr ⟨l, rfl⟩)]
    · rfl
    · show RO (atP l (j : Int)) = _
      unfold atP
      rw [if_pos (Int.natCast_nonneg j), Int.toNat_natCast, hd]; rfl
  | 0, .dict _, h => by cases h
  | _ + 1, .dict _, h => by cases h
end FP
namespace Law_k00
open FP PySem PySem.Spec PyProof.Rows L2
/-! ### the text -/
def top (i : Nat) : Stmt := PySem.Challenge.pw_sameterms_k00_names_and_tokens.main.body.getD i (.Pass ⟨0, 0, 0, 0⟩)
abbrev st_is_name : Stmt := top 6
abbrev N_is_name : List Str := ["text", "sign"]
abbrev P_is_name : List Str := ["text"]
theorem sc_is_name : FnScope N_is_name P_is_name (defScope st_is_name) := ⟨rfl, rfl, rfl, by decide +kernel, rfl, by decide +kernel, by decide +kernel⟩
abbrev st_tokens_of : Stmt := top 7
abbrev N_tokens_of : List Str := ["line", "found", "at", "end", "marks", "mark"]
abbrev P_tokens_of : List Str := ["line"]
theorem sc_tokens_of : FnScope N_tokens_of P_tokens_of (defScope st_tokens_of) := ⟨rfl, rfl, rfl, by decide +kernel, rfl, by decide +kernel, by decide +kernel⟩
abbrev st_lines_of : Stmt := top 8
abbrev N_lines_of : List Str := ["text", "rows"]
abbrev P_lines_of : List Str := ["text"]
theorem sc_lines_of : FnScope N_lines_of P_lines_of (defScope st_lines_of) := ⟨rfl, rfl, rfl, by decide +kernel, rfl, by decide +kernel, by decide +kernel⟩
abbrev st__law_strictly : Stmt := top 10
abbrev N__law_strictly : List Str := ["expected", "actual", "place"]
abbrev P__law_strictly : List Str := ["expected", "actual"]
theorem sc__law_strictly : FnScope N__law_strictly P__law_strictly (defScope st__law_strictly) := ⟨rfl, rfl, rfl, by decide +kernel, rfl, by decide +kernel, by decide +kernel⟩
abbrev st__law_cell : Stmt := top 11
abbrev N__law_cell : List Str := ["script", "k"]
abbrev P__law_cell : List Str := ["script", "k"]
theorem sc__law_cell : FnScope N__law_cell P__law_cell (defScope st__law_cell) := ⟨rfl, rfl, rfl, by decide +kernel, rfl, by decide +kernel, by decide +kernel⟩
abbrev st__law_draw : Stmt := top 12
abbrev N__law_draw : List Str := ["script", "k", "sizes", "cell", "drawn", "size", "mixed", "j"]
abbrev P__law_draw : List Str := ["script", "k", "sizes"]
theorem sc__law_draw : FnScope N__law_draw P__law_draw (defScope st__law_draw) := ⟨rfl, rfl, rfl, by decide +kernel, rfl, by decide +kernel, by decide +kernel⟩
abbrev st__law_sign : Stmt := top 13
abbrev N__law_sign : List Str := ["digit"]
abbrev P__law_sign : List Str := ["digit"]
theorem sc__law_sign : FnScope N__law_sign P__law_sign (defScope st__law_sign) := ⟨rfl, rfl, rfl, by decide +kernel, rfl, by decide +kernel, by decide +kernel⟩
abbrev st_law : Stmt := top 14
abbrev N_law : List Str := ["script", "words", "marks", "digits", "line", "due", "before", "at", "row", "piece", "space", "wrong", "name", "rows", "text"]
abbrev P_law : List Str := ["script"]
theorem sc_law : FnScope N_law P_law (defScope st_law) := ⟨rfl, rfl, rfl, by decide +kernel, rfl, by decide +kernel, by decide +kernel⟩
def d_FIRST : D := (.str "abcdefghijklmnopqrstuvwxyzABCDEFGHIJKLMNOPQRSTUVWXYZ_")
def d_MARKS : D := (.tuple [(.str "<->"), (.str "->"), (.str "("), (.str ")"), (.str "["), (.str "]"), (.str ","), (.str "="), (.str "#"), (.str "|"), (.str ":"), (.str ".")])
def d_NAME : D := (.int 12)
def d_SIGNS : D := (.str "abcdefghijklmnopqrstuvwxyzABCDEFGHIJKLMNOPQRSTUVWXYZ_0123456789")
def d_WORDS : D := (.tuple [(.str "sort"), (.str "record"), (.str "array"), (.str "fun"), (.str "claim"), (.str "not"), (.str "and"), (.str "or"), (.str "let"), (.str "def"), (.str "all"), (.str "some")])
/-! ### what they compute -/
def sv_is_name : FP.Env → SR := (sSeq (sIf (tOrR (eBin pyEq (eO 0) (eC (.str ""))) (tOrR (eBin pyGt (eUn pyLen (eO 0)) (eC d_NAME)) (eBin pyIn (eO 0) (eC d_WORDS)))) (sRet (eC (.bool false))) sNil) (sRet (eAnd (eOfB (eBin pyIn (eBin pyIx (eO 0) (eC (.int 0))) (eC d_FIRST))) (eGen (allL (gNm 1) tYesR (eOfB (eBin pyIn (eO 1) (eC d_SIGNS)))) (iItems (eV 0)) [1]))))
def f_is_name : List D → R D := fun ds => (sv_is_name (env0 2 ds)).r
def sv_tokens_of : FP.Env → SR := (sSeq (sSetO 1 (eLst aNil)) (sSeq (sSet 2 (eC (.int 0))) (sSeq (sWhile (eBin pyLt (eO 2) (eUn pyLen (eO 0))) (sIf (eBin pyEq (eBin pyIx (eO 0) (eO 2)) (eC (.str " "))) (sAug 2 pyIAdd (eC (.int 1))) (sIf (eBin pyIn (eBin pyIx (eO 0) (eO 2)) (eC d_SIGNS)) (sSeq (sSet 3 (eV 2)) (sSeq (sWhile (tAndR (eBin pyLt (eO 3) (eUn pyLen (eO 0))) (eBin pyIn (eBin pyIx (eO 0) (eO 3)) (eC d_SIGNS))) (sAug 3 pyIAdd (eC (.int 1))) 1000) (sSeq (sApp 1 (eSl (eO 0) (oSome (eV 2)) (oSome (eV 3)))) (sSet 2 (eV 3))))) (sSeq (sSetO 4 (eComp (iItems (eC d_MARKS)) (gNm 5) (eBin pyEq (eSl (eO 0) (oSome (eV 2)) (oSome (eBin pyAdd (eO 2) (eUn pyLen (eO 5))))) (eO 5)) (eV 5) [5])) (sFz 4 (sSeq (sIf (eBin pyEq (eUn pyLen (eO 4)) (eC (.int 0))) (sRet (eC .none)) sNil) (sSeq (sApp 1 (eBin pyIx (eO 4) (eC (.int 0)))) (sAug 2 pyIAdd (eUn pyLen (eBin pyIx (eO 4) (eC (.int 0))))))))))) 1000) (sFz 1 (sRet (eV 1))))))
def f_tokens_of : List D → R D := fun ds => (sv_tokens_of (env0 6 ds)).r
def sv_lines_of : FP.Env → SR := (sSeq (sIf (eBin pyEq (eO 0) (eC (.str ""))) (sRet (eNew (eLst aNil))) sNil) (sSeq (sSet 1 (eNew (eM1 splitF (eO 0) (eC (.str "\n"))))) (sSeq (sIf (eBin pyEq (eBin pyIx (eO 1) (eUn pyNeg (eC (.int 1)))) (eC (.str ""))) (sSet 1 (eSl (eO 1) oNone (oSome (eUn pyNeg (eC (.int 1)))))) sNil) (sRet (eV 1)))))
def f_lines_of : List D → R D := fun ds => (sv_lines_of (env0 2 ds)).r
def sv__law_strictly (f__law_strictly : List D → R D) : FP.Env → SR := (sSeq (sIf (tIsN (eO 0)) (sRet (eIsN (eO 1))) sNil) (sSeq (sIf (eB (eIsi .bool (eO 0))) (sRet (eAnd (eIsi .int (eO 1)) (eOfB (eBin pyEq (eO 1) (eO 0))))) sNil) (sSeq (sIf (eB (eIsi .int (eO 0))) (sRet (eAnd (eIsi .int (eO 1)) (eAnd (eNot (eIsi .bool (eO 1))) (eOfB (eBin pyEq (eO 1) (eO 0)))))) sNil) (sSeq (sIf (eB (eIsi .str (eO 0))) (sRet (eAnd (eIsi .str (eO 1)) (eOfB (eBin pyEq (eO 1) (eO 0))))) sNil) (sSeq (sIf (tOrR (eBin pyNe (eIsi .tuple (eO 0)) (eIsi .tuple (eO 1))) (eBin pyNe (eIsi .list (eO 0)) (eIsi .list (eO 1)))) (sRet (eC (.bool false))) sNil) (sSeq (sIf (tOrR (eB (eIsi .tuple (eO 0))) (eB (eIsi .list (eO 0)))) (sSeq (sIf (eBin pyNe (eUn pyLen (eO 1)) (eUn pyLen (eO 0))) (sRet (eC (.bool false))) sNil) (sSeq (sForE (iRng1 (eUn pyLen (eO 0))) (gNm 2) (sIf (tNotR (eB (eCall (aCons (eBin pyIx (eO 0) (eO 2)) (aCons (eBin pyIx (eO 1) (eO 2)) aNil)) f__law_strictly))) (sRet (eC (.bool false))) sNil)) (sRet (eC (.bool true))))) sNil) (sRet (eOfB (eBin pyEq (eO 1) (eO 0))))))))))
def fr__law_strictly : Nat → List D → R D
  | 0 => fun _ => .no
  | n + 1 => fun ds => (sv__law_strictly (fr__law_strictly n) (env0 3 ds)).r
def nrec__law_strictly : Nat := 4
def f__law_strictly : List D → R D := fr__law_strictly nrec__law_strictly
def sv__law_cell : FP.Env → SR := (sSeq (sIf (eBin pyLt (eO 1) (eUn pyLen (eO 0))) (sRet (eBin pyIx (eO 0) (eO 1))) sNil) (sRet (eC (.int 0))))
def f__law_cell : List D → R D := fun ds => (sv__law_cell (env0 2 ds)).r
def sv__law_draw : FP.Env → SR := (sSeq (sSet 3 (eCall (aCons (eV 0) (aCons (eV 1) aNil)) f__law_cell)) (sSeq (sIf (eBin pyLt (eO 3) (eC (.int 0))) (sSet 3 (eUn pyNeg (eO 3))) sNil) (sSeq (sSetO 4 (eLst aNil)) (sSeq (sIf (eBin pyGe (eO 3) (eBin pyPow (eC (.int 10)) (eC (.int 18)))) (sSeq (sSet 3 (eBin pySub (eO 3) (eBin pyPow (eC (.int 10)) (eC (.int 18))))) (sSeq (sForE (iItems (eV 2)) (gNm 5) (sSeq (sApp 4 (eBin pyMod (eO 3) (eO 5))) (sSet 3 (eBin pyFdiv (eO 3) (eO 5))))) (sFz 4 (sRet (eV 4))))) sNil) (sSeq (sSet 6 (eBin pyMod (eBin pyAdd (eBin pyAdd (eO 3) (eC (.int 1))) (eBin pyMul (eC (.int 31)) (eO 1))) (eC (.int 2147483647)))) (sSeq (sForE (iRng1 (eUn pyLen (eO 2))) (gNm 7) (sSeq (sSet 6 (eBin pyMod (eBin pyAdd (eBin pyAdd (eBin pyMul (eO 6) (eC (.int 48271))) (eC (.int 11))) (eO 7)) (eC (.int 2147483647)))) (sSeq (sSet 6 (eBin pyMod (eBin pyAdd (eBin pyMul (eO 6) (eC (.int 69621))) (eC (.int 3))) (eC (.int 2147483647)))) (sApp 4 (eBin pyMod (eBin pyFdiv (eO 6) (eC (.int 7))) (eBin pyIx (eO 2) (eO 7))))))) (sFz 4 (sRet (eV 4)))))))))
def f__law_draw : List D → R D := fun ds => (sv__law_draw (env0 8 ds)).r
def sv__law_sign : FP.Env → SR := (sRet (eBin pyIx (eNew (eLst (aCons (eC (.str "!")) (aCons (eC (.str "*")) (aCons (eC (.str "/")) (aCons (eC (.str "@")) (aCons (eC (.str "'")) aNil))))))) (eO 0)))
def f__law_sign : List D → R D := fun ds => (sv__law_sign (env0 1 ds)).r
def sv_law : FP.Env → SR := (sSeq (sSet 1 (eNew (eLst (aCons (eC (.str "a")) (aCons (eC (.str "f1")) (aCons (eC (.str "claim")) (aCons (eC (.str "12")) (aCons (eC (.str "_x")) (aCons (eC (.str "sort")) (aCons (eC (.str "Zz9")) aNil)))))))))) (sSeq (sSet 2 (eNew (eLst (aCons (eC (.str "<->")) (aCons (eC (.str "->")) (aCons (eC (.str "(")) (aCons (eC (.str ")")) (aCons (eC (.str ",")) (aCons (eC (.str "=")) (aCons (eC (.str "#")) (aCons (eC (.str "|")) (aCons (eC (.str ":")) (aCons (eC (.str ".")) (aCons (eC (.str "[")) (aCons (eC (.str "]")) aNil))))))))))))))) (sSeq (sSet 3 (eCall (aCons (eV 0) (aCons (eC (.int 0)) (aCons (eNew (eLst (aCons (eC (.int 9)) (aCons (eC (.int 5)) aNil)))) aNil))) f__law_draw)) (sSeq (sPar 4 5 (mCons (eC (.str "")) (mConsO (eLst aNil) mNil))) (sSeq (sSet 6 (eC (.str ""))) (sSeq (sForE (iRng1 (eBin pyIx (eO 3) (eC (.int 0)))) (gNm 7) (sSeq (sSet 8 (eCall (aCons (eV 0) (aCons (eBin pyAdd (eC (.int 1)) (eO 7)) (aCons (eNew (eLst (aCons (eC (.int 2)) (aCons (eC (.int 12)) (aCons (eC (.int 7)) (aCons (eC (.int 3)) aNil)))))) aNil))) f__law_draw)) (sSeq (sSet 9 (eIf (eBin pyEq (eBin pyIx (eO 8) (eC (.int 0))) (eC (.int 0))) (eBin pyIx (eO 2) (eBin pyIx (eO 8) (eC (.int 1)))) (eBin pyIx (eO 1) (eBin pyIx (eO 8) (eC (.int 2)))))) (sSeq (sSet 10 (eBin pyMul (eC (.str " ")) (eBin pyIx (eO 8) (eC (.int 3))))) (sSeq (sIf (tAndR (eBin pyNe (eO 6) (eC (.str ""))) (tAndR (eBin pyEq (eO 10) (eC (.str ""))) (tOrR (tAndR (eBin pyEq (eBin pyIx (eO 8) (eC (.int 0))) (eC (.int 1))) (eBin pyIn (eO 6) (eO 1))) (tOrR (eBin pyIn (eBin pyAdd (eO 6) (eO 9)) (eO 2)) (tOrR (eBin pyEq (eO 6) (eC (.str "<-"))) (eBin pyIn (eO 6) (eNew (eLst (aCons (eC (.str "-")) (aCons (eC (.str "<")) aNil)))))))))) (sSet 10 (eC (.str " "))) sNil) (sSeq (sSet 4 (eBin pyAdd (eBin pyAdd (eO 4) (eO 10)) (eO 9))) (sSeq (sApp 5 (eV 9)) (sSet 6 (eV 9))))))))) (sSeq (sFz 5 (sIf (tNotR (eB (eCall (aCons (eV 5) (aCons (eCall (aCons (eV 4) aNil) f_tokens_of) aNil)) f__law_strictly))) (sRet (eC (.bool false))) sNil)) (sSeq (sForE (iItems (eNew (eLst (aCons (eC (.str ";")) (aCons (eC (.str "+")) (aCons (eC (.str "?")) (aCons (eC (.str "-")) (aCons (eC (.str "<")) (aCons (eCall (aCons (eBin pyIx (eO 3) (eC (.int 1))) aNil) f__law_sign) aNil))))))))) (gNm 11) (sIf (tNotNn (eCall (aCons (eBin pyAdd (eBin pyAdd (eO 4) (eC (.str " "))) (eO 11)) aNil) f_tokens_of)) (sRet (eC (.bool false))) sNil)) (sSeq (sForE (iItems (eNew (eLst (aCons (eTup (aCons (eBin pyMul (eC (.str "a")) (eC (.int 12))) (aCons (eC (.bool true)) aNil))) (aCons (eTup (aCons (eBin pyMul (eC (.str "a")) (eC (.int 13))) (aCons (eC (.bool false)) aNil))) (aCons (eTup (aCons (eC (.str "")) (aCons (eC (.bool false)) aNil))) (aCons (eTup (aCons (eC (.str "1a")) (aCons (eC (.bool false)) aNil))) (aCons (eTup (aCons (eC (.str "_")) (aCons (eC (.bool true)) aNil))) (aCons (eTup (aCons (eC (.str "a-b")) (aCons (eC (.bool false)) aNil))) (aCons (eTup (aCons (eC (.str "or")) (aCons (eC (.bool false)) aNil))) (aCons (eTup (aCons (eC (.str "some")) (aCons (eC (.bool false)) aNil))) (aCons (eTup (aCons (eC (.str "orr")) (aCons (eC (.bool true)) aNil))) (aCons (eTup (aCons (eC (.str "a b")) (aCons (eC (.bool false)) aNil))) aNil))))))))))))) (gTp 2 (gsCons (gNm 12) (gsCons (gNm 5) gsNil))) (sIf (eBin pyNe (eCall (aCons (eV 12) aNil) f_is_name) (eO 5)) (sRet (eC (.bool false))) sNil)) (sSeq (sSet 13 (eSl (eNew (eLst (aCons (eBin pyMul (eC (.str "x")) (eBin pyMod (eBin pyIx (eO 3) (eC (.int 0))) (eC (.int 3)))) (aCons (eC (.str "")) (aCons (eC (.str "y")) aNil))))) oNone (oSome (eBin pyMod (eBin pyIx (eO 3) (eC (.int 1))) (eC (.int 4)))))) (sSeq (sSet 14 (eM1 joinF (eC (.str "")) (eNew (eComp (iItems (eV 13)) (gNm 8) tYesR (eBin pyAdd (eO 8) (eC (.str "\n"))) [8])))) (sSeq (sIf (tNotR (eB (eCall (aCons (eV 13) (aCons (eCall (aCons (eV 14) aNil) f_lines_of) aNil)) f__law_strictly))) (sRet (eC (.bool false))) sNil) (sRet (eCall (aCons (eBin pyAdd (eO 13) (eNew (eLst (aCons (eC (.str "end")) aNil)))) (aCons (eCall (aCons (eBin pyAdd (eO 14) (eC (.str "end"))) aNil) f_lines_of) aNil)) f__law_strictly))))))))))))))
def f_law : List D → R D := fun ds => (sv_law (env0 15 ds)).r
/-! ### what the top leaves -/
structure Wd (K : PySem.W.Frag) (mg : Str → Option Value) (base : Heap) (T : List Addr) : Prop where
  n_all : mg "all" = none
  n_bool : mg "bool" = none
  n_int : mg "int" = none
  n_isinstance : mg "isinstance" = none
  n_len : mg "len" = none
  n_list : mg "list" = none
  n_range : mg "range" = none
  n_str : mg "str" = none
  n_tuple : mg "tuple" = none
  g_FIRST : Glob K mg "FIRST" d_FIRST
  g_MARKS : Glob K mg "MARKS" d_MARKS
  g_NAME : Glob K mg "NAME" d_NAME
  g_SIGNS : Glob K mg "SIGNS" d_SIGNS
  g_WORDS : Glob K mg "WORDS" d_WORDS
  fu_is_name : ∃ fd, FunD K "is_name" "is_name" (defArgs st_is_name) (defBody st_is_name) (defScope st_is_name) [] [] (He.fAd K ("is_name", none)) fd
  gl_is_name : mg "is_name" = some (.ref (He.fAd K ("is_name", none)))
  fu_tokens_of : ∃ fd, FunD K "tokens_of" "tokens_of" (defArgs st_tokens_of) (defBody st_tokens_of) (defScope st_tokens_of) [] [] (He.fAd K ("tokens_of", none)) fd
  gl_tokens_of : mg "tokens_of" = some (.ref (He.fAd K ("tokens_of", none)))
  fu_lines_of : ∃ fd, FunD K "lines_of" "lines_of" (defArgs st_lines_of) (defBody st_lines_of) (defScope st_lines_of) [] [] (He.fAd K ("lines_of", none)) fd
  gl_lines_of : mg "lines_of" = some (.ref (He.fAd K ("lines_of", none)))
  fu__law_strictly : ∃ fd, FunD K "_law_strictly" "_law_strictly" (defArgs st__law_strictly) (defBody st__law_strictly) (defScope st__law_strictly) [] [] (He.fAd K ("_law_strictly", none)) fd
  gl__law_strictly : mg "_law_strictly" = some (.ref (He.fAd K ("_law_strictly", none)))
  fu__law_cell : ∃ fd, FunD K "_law_cell" "_law_cell" (defArgs st__law_cell) (defBody st__law_cell) (defScope st__law_cell) [] [] (He.fAd K ("_law_cell", none)) fd
  gl__law_cell : mg "_law_cell" = some (.ref (He.fAd K ("_law_cell", none)))
  fu__law_draw : ∃ fd, FunD K "_law_draw" "_law_draw" (defArgs st__law_draw) (defBody st__law_draw) (defScope st__law_draw) [] [] (He.fAd K ("_law_draw", none)) fd
  gl__law_draw : mg "_law_draw" = some (.ref (He.fAd K ("_law_draw", none)))
  fu__law_sign : ∃ fd, FunD K "_law_sign" "_law_sign" (defArgs st__law_sign) (defBody st__law_sign) (defScope st__law_sign) [] [] (He.fAd K ("_law_sign", none)) fd
  gl__law_sign : mg "_law_sign" = some (.ref (He.fAd K ("_law_sign", none)))
  fu_law : ∃ fd, FunD K "law" "law" (defArgs st_law) (defBody st_law) (defScope st_law) [] [] (He.fAd K ("law", none)) fd
  gl_law : mg "law" = some (.ref (He.fAd K ("law", none)))
  inT_is_name : He.tabOf K (He.codeOf K ("is_name", none)) ∈ T
  tb_is_name : LamX.TabB base mg (He.codeOf K ("is_name", none)) (He.tabOf K (He.codeOf K ("is_name", none)))
section
variable {P : Program} {w : World} {K : PySem.W.Frag} {mg : Str → Option Value} {base : Heap} {T : List Addr}
theorem fn_is_name (W : Wd K mg base T) : Fn P w K mg base T "is_name" 2 1 f_is_name := by
  obtain ⟨fd, Fu⟩ := W.fu_is_name
  refine fn_okT (k := 1) (N := N_is_name) (ps := P_is_name) (sv := sv_is_name) Fu sc_is_name W.gl_is_name (fun _ _ _ _ _ _ us hl => match us, hl with | [_], _ => rfl) fun A outer s H b E hr pre => ?_
  show ISs _ _ sv_is_name
  unfold sv_is_name
  exact (is_cons (is_if (it_w (iw_or (it_cmp (op_eqM hu64) ok_eq (ib_var 0) (ib_of ie_str) rfl) (iw_or (it_cmp op_gt ok_cmpI (ib_of (ie_len W.n_len (ib_var 0))) (ib_of (ie_glob W.g_NAME)) rfl) (iw_or1 (it_cmp (op_inM hu65) ok_in (ib_var 0) (ib_of (ie_glob W.g_WORDS)) rfl))))) (is_one (is_ret ie_bl)) is_nil) (is_one (is_ret (ie_and (ie_cmp (op_inM hu65) ok_in (ib_of (ie_ix (ib_var 0) (ib_of ie_int))) (ib_of (ie_glob W.g_FIRST)) rfl) (ie_one (ie_all [("sign", 1)] (He.tabOf K (He.codeOf K ("is_name", none))) W.n_all (k := 0) (Nat.le_of_ble_eq_true rfl) (ii_seq (ie_var 0)) (W.inT_is_name) ⟨_, rfl, W.tb_is_name⟩ (fun _ _ _ _ _ _ _ _ _ => (ig_name 1)) (fun _ _ _ _ _ _ _ _ _ => its_nil) (fun _ _ _ _ _ _ _ _ _ => (ie_cmp (op_inM hu65) ok_in (ib_var 1) (ib_of (ie_glob W.g_SIGNS)) rfl)) (by rfl) ⟨rfl, rfl, by decide, rfl⟩ (by decide)))))))
theorem fn_tokens_of (W : Wd K mg base T) : Fn P w K mg base T "tokens_of" 1 1 f_tokens_of := by
  obtain ⟨fd, Fu⟩ := W.fu_tokens_of
  refine fn_okT (k := 0) (N := N_tokens_of) (ps := P_tokens_of) (sv := sv_tokens_of) Fu sc_tokens_of W.gl_tokens_of (fun _ _ _ _ _ _ us hl => match us, hl with | [_], _ => rfl) fun A outer s H b E hr pre => ?_
  show ISs _ _ sv_tokens_of
  unfold sv_tokens_of
  exact (is_cons (is_setO 1 (if_lst ia_nil)) (is_cons (is_set 2 ie_int) (is_cons (is_while 1000 (it_cmp op_lt ok_cmpI (ib_var 2) (ib_of (ie_len W.n_len (ib_var 0))) rfl) (is_one (is_if (it_cmp (op_eqM hu64) ok_eq (ib_of (ie_ix (ib_var 0) (ib_var 2))) (ib_of ie_str) rfl) (is_one (is_aug 2 op_iaddA ok_iadd (ib_of ie_int))) (is_one (is_if (it_cmp (op_inM hu65) ok_in (ib_of (ie_ix (ib_var 0) (ib_var 2))) (ib_of (ie_glob W.g_SIGNS)) rfl) (is_cons (is_set 3 (ie_var 2)) (is_cons (is_while 1000 (it_w (iw_and (it_cmp op_lt ok_cmpI (ib_var 3) (ib_of (ie_len W.n_len (ib_var 0))) rfl) (iw_and1 (it_cmp (op_inM hu65) ok_in (ib_of (ie_ix (ib_var 0) (ib_var 3))) (ib_of (ie_glob W.g_SIGNS)) rfl)))) (is_one (is_aug 3 op_iaddA ok_iadd (ib_of ie_int)))) (is_cons (is_append 1 (ie_sl (ib_var 0) (io_some (ie_var 2)) (io_some (ie_var 3)))) (is_one (is_set 2 (ie_var 3)))))) (is_cons (is_setLc 4 [("mark", 5)] (ii_seq (ie_glob W.g_MARKS)) (by rfl) (by decide) (fun _ _ _ _ _ => (ig_name 5)) (fun _ _ _ _ _ => (its_one (it_cmp (op_eqM hu64) ok_eq (ib_of (ie_sl (ib_var 0) (io_some (ie_var 2)) (io_some (ie_op op_addA ok_add (ib_var 2) (ib_of (ie_len W.n_len (ib_var 5))))))) (ib_var 5) rfl))) (fun _ _ _ _ _ => (ie_var 5))) (iss_fz 4 (is_cons (is_if (it_cmp (op_eqM hu64) ok_eq (ib_of (ie_len W.n_len (ib_var 4))) (ib_of ie_int) rfl) (is_one (is_ret ie_non)) is_nil) (is_cons (is_append 1 (ie_ix (ib_var 4) (ib_of ie_int))) (is_one (is_aug 2 op_iaddA ok_iadd (ib_of (ie_len W.n_len (ib_of (ie_ix (ib_var 4) (ib_of ie_int)))))))))))))))) (is_one (is_fz 1 (is_ret (ie_var 1)))))))
theorem fn_lines_of (W : Wd K mg base T) : Fn P w K mg base T "lines_of" 1 1 f_lines_of := by
  obtain ⟨fd, Fu⟩ := W.fu_lines_of
  refine fn_okT (k := 0) (N := N_lines_of) (ps := P_lines_of) (sv := sv_lines_of) Fu sc_lines_of W.gl_lines_of (fun _ _ _ _ _ _ us hl => match us, hl with | [_], _ => rfl) fun A outer s H b E hr pre => ?_
  show ISs _ _ sv_lines_of
  unfold sv_lines_of
  exact (is_cons (is_if (it_cmp (op_eqM hu64) ok_eq (ib_var 0) (ib_of ie_str) rfl) (is_one (is_ret (ie_new (if_lst ia_nil)))) is_nil) (is_cons (is_set 1 (ie_new (if_split (ib_var 0) (ib_of ie_str)))) (is_cons (is_if (it_cmp (op_eqM hu64) ok_eq (ib_of (ie_ix (ib_var 1) (ib_of (ie_un un_neg ok_neg (ib_of ie_int))))) (ib_of ie_str) rfl) (is_one (is_set 1 (ie_sl (ib_var 1) io_none (io_some (ie_un un_neg ok_neg (ib_of ie_int)))))) is_nil) (is_one (is_ret (ie_var 1))))))
theorem fn__law_strictly (W : Wd K mg base T) : ∀ n : Nat, Fn P w K mg base T "_law_strictly" (0 + n) 2 (fr__law_strictly n)
  | 0 => by
    obtain ⟨fd, Fu⟩ := W.fu__law_strictly
    exact (fn_no Fu W.gl__law_strictly (ps := ["expected", "actual"]) (fun _ _ _ _ _ _ us hl => match us, hl with | [_, _], _ => rfl)).mono (Nat.zero_le _)
  | n + 1 => by
    obtain ⟨fd, Fu⟩ := W.fu__law_strictly
    have ih := fn__law_strictly W n
    refine fn_okT (k := 0 + n) (N := N__law_strictly) (ps := P__law_strictly) (sv := sv__law_strictly (fr__law_strictly n)) Fu sc__law_strictly W.gl__law_strictly (fun _ _ _ _ _ _ us hl => match us, hl with | [_, _], _ => rfl) fun A outer s H b E hr pre => ?_
    show ISs _ _ (sv__law_strictly (fr__law_strictly n))
    unfold sv__law_strictly
    exact (is_cons (is_if (it_isN (ib_var 0)) (is_one (is_ret (ie_isN (ib_var 1)))) is_nil) (is_cons (is_if (it_val (ie_isi .bool W.n_isinstance W.n_bool (ib_var 0) (hb := boot_isi .bool))) (is_one (is_ret (ie_and (ie_isi .int W.n_isinstance W.n_int (ib_var 1) (hb := boot_isi .int)) (ie_one (ie_cmp (op_eqM hu64) ok_eq (ib_var 1) (ib_var 0) rfl))))) is_nil) (is_cons (is_if (it_val (ie_isi .int W.n_isinstance W.n_int (ib_var 0) (hb := boot_isi .int))) (is_one (is_ret (ie_and (ie_isi .int W.n_isinstance W.n_int (ib_var 1) (hb := boot_isi .int)) (ie_and (ie_not (ie_isi .bool W.n_isinstance W.n_bool (ib_var 1) (hb := boot_isi .bool))) (ie_one (ie_cmp (op_eqM hu64) ok_eq (ib_var 1) (ib_var 0) rfl)))))) is_nil) (is_cons (is_if (it_val (ie_isi .str W.n_isinstance W.n_str (ib_var 0) (hb := boot_isi .str))) (is_one (is_ret (ie_and (ie_isi .str W.n_isinstance W.n_str (ib_var 1) (hb := boot_isi .str)) (ie_one (ie_cmp (op_eqM hu64) ok_eq (ib_var 1) (ib_var 0) rfl))))) is_nil) (is_cons (is_if (it_w (iw_or (it_cmp (op_neM hu64) ok_ne (ib_of (ie_isi .tuple W.n_isinstance W.n_tuple (ib_var 0) (hb := boot_isi .tuple))) (ib_of (ie_isi .tuple W.n_isinstance W.n_tuple (ib_var 1) (hb := boot_isi .tuple))) rfl) (iw_or1 (it_cmp (op_neM hu64) ok_ne (ib_of (ie_isi .list W.n_isinstance W.n_list (ib_var 0) (hb := boot_isi .list))) (ib_of (ie_isi .list W.n_isinstance W.n_list (ib_var 1) (hb := boot_isi .list))) rfl)))) (is_one (is_ret ie_bl)) is_nil) (is_cons (is_if (it_w (iw_or (it_val (ie_isi .tuple W.n_isinstance W.n_tuple (ib_var 0) (hb := boot_isi .tuple))) (iw_or1 (it_val (ie_isi .list W.n_isinstance W.n_list (ib_var 0) (hb := boot_isi .list)))))) (is_cons (is_if (it_cmp (op_neM hu64) ok_ne (ib_of (ie_len W.n_len (ib_var 1))) (ib_of (ie_len W.n_len (ib_var 0))) rfl) (is_one (is_ret ie_bl)) is_nil) (is_cons (is_for (ii_range1 (ie_len W.n_len (ib_var 0)) W.n_range) (ig_name 2) (is_one (is_if (it_not (it_val (ie_call ih (Nat.le_refl _) (ia_cons (ie_ix (ib_var 0) (ib_var 2)) (ia_cons (ie_ix (ib_var 1) (ib_var 2)) ia_nil))))) (is_one (is_ret ie_bl)) is_nil))) (is_one (is_ret ie_bl)))) is_nil) (is_one (is_ret (ie_cmp (op_eqM hu64) ok_eq (ib_var 1) (ib_var 0) rfl)))))))))
theorem fn__law_cell (W : Wd K mg base T) : Fn P w K mg base T "_law_cell" 1 2 f__law_cell := by
  obtain ⟨fd, Fu⟩ := W.fu__law_cell
  refine fn_okT (k := 0) (N := N__law_cell) (ps := P__law_cell) (sv := sv__law_cell) Fu sc__law_cell W.gl__law_cell (fun _ _ _ _ _ _ us hl => match us, hl with | [_, _], _ => rfl) fun A outer s H b E hr pre => ?_
  show ISs _ _ sv__law_cell
  unfold sv__law_cell
  exact (is_cons (is_if (it_cmp op_lt ok_cmpI (ib_var 1) (ib_of (ie_len W.n_len (ib_var 0))) rfl) (is_one (is_ret (ie_ix (ib_var 0) (ib_var 1)))) is_nil) (is_one (is_ret ie_int)))
theorem fn__law_draw (W : Wd K mg base T) : Fn P w K mg base T "_law_draw" 2 3 f__law_draw := by
  obtain ⟨fd, Fu⟩ := W.fu__law_draw
  refine fn_okT (k := 1) (N := N__law_draw) (ps := P__law_draw) (sv := sv__law_draw) Fu sc__law_draw W.gl__law_draw (fun _ _ _ _ _ _ us hl => match us, hl with | [_, _, _], _ => rfl) fun A outer s H b E hr pre => ?_
  show ISs _ _ sv__law_draw
  unfold sv__law_draw
  exact (is_cons (is_set 3 (ie_call (fn__law_cell W) (Nat.le_of_ble_eq_true rfl) (ia_cons (ie_var 0) (ia_cons (ie_var 1) ia_nil)))) (is_cons (is_if (it_cmp op_lt ok_cmpI (ib_var 3) (ib_of ie_int) rfl) (is_one (is_set 3 (ie_un un_neg ok_neg (ib_var 3)))) is_nil) (is_cons (is_setO 4 (if_lst ia_nil)) (is_cons (is_if (it_cmp op_ge ok_cmpI (ib_var 3) (ib_of (ie_op op_pow ok_pow (ib_of ie_int) (ib_of ie_int))) rfl) (is_cons (is_set 3 (ie_op op_subA ok_sub (ib_var 3) (ib_of (ie_op op_pow ok_pow (ib_of ie_int) (ib_of ie_int))))) (is_cons (is_for (ii_seq (ie_var 2)) (ig_name 5) (is_cons (is_append 4 (ie_op op_mod ok_mod (ib_var 3) (ib_var 5))) (is_one (is_set 3 (ie_op op_fdiv ok_fdiv (ib_var 3) (ib_var 5)))))) (is_one (is_fz 4 (is_ret (ie_var 4)))))) is_nil) (is_cons (is_set 6 (ie_op op_mod ok_mod (ib_of (ie_op op_addA ok_add (ib_of (ie_op op_addA ok_add (ib_var 3) (ib_of ie_int))) (ib_of (ie_op op_mulA ok_mul (ib_of ie_int) (ib_var 1))))) (ib_of ie_int))) (is_cons (is_for (ii_range1 (ie_len W.n_len (ib_var 2)) W.n_range) (ig_name 7) (is_cons (is_set 6 (ie_op op_mod ok_mod (ib_of (ie_op op_addA ok_add (ib_of (ie_op op_addA ok_add (ib_of (ie_op op_mulA ok_mul (ib_var 6) (ib_of ie_int))) (ib_of ie_int))) (ib_var 7))) (ib_of ie_int))) (is_cons (is_set 6 (ie_op op_mod ok_mod (ib_of (ie_op op_addA ok_add (ib_of (ie_op op_mulA ok_mul (ib_var 6) (ib_of ie_int))) (ib_of ie_int))) (ib_of ie_int))) (is_one (is_append 4 (ie_op op_mod ok_mod (ib_of (ie_op op_fdiv ok_fdiv (ib_var 6) (ib_of ie_int))) (ib_of (ie_ix (ib_var 2) (ib_var 7))))))))) (is_one (is_fz 4 (is_ret (ie_var 4))))))))))
theorem fn__law_sign (W : Wd K mg base T) : Fn P w K mg base T "_law_sign" 1 1 f__law_sign := by
  obtain ⟨fd, Fu⟩ := W.fu__law_sign
  refine fn_okT (k := 0) (N := N__law_sign) (ps := P__law_sign) (sv := sv__law_sign) Fu sc__law_sign W.gl__law_sign (fun _ _ _ _ _ _ us hl => match us, hl with | [_], _ => rfl) fun A outer s H b E hr pre => ?_
  show ISs _ _ sv__law_sign
  unfold sv__law_sign
  exact (is_one (is_ret (ie_ix (ib_of (ie_new (if_lst (ia_cons ie_str (ia_cons ie_str (ia_cons ie_str (ia_cons ie_str (ia_cons ie_str ia_nil)))))))) (ib_var 0))))
theorem fnok_law {fd : FuncData} (Fu : FunD K "law" "law" (defArgs st_law) (defBody st_law) (defScope st_law) [] [] (He.fAd K ("law", none)) fd) (W : Wd K mg base T) : FnOk P w K mg base (L2.CX P w) 5 (He.fAd K ("law", none)) fd ["script"] (spF K mg T 1 f_law) := by
  refine fnok_T (k := 4) (N := N_law) (ps := P_law) (sv := sv_law) Fu sc_law fun A outer s H b E hr pre => ?_
  show ISs _ _ sv_law
  unfold sv_law
  exact (is_cons (is_set 1 (ie_new (if_lst (ia_cons ie_str (ia_cons ie_str (ia_cons ie_str (ia_cons ie_str (ia_cons ie_str (ia_cons ie_str (ia_cons ie_str ia_nil)))))))))) (is_cons (is_set 2 (ie_new (if_lst (ia_cons ie_str (ia_cons ie_str (ia_cons ie_str (ia_cons ie_str (ia_cons ie_str (ia_cons ie_str (ia_cons ie_str (ia_cons ie_str (ia_cons ie_str (ia_cons ie_str (ia_cons ie_str (ia_cons ie_str ia_nil))))))))))))))) (is_cons (is_set 3 (ie_call (fn__law_draw W) (Nat.le_of_ble_eq_true rfl) (ia_cons (ie_var 0) (ia_cons ie_int (ia_cons (ie_new (if_lst (ia_cons ie_int (ia_cons ie_int ia_nil)))) ia_nil))))) (is_cons (is_par 4 5 (im_cons ie_str (im_consO (if_lst ia_nil) im_nil))) (is_cons (is_set 6 ie_str) (is_cons (is_for (ii_range1 (ie_ix (ib_var 3) (ib_of ie_int)) W.n_range) (ig_name 7) (is_cons (is_set 8 (ie_call (fn__law_draw W) (Nat.le_of_ble_eq_true rfl) (ia_cons (ie_var 0) (ia_cons (ie_op op_addA ok_add (ib_of ie_int) (ib_var 7)) (ia_cons (ie_new (if_lst (ia_cons ie_int (ia_cons ie_int (ia_cons ie_int (ia_cons ie_int ia_nil)))))) ia_nil))))) (is_cons (is_set 9 (ie_if (it_cmp (op_eqM hu64) ok_eq (ib_of (ie_ix (ib_var 8) (ib_of ie_int))) (ib_of ie_int) rfl) (ie_ix (ib_var 2) (ib_of (ie_ix (ib_var 8) (ib_of ie_int)))) (ie_ix (ib_var 1) (ib_of (ie_ix (ib_var 8) (ib_of ie_int)))))) (is_cons (is_set 10 (ie_op op_mulA ok_mul (ib_of ie_str) (ib_of (ie_ix (ib_var 8) (ib_of ie_int))))) (is_cons (is_if (it_w (iw_and (it_cmp (op_neM hu64) ok_ne (ib_var 6) (ib_of ie_str) rfl) (iw_and (it_cmp (op_eqM hu64) ok_eq (ib_var 10) (ib_of ie_str) rfl) (iw_and1 (it_w (iw_or (it_w (iw_and (it_cmp (op_eqM hu64) ok_eq (ib_of (ie_ix (ib_var 8) (ib_of ie_int))) (ib_of ie_int) rfl) (iw_and1 (it_cmp (op_inM hu65) ok_in (ib_var 6) (ib_var 1) rfl)))) (iw_or (it_cmp (op_inM hu65) ok_in (ib_of (ie_op op_addA ok_add (ib_var 6) (ib_var 9))) (ib_var 2) rfl) (iw_or (it_cmp (op_eqM hu64) ok_eq (ib_var 6) (ib_of ie_str) rfl) (iw_or1 (it_cmp (op_inM hu65) ok_in (ib_var 6) (ib_of (ie_new (if_lst (ia_cons ie_str (ia_cons ie_str ia_nil))))) rfl)))))))))) (is_one (is_set 10 ie_str)) is_nil) (is_cons (is_set 4 (ie_op op_addA ok_add (ib_of (ie_op op_addA ok_add (ib_var 4) (ib_var 10))) (ib_var 9))) (is_cons (is_append 5 (ie_var 9)) (is_one (is_set 6 (ie_var 9)))))))))) (is_cons (is_fz 5 (is_if (it_not (it_val (ie_call (fn__law_strictly W nrec__law_strictly) (Nat.le_of_ble_eq_true rfl) (ia_cons (ie_var 5) (ia_cons (ie_call (fn_tokens_of W) (Nat.le_of_ble_eq_true rfl) (ia_cons (ie_var 4) ia_nil)) ia_nil))))) (is_one (is_ret ie_bl)) is_nil)) (is_cons (is_for (ii_seq (ie_new (if_lst (ia_cons ie_str (ia_cons ie_str (ia_cons ie_str (ia_cons ie_str (ia_cons ie_str (ia_cons (ie_call (fn__law_sign W) (Nat.le_of_ble_eq_true rfl) (ia_cons (ie_ix (ib_var 3) (ib_of ie_int)) ia_nil)) ia_nil))))))))) (ig_name 11) (is_one (is_if (it_notN (ib_of (ie_call (fn_tokens_of W) (Nat.le_of_ble_eq_true rfl) (ia_cons (ie_op op_addA ok_add (ib_of (ie_op op_addA ok_add (ib_var 4) (ib_of ie_str))) (ib_var 11)) ia_nil)))) (is_one (is_ret ie_bl)) is_nil))) (is_cons (is_for (ii_seq (ie_new (if_lst (ia_cons (ie_tup (ia_cons (ie_op op_mulA ok_mul (ib_of ie_str) (ib_of ie_int)) (ia_cons ie_bl ia_nil))) (ia_cons (ie_tup (ia_cons (ie_op op_mulA ok_mul (ib_of ie_str) (ib_of ie_int)) (ia_cons ie_bl ia_nil))) (ia_cons (ie_tup (ia_cons ie_str (ia_cons ie_bl ia_nil))) (ia_cons (ie_tup (ia_cons ie_str (ia_cons ie_bl ia_nil))) (ia_cons (ie_tup (ia_cons ie_str (ia_cons ie_bl ia_nil))) (ia_cons (ie_tup (ia_cons ie_str (ia_cons ie_bl ia_nil))) (ia_cons (ie_tup (ia_cons ie_str (ia_cons ie_bl ia_nil))) (ia_cons (ie_tup (ia_cons ie_str (ia_cons ie_bl ia_nil))) (ia_cons (ie_tup (ia_cons ie_str (ia_cons ie_bl ia_nil))) (ia_cons (ie_tup (ia_cons ie_str (ia_cons ie_bl ia_nil))) ia_nil))))))))))))) (ig_tup 2 (igs_cons (ig_name 12) (igs_cons (ig_name 5) igs_nil))) (is_one (is_if (it_cmp (op_neM hu64) ok_ne (ib_of (ie_call (fn_is_name W) (Nat.le_of_ble_eq_true rfl) (ia_cons (ie_var 12) ia_nil))) (ib_var 5) rfl) (is_one (is_ret ie_bl)) is_nil))) (is_cons (is_set 13 (ie_sl (ib_of (ie_new (if_lst (ia_cons (ie_op op_mulA ok_mul (ib_of ie_str) (ib_of (ie_op op_mod ok_mod (ib_of (ie_ix (ib_var 3) (ib_of ie_int))) (ib_of ie_int)))) (ia_cons ie_str (ia_cons ie_str ia_nil)))))) io_none (io_some (ie_op op_mod ok_mod (ib_of (ie_ix (ib_var 3) (ib_of ie_int))) (ib_of ie_int))))) (is_cons (is_set 14 (ie_join (ib_of ie_str) (ib_of (ie_new (if_comp [("row", 8)] (ii_seq (ie_var 13)) (by rfl) (by decide) (fun _ _ _ _ _ => (ig_name 8)) (fun _ _ _ _ _ => its_nil) (fun _ _ _ _ _ => (ie_op op_addA ok_add (ib_var 8) (ib_of ie_str)))))))) (is_cons (is_if (it_not (it_val (ie_call (fn__law_strictly W nrec__law_strictly) (Nat.le_of_ble_eq_true rfl) (ia_cons (ie_var 13) (ia_cons (ie_call (fn_lines_of W) (Nat.le_of_ble_eq_true rfl) (ia_cons (ie_var 14) ia_nil)) ia_nil))))) (is_one (is_ret ie_bl)) is_nil) (is_one (is_ret (ie_call (fn__law_strictly W nrec__law_strictly) (Nat.le_of_ble_eq_true rfl) (ia_cons (ie_op op_addA ok_add (ib_var 13) (ib_of (ie_new (if_lst (ia_cons ie_str ia_nil))))) (ia_cons (ie_call (fn_lines_of W) (Nat.le_of_ble_eq_true rfl) (ia_cons (ie_op op_addA ok_add (ib_var 14) (ib_of ie_str)) ia_nil)) ia_nil)))))))))))))))))
end
end Law_k00
namespace Law_k00
open FP PySem PySem.Spec PyProof.Rows L2
/-! ### the words and the marks -/
def cs (s : String) : List Nat := tl (Str.ofString s)
def signL : List Nat := cs "abcdefghijklmnopqrstuvwxyzABCDEFGHIJKLMNOPQRSTUVWXYZ_0123456789"
def marksL : List (List Nat) := ["<->", "->", "(", ")", "[", "]", ",", "=", "#", "|", ":", "."].map cs
theorem marks_eq : d_MARKS = .tuple (marksL.map fun m => .str (mkS m)) := rfl
abbrev tE (L : List Nat) (fd : List (List Nat)) (at_ : Nat) (e3 e4 e5 : Sl) : FP.Env := [.vl (.str (mkS L)), .ow (.lst (fd.map fun w => .str (mkS w))), .vl (.int at_), e3, e4, e5]
def tCond : FP.Env → R Bool := (eBin pyLt (eO 2) (eUn pyLen (eO 0)))
def tIn : FP.Env → R Bool := (tAndR (eBin pyLt (eO 3) (eUn pyLen (eO 0))) (eBin pyIn (eBin pyIx (eO 0) (eO 3)) (eC d_SIGNS)))
def tTest : FP.Env → R Bool := (eBin pyEq (eSl (eO 0) (oSome (eV 2)) (oSome (eBin pyAdd (eO 2) (eUn pyLen (eO 5))))) (eO 5))
def tBody : FP.Env → SR := (sIf (eBin pyEq (eBin pyIx (eO 0) (eO 2)) (eC (.str " "))) (sAug 2 pyIAdd (eC (.int 1))) (sIf (eBin pyIn (eBin pyIx (eO 0) (eO 2)) (eC d_SIGNS)) (sSeq (sSet 3 (eV 2)) (sSeq (sWhile tIn (sAug 3 pyIAdd (eC (.int 1))) 1000) (sSeq (sApp 1 (eSl (eO 0) (oSome (eV 2)) (oSome (eV 3)))) (sSet 2 (eV 3))))) (sSeq (sSetO 4 (eComp (iItems (eC d_MARKS)) (gNm 5) tTest (eV 5) [5])) (sFz 4 (sSeq (sIf (eBin pyEq (eUn pyLen (eO 4)) (eC (.int 0))) (sRet (eC .none)) sNil) (sSeq (sApp 1 (eBin pyIx (eO 4) (eC (.int 0)))) (sAug 2 pyIAdd (eUn pyLen (eBin pyIx (eO 4) (eC (.int 0)))))))))))
theorem sv_tok : sv_tokens_of = (sSeq (sSetO 1 (eLst aNil)) (sSeq (sSet 2 (eC (.int 0))) (sSeq (sWhile tCond tBody 1000) (sFz 1 (sRet (eV 1)))))) := rfl
section
variable {L p r : List Nat} {fd : List (List Nat)} {e3 e4 e5 : Sl}
theorem cond_t (hl : p.length < L.length) (hL : L.length ≤ 1000) : tCond (tE L fd p.length e3 e4 e5) = .ok true := by
  refine eBin_to (eO_vl rfl) (eUn_to (eO_vl rfl) (lenS (by omega))) ?_
  show R.ok (decide ((p.length : Int) < (L.length : Int))) = _
  rw [decide_eq_true (by omega)]
theorem cond_f (hl : L.length ≤ p.length) (hL : L.length ≤ 1000) : tCond (tE L fd p.length e3 e4 e5) = .ok false := by
  refine eBin_to (eO_vl rfl) (eUn_to (eO_vl rfl) (lenS (by omega))) ?_
  show R.ok (decide ((p.length : Int) < (L.length : Int))) = _
  rw [decide_eq_false (by omega)]
theorem get_mid {c : Nat} : (p ++ c :: r)[p.length]? = some c := by rw [List.getElem?_append_right (Nat.le_refl _), Nat.sub_self]; rfl
/-- a space -/
theorem st_sp (hL : (p ++ 32 :: r).length ≤ 1000) : tBody (tE (p ++ 32 :: r) fd p.length e3 e4 e5) = .nx (tE (p ++ 32 :: r) fd (p ++ [32]).length e3 e4 e5) := by
  unfold tBody
  refine (sIf_t (eBin_to (eBin_to (eO_vl rfl) (eO_vl rfl) (ixS get_mid (by omega))) rfl ?_)).trans ((sAug_to (z := .int ((p ++ [32]).length : Nat)) rfl rfl ?_).trans rfl)
  · rfl
  · show R.ok (PyData.int ((p.length : Int) + 1)) = _
    rw [List.length_append]; rfl
theorem nosp {c : Nat} (h : c ≠ 32) : pyEq (sg c) (.str (Str.ofString " ")) = .ok false := by
  have e : tl (Str.ofString " ") = [32] := by decide +kernel
  show R.ok (leq [c] (tl (Str.ofString " "))) = _
  rw [e, leq_ne (by intro z; cases z; exact h rfl)]
theorem insig {c : Nat} (h : c ∈ signL) : pyIn (sg c) d_SIGNS = .ok true := by
  show R.ok (decide (c ∈ signL)) = _
  rw [decide_eq_true h]
theorem nosig {c : Nat} (h : c ∉ signL) : pyIn (sg c) d_SIGNS = .ok false := by
  show R.ok (decide (c ∈ signL)) = _
  rw [decide_eq_false h]
/-- what follows a word -/
def Edge (r : List Nat) : Prop := ∀ c, r[0]? = some c → c ∉ signL
/-- the inner loop -/
theorem st_in {e2 : Nat} {eo : Sl} : ∀ (w p : List Nat) (n : Nat), (∀ c ∈ w, c ∈ signL) → Edge r → (p ++ w ++ r).length ≤ 1000 → w.length < n →
    sWhile tIn (sAug 3 pyIAdd (eC (.int 1))) n [.vl (.str (mkS (p ++ w ++ r))), eo, .vl (.int e2), .vl (.int p.length), e4, e5] = .nx [.vl (.str (mkS (p ++ w ++ r))), eo, .vl (.int e2), .vl (.int (p ++ w).length), e4, e5]
  | [], p, 0, _, _, _, hn => absurd hn (Nat.not_lt_zero _)
  | [], p, n + 1, _, hr, hL, _ => by
    rw [List.append_nil] at hL ⊢
    refine sWhile_f ?_
    unfold tIn
    cases r with
    | nil =>
      rw [List.append_nil] at hL ⊢
      refine and_f (eBin_to (eO_vl rfl) (eUn_to (eO_vl rfl) (lenS (by omega))) ?_)
      show R.ok (decide ((p.length : Int) < (p.length : Int))) = _
      rw [decide_eq_false (by omega)]
    | cons c r =>
      refine and_tt (eBin_to (eO_vl rfl) (eUn_to (eO_vl rfl) (lenS (by omega))) ?_) (eBin_to (eBin_to (eO_vl rfl) (eO_vl rfl) (ixS get_mid (by omega))) rfl (nosig (hr c rfl)))
      show R.ok (decide ((p.length : Int) < ((p ++ c :: r).length : Int))) = _
      rw [decide_eq_true (by simp only [List.length_append, List.length_cons]; omega)]
  | c :: w, p, 0, _, _, _, hn => absurd hn (Nat.not_lt_zero _)
  | c :: w, p, n + 1, hw, hr, hL, hn => by
    have e : p ++ c :: w ++ r = (p ++ [c]) ++ w ++ r := by simp
    have ih := st_in (e2 := e2) (eo := eo) w (p ++ [c]) n (fun x hx => hw x (by simp [hx])) hr (by rw [← e]; exact hL) (by simp only [List.length_cons] at hn; omega)
    have e' : (p ++ [c] ++ w).length = (p ++ c :: w).length := by simp
    rw [← e, e'] at ih
    refine (sWhile_t ?_ ?_).trans ih
    · unfold tIn
      refine and_tt (eBin_to (eO_vl rfl) (eUn_to (eO_vl rfl) (lenS (by omega))) ?_) (eBin_to (eBin_to (eO_vl rfl) (eO_vl rfl) (ixS (c := c) ?_ (by omega))) rfl (insig (hw c (by simp))))
      · show R.ok (decide ((p.length : Int) < ((p ++ c :: w ++ r).length : Int))) = _
        rw [decide_eq_true (by simp only [List.length_append, List.length_cons]; omega)]
      · rw [List.append_assoc]; exact get_mid
    · refine (sAug_to (z := .int ((p ++ [c]).length : Nat)) rfl rfl ?_).trans rfl
      show R.ok (PyData.int ((p.length : Int) + 1)) = _
      rw [List.length_append]; rfl
theorem space_no : (32 : Nat) ∉ signL := by decide +kernel
/-- a word -/
theorem st_word {w : List Nat} (hw : ∀ c ∈ w, c ∈ signL) (h0 : w ≠ []) (hr : Edge r) (hL : (p ++ w ++ r).length ≤ 990) (hf : fd.length ≤ 1000) :
    tBody (tE (p ++ w ++ r) fd p.length e3 e4 e5) = .nx (tE (p ++ w ++ r) (fd ++ [w]) (p ++ w).length (.vl (.int (p ++ w).length)) e4 e5) := by
  obtain ⟨c, w', rfl⟩ : ∃ c w', w = c :: w' := by cases w with | nil => exact (h0 rfl).elim | cons c w' => exact ⟨c, w', rfl⟩
  have hc : c ∈ signL := hw c (by simp)
  have h32 : c ≠ 32 := fun z => space_no (z ▸ hc)
  have hget : (p ++ c :: w' ++ r)[p.length]? = some c := by rw [List.append_assoc]; exact get_mid
  unfold tBody
  refine (sIf_f (eBin_to (eBin_to (eO_vl rfl) (eO_vl rfl) (ixS hget (by omega))) rfl (nosp h32))).trans ?_
  refine (sIf_t (eBin_to (eBin_to (eO_vl rfl) (eO_vl rfl) (ixS hget (by omega))) rfl (insig hc))).trans ?_
  refine (sSeq_nx ((sSet_ok (d := .int p.length) rfl).trans rfl)).trans ?_
  refine (sSeq_nx (st_in (c :: w') p 1000 hw hr (by omega) (by simp only [List.length_append, List.length_cons] at hL ⊢; omega))).trans ?_
  refine (sSeq_nx (sApp_to (d := .str (mkS (c :: w'))) rfl (eSl_to (eO_vl rfl) (oSome_to (eV_vl rfl)) (oSome_to (eV_vl rfl)) (slS_mid (by omega))) (by rw [List.length_map]; omega))).trans ?_
  refine (sSet_ok (eV_vl rfl)).trans ?_
  show SR.nx _ = SR.nx _
  congr 1
  show [_, Sl.ow (.lst (fd.map _ ++ [_])), _, _, _, _] = _
  simp
/-- the marks that stand here -/
theorem st_test {m : List Nat} {a : Nat} (ha : a ≤ L.length) (hL : L.length ≤ 1000) (hm : m.length ≤ 3) {eo : Sl} : tTest [.vl (.str (mkS L)), eo, .vl (.int a), e3, e4, .vl (.str (mkS m))] = .ok (leq ((L.drop a).take m.length) m) := by
  unfold tTest
  refine eBin_to (eSl_to (eO_vl rfl) (oSome_to (eV_vl rfl)) (oSome_to (eBin_to (eO_vl rfl) (eUn_to (eO_vl rfl) (lenS (by omega))) (add_i _ _))) ((slS (i := a) (j := a + m.length) (by omega)))) (eO_vl rfl) ?_
  rw [eqS, tl_mkS, tl_mkS]
  congr 2
  rw [Nat.min_eq_left ha]
  have e : List.take m.length (List.drop a L) = List.take (min m.length (L.length - a)) (List.drop a L) := by
    rw [List.take_eq_take_iff, List.length_drop]
    omega
  rw [e]
  congr 1
  omega
theorem st_marks {a : Nat} (ha : a ≤ L.length) (hL : L.length ≤ 1000) {eo : Sl} : ∀ ms : List (List Nat), (∀ m ∈ ms, m.length ≤ 3) →
    compL (gNm 5) tTest (eV 5) [.vl (.str (mkS L)), eo, .vl (.int a), e3, e4, .no] (ms.map fun m => .str (mkS m)) = .ok ((ms.filter fun m => leq ((L.drop a).take m.length) m).map fun m => .str (mkS m))
  | [], _ => rfl
  | m :: ms, hm => by
    have ih := st_marks (eo := eo) ha hL ms fun x hx => hm x (by simp [hx])
    have ht := st_test (L := L) (m := m) (a := a) (e3 := e3) (e4 := e4) (eo := eo) ha hL (hm m (by simp))
    rw [List.map_cons]
    unfold compL
    show (match tTest [.vl (.str (mkS L)), eo, .vl (.int a), e3, e4, .vl (.str (mkS m))] with | .ok true => _ | .ok false => _ | _ => R.no) = _
    rw [ht]
    cases h : leq ((L.drop a).take m.length) m with
    | true =>
      rw [List.filter_cons_of_pos (by rw [h])]
      dsimp only
      show (R.bnd (compL _ _ _ _ _) _) = _
      rw [ih]; rfl
    | false =>
      rw [List.filter_cons_of_neg (by rw [h]; simp)]
      exact ih
theorem marks3 : ∀ m ∈ marksL, m.length ≤ 3 := by decide +kernel
/-- neither a space nor a sign -/
theorem st_mark {c : Nat} {fs : List (List Nat)} (hc : c ≠ 32) (hs : c ∉ signL) (hL : (p ++ c :: r).length ≤ 990) (hf : (marksL.filter fun m => leq ((c :: r).take m.length) m) = fs) :
    tBody (tE (p ++ c :: r) fd p.length e3 e4 e5) = (sSeq (sIf (eBin pyEq (eUn pyLen (eO 4)) (eC (.int 0))) (sRet (eC .none)) sNil) (sSeq (sApp 1 (eBin pyIx (eO 4) (eC (.int 0)))) (sAug 2 pyIAdd (eUn pyLen (eBin pyIx (eO 4) (eC (.int 0)))))))
      [.vl (.str (mkS (p ++ c :: r))), .ow (.lst (fd.map fun w => .str (mkS w))), .vl (.int p.length), e3, .vl (.list (fs.map fun m => .str (mkS m))), e5] := by
  unfold tBody
  refine (sIf_f (eBin_to (eBin_to (eO_vl rfl) (eO_vl rfl) (ixS get_mid (by omega))) rfl (nosp hc))).trans ?_
  refine (sIf_f (eBin_to (eBin_to (eO_vl rfl) (eO_vl rfl) (ixS get_mid (by omega))) rfl (nosig hs))).trans ?_
  have hcomp : eComp (iItems (eC d_MARKS)) (gNm 5) tTest (eV 5) [5] (tE (p ++ c :: r) fd p.length e3 e4 e5) = .ok (.lst (fs.map fun m => .str (mkS m))) := by
    show (R.ok (marksL.map fun m => PyData.str (mkS m))).bnd _ = _
    rw [bnd_k, if_pos (by decide)]
    have hm := st_marks (L := p ++ c :: r) (a := p.length) (e3 := e3) (e4 := e4) (eo := .ow (.lst (fd.map fun w => .str (mkS w)))) (by simp) (by omega) marksL marks3
    show (compL (gNm 5) tTest (eV 5) [.vl (.str (mkS (p ++ c :: r))), .ow (.lst (fd.map fun w => .str (mkS w))), .vl (.int p.length), e3, e4, .no] _).bnd _ = _
    rw [hm, List.drop_left, hf]
    rfl
  exact (sSeq_nx (sSetO_ok hcomp)).trans (sFz_to (l := fs.map fun m => .str (mkS m)) rfl)
/-- a mark -/
theorem st_mk {m : List Nat} {c : Nat} {m' : List Nat} (hm : m = c :: m') (hc : c ≠ 32) (hs : c ∉ signL) (hf : (marksL.filter fun x => leq ((m ++ r).take x.length) x) = [m]) (hL : (p ++ m ++ r).length ≤ 990) (hl : fd.length ≤ 1000) :
    tBody (tE (p ++ m ++ r) fd p.length e3 e4 e5) = .nx (tE (p ++ m ++ r) (fd ++ [m]) (p ++ m).length e3 (.vl (.list [.str (mkS m)])) e5) := by
  subst hm
  rw [List.append_assoc, List.cons_append] at hL ⊢
  refine (st_mark hc hs hL hf).trans ?_
  refine (sSeq_nx ((sIf_f (show R.ok (decide (((1 : Nat) : Int) = 0)) = _ from rfl)).trans (show sNil _ = SR.nx _ from rfl))).trans ?_
  refine (sSeq_nx (sApp_to (d := .str (mkS (c :: m'))) rfl rfl (by rw [List.length_map]; omega))).trans ?_
  refine (sAug_to (z := .int ((p ++ c :: m').length : Nat)) rfl (eUn_to (x := .str (mkS (c :: m'))) rfl (lenS (by simp only [List.length_append, List.length_cons] at hL ⊢; omega))) ?_).trans ?_
  · show R.ok (PyData.int ((p.length : Int) + ((c :: m').length : Int))) = _
    rw [List.length_append]; rfl
  · show SR.nx _ = SR.nx _
    congr 1
    show [_, Sl.ow (.lst (fd.map _ ++ [_])), _, _, _, _] = _
    simp
/-- no mark -/
theorem st_bad {c : Nat} (hc : c ≠ 32) (hs : c ∉ signL) (hf : (marksL.filter fun x => leq ((c :: r).take x.length) x) = []) (hL : (p ++ c :: r).length ≤ 990) : tBody (tE (p ++ c :: r) fd p.length e3 e4 e5) = .rt .none := by
  refine (st_mark hc hs hL hf).trans ?_
  exact sSeq_rt ((sIf_t (show R.ok (decide (((0 : Nat) : Int) = 0)) = _ from rfl)).trans rfl)
end
theorem take_cons (n : Nat) (c : Nat) (l : List Nat) : (c :: l).take (n + 1) = c :: l.take n := rfl
/-- each mark is found where it stands -/
theorem mk_found : ∀ m ∈ marksL, ∀ r : List Nat, (marksL.filter fun x => leq ((m ++ r).take x.length) x) = [m] := by
  have e : marksL = [[60, 45, 62], [45, 62], [40], [41], [91], [93], [44], [61], [35], [124], [58], [46]] := by decide +kernel
  rw [e]
  intro m hm r
  simp only [List.mem_cons, List.not_mem_nil, or_false] at hm
  rcases hm with rfl | rfl | rfl | rfl | rfl | rfl | rfl | rfl | rfl | rfl | rfl | rfl <;> rfl
theorem mk_head : ∀ m ∈ marksL, ∃ c m', m = c :: m' ∧ c ≠ 32 ∧ c ∉ signL := by
  have h : ∀ m ∈ marksL, (match m with | [] => false | c :: _ => decide (c ≠ 32) && decide (c ∉ signL)) = true := by decide +kernel
  intro m hm
  have := h m hm
  cases m with
  | nil => cases this
  | cons c m' =>
    simp only [Bool.and_eq_true, decide_eq_true_eq] at this
    exact ⟨c, m', rfl, this.1, this.2⟩
def wordsL : List (List Nat) := ["a", "f1", "claim", "12", "_x", "sort", "Zz9"].map cs
theorem words_sig : ∀ w ∈ wordsL, w ≠ [] ∧ ∀ c ∈ w, c ∈ signL := by decide +kernel
theorem word5 : ∀ w ∈ wordsL, w.length ≤ 5 := by decide +kernel

/-! ### a line of pieces -/
/-- spaces, then a piece -/
abbrev Pc := Nat × List Nat
def flat : List Pc → List Nat
  | [] => []
  | (n, w) :: l => List.replicate n 32 ++ w ++ flat l
def isW (w : List Nat) : Prop := w ∈ wordsL
/-- the pieces stand apart; r follows -/
def Apart : List Pc → List Nat → Prop
  | [], _ => True
  | (_, w) :: l, r => (w ∈ wordsL ∨ w ∈ marksL) ∧ (w ∈ wordsL → Edge (flat l ++ r)) ∧ Apart l r
def cost : List Pc → Nat
  | [] => 0
  | (n, _) :: l => n + 1 + cost l
theorem flat_app (a b : List Pc) : flat (a ++ b) = flat a ++ flat b := by
  induction a with
  | nil => rfl
  | cons x a ih => obtain ⟨n, w⟩ := x; show _ ++ _ ++ flat (a ++ b) = _ ++ _ ++ flat a ++ flat b; rw [ih]; simp
section
variable {r : List Nat} {e5 : Sl}
theorem sp_run {L : List Nat} {fd : List (List Nat)} {e3 e4 : Sl} : ∀ (n : Nat) (p q : List Nat) (k : Nat), L = p ++ List.replicate n 32 ++ q → L.length ≤ 990 →
    sWhile tCond tBody (n + k) (tE L fd p.length e3 e4 e5) = sWhile tCond tBody k (tE L fd (p ++ List.replicate n 32).length e3 e4 e5)
  | 0, p, q, k, e, _ => by simp
  | n + 1, p, q, k, e, hL => by
    have e1 : L = p ++ 32 :: (List.replicate n 32 ++ q) := by rw [e, List.replicate_succ]; simp
    have ih := sp_run (fd := fd) (e3 := e3) (e4 := e4) n (p ++ [32]) q k (by rw [e, List.replicate_succ]; simp) hL
    have e2 : (p ++ [32] ++ List.replicate n 32).length = (p ++ List.replicate (n + 1) 32).length := by simp [List.replicate_succ]
    rw [e2] at ih
    rw [show n + 1 + k = (n + k) + 1 by omega]
    refine (sWhile_t (cond_t (by rw [e1]; simp) (by omega)) ?_).trans ih
    rw [e1] at hL ⊢
    exact st_sp (by omega)
theorem run_pieces {L : List Nat} : ∀ (l : List Pc) (p : List Nat) (fd : List (List Nat)) (e3 e4 : Sl) (k : Nat), L = p ++ flat l ++ r → Apart l r → L.length ≤ 990 → fd.length + l.length ≤ 1000 →
    ∃ e3' e4', sWhile tCond tBody (cost l + k) (tE L fd p.length e3 e4 e5) = sWhile tCond tBody k (tE L (fd ++ l.map (·.2)) (p ++ flat l).length e3' e4' e5)
  | [], p, fd, e3, e4, k, _, _, _, _ => ⟨e3, e4, by simp [cost, flat]⟩
  | (n, w) :: l, p, fd, e3, e4, k, e, ha, hL, hf => by
    obtain ⟨hw, hedge, ha⟩ := ha
    have e1 : L = p ++ List.replicate n 32 ++ (w ++ flat l ++ r) := by rw [e]; show p ++ (_ ++ _ ++ _) ++ r = _; simp
    have e2 : L = (p ++ List.replicate n 32) ++ w ++ (flat l ++ r) := by rw [e1]; simp
    have h1 := sp_run (e5 := e5) (fd := fd) (e3 := e3) (e4 := e4) n p _ (1 + cost l + k) e1 hL
    have h2 : ∃ e3' e4', tBody (tE L fd (p ++ List.replicate n 32).length e3 e4 e5) = .nx (tE L (fd ++ [w]) (p ++ List.replicate n 32 ++ w).length e3' e4' e5) := by
      rcases hw with hw | hw
      · obtain ⟨g1, g2⟩ := words_sig w hw
        refine ⟨.vl (.int (p ++ List.replicate n 32 ++ w).length), e4, ?_⟩
        rw [e2] at hL ⊢
        exact st_word g2 g1 (hedge hw) hL (by simp only [List.length_cons] at hf; omega)
      · obtain ⟨c, m', g1, g2, g3⟩ := mk_head w hw
        refine ⟨e3, .vl (.list [.str (mkS w)]), ?_⟩
        rw [e2] at hL ⊢
        exact st_mk g1 g2 g3 (mk_found w hw _) hL (by simp only [List.length_cons] at hf; omega)
    obtain ⟨e3', e4', h2⟩ := h2
    obtain ⟨f3, f4, h3⟩ := run_pieces l (p ++ List.replicate n 32 ++ w) (fd ++ [w]) e3' e4' k (by rw [e2]; simp) ha hL (by simp only [List.length_append, List.length_cons, List.length_nil] at hf ⊢; omega)
    refine ⟨f3, f4, ?_⟩
    have e3 : fd ++ [w] ++ l.map (·.2) = fd ++ ((n, w) :: l).map (·.2) := by simp
    have e4 : (p ++ List.replicate n 32 ++ w ++ flat l) = (p ++ flat ((n, w) :: l)) := by show _ = p ++ (_ ++ _ ++ _); simp
    rw [e3, e4] at h3
    rw [show cost ((n, w) :: l) + k = n + (1 + cost l + k) by show n + 1 + cost l + k = _; omega]
    refine h1.trans (Eq.trans ?_ h3)
    rw [show 1 + cost l + k = (cost l + k) + 1 by omega]
    have hne : w ≠ [] := by
      rcases hw with hw | hw
      · exact (words_sig w hw).1
      · obtain ⟨c, m', g1, _⟩ := mk_head w hw
        rw [g1]; simp
    refine sWhile_t (cond_t ?_ (by omega)) h2
    rw [e2]
    have := List.length_pos_iff.mpr hne
    simp only [List.length_append]; omega
/-- a whole line -/
theorem tokens_ok (l : List Pc) (ha : Apart l []) (hL : (flat l).length ≤ 900) (hc : cost l ≤ 900) (hn : l.length ≤ 900) : f_tokens_of [.str (mkS (flat l))] = .ok (.list (l.map fun q => .str (mkS q.2))) := by
  unfold f_tokens_of
  show (sv_tokens_of [.vl (.str (mkS (flat l))), .no, .no, .no, .no, .no]).r = _
  rw [sv_tok]
  obtain ⟨e3, e4, h⟩ := run_pieces (r := []) (e5 := .no) (L := flat l) l [] [] .no .no (1000 - cost l) (by simp) ha (by omega) (by simp; omega)
  have e : sSeq (sSetO 1 (eLst aNil)) (sSeq (sSet 2 (eC (.int 0))) (sSeq (sWhile tCond tBody 1000) (sFz 1 (sRet (eV 1))))) [.vl (.str (mkS (flat l))), .no, .no, .no, .no, .no] = .rt (.list (l.map fun q => .str (mkS q.2))) := by
    refine (sSeq_nx (env' := [.vl (.str (mkS (flat l))), .ow (.lst []), .no, .no, .no, .no]) rfl).trans ?_
    refine (sSeq_nx (env' := tE (flat l) [] 0 .no .no .no) rfl).trans ?_
    rw [show cost l + (1000 - cost l) = 1000 by omega, show 1000 - cost l = (999 - cost l) + 1 by omega] at h
    have h5 := h.trans (sWhile_f (cond_f (p := [] ++ flat l) (by simp) (by omega)))
    refine (sSeq_nx h5).trans ?_
    refine (sFz_to rfl).trans ((sRet_ok (eV_vl rfl)).trans ?_)
    simp
  rw [e]; rfl
/-- a line with a wrong sign behind it -/
theorem tokens_bad (l : List Pc) {c : Nat} (ha : Apart l [32, c]) (hL : (flat l).length ≤ 900) (hc : cost l ≤ 900) (hn : l.length ≤ 900) (h32 : c ≠ 32) (hs : c ∉ signL) (hf : (marksL.filter fun x => leq ([c].take x.length) x) = []) : f_tokens_of [.str (mkS (flat l ++ [32, c]))] = .ok .none := by
  unfold f_tokens_of
  show (sv_tokens_of [.vl (.str (mkS (flat l ++ [32, c]))), .no, .no, .no, .no, .no]).r = _
  rw [sv_tok]
  obtain ⟨e3, e4, h⟩ := run_pieces (r := [32, c]) (e5 := .no) (L := flat l ++ [32, c]) l [] [] .no .no (1000 - cost l) (by simp) ha (by simp; omega) (by simp; omega)
  have e : sSeq (sSetO 1 (eLst aNil)) (sSeq (sSet 2 (eC (.int 0))) (sSeq (sWhile tCond tBody 1000) (sFz 1 (sRet (eV 1))))) [.vl (.str (mkS (flat l ++ [32, c]))), .no, .no, .no, .no, .no] = .rt .none := by
    refine (sSeq_nx (env' := [.vl (.str (mkS (flat l ++ [32, c]))), .ow (.lst []), .no, .no, .no, .no]) rfl).trans ?_
    refine (sSeq_nx (env' := tE (flat l ++ [32, c]) [] 0 .no .no .no) rfl).trans ?_
    rw [show cost l + (1000 - cost l) = 1000 by omega, show 1000 - cost l = (998 - cost l) + 1 + 1 by omega, List.nil_append, List.nil_append] at h
    refine sSeq_rt (h.trans ?_)
    refine (sWhile_t (cond_t (p := flat l) (by simp) (by simp; omega)) (st_sp (p := flat l) (r := [c]) (by simp; omega))).trans ?_
    have e6 : flat l ++ [32, c] = (flat l ++ [32]) ++ c :: [] := by simp
    rw [e6]
    exact sWhile_rt (cond_t (p := flat l ++ [32]) (by simp) (by simp; omega)) (st_bad h32 hs hf (by simp; omega))
  rw [e]; rfl
end
end Law_k00
namespace Law_k00
open FP PySem PySem.Spec PyProof.Rows L2
def dStr (l : List (List Nat)) : List D := l.map fun w => .str (mkS w)
def lawMarks : List (List Nat) := ["<->", "->", "(", ")", ",", "=", "#", "|", ":", ".", "[", "]"].map cs
abbrev lE (a : D) (d0 d1 : Int) (L : List Nat) (due : List (List Nat)) (bf : List Nat) (e7 e8 e9 e10 : Sl) : FP.Env :=
  [.vl a, .vl (.list (dStr wordsL)), .vl (.list (dStr lawMarks)), .vl (.list [.int d0, .int d1]), .vl (.str (mkS L)), .ow (.lst (dStr due)), .vl (.str (mkS bf)), e7, e8, e9, e10, .no, .no, .no, .no]
def guard : FP.Env → R Bool := (tAndR (eBin pyNe (eO 6) (eC (.str ""))) (tAndR (eBin pyEq (eO 10) (eC (.str ""))) (tOrR (tAndR (eBin pyEq (eBin pyIx (eO 8) (eC (.int 0))) (eC (.int 1))) (eBin pyIn (eO 6) (eO 1))) (tOrR (eBin pyIn (eBin pyAdd (eO 6) (eO 9)) (eO 2)) (tOrR (eBin pyEq (eO 6) (eC (.str "<-"))) (eBin pyIn (eO 6) (eNew (eLst (aCons (eC (.str "-")) (aCons (eC (.str "<")) aNil))))))))))
def lBody : FP.Env → SR := (sSeq (sSet 8 (eCall (aCons (eV 0) (aCons (eBin pyAdd (eC (.int 1)) (eO 7)) (aCons (eNew (eLst (aCons (eC (.int 2)) (aCons (eC (.int 12)) (aCons (eC (.int 7)) (aCons (eC (.int 3)) aNil)))))) aNil))) drawF)) 
  (sSeq (sSet 9 (eIf (eBin pyEq (eBin pyIx (eO 8) (eC (.int 0))) (eC (.int 0))) (eBin pyIx (eO 2) (eBin pyIx (eO 8) (eC (.int 1)))) (eBin pyIx (eO 1) (eBin pyIx (eO 8) (eC (.int 2)))))) 
  (sSeq (sSet 10 (eBin pyMul (eC (.str " ")) (eBin pyIx (eO 8) (eC (.int 3))))) 
  (sSeq (sIf guard (sSet 10 (eC (.str " "))) sNil) 
  (sSeq (sSet 4 (eBin pyAdd (eBin pyAdd (eO 4) (eO 10)) (eO 9))) 
  (sSeq (sApp 5 (eV 9)) (sSet 6 (eV 9))))))))
theorem words_in {w : List Nat} (h : w ∈ wordsL) : pyIn (.str (mkS w)) (.list (dStr wordsL)) = .ok true := by
  show R.ok ((dStr wordsL).any fun z => deqF 64 z (.str (mkS w))) = _
  congr 1
  rw [List.any_eq_true]
  refine ⟨.str (mkS w), List.mem_map.mpr ⟨w, h, rfl⟩, ?_⟩
  show leq w w = true
  exact leq_refl w
theorem in_list (w : List Nat) (l : List D) : ∃ c, pyIn (.str (mkS w)) (.list l) = .ok c := ⟨_, rfl⟩
/-- the guard -/
theorem guard_ok {a : D} {d0 d1 : Int} {L : List Nat} {due : List (List Nat)} {bf pc sp : List Nat} {e7 : Sl} {q0 q1 q2 q3 : Int} (hb : bf.length ≤ 5) (hp : pc.length ≤ 5) : ∃ c, guard (lE a d0 d1 L due bf e7 (.vl (.list [.int q0, .int q1, .int q2, .int q3])) (.vl (.str (mkS pc))) (.vl (.str (mkS sp)))) = .ok c ∧ (bf ∈ wordsL → sp = [] → q0 = 1 → c = true) := by
  have e0 : tl (Str.ofString "") = [] := by decide +kernel
  unfold guard
  cases h1 : leq bf [] with
  | true =>
    refine ⟨false, and_f (eBin_to (eO_vl rfl) rfl ?_), fun hw => ?_⟩
    · rw [neS, tl_mkS, e0, h1]; rfl
    · have := (words_sig bf hw).1
      exact absurd (leq_of h1) this
  | false =>
    have g1 : (eBin pyNe (eO 6) (eC (.str ""))) (lE a d0 d1 L due bf e7 (.vl (.list [.int q0, .int q1, .int q2, .int q3])) (.vl (.str (mkS pc))) (.vl (.str (mkS sp)))) = .ok true := eBin_to (eO_vl rfl) rfl (by rw [neS, tl_mkS, e0, h1]; rfl)
    cases h2 : leq sp [] with
    | false =>
      refine ⟨false, and_tt g1 (and_f (eBin_to (eO_vl rfl) rfl (by rw [eqS, tl_mkS, e0, h2]))), fun _ hs => ?_⟩
      subst hs
      cases h2
    | true =>
      have g2 : (eBin pyEq (eO 10) (eC (.str ""))) (lE a d0 d1 L due bf e7 (.vl (.list [.int q0, .int q1, .int q2, .int q3])) (.vl (.str (mkS pc))) (.vl (.str (mkS sp)))) = .ok true := eBin_to (eO_vl rfl) rfl (by rw [eqS, tl_mkS, e0, h2])
      -- the later alternatives have some answer
      have g4 : ∃ c, (tOrR (eBin pyIn (eBin pyAdd (eO 6) (eO 9)) (eO 2)) (tOrR (eBin pyEq (eO 6) (eC (.str "<-"))) (eBin pyIn (eO 6) (eNew (eLst (aCons (eC (.str "-")) (aCons (eC (.str "<")) aNil))))))) (lE a d0 d1 L due bf e7 (.vl (.list [.int q0, .int q1, .int q2, .int q3])) (.vl (.str (mkS pc))) (.vl (.str (mkS sp)))) = .ok c := by
        have u1 : ∃ c, (eBin pyIn (eBin pyAdd (eO 6) (eO 9)) (eO 2)) (lE a d0 d1 L due bf e7 (.vl (.list [.int q0, .int q1, .int q2, .int q3])) (.vl (.str (mkS pc))) (.vl (.str (mkS sp)))) = .ok c := ⟨_, eBin_to (eBin_to (eO_vl rfl) (eO_vl rfl) (addS (by omega))) (eO_vl rfl) rfl⟩
        have u2 : ∃ c, (eBin pyEq (eO 6) (eC (.str "<-"))) (lE a d0 d1 L due bf e7 (.vl (.list [.int q0, .int q1, .int q2, .int q3])) (.vl (.str (mkS pc))) (.vl (.str (mkS sp)))) = .ok c := ⟨_, eBin_to (eO_vl rfl) rfl rfl⟩
        have u3 : ∃ c, (eBin pyIn (eO 6) (eNew (eLst (aCons (eC (.str "-")) (aCons (eC (.str "<")) aNil))))) (lE a d0 d1 L due bf e7 (.vl (.list [.int q0, .int q1, .int q2, .int q3])) (.vl (.str (mkS pc))) (.vl (.str (mkS sp)))) = .ok c := ⟨_, eBin_to (eO_vl rfl) rfl rfl⟩
        obtain ⟨c1, u1⟩ := u1
        obtain ⟨c2, u2⟩ := u2
        obtain ⟨c3, u3⟩ := u3
        cases c1 with
        | true => exact ⟨true, or_t u1⟩
        | false => cases c2 with
          | true => exact ⟨true, or_ff u1 (or_t u2)⟩
          | false => exact ⟨c3, or_ff u1 (or_ff u2 u3)⟩
      obtain ⟨c4, g4⟩ := g4
      have g3 : ∃ c, (tAndR (eBin pyEq (eBin pyIx (eO 8) (eC (.int 0))) (eC (.int 1))) (eBin pyIn (eO 6) (eO 1))) (lE a d0 d1 L due bf e7 (.vl (.list [.int q0, .int q1, .int q2, .int q3])) (.vl (.str (mkS pc))) (.vl (.str (mkS sp)))) = .ok c ∧ (bf ∈ wordsL → q0 = 1 → c = true) := by
        by_cases hq : q0 = 1
        · refine ⟨_, and_tt (eBin_to (eBin_to (eO_vl rfl) rfl rfl) rfl ?_) (eBin_to (eO_vl rfl) (eO_vl rfl) (show pyIn (.str (mkS bf)) (.list (dStr wordsL)) = .ok ((dStr wordsL).any fun z => deqF 64 z (.str (mkS bf))) from rfl)), fun hw _ => ?_⟩
          · show R.ok (decide (q0 = 1)) = _
            rw [decide_eq_true hq]
          · have := words_in hw
            have e : pyIn (.str (mkS bf)) (.list (dStr wordsL)) = .ok ((dStr wordsL).any fun z => deqF 64 z (.str (mkS bf))) := rfl
            rw [e] at this
            injection this
        · refine ⟨false, and_f (eBin_to (eBin_to (eO_vl rfl) rfl rfl) rfl ?_), fun _ h => (hq h).elim⟩
          show R.ok (decide (q0 = 1)) = _
          rw [decide_eq_false hq]
      obtain ⟨c3, g3, g3'⟩ := g3
      cases c3 with
      | true => exact ⟨true, and_tt g1 (and_tt g2 (or_t g3)), fun _ _ _ => rfl⟩
      | false =>
        refine ⟨c4, and_tt g1 (and_tt g2 (or_ff g3 g4)), fun hw _ hq => ?_⟩
        have := g3' hw hq
        cases this
theorem lawMarks_in : ∀ m ∈ lawMarks, m ∈ marksL := by decide +kernel
theorem marks_len : ∀ m ∈ marksL, m.length ≤ 5 := by decide +kernel
theorem ixD {l : List (List Nat)} {j : Int} (h0 : 0 ≤ j) (h1 : j < l.length) : ∃ w ∈ l, pyIx (.list (dStr l)) (.int j) = .ok (.str (mkS w)) := by
  have hj : j.toNat < l.length := by omega
  refine ⟨l[j.toNat], List.getElem_mem hj, ?_⟩
  show RO (atP (dStr l) j) = _
  unfold atP dStr
  rw [if_pos h0, List.getElem?_map, List.getElem?_eq_getElem hj]
  rfl
theorem spaces_ok {j : Int} (h0 : 0 ≤ j) (h1 : j < 3) : pyMul (.str (Str.ofString " ")) (.int j) = .ok (.str (mkS (List.replicate j.toNat 32))) := by
  have : j = 0 ∨ j = 1 ∨ j = 2 := by omega
  rcases this with rfl | rfl | rfl <;> rfl
theorem one_space : Str.ofString " " = mkS (List.replicate 1 32) := by decide +kernel
/-- one turn of the law's loop -/
theorem body_ok {ns : List Int} {d0 d1 : Int} {L : List Nat} {due : List (List Nat)} {bf : List Nat} {k : Nat} {e8 e9 e10 : Sl} (hk : k ≤ 1000) (hb : bf.length ≤ 5) (hL : L.length ≤ 900) (hd : due.length ≤ 900) :
    ∃ (n : Nat) (pc : List Nat) (e8' e9' e10' : Sl), n ≤ 2 ∧ (pc ∈ wordsL ∨ pc ∈ marksL) ∧ (bf ∈ wordsL → pc ∈ wordsL → n ≠ 0 ∨ pc ∈ marksL) ∧
      lBody (lE (.list (ns.map .int)) d0 d1 L due bf (.vl (.int k)) e8 e9 e10) = .nx (lE (.list (ns.map .int)) d0 d1 (L ++ List.replicate n 32 ++ pc) (due ++ [pc]) pc (.vl (.int k)) e8' e9' e10') := by
  obtain ⟨ds, hdraw, dig⟩ := drawF_ok ns (1 + k) [2, 12, 7, 3] (by omega) (by decide) (by decide)
  obtain ⟨q0, q1, q2, q3, rfl, ⟨a0, b0⟩, ⟨a1, b1⟩, ⟨a2, b2⟩, a3, b3⟩ : ∃ q0 q1 q2 q3 : Int, ds = [q0, q1, q2, q3] ∧ (0 ≤ q0 ∧ q0 < 2) ∧ (0 ≤ q1 ∧ q1 < 12) ∧ (0 ≤ q2 ∧ q2 < 7) ∧ 0 ≤ q3 ∧ q3 < 3 := by
    cases dig with
    | cons x0 y0 t => cases t with
      | cons x1 y1 t => cases t with
        | cons x2 y2 t => cases t with
          | cons x3 y3 t => cases t with
            | nil => exact ⟨_, _, _, _, rfl, ⟨x0, y0⟩, ⟨x1, y1⟩, ⟨x2, y2⟩, x3, y3⟩
  -- the piece
  have hpc : ∃ pc : List Nat, (pc ∈ wordsL ∨ pc ∈ marksL) ∧ (pc ∈ wordsL → q0 = 1 ∨ pc ∈ marksL) ∧ (eIf (eBin pyEq (eBin pyIx (eO 8) (eC (.int 0))) (eC (.int 0))) (eBin pyIx (eO 2) (eBin pyIx (eO 8) (eC (.int 1)))) (eBin pyIx (eO 1) (eBin pyIx (eO 8) (eC (.int 2))))) (lE (.list (ns.map .int)) d0 d1 L due bf (.vl (.int k)) (.vl (.list [.int q0, .int q1, .int q2, .int q3])) e9 e10) = .ok (.str (mkS pc)) := by
    have ht : (eBin pyEq (eBin pyIx (eO 8) (eC (.int 0))) (eC (.int 0))) (lE (.list (ns.map .int)) d0 d1 L due bf (.vl (.int k)) (.vl (.list [.int q0, .int q1, .int q2, .int q3])) e9 e10) = .ok (decide (q0 = 0)) := eBin_to (eBin_to (eO_vl rfl) rfl rfl) rfl rfl
    unfold eIf
    rw [ht, bnd_k]
    by_cases hq : q0 = 0
    · rw [decide_eq_true hq]
      obtain ⟨w, hw, e⟩ := ixD (l := lawMarks) a1 (by exact b1)
      exact ⟨w, .inr (lawMarks_in w hw), fun _ => .inr (lawMarks_in w hw), eBin_to (eO_vl rfl) (eBin_to (eO_vl rfl) rfl rfl) e⟩
    · rw [decide_eq_false hq]
      obtain ⟨w, hw, e⟩ := ixD (l := wordsL) a2 (by exact b2)
      exact ⟨w, .inl hw, fun _ => .inl (by omega), eBin_to (eO_vl rfl) (eBin_to (eO_vl rfl) rfl rfl) e⟩
  obtain ⟨pc, hin, hq0, hpc⟩ := hpc
  have hpl : pc.length ≤ 5 := hin.elim (word5 pc) (marks_len pc)
  obtain ⟨c, hg, hgc⟩ := guard_ok (a := .list (ns.map .int)) (d0 := d0) (d1 := d1) (L := L) (due := due) (bf := bf) (pc := pc) (sp := List.replicate q3.toNat 32) (e7 := .vl (.int k)) (q0 := q0) (q1 := q1) (q2 := q2) (q3 := q3) hb hpl
  -- the spaces
  have hsp : ∃ n : Nat, n ≤ 2 ∧ (bf ∈ wordsL → pc ∈ wordsL → n ≠ 0 ∨ pc ∈ marksL) ∧ sIf guard (sSet 10 (eC (.str " "))) sNil (lE (.list (ns.map .int)) d0 d1 L due bf (.vl (.int k)) (.vl (.list [.int q0, .int q1, .int q2, .int q3])) (.vl (.str (mkS pc))) (.vl (.str (mkS (List.replicate q3.toNat 32))))) =
      .nx (lE (.list (ns.map .int)) d0 d1 L due bf (.vl (.int k)) (.vl (.list [.int q0, .int q1, .int q2, .int q3])) (.vl (.str (mkS pc))) (.vl (.str (mkS (List.replicate n 32))))) := by
    cases c with
    | true => exact ⟨1, by decide, fun _ _ => .inl (by decide), (sIf_t hg).trans (by rw [← one_space]; rfl)⟩
    | false =>
      refine ⟨q3.toNat, by omega, fun h1 h2 => ?_, (sIf_f hg).trans rfl⟩
      by_cases hn : q3.toNat = 0
      · rcases hq0 h2 with h | h
        · have := hgc h1 (by rw [hn]; rfl) h
          cases this
        · exact .inr h
      · exact .inl hn
  obtain ⟨n, hn, hn2, hsp⟩ := hsp
  refine ⟨n, pc, .vl (.list [.int q0, .int q1, .int q2, .int q3]), .vl (.str (mkS pc)), .vl (.str (mkS (List.replicate n 32))), hn, hin, hn2, ?_⟩
  unfold lBody
  refine (sSeq_nx ((sSet_ok (d := .list [.int q0, .int q1, .int q2, .int q3]) (eCall_to (aCons_to rfl (aCons_to (d := .int (1 + k : Nat)) ?_ (aCons_to (d := .list [.int 2, .int 12, .int 7, .int 3]) rfl rfl))) hdraw)).trans rfl)).trans ?_
  · show R.ok (PyData.int (1 + (k : Int))) = _
    rw [Int.natCast_add]; rfl
  refine (sSeq_nx ((sSet_ok hpc).trans rfl)).trans ?_
  refine (sSeq_nx ((sSet_ok (eBin_to rfl (eBin_to (eO_vl rfl) rfl rfl) (spaces_ok a3 b3))).trans rfl)).trans ?_
  refine (sSeq_nx hsp).trans ?_
  refine (sSeq_nx ((sSet_ok (eBin_to (eBin_to (eO_vl rfl) (eO_vl rfl) (addS (by rw [List.length_replicate]; omega))) (eO_vl rfl) (addS (by rw [List.length_append, List.length_replicate]; omega)))).trans rfl)).trans ?_
  refine (sSeq_nx (sApp_to (d := .str (mkS pc)) rfl rfl (by unfold dStr; rw [List.length_map]; omega))).trans ?_
  refine (sSet_ok (d := .str (mkS pc)) rfl).trans ?_
  show SR.nx _ = SR.nx _
  congr 1
  show [_, _, _, _, _, Sl.ow (.lst (dStr due ++ [_])), _, _, _, _, _, _, _, _, _] = _
  simp [dStr]
/-! ### the whole line -/
def lastW (l : List Pc) : List Nat := (l.getLast?.map (·.2)).getD []
theorem lastW_snoc (l : List Pc) (x : Pc) : lastW (l ++ [x]) = x.2 := by unfold lastW; simp
theorem apart_app : ∀ (l m : List Pc) (r : List Nat), Apart l (flat m ++ r) → Apart m r → Apart (l ++ m) r
  | [], _, _, _, h => h
  | (n, w) :: l, m, r, ⟨h1, h2, h3⟩, h => ⟨h1, fun hw => by show Edge (flat (l ++ m) ++ r); rw [flat_app, List.append_assoc]; exact h2 hw, apart_app l m r h3 h⟩
theorem cost_app (a b : List Pc) : cost (a ++ b) = cost a + cost b := by
  induction a with
  | nil => simp [cost]
  | cons x a ih => obtain ⟨n, w⟩ := x; show n + 1 + cost (a ++ b) = n + 1 + cost a + cost b; omega
structure Lin (l : List Pc) : Prop where
  ap : ∀ r, (lastW l ∈ wordsL → Edge r) → Apart l r
  fl : (flat l).length ≤ 7 * l.length
  co : cost l ≤ 3 * l.length
  la : (lastW l).length ≤ 5
theorem lin_nil : Lin [] := ⟨fun _ _ => trivial, Nat.le_refl _, Nat.le_refl _, by decide⟩
theorem mark_edge {m : List Nat} (h : m ∈ marksL) (r : List Nat) : Edge (m ++ r) := by
  obtain ⟨c, m', rfl, _, hs⟩ := mk_head m h
  intro x hx
  cases hx
  exact hs
theorem lin_snoc {l : List Pc} {n : Nat} {pc : List Nat} (h : Lin l) (hn : n ≤ 2) (hin : pc ∈ wordsL ∨ pc ∈ marksL) (hs : lastW l ∈ wordsL → pc ∈ wordsL → n ≠ 0 ∨ pc ∈ marksL) : Lin (l ++ [(n, pc)]) := by
  have hpl : pc.length ≤ 5 := hin.elim (word5 pc) (marks_len pc)
  have ef : flat [(n, pc)] = List.replicate n 32 ++ pc := by show List.replicate n 32 ++ pc ++ [] = _; rw [List.append_nil]
  refine ⟨fun r hr => ?_, ?_, ?_, ?_⟩
  · rw [lastW_snoc] at hr
    refine apart_app l [(n, pc)] r (h.ap _ fun hw => ?_) ⟨hin, fun hw => by simpa [flat] using hr hw, trivial⟩
    rw [ef]
    cases n with
    | zero =>
      rw [List.replicate_zero, List.nil_append]
      rcases hin with hp | hp
      · rcases hs hw hp with h | h
        · exact (h rfl).elim
        · exact mark_edge h r
      · exact mark_edge hp r
    | succ n =>
      intro c hc
      rw [List.replicate_succ] at hc
      cases hc
      exact space_no
  · rw [flat_app, ef]
    have := h.fl
    simp only [List.length_append, List.length_replicate, List.length_cons, List.length_nil]; omega
  · rw [cost_app]
    have := h.co
    have e : cost [(n, pc)] = n + 1 := rfl
    simp only [List.length_append, List.length_cons, List.length_nil]; omega
  · rw [lastW_snoc]; exact hpl
theorem loop_ok {ns : List Int} {d0 d1 : Int} : ∀ (n j : Nat) (l : List Pc) (e7 e8 e9 e10 : Sl), Lin l → l.length = j → j + n ≤ 20 →
    ∃ (l' : List Pc) (e7' e8' e9' e10' : Sl), Lin l' ∧ l'.length ≤ 20 ∧ sFor (gNm 7) lBody ((List.range' j n).map fun i : Nat => PyData.int (i : Int)) (lE (.list (ns.map .int)) d0 d1 (flat l) (l.map (·.2)) (lastW l) e7 e8 e9 e10) =
      .nx (lE (.list (ns.map .int)) d0 d1 (flat l') (l'.map (·.2)) (lastW l') e7' e8' e9' e10')
  | 0, j, l, e7, e8, e9, e10, h, hj, hn => ⟨l, e7, e8, e9, e10, h, by omega, rfl⟩
  | n + 1, j, l, e7, e8, e9, e10, h, hj, hn => by
    have hfl := h.fl
    obtain ⟨m, pc, e8', e9', e10', g1, g2, g3, g4⟩ := body_ok (ns := ns) (d0 := d0) (d1 := d1) (L := flat l) (due := l.map (·.2)) (bf := lastW l) (k := j) (e8 := e8) (e9 := e9) (e10 := e10) (by omega) h.la (by omega) (by rw [List.length_map]; omega)
    have h' := lin_snoc h g1 g2 g3
    obtain ⟨l', f7, f8, f9, f10, k1, k2, k3⟩ := loop_ok (ns := ns) (d0 := d0) (d1 := d1) n (j + 1) (l ++ [(m, pc)]) (.vl (.int j)) e8' e9' e10' h' (by simp; omega) (by omega)
    refine ⟨l', f7, f8, f9, f10, k1, k2, ?_⟩
    rw [List.range'_succ, List.map_cons]
    refine (sFor_nx rfl g4).trans ?_
    rw [flat_app, lastW_snoc, List.map_append] at k3
    have ef : flat [(m, pc)] = List.replicate m 32 ++ pc := by show List.replicate m 32 ++ pc ++ [] = _; rw [List.append_nil]
    rw [ef, ← List.append_assoc] at k3
    exact k3
/-! ### behind the line -/
theorem fr_eq : ∀ n : Nat, fr__law_strictly n = strictF n
  | 0 => rfl
  | n + 1 => by
    show (fun ds => (sv__law_strictly (fr__law_strictly n) (env0 3 ds)).r) = fun ds => (strictSV (strictF n) (env0 3 ds)).r
    rw [fr_eq n]
    rfl
theorem strict_strs (l : List (List Nat)) (h : l.length ≤ 1000000) : f__law_strictly [.list (dStr l), .list (dStr l)] = .ok (.bool true) := by
  show fr__law_strictly 4 _ = _
  rw [fr_eq]
  refine strict_refl 3 _ ?_
  simp only [plainD, dStr, List.length_map, Bool.and_eq_true, decide_eq_true_eq, List.all_eq_true, List.mem_map]
  refine ⟨h, ?_⟩
  rintro x ⟨w, _, rfl⟩
  rfl
def BadC (c : Nat) : Prop := c ≠ 32 ∧ c ∉ signL ∧ (marksL.filter fun x => leq ([c].take x.length) x) = []
theorem bad5 : ∀ c ∈ [59, 43, 63, 45, 60], BadC c := by
  have : ∀ c ∈ [59, 43, 63, 45, 60], c ≠ 32 ∧ c ∉ signL ∧ (marksL.filter fun x => leq ([c].take x.length) x) = [] := by decide +kernel
  exact this
theorem badS {d1 : Int} (h0 : 0 ≤ d1) (h1 : d1 < 5) : ∃ c, BadC c ∧ f__law_sign [.int d1] = .ok (sg c) := by
  have : d1 = 0 ∨ d1 = 1 ∨ d1 = 2 ∨ d1 = 3 ∨ d1 = 4 := by omega
  have key : ∀ c ∈ [33, 42, 47, 64, 39], c ≠ 32 ∧ c ∉ signL ∧ (marksL.filter fun x => leq ([c].take x.length) x) = [] := by decide +kernel
  rcases this with rfl | rfl | rfl | rfl | rfl
  · exact ⟨33, key 33 (by simp), rfl⟩
  · exact ⟨42, key 42 (by simp), rfl⟩
  · exact ⟨47, key 47 (by simp), rfl⟩
  · exact ⟨64, key 64 (by simp), rfl⟩
  · exact ⟨39, key 39 (by simp), rfl⟩
def wBody : FP.Env → SR := (sIf (tNotNn (eCall (aCons (eBin pyAdd (eBin pyAdd (eO 4) (eC (.str " "))) (eO 11)) aNil) f_tokens_of)) (sRet (eC (.bool false))) sNil)
abbrev mE (a b c : D) (d0 d1 : Int) (L : List Nat) (e5 e6 e7 e8 e9 e10 e11 e12 e13 e14 : Sl) : FP.Env :=
  [.vl a, .vl b, .vl c, .vl (.list [.int d0, .int d1]), .vl (.str (mkS L)), e5, e6, e7, e8, e9, e10, e11, e12, e13, e14]
theorem wrong_ok {a b c : D} {d0 d1 : Int} {l : List Pc} (hl : Lin l) (hn : l.length ≤ 20) {e5 e6 e7 e8 e9 e10 e12 e13 e14 : Sl} : ∀ (xs : List Nat) (e11 : Sl), (∀ x ∈ xs, BadC x) →
    ∃ e11', sFor (gNm 11) wBody (xs.map sg) (mE a b c d0 d1 (flat l) e5 e6 e7 e8 e9 e10 e11 e12 e13 e14) = .nx (mE a b c d0 d1 (flat l) e5 e6 e7 e8 e9 e10 e11' e12 e13 e14)
  | [], e11, _ => ⟨e11, rfl⟩
  | x :: xs, e11, h => by
    obtain ⟨b1, b2, b3⟩ := h x (by simp)
    have hf := hl.fl
    have hc := hl.co
    obtain ⟨e11', e⟩ := wrong_ok (a := a) (b := b) (c := c) (d0 := d0) (d1 := d1) hl hn (e5 := e5) (e6 := e6) (e7 := e7) (e8 := e8) (e9 := e9) (e10 := e10) (e12 := e12) (e13 := e13) (e14 := e14) xs (.vl (sg x)) fun y hy => h y (by simp [hy])
    refine ⟨e11', ?_⟩
    rw [List.map_cons]
    refine (sFor_nx (env1 := mE a b c d0 d1 (flat l) e5 e6 e7 e8 e9 e10 (.vl (sg x)) e12 e13 e14) rfl ?_).trans e
    unfold wBody
    have ht : f_tokens_of [.str (mkS (flat l ++ [32, x]))] = .ok .none := tokens_bad l (hl.ap _ fun _ c hc => by cases hc; exact space_no) (by omega) (by omega) (by omega) b1 b2 b3
    refine (sIf_f ?_).trans rfl
    unfold tNotNn
    have e4 : eCall (aCons (eBin pyAdd (eBin pyAdd (eO 4) (eC (.str " "))) (eO 11)) aNil) f_tokens_of (mE a b c d0 d1 (flat l) e5 e6 e7 e8 e9 e10 (.vl (sg x)) e12 e13 e14) = .ok .none := by
      refine eCall_to (aCons_to (d := .str (mkS (flat l ++ [32, x]))) (eBin_to (eBin_to (eO_vl rfl) (x := .str (mkS (flat l))) (y := .str (mkS [32])) ?_ (addS (by simp; omega))) (eO_vl rfl) ((addS (b := [x]) (by simp; omega)).trans (by rw [List.append_assoc]; rfl))) rfl) ht
      show R.ok (PyData.str (Str.ofString " ")) = _
      rw [one_space]; rfl
    rw [e4]; rfl
def nBody : FP.Env → SR := (sIf (eBin pyNe (eCall (aCons (eV 12) aNil) f_is_name) (eO 5)) (sRet (eC (.bool false))) sNil)
def nTg : Tg := (gTp 2 (gsCons (gNm 12) (gsCons (gNm 5) gsNil)))
theorem names_ok {a b c : D} {d0 d1 : Int} {L : List Nat} {e6 e7 e8 e9 e10 e11 e13 e14 : Sl} : ∀ (xs : List (Str × Bool)) (e5 e12 : Sl), (∀ x ∈ xs, f_is_name [.str x.1] = .ok (.bool x.2)) →
    ∃ e5' e12', sFor nTg nBody (xs.map fun x => .tuple [.str x.1, .bool x.2]) (mE a b c d0 d1 L e5 e6 e7 e8 e9 e10 e11 e12 e13 e14) = .nx (mE a b c d0 d1 L e5' e6 e7 e8 e9 e10 e11 e12' e13 e14)
  | [], e5, e12, _ => ⟨e5, e12, rfl⟩
  | x :: xs, e5, e12, h => by
    obtain ⟨e5', e12', e⟩ := names_ok (a := a) (b := b) (c := c) (d0 := d0) (d1 := d1) (L := L) (e6 := e6) (e7 := e7) (e8 := e8) (e9 := e9) (e10 := e10) (e11 := e11) (e13 := e13) (e14 := e14) xs (.vl (.bool x.2)) (.vl (.str x.1)) fun y hy => h y (by simp [hy])
    refine ⟨e5', e12', ?_⟩
    rw [List.map_cons]
    refine (sFor_nx (env1 := mE a b c d0 d1 L (.vl (.bool x.2)) e6 e7 e8 e9 e10 e11 (.vl (.str x.1)) e13 e14) rfl ?_).trans e
    unfold nBody
    refine (sIf_f (eBin_to (eCall_to (aCons_to (eV_vl rfl) rfl) (h x (by simp))) (eO_vl rfl) ?_)).trans rfl
    cases x.2 <;> rfl
def someNames : List (Str × Bool) := [(mkS (List.replicate 12 97), true), (mkS (List.replicate 13 97), false), ("", false), ("1a", false), ("_", true), ("a-b", false), ("or", false), ("some", false), ("orr", true), ("a b", false)]
theorem someNames_ok : ∀ x ∈ someNames, f_is_name [.str x.1] = .ok (.bool x.2) := by
  intro x hx
  simp only [someNames, List.mem_cons, List.not_mem_nil, or_false] at hx
  rcases hx with rfl | rfl | rfl | rfl | rfl | rfl | rfl | rfl | rfl | rfl <;> rfl
end Law_k00
namespace Law_k00
open FP PySem PySem.Spec PyProof.Rows L2
def tRows : FP.Env → SR := (sSeq (sSet 14 (eM1 joinF (eC (.str "")) (eNew (eComp (iItems (eV 13)) (gNm 8) tYesR (eBin pyAdd (eO 8) (eC (.str "\n"))) [8])))) 
  (sSeq (sIf (tNotR (eB (eCall (aCons (eV 13) (aCons (eCall (aCons (eV 14) aNil) f_lines_of) aNil)) f__law_strictly))) (sRet (eC (.bool false))) sNil) (sRet (eCall (aCons (eBin pyAdd (eO 13) (eNew (eLst (aCons (eC (.str "end")) aNil)))) (aCons (eCall (aCons (eBin pyAdd (eO 14) (eC (.str "end"))) aNil) f_lines_of) aNil)) f__law_strictly))))
def rowsD (u v : Nat) : List D := ([.str (mkS (List.replicate u 120)), .str "", .str "y"] : List D).take v
theorem rows_true {a b c : D} {d0 d1 : Int} {L : List Nat} {e5 e6 e7 e8 e9 e10 e11 e12 e14 : Sl} {u v : Nat} (hu : u < 3) (hv : v < 4) : tRows (mE a b c d0 d1 L e5 e6 e7 e8 e9 e10 e11 e12 (.vl (.list (rowsD u v))) e14) = .rt (.bool true) := by
  have hu : u = 0 ∨ u = 1 ∨ u = 2 := by omega
  have hv : v = 0 ∨ v = 1 ∨ v = 2 ∨ v = 3 := by omega
  rcases hu with rfl | rfl | rfl <;> rcases hv with rfl | rfl | rfl | rfl <;> kernel_rfl
theorem mod_nat (d m : Int) (h : 0 < m) : ∃ u : Nat, (u : Int) = d % m ∧ (u : Int) < m := by
  have h0 : 0 ≤ d % m := Int.emod_nonneg _ (by omega)
  have h1 : d % m < m := Int.emod_lt_of_pos _ h
  exact ⟨(d % m).toNat, by omega, by omega⟩
theorem rows_set {a b c : D} {d0 d1 : Int} {L : List Nat} {e5 e6 e7 e8 e9 e10 e11 e12 e13 e14 : Sl} : ∃ u v : Nat, u < 3 ∧ v < 4 ∧ (eSl (eNew (eLst (aCons (eBin pyMul (eC (.str "x")) (eBin pyMod (eBin pyIx (eO 3) (eC (.int 0))) (eC (.int 3)))) (aCons (eC (.str "")) (aCons (eC (.str "y")) aNil))))) oNone (oSome (eBin pyMod (eBin pyIx (eO 3) (eC (.int 1))) (eC (.int 4)))))
    (mE a b c d0 d1 L e5 e6 e7 e8 e9 e10 e11 e12 e13 e14) = .ok (.list (rowsD u v)) := by
  obtain ⟨u, hu, hu3⟩ := mod_nat d0 3 (by decide)
  obtain ⟨v, hv, hv4⟩ := mod_nat d1 4 (by decide)
  have hu3 : u < 3 := by omega
  have hv4 : v < 4 := by omega
  refine ⟨u, v, hu3, hv4, ?_⟩
  have ix0 : (eBin pyMod (eBin pyIx (eO 3) (eC (.int 0))) (eC (.int 3))) (mE a b c d0 d1 L e5 e6 e7 e8 e9 e10 e11 e12 e13 e14) = .ok (.int u) := eBin_to (eBin_to (eO_vl rfl) rfl rfl) rfl ((mod_pos d0 (by decide)).trans (by rw [hu]))
  have ix1 : (eBin pyMod (eBin pyIx (eO 3) (eC (.int 1))) (eC (.int 4))) (mE a b c d0 d1 L e5 e6 e7 e8 e9 e10 e11 e12 e13 e14) = .ok (.int v) := eBin_to (eBin_to (eO_vl rfl) rfl rfl) rfl ((mod_pos d1 (by decide)).trans (by rw [hv]))
  have m : pyMul (.str "x") (.int u) = .ok (.str (mkS (List.replicate u 120))) := by
    have hu' : u = 0 ∨ u = 1 ∨ u = 2 := by omega
    rcases hu' with rfl | rfl | rfl <;> rfl
  refine eSl_to (x := .list [.str (mkS (List.replicate u 120)), .str "", .str "y"]) (lo := none) (hi := some (v : Int)) (eNew_to (o := .lst [.str (mkS (List.replicate u 120)), .str "", .str "y"]) ?_) rfl (oSome_to ix1) ?_
  · unfold eLst
    rw [aCons_to (d := .str (mkS (List.replicate u 120))) (ds := [.str "", .str "y"]) (eBin_to rfl ix0 m) rfl]
    rfl
  · have hv' : v = 0 ∨ v = 1 ∨ v = 2 ∨ v = 3 := by omega
    rcases hv' with rfl | rfl | rfl | rfl <;> rfl
def wItems : FP.Env → R (List D) := (iItems (eNew (eLst (aCons (eC (.str ";")) (aCons (eC (.str "+")) (aCons (eC (.str "?")) (aCons (eC (.str "-")) (aCons (eC (.str "<")) (aCons (eCall (aCons (eBin pyIx (eO 3) (eC (.int 1))) aNil) f__law_sign) aNil)))))))))
def nItems : FP.Env → R (List D) := (iItems (eNew (eLst (aCons (eTup (aCons (eBin pyMul (eC (.str "a")) (eC (.int 12))) (aCons (eC (.bool true)) aNil))) (aCons (eTup (aCons (eBin pyMul (eC (.str "a")) (eC (.int 13))) (aCons (eC (.bool false)) aNil))) (aCons (eTup (aCons (eC (.str "")) (aCons (eC (.bool false)) aNil))) (aCons (eTup (aCons (eC (.str "1a")) (aCons (eC (.bool false)) aNil))) (aCons (eTup (aCons (eC (.str "_")) (aCons (eC (.bool true)) aNil))) (aCons (eTup (aCons (eC (.str "a-b")) (aCons (eC (.bool false)) aNil))) (aCons (eTup (aCons (eC (.str "or")) (aCons (eC (.bool false)) aNil))) (aCons (eTup (aCons (eC (.str "some")) (aCons (eC (.bool false)) aNil))) (aCons (eTup (aCons (eC (.str "orr")) (aCons (eC (.bool true)) aNil))) (aCons (eTup (aCons (eC (.str "a b")) (aCons (eC (.bool false)) aNil))) aNil)))))))))))))
theorem nItems_ok (env : FP.Env) : nItems env = .ok (someNames.map fun x => .tuple [.str x.1, .bool x.2]) := by kernel_rfl
def wordsE : FP.Env → R D := (eNew (eLst (aCons (eC (.str "a")) (aCons (eC (.str "f1")) (aCons (eC (.str "claim")) (aCons (eC (.str "12")) (aCons (eC (.str "_x")) (aCons (eC (.str "sort")) (aCons (eC (.str "Zz9")) aNil)))))))))
def marksE : FP.Env → R D := (eNew (eLst (aCons (eC (.str "<->")) (aCons (eC (.str "->")) (aCons (eC (.str "(")) (aCons (eC (.str ")")) (aCons (eC (.str ",")) (aCons (eC (.str "=")) (aCons (eC (.str "#")) (aCons (eC (.str "|")) (aCons (eC (.str ":")) (aCons (eC (.str ".")) (aCons (eC (.str "[")) (aCons (eC (.str "]")) aNil))))))))))))))
def theLaw : FP.Env → SR :=
  (sSeq (sSet 1 wordsE) (sSeq (sSet 2 marksE) (sSeq (sSet 3 (eCall (aCons (eV 0) (aCons (eC (.int 0)) (aCons (eNew (eLst (aCons (eC (.int 9)) (aCons (eC (.int 5)) aNil)))) aNil))) drawF)) 
  (sSeq (sPar 4 5 (mCons (eC (.str "")) (mConsO (eLst aNil) mNil))) (sSeq (sSet 6 (eC (.str ""))) 
  (sSeq (sForE (iRng1 (eBin pyIx (eO 3) (eC (.int 0)))) (gNm 7) lBody)
  (sSeq (sFz 5 (sIf (tNotR (eB (eCall (aCons (eV 5) (aCons (eCall (aCons (eV 4) aNil) f_tokens_of) aNil)) f__law_strictly))) (sRet (eC (.bool false))) sNil)) 
  (sSeq (sForE wItems (gNm 11) wBody) (sSeq (sForE nItems nTg nBody)
  (sSeq (sSet 13 (eSl (eNew (eLst (aCons (eBin pyMul (eC (.str "x")) (eBin pyMod (eBin pyIx (eO 3) (eC (.int 0))) (eC (.int 3)))) (aCons (eC (.str "")) (aCons (eC (.str "y")) aNil))))) oNone (oSome (eBin pyMod (eBin pyIx (eO 3) (eC (.int 1))) (eC (.int 4))))))
  tRows))))))))))
theorem theLaw_eq : sv_law = theLaw := rfl
theorem law_run (ns : List Int) : theLaw [.vl (.list (ns.map .int)), .no, .no, .no, .no, .no, .no, .no, .no, .no, .no, .no, .no, .no, .no] = .rt (.bool true) := by
  obtain ⟨ds, hdraw, dig⟩ := drawF_ok ns 0 [9, 5] (by omega) (by decide) (by decide)
  obtain ⟨d0, d1, rfl, ⟨a0, b0⟩, a1, b1⟩ : ∃ d0 d1 : Int, ds = [d0, d1] ∧ (0 ≤ d0 ∧ d0 < 9) ∧ 0 ≤ d1 ∧ d1 < 5 := by
    cases dig with
    | cons x0 y0 t => cases t with
      | cons x1 y1 t => cases t with
        | nil => exact ⟨_, _, rfl, ⟨x0, y0⟩, x1, y1⟩
  obtain ⟨n, rfl⟩ : ∃ n : Nat, d0 = n := ⟨d0.toNat, by omega⟩
  obtain ⟨l, e7, e8, e9, e10, hlin, hlen, hloop⟩ := loop_ok (ns := ns) (d0 := n) (d1 := d1) n 0 [] .no .no .no .no lin_nil rfl (by omega)
  have hf := hlin.fl
  have hc := hlin.co
  obtain ⟨c, hcb, hsign⟩ := badS a1 b1
  have hw : ∀ x ∈ [59, 43, 63, 45, 60, c], BadC x := fun x hx => by
    rcases List.mem_append.mp (show x ∈ [59, 43, 63, 45, 60] ++ [c] from hx) with h | h
    · exact bad5 x h
    · rw [List.mem_singleton.mp h]; exact hcb
  have htok := tokens_ok l (hlin.ap [] fun _ c hc => by cases hc) (by omega) (by omega) (by omega)
  unfold theLaw
  refine (sSeq_nx ((sSet_ok (d := .list (dStr wordsL)) rfl).trans rfl)).trans ?_
  refine (sSeq_nx ((sSet_ok (d := .list (dStr lawMarks)) rfl).trans rfl)).trans ?_
  refine (sSeq_nx ((sSet_ok (d := .list [.int n, .int d1]) (eCall_to (aCons_to rfl (aCons_to (d := .int (0 : Nat)) rfl (aCons_to (d := .list [.int 9, .int 5]) rfl rfl))) hdraw)).trans rfl)).trans ?_
  refine (sSeq_nx (show _ = SR.nx [.vl (.list (ns.map .int)), .vl (.list (dStr wordsL)), .vl (.list (dStr lawMarks)), .vl (.list [.int n, .int d1]), .vl (.str (mkS [])), .ow (.lst []), .no, .no, .no, .no, .no, .no, .no, .no, .no] from rfl)).trans ?_
  refine (sSeq_nx (env' := lE (.list (ns.map .int)) n d1 (flat []) (([] : List Pc).map (·.2)) (lastW []) .no .no .no .no) rfl).trans ?_
  refine (sSeq_nx ((sForE_ok (iRng1_to (n := n) (eBin_to (eO_vl rfl) rfl rfl) (by omega))).trans hloop)).trans ?_
  refine (sSeq_nx ((sFz_to rfl).trans ((sIf_f (tNot_to (c := true) (eB_to (eCall_to (aCons_to (eV_vl rfl) (aCons_to (eCall_to (aCons_to (eV_vl rfl) rfl) htok) rfl)) ?_)))).trans rfl))).trans ?_
  · have e : (l.map fun q => PyData.str (mkS q.2)) = dStr (l.map (·.2)) := by unfold dStr; rw [List.map_map]; rfl
    rw [e]
    exact strict_strs _ (by rw [List.length_map]; omega)
  obtain ⟨e11, h11⟩ := wrong_ok (a := .list (ns.map .int)) (b := .list (dStr wordsL)) (c := .list (dStr lawMarks)) (d0 := n) (d1 := d1) hlin hlen (e5 := .vl (.list (dStr (l.map (·.2))))) (e6 := .vl (.str (mkS (lastW l)))) (e7 := e7) (e8 := e8) (e9 := e9) (e10 := e10) (e12 := .no) (e13 := .no) (e14 := .no) [59, 43, 63, 45, 60, c] .no hw
  refine (sSeq_nx ((sForE_ok (ds := [59, 43, 63, 45, 60, c].map sg) ?_).trans h11)).trans ?_
  · unfold wItems FP.iItems
    rw [eNew_to (o := .lst ([59, 43, 63, 45, 60, c].map sg))]
    · rfl
    · unfold eLst
      rw [aCons_to (d := sg 59) (ds := [43, 63, 45, 60, c].map sg) rfl (aCons_to (d := sg 43) rfl (aCons_to (d := sg 63) rfl (aCons_to (d := sg 45) rfl (aCons_to (d := sg 60) rfl (aCons_to (d := sg c) (ds := []) (eCall_to (aCons_to (eBin_to (eO_vl rfl) rfl rfl) rfl) hsign) rfl)))))]
      rfl
  obtain ⟨e5, e12, h12⟩ := names_ok (a := .list (ns.map .int)) (b := .list (dStr wordsL)) (c := .list (dStr lawMarks)) (d0 := n) (d1 := d1) (L := flat l) (e6 := .vl (.str (mkS (lastW l)))) (e7 := e7) (e8 := e8) (e9 := e9) (e10 := e10) (e11 := e11) (e13 := .no) (e14 := .no) someNames (.vl (.list (dStr (l.map (·.2))))) .no someNames_ok
  refine (sSeq_nx ((sForE_ok (nItems_ok _)).trans h12)).trans ?_
  obtain ⟨u, v, hu, hv, hrows⟩ := rows_set (a := .list (ns.map .int)) (b := .list (dStr wordsL)) (c := .list (dStr lawMarks)) (d0 := n) (d1 := d1) (L := flat l) (e5 := e5) (e6 := .vl (.str (mkS (lastW l)))) (e7 := e7) (e8 := e8) (e9 := e9) (e10 := e10) (e11 := e11) (e12 := e12) (e13 := .no) (e14 := .no)
  exact (sSeq_nx ((sSet_ok hrows).trans rfl)).trans (rows_true hu hv)
theorem law_true (ns : List Int) (hl : ns.length ≤ 63) (hb : ∀ z ∈ ns, Builtin.Int.intBits z ≤ 1048576) : f_law [.list (ns.map .int)] = .ok (.bool true) := by
  unfold f_law
  rw [theLaw_eq, show env0 15 [.list (ns.map .int)] = [.vl (.list (ns.map .int)), .no, .no, .no, .no, .no, .no, .no, .no, .no, .no, .no, .no, .no, .no] from rfl, law_run]
  rfl
end Law_k00
namespace Law_k00
open FP PySem PySem.Spec PyProof.Rows L2
/-! ### what the top leaves, looked at -/
def fa : List He.Fa := [.free "all", .free "bool", .free "int", .free "isinstance", .free "len", .free "list", .free "range", .free "str", .free "tuple", .glo "is_name", .glo "tokens_of", .glo "lines_of", .glo "_law_strictly", .glo "_law_cell", .glo "_law_draw", .glo "_law_sign", .glo "law"]
def dd_is_name : He.DefD := ⟨("is_name", none), "is_name", "is_name", defArgs st_is_name, defBody st_is_name, defScope st_is_name, [], []⟩
def dd_tokens_of : He.DefD := ⟨("tokens_of", none), "tokens_of", "tokens_of", defArgs st_tokens_of, defBody st_tokens_of, defScope st_tokens_of, [], []⟩
def dd_lines_of : He.DefD := ⟨("lines_of", none), "lines_of", "lines_of", defArgs st_lines_of, defBody st_lines_of, defScope st_lines_of, [], []⟩
def dd__law_strictly : He.DefD := ⟨("_law_strictly", none), "_law_strictly", "_law_strictly", defArgs st__law_strictly, defBody st__law_strictly, defScope st__law_strictly, [], []⟩
def dd__law_cell : He.DefD := ⟨("_law_cell", none), "_law_cell", "_law_cell", defArgs st__law_cell, defBody st__law_cell, defScope st__law_cell, [], []⟩
def dd__law_draw : He.DefD := ⟨("_law_draw", none), "_law_draw", "_law_draw", defArgs st__law_draw, defBody st__law_draw, defScope st__law_draw, [], []⟩
def dd__law_sign : He.DefD := ⟨("_law_sign", none), "_law_sign", "_law_sign", defArgs st__law_sign, defBody st__law_sign, defScope st__law_sign, [], []⟩
def dd_law : He.DefD := ⟨("law", none), "law", "law", defArgs st_law, defBody st_law, defScope st_law, [], []⟩
def fn : List He.DefD := [dd_is_name, dd_tokens_of, dd_lines_of, dd__law_strictly, dd__law_cell, dd__law_draw, dd__law_sign, dd_law]
def tf : List He.Defn := [("is_name", none)]
def exK (K : PySem.W.Frag) : Bool := [globB K "FIRST" d_FIRST, globB K "MARKS" d_MARKS, globB K "NAME" d_NAME, globB K "SIGNS" d_SIGNS, globB K "WORDS" d_WORDS].all id
abbrev R : PySem.W.OpenRow := PySem.W.OpenLaw.row PySem.Challenge.rw_sameterms_k00_names_and_tokens
abbrev hk : PySem.W.Hook := He.hookX 6 fa fn [] tf exK
def ob (s : PySem.W.SharedT) : He.AlX := He.obsX 6 fa fn [] tf exK (HandSHeadRun.getT s)
theorem ob_eq (s : PySem.W.SharedT) : ob s = hk.obs s.abs := He.obsX_eq (HandSHeadRun.getT_eq s)
def loose : List PySem.Str := ["NAME", "FIRST", "SIGNS", "WORDS", "MARKS", "is_name", "tokens_of", "lines_of", "_law_strictly", "_law_cell", "_law_draw", "_law_sign"]
theorem run (w : World) : HandSHeadRun.RunEq R (PySem.W.view R.prog [14]) hk ob 3000 loose w := by
  intro os
  kernel_rfl
theorem facts {w : World} {K : PySem.W.Frag} {h : Heap} {mg : Str → Option Value} {f : Addr} (X : K.In h) (G : h.Ns mainGlobals mg) (hfa : mg ("law" : Str) = some (.ref f)) (c : He.SaysX fa fn [] tf exK w h K)
    (hm : ∀ ns : List Int, ns.length ≤ 63 → (∀ z ∈ ns, Builtin.Int.intBits z ≤ 1048576) → f_law [.list (ns.map .int)] = .ok (.bool true)) : LamX.LawAtS PySem.Challenge.rw_sameterms_k00_names_and_tokens w K (L2.CX (PySem.Challenge.rw_sameterms_k00_names_and_tokens).prog w) 5 63 "script" mg f h := by
  have cd := c.t.d
  have ge := List.all_eq_true.mp (show [globB K "FIRST" d_FIRST, globB K "MARKS" d_MARKS, globB K "NAME" d_NAME, globB K "SIGNS" d_SIGNS, globB K "WORDS" d_WORDS].all id = true from c.more)
  have WB : ∀ base : Heap, K.In base → base.Ns mainGlobals mg → (∀ p ∈ tf.map (He.cT K), LamX.TabB base mg p.1 p.2) → Wd K mg base ((tf.map (He.cT K)).map (·.2)) := fun base KB GB TB => {
    n_all := He.free_ok X G (cd.fact 0 (f := .free "all") rfl)
    n_bool := He.free_ok X G (cd.fact 1 (f := .free "bool") rfl)
    n_int := He.free_ok X G (cd.fact 2 (f := .free "int") rfl)
    n_isinstance := He.free_ok X G (cd.fact 3 (f := .free "isinstance") rfl)
    n_len := He.free_ok X G (cd.fact 4 (f := .free "len") rfl)
    n_list := He.free_ok X G (cd.fact 5 (f := .free "list") rfl)
    n_range := He.free_ok X G (cd.fact 6 (f := .free "range") rfl)
    n_str := He.free_ok X G (cd.fact 7 (f := .free "str") rfl)
    n_tuple := He.free_ok X G (cd.fact 8 (f := .free "tuple") rfl)
    g_FIRST := globB_ok X G (ge (globB K "FIRST" d_FIRST) (List.mem_of_getElem? (i := 0) rfl))
    g_MARKS := globB_ok X G (ge (globB K "MARKS" d_MARKS) (List.mem_of_getElem? (i := 1) rfl))
    g_NAME := globB_ok X G (ge (globB K "NAME" d_NAME) (List.mem_of_getElem? (i := 2) rfl))
    g_SIGNS := globB_ok X G (ge (globB K "SIGNS" d_SIGNS) (List.mem_of_getElem? (i := 3) rfl))
    g_WORDS := globB_ok X G (ge (globB K "WORDS" d_WORDS) (List.mem_of_getElem? (i := 4) rfl))
    fu_is_name := cd.def_ 0 (d := dd_is_name) rfl
    gl_is_name := He.glo_ok X G (cd.fact 9 (f := .glo "is_name") rfl)
    fu_tokens_of := cd.def_ 1 (d := dd_tokens_of) rfl
    gl_tokens_of := He.glo_ok X G (cd.fact 10 (f := .glo "tokens_of") rfl)
    fu_lines_of := cd.def_ 2 (d := dd_lines_of) rfl
    gl_lines_of := He.glo_ok X G (cd.fact 11 (f := .glo "lines_of") rfl)
    fu__law_strictly := cd.def_ 3 (d := dd__law_strictly) rfl
    gl__law_strictly := He.glo_ok X G (cd.fact 12 (f := .glo "_law_strictly") rfl)
    fu__law_cell := cd.def_ 4 (d := dd__law_cell) rfl
    gl__law_cell := He.glo_ok X G (cd.fact 13 (f := .glo "_law_cell") rfl)
    fu__law_draw := cd.def_ 5 (d := dd__law_draw) rfl
    gl__law_draw := He.glo_ok X G (cd.fact 14 (f := .glo "_law_draw") rfl)
    fu__law_sign := cd.def_ 6 (d := dd__law_sign) rfl
    gl__law_sign := He.glo_ok X G (cd.fact 15 (f := .glo "_law_sign") rfl)
    fu_law := cd.def_ 7 (d := dd_law) rfl
    gl_law := He.glo_ok X G (cd.fact 16 (f := .glo "law") rfl)
    inT_is_name := List.mem_map.mpr ⟨He.cT K ("is_name", none), List.mem_map.mpr ⟨_, by decide, rfl⟩, rfl⟩
    tb_is_name := TB (He.cT K ("is_name", none)) (List.mem_map.mpr ⟨_, by decide, rfl⟩)
    }
  have e := hfa.symm.trans (He.glo_ok X G (cd.fact 16 (f := .glo "law") rfl))
  cases e
  obtain ⟨fd, Fu⟩ := cd.def_ 7 (d := dd_law) rfl
  exact law_at X c Fu (fun _ _ _ _ _ _ us hl => match us, hl with | [_], _ => rfl) (fun base KB GB TB => fnok_law Fu (WB base KB GB TB)) hm
end Law_k00
open PySem PySem.W PySem.Calls PyProof.Rows
theorem PySem.Challenge.cw_sameterms_k00_names_and_tokens_holds : PySem.Challenge.rw_sameterms_k00_names_and_tokens.Holds := by
  w_on; o_law
  refine HandSHeadRun.head_any (r := OpenLaw.row PySem.Challenge.rw_sameterms_k00_names_and_tokens) (q := view (OpenLaw.row PySem.Challenge.rw_sameterms_k00_names_and_tokens).prog [14]) (H := Law_k00.hk) (ob := Law_k00.ob) (M := 3000) (loose := Law_k00.loose) (d := HandSHeadRun.topDef (OpenLaw.row PySem.Challenge.rw_sameterms_k00_names_and_tokens).prog 14) (kwd := []) Law_k00.ob_eq
    (by kernel_rfl) (fun s => by kernel_rfl) Law_k00.run (by kernel_rfl) (by kernel_rfl) (by kernel_rfl) (by rfl) (by first | assumption | decide +kernel) (by decide +kernel) ⟨rfl, rfl, rfl, rfl, rfl, by decide +kernel⟩ ?hw ?hc
  case hw => w_witness2
  case hc =>
    refine LamX.walk_ofTsE (l := PySem.Challenge.rw_sameterms_k00_names_and_tokens) (n := 63) (k := 5) (x := "script") (CX := fun w => L2.CX (PySem.Challenge.rw_sameterms_k00_names_and_tokens).prog w) rfl (by decide) (by kernel_rfl) ⟨rfl, by decide, by decide⟩ ?F (fun w _ _ _ _ z => FP.cx_none z)
    intro w mg fa h Y G hmg0
    obtain ⟨K, KX, c⟩ := Y
    have hmg : mg ("law" : PySem.Str) = some (.ref fa) := by
      have e : (HandSHeadRun.topDef (OpenLaw.row PySem.Challenge.rw_sameterms_k00_names_and_tokens).prog 14).name = ("law" : PySem.Str) := by kernel_rfl
      rw [← e]
      exact hmg0
    exact ⟨K, KX, Law_k00.facts KX G hmg c Law_k00.law_true⟩
