import PyProof.Rows.All
import Wide.All
import OpenK.AllK
import Wide.FinOn
import HandS.ForMost
import HandS.ForExc
import HandS.Walk
import HandS.Deep
import HandS.CallSlots
import HandS.AnyAll
import HandS.ExcField
import HandS.HotCalls
import HandS.Dict
import KE.KeyNested
import HandS.TupAny
import HandS.Text
import PyProof.StrOps2
import HandS.GenOver
import PyProof.GenRules
import PyProof.GenQ
import HandS.EndTab
import HandS.IsInst
import HandS.HeadHook4
import HandS.HeadWalk
import HandS.Head2
import HandS.Style
import HandS.ExcSuper
import KE.KExcSuper
import KE.KExcInit
import HandS.ExcValue
import HandS.Conv
import PyProof.ConsumeS
import KE.KDictKeyed
import KE.KDictWalk
import HandS.SetFor
import PyProof.EqAt
import HandS.ReplaceLit
import HandS.ReplaceList
import HandS.Defaults
import PySem.Challenge.RW_sameterms_k03_texts_of_terms
set_option Elab.async false
set_option linter.all false
set_option maxRecDepth 100000
set_option maxHeartbeats 0
/-! FP: Python code as pure functions on environments; A: values, environments, judgements. -/
namespace FP
open PySem L2 PySem.Spec PyProof.Rows

abbrev D := PyData
abbrev St := L2.St

/-- the written part, the world -/
structure KW where
  fr : PySem.W.Frag
  w : World
instance : CoeOut KW PySem.W.Frag := ⟨KW.fr⟩

/-! ### dicts as data -/
mutual
def keyN : D → NestedKey
  | .int i => .num i
  | .str x => .text x
  | .bool b => .num (if b = true then 1 else 0)
  | .tuple ds => .tup (keyNs ds)
  | _ => .none
def keyNs : List D → List NestedKey
  | [] => []
  | d :: ds => keyN d :: keyNs ds
end
mutual

def keyOk : D → Bool
  | .int _ => true
  | .str _ => true
  | .bool _ => true
  | .none => true
  | .tuple ds => keyOks ds
  | _ => false
def keyOks : List D → Bool
  | [] => true
  | d :: ds => keyOk d && keyOks ds
end
/-- a tuple that may be a key -/
def tupKey : D → Bool
  | .tuple ds => keyOks ds && Nat.ble (keyN (.tuple ds)).depth 8
  | _ => false
/-- a dict's object: its entries by hash, the key's address, the value -/
def dNH (a : Addr) (xs : List (Int × Addr × V)) : HO := .ext fun h => xs.length ≤ sizeLine ∧ (a == sysModules) = false ∧ ∃ o es ep, h.get? a = some o ∧ o.ExactDict ∧ o.data = .dict es ep ∧
  Paired (fun x e => e.hash = x.1 ∧ e.key = .ref x.2.1 ∧ RelV x.2.2 e.val) xs es.toList
/-- the entries' hashes are those of the keys; no key stands twice -/
def KeysOk (w : World) (hs : List Int) (ds : List (D × D)) : Prop := hs = ds.map (fun p => (keyN p.1).hash w) ∧ (∀ p ∈ ds, tupKey p.1 = true) ∧ (ds.map fun p => keyN p.1).Nodup
mutual
/-- the value v is the data d -/
inductive Dp (K : KW) (H : Hp) : V → D → Prop
  | non : Dp K H .non .none
  | bl (b : Bool) : Dp K H (.bl b) (.bool b)
  | int (i : Int) : Dp K H (.int i) (.int i)
  | str (x : Str) : Dp K H (.str x) (.str x)
  | lst {a : Addr} {xs : List V} {ds : List D} : SqL K H a xs → DpAll K H xs ds → Dp K H (.ref a) (.list ds)
  | tup {a : Addr} {xs : List V} {ds : List D} : SqT K H a xs → DpAll K H xs ds → Dp K H (.ref a) (.tuple ds)
  | dcl {a : Addr} {ks : List (Key × V)} {ds : List (D × D)} : H a = some (.dK ks) → DpPs K H (ks.map fun p => (kV p.1, p.2)) ds → Dp K H (.ref a) (.dict ds)
  | dcn {a : Addr} {xs : List (Int × Addr × V)} {ds : List (D × D)} : H a = some (dNH a xs) → DpPs K H (xs.map fun x => (V.ref x.2.1, x.2.2)) ds → KeysOk K.w (xs.map (·.1)) ds → Dp K H (.ref a) (.dict ds)
inductive DpAll (K : KW) (H : Hp) : List V → List D → Prop
  | nil : DpAll K H [] []
  | cons {v : V} {vs : List V} {d : D} {ds : List D} : Dp K H v d → DpAll K H vs ds → DpAll K H (v :: vs) (d :: ds)
inductive DpPs (K : KW) (H : Hp) : List (V × V) → List (D × D) → Prop
  | nil : DpPs K H [] []
  | cons {p : V × V} {ps : List (V × V)} {q : D × D} {qs : List (D × D)} : Dp K H p.1 q.1 → Dp K H p.2 q.2 → DpPs K H ps qs → DpPs K H (p :: ps) (q :: qs)
end

/-- what an expression gives: a value, an exception (class, fields), or nothing is said -/
inductive R (α : Type) where
  | ok (a : α)
  | ex (c : Str) (as : List (Str × D))
  | no
def R.bnd {α β : Type} (r : R α) (k : α → R β) : R β :=
  match r with
  | .ok a => k a
  | .ex c as => .ex c as
  | .no => .no

/-- the content of a thing of one's own -/
inductive Own where
  | lst (l : List D)
  /-- a caught exception: its class, its fields -/
  | exc (c : Str) (as : List (Str × D))
  /-- a dict (n: its keys are tuples) -/
  | dct (n : Bool) (l : List (D × D))
/-- a slot of a frame -/
inductive Sl where
  | no
  | vl (d : D)
  | ow (o : Own)
abbrev Env := List Sl

/-- the fields of an exception -/
def ArgsR (K : KW) (b : Hp) (fs : List (Str × V)) (as : List (Str × D)) : Prop := Paired (fun p q => p.1 = q.1 ∧ Dp K b p.2 q.2) fs as
/-- a caught exception's object, of the class at C, its fields at dd -/
def excH (a C dd : Addr) : HO := .ext fun h => ∃ (oe : Obj) (vs : Array Value), h.get? a = some oe ∧ oe.cls = .ref C ∧ oe.dict = some dd ∧ oe.data = .fields vs
section
variable (K : KW)
def OwnOk (b h : Hp) (a : Addr) : Own → Prop
  | .lst l => ∃ vs, h a = some (.lst vs) ∧ DpAll K b vs l
  | .dct false l => ∃ ks, h a = some (.dK ks) ∧ DpPs K b (ks.map fun p => (kV p.1, p.2)) l
  | .dct true l => ∃ xs, h a = some (dNH a xs) ∧ DpPs K b (xs.map fun x => (V.ref x.2.1, x.2.2)) l ∧ KeysOk K.w (xs.map (·.1)) l
  | .exc _ as => ∃ C dd fs, h a = some (excH a C dd) ∧ h dd = some (.xd fs) ∧ ArgsR K b fs as ∧ XfC K C ∧ ∀ q ∈ as, PySem.W.findIn K (.ref C) q.1 = some none
def SlOk (h0 b h : Hp) (v : Option V) : Sl → Prop
  | .no => True
  | .vl d => ∃ u, v = some u ∧ Dp K b u d
  | .ow o => ∃ a, v = some (.ref a) ∧ OwnOk K b h a o ∧ b a = none ∧ h0 a = none
end

/-- what stands is kept, but for tables, which grow -/
structure Up (h h' : Hp) : Prop where
  st : ∀ a o, h a = some o → (∀ ps, o ≠ .tbl ps) → h' a = some o
  tb : ∀ a ps, h a = some (.tbl ps) → ∃ ps', h' a = some (.tbl ps') ∧ (TriplesOk ps.toList → TriplesOk ps'.toList)
theorem Up.refl (h : Hp) : Up h h := ⟨fun _ _ e _ => e, fun _ _ e => ⟨_, e, fun z => z⟩⟩
theorem Up.trans {h h1 h2 : Hp} (x : Up h h1) (y : Up h1 h2) : Up h h2 := ⟨fun a o e n => y.st a o (x.st a o e n) n, fun a ps e => by
  obtain ⟨p1, e1, z1⟩ := x.tb a ps e
  obtain ⟨p2, e2, z2⟩ := y.tb a p1 e1
  exact ⟨p2, e2, fun z => z2 (z1 z)⟩⟩
theorem Up.of {h h' : Hp} (s : Same h h') : Up h h' := ⟨fun a o e _ => s a o e, fun a ps e => ⟨ps, s a _ e, fun z => z⟩⟩
theorem Up.there {h h' : Hp} (x : Up h h') {a : Addr} {o : HO} (e : h a = some o) : ∃ o', h' a = some o' := by
  cases o with
  | tbl ps => obtain ⟨q, e2, _⟩ := x.tb a ps e; exact ⟨_, e2⟩
  | _ => exact ⟨_, x.st a _ e (fun _ z => by cases z)⟩
theorem Up.free {h h' : Hp} (x : Up h h') {a : Addr} (e : h' a = none) : h a = none := by
  cases q : h a with
  | none => rfl
  | some o => obtain ⟨o', z⟩ := x.there q; rw [e] at z; cases z

theorem Same.sqT {K : PySem.W.Frag} {H H' : Hp} {a : Addr} {xs : List V} (e : Same H H') (h : SqT K H a xs) : SqT K H' a xs := by
  rcases h with (h | ⟨o, h⟩) | h
  · exact .inl (.inl (e _ _ h))
  · exact .inl (.inr ⟨o, e _ _ h⟩)
  · exact .inr h
mutual
theorem dp_mono {K : KW} {b b' : Hp} (s : Same b b') : ∀ {d : D} {v : V}, Dp K b v d → Dp K b' v d
  | .none, _, h => by cases h; exact .non
  | .bool _, _, h => by cases h; exact .bl _
  | .int _, _, h => by cases h; exact .int _
  | .str _, _, h => by cases h; exact .str _
  | .list _, _, h => by cases h with | lst q r => exact .lst (s.seq q) (dpAll_mono s r)
  | .tuple _, _, h => by cases h with | tup q r => exact .tup (Same.sqT s q) (dpAll_mono s r)
  | .dict _, _, h => by
    cases h with
    | dcl q r => exact .dcl (s _ _ q) (dpPs_mono s r)
    | dcn q r z => exact .dcn (s _ _ q) (dpPs_mono s r) z
theorem dpAll_mono {K : KW} {b b' : Hp} (s : Same b b') : ∀ {ds : List D} {vs : List V}, DpAll K b vs ds → DpAll K b' vs ds
  | [], _, h => by cases h; exact .nil
  | _ :: _, _, h => by cases h with | cons q r => exact .cons (dp_mono s q) (dpAll_mono s r)
theorem dpPs_mono {K : KW} {b b' : Hp} (s : Same b b') : ∀ {ds : List (D × D)} {vs : List (V × V)}, DpPs K b vs ds → DpPs K b' vs ds
  | [], _, h => by cases h; exact .nil
  | (_, _) :: _, _, h => by cases h with | cons q q2 r => exact .cons (dp_mono s q) (dp_mono s q2) (dpPs_mono s r)
end

theorem argsR_mono {K : KW} {b b' : Hp} (s : Same b b') : ∀ {fs : List (Str × V)} {as : List (Str × D)}, ArgsR K b fs as → ArgsR K b' fs as
  | _, _, .nil => .nil
  | _, _, .cons q r => .cons ⟨q.1, dp_mono s q.2⟩ (argsR_mono s r)

/-- (b, h) grows to (b', h'): b is what is never changed, h all that is tracked -/
structure Ext (b h b' h' : Hp) : Prop where
  up : Up h h'
  bh : Same b' h'
  fz : ∀ a o, h a = some o → b' a = b a
theorem Ext.refl {b h : Hp} (s : Same b h) : Ext b h b h := ⟨Up.refl _, s, fun _ _ _ => rfl⟩
theorem Ext.bb {b h b' h' : Hp} (s : Same b h) (x : Ext b h b' h') : Same b b' := fun a o e => by rw [x.fz a o (s a o e)]; exact e
theorem Ext.trans {b h b1 h1 b2 h2 : Hp} (x : Ext b h b1 h1) (y : Ext b1 h1 b2 h2) : Ext b h b2 h2 := ⟨x.up.trans y.up, y.bh, fun a o e => by
  obtain ⟨o', e'⟩ := x.up.there e
  rw [y.fz a o' e', x.fz a o e]⟩

/-- a frame: b0, h0 at its entry, b, h now -/
structure Good (K : KW) (b0 h0 b h : Hp) (σ : St) (env : Env) : Prop where
  len : σ.length = env.length
  ext : Ext b0 h0 b h
  sl : ∀ (i : Nat) (s : Sl), env[i]? = some s → ∃ v, σ[i]? = some v ∧ SlOk K h0 b h v s
  ap : ∀ (i j : Nat) (o o' : Own) (a : Addr), i ≠ j → env[i]? = some (.ow o) → env[j]? = some (.ow o') → σ[i]? = some (some (.ref a)) → σ[j]? = some (some (.ref a)) → False

section
variable {K : KW} {b0 h0 b h b' h' : Hp} {σ : St} {env : Env}
theorem Good.bh (G : Good K b0 h0 b h σ env) : Same b h := G.ext.bh
theorem OwnOk.up {a : Addr} {o : Own} (s : Same b b') (u : Up h h') (x : OwnOk K b h a o) : OwnOk K b' h' a o := by
  cases o with
  | lst l => obtain ⟨vs, e, r⟩ := x; exact ⟨vs, u.st _ _ e (fun _ z => by cases z), dpAll_mono s r⟩
  | dct n l =>
    cases n with
    | false => obtain ⟨vs, e, r⟩ := x; exact ⟨vs, u.st _ _ e (fun _ z => by cases z), dpPs_mono s r⟩
    | true => obtain ⟨vs, e, r, q⟩ := x; exact ⟨vs, u.st _ _ e (fun _ z => by cases z), dpPs_mono s r, q⟩
  | exc c as => obtain ⟨C, dd, fs, e, e2, r, z⟩ := x; exact ⟨C, dd, fs, u.st _ _ e (fun _ z => by cases z), u.st _ _ e2 (fun _ z => by cases z), argsR_mono s r, z⟩
theorem OwnOk.there {a : Addr} {o : Own} (x : OwnOk K b h a o) : ∃ u, h a = some u := by
  cases o with
  | lst l => obtain ⟨vs, e, _⟩ := x; exact ⟨_, e⟩
  | dct n l => cases n <;> (obtain ⟨vs, e, _⟩ := x; exact ⟨_, e⟩)
  | exc c as => obtain ⟨C, dd, fs, e, _⟩ := x; exact ⟨_, e⟩
theorem OwnOk.notXd {a : Addr} {o : Own} (x : OwnOk K b h a o) {d : Addr} {fs : List (Str × V)} (e : h d = some (.xd fs)) : d ≠ a := fun z => by
  subst z
  cases o with
  | lst l => obtain ⟨vs, e2, _⟩ := x; rw [e] at e2; cases e2
  | dct n l => cases n <;> (obtain ⟨vs, e2, _⟩ := x; rw [e] at e2; cases e2)
  | exc c as => obtain ⟨C, dd, fs, e2, _⟩ := x; rw [e] at e2; cases e2
/-- another thing is changed in place -/
theorem OwnOk.other {a c : Addr} {o : Own} {u : HO} (x : OwnOk K b h c o) (hca : c ≠ a) (n : ∀ d fs, h d = some (.xd fs) → d ≠ a) : OwnOk K b (upd h a u) c o := by
  cases o with
  | lst l => obtain ⟨vs, z, w⟩ := x; exact ⟨vs, by rw [upd_ne hca]; exact z, w⟩
  | dct n l =>
    cases n with
    | false => obtain ⟨vs, z, w⟩ := x; exact ⟨vs, by rw [upd_ne hca]; exact z, w⟩
    | true => obtain ⟨vs, z, w⟩ := x; exact ⟨vs, by rw [upd_ne hca]; exact z, w⟩
  | exc k as => obtain ⟨C, dd, fs, e, e2, r, z⟩ := x; exact ⟨C, dd, fs, by rw [upd_ne hca]; exact e, by rw [upd_ne (n dd fs e2)]; exact e2, r, z⟩
theorem SlOk.up {v : Option V} {s : Sl} (bh : Same b h) (x : Ext b h b' h') (q : SlOk K h0 b h v s) : SlOk K h0 b' h' v s := by
  cases s with
  | no => trivial
  | vl d => obtain ⟨u, e, r⟩ := q; exact ⟨u, e, dp_mono (x.bb bh) r⟩
  | ow o =>
    obtain ⟨a, e, r, n, m⟩ := q
    obtain ⟨u, t⟩ := r.there
    exact ⟨a, e, r.up (x.bb bh) x.up, (x.fz a u t).trans n, m⟩
/-- the frame's things are not touched -/
theorem Good.grow (G : Good K b0 h0 b h σ env) (x : Ext b h b' h') : Good K b0 h0 b' h' σ env :=
  ⟨G.len, G.ext.trans x, fun i s e => by
    obtain ⟨v, e1, q⟩ := G.sl i s e
    exact ⟨v, e1, q.up G.bh x⟩, G.ap⟩
theorem Good.var (G : Good K b0 h0 b h σ env) {i : Nat} {d : D} (e : env[i]? = some (.vl d)) : ∃ v, σ[i]? = some (some v) ∧ Dp K b v d := by
  obtain ⟨v, e1, u, e2, r⟩ := G.sl i _ e
  subst e2
  exact ⟨u, e1, r⟩
theorem Good.own (G : Good K b0 h0 b h σ env) {i : Nat} {o : Own} (e : env[i]? = some (.ow o)) : ∃ a, σ[i]? = some (some (.ref a)) ∧ OwnOk K b h a o ∧ b a = none ∧ h0 a = none := by
  obtain ⟨v, e1, a, e2, r, n, m⟩ := G.sl i _ e
  subst e2
  exact ⟨a, e1, r, n, m⟩
theorem get_set_other {α : Type} {l : List α} {i j : Nat} {x y : α} (hij : i ≠ j) (e : (l.set i x)[j]? = some y) : l[j]? = some y := by rw [List.getElem?_set_ne hij] at e; exact e
/-- a value is stored at slot i -/
theorem Good.set (G : Good K b0 h0 b h σ env) {i : Nat} {v : V} {d : D} (r : Dp K b v d) : Good K b0 h0 b h (σ.set i (some v)) (env.set i (.vl d)) := by
  refine ⟨by rw [List.length_set, List.length_set]; exact G.len, G.ext, fun j s e => ?_, fun j k o o' a hjk e1 e2 e3 e4 => ?_⟩
  · by_cases hij : i = j
    · subst hij
      have hl : i < env.length := by
        have := (List.getElem?_eq_some_iff.mp e).1
        rwa [List.length_set] at this
      rw [List.getElem?_set_self hl] at e
      cases e
      exact ⟨_, List.getElem?_set_self (by rw [G.len]; exact hl), v, rfl, r⟩
    · obtain ⟨w, e1, q⟩ := G.sl j s (get_set_other hij e)
      exact ⟨w, by rw [List.getElem?_set_ne hij]; exact e1, q⟩
  · have h1 : i ≠ j := fun z => by
      subst z
      have hl : i < env.length := by
        have := (List.getElem?_eq_some_iff.mp e1).1
        rwa [List.length_set] at this
      rw [List.getElem?_set_self hl] at e1; cases e1
    have h2 : i ≠ k := fun z => by
      subst z
      have hl : i < env.length := by
        have := (List.getElem?_eq_some_iff.mp e2).1
        rwa [List.length_set] at this
      rw [List.getElem?_set_self hl] at e2; cases e2
    exact G.ap j k o o' a hjk (get_set_other h1 e1) (get_set_other h2 e2) (get_set_other h1 e3) (get_set_other h2 e4)
/-- a thing of one's own is stored at slot i: its address is no other slot's -/
theorem Good.setOwn (G : Good K b0 h0 b h σ env) {i : Nat} {a : Addr} {o : Own} (r : OwnOk K b h a o) (n : b a = none) (m : h0 a = none)
    (fr : ∀ j o', j ≠ i → env[j]? = some (.ow o') → σ[j]? ≠ some (some (.ref a))) : Good K b0 h0 b h (σ.set i (some (.ref a))) (env.set i (.ow o)) := by
  refine ⟨by rw [List.length_set, List.length_set]; exact G.len, G.ext, fun j s e => ?_, fun j k o1 o2 c hjk e1 e2 e3 e4 => ?_⟩
  · by_cases hij : i = j
    · subst hij
      have hl : i < env.length := by
        have := (List.getElem?_eq_some_iff.mp e).1
        rwa [List.length_set] at this
      rw [List.getElem?_set_self hl] at e
      cases e
      exact ⟨_, List.getElem?_set_self (by rw [G.len]; exact hl), a, rfl, r, n, m⟩
    · obtain ⟨w, e1, q⟩ := G.sl j s (get_set_other hij e)
      exact ⟨w, by rw [List.getElem?_set_ne hij]; exact e1, q⟩
  · by_cases hij : i = j
    · subst hij
      have hl : i < σ.length := by
        have := (List.getElem?_eq_some_iff.mp e3).1
        rwa [List.length_set] at this
      rw [List.getElem?_set_self hl] at e3
      cases e3
      exact fr k o2 (Ne.symm hjk) (get_set_other hjk e2) (get_set_other hjk e4)
    · by_cases hik : i = k
      · subst hik
        have hl : i < σ.length := by
          have := (List.getElem?_eq_some_iff.mp e4).1
          rwa [List.length_set] at this
        rw [List.getElem?_set_self hl] at e4
        cases e4
        exact fr j o1 hjk (get_set_other hij e1) (get_set_other hij e3)
      · exact G.ap j k o1 o2 c hjk (get_set_other hij e1) (get_set_other hik e2) (get_set_other hij e3) (get_set_other hik e4)
/-- the own thing at slot i is changed in place -/
theorem Good.mut (G : Good K b0 h0 b h σ env) {i : Nat} {a : Addr} {o o' : Own} {u : HO} (e : env[i]? = some (.ow o)) (ea : σ[i]? = some (some (.ref a))) (r : OwnOk K b (upd h a u) a o') (hm : ∀ ps, h a ≠ some (.tbl ps)) :
    Good K b0 h0 b (upd h a u) σ (env.set i (.ow o')) := by
  obtain ⟨a', e1, q, n, m⟩ := G.own e
  rw [ea] at e1
  cases e1
  have hil := (List.getElem?_eq_some_iff.mp e).1
  refine ⟨by rw [List.length_set]; exact G.len, ⟨⟨fun c z ec nt => ?_, fun c ps ec => ?_⟩, fun c z ec => ?_, G.ext.fz⟩, fun j s ej => ?_, fun j k o1 o2 c hjk e1 e2 e3 e4 => ?_⟩
  · have : c ≠ a := fun z => by rw [z, m] at ec; cases ec
    rw [upd_ne this]; exact G.ext.up.st c z ec nt
  · have : c ≠ a := fun z => by rw [z, m] at ec; cases ec
    rw [upd_ne this]; exact G.ext.up.tb c ps ec
  · have : c ≠ a := fun z => by rw [z, n] at ec; cases ec
    rw [upd_ne this]; exact G.ext.bh c z ec
  · by_cases hij : i = j
    · subst hij
      rw [List.getElem?_set_self hil] at ej
      cases ej
      exact ⟨_, ea, a, rfl, r, n, m⟩
    · have ej' := get_set_other hij ej
      obtain ⟨v, e2, q2⟩ := G.sl j s ej'
      refine ⟨v, e2, ?_⟩
      cases s with
      | no => trivial
      | vl d => exact q2
      | ow ow =>
        obtain ⟨c, e3, q3, n3, m3⟩ := q2
        have hca : c ≠ a := fun z => by
          subst z
          subst e3
          exact G.ap i j o ow c hij e ej' ea e2
        refine ⟨c, e3, ?_, n3, m3⟩
        exact q3.other hca fun d fs e => q.notXd e
  · by_cases hij : i = j
    · subst hij
      exact G.ap i k o o2 c hjk e (get_set_other hjk e2) e3 e4
    · by_cases hik : i = k
      · subst hik
        exact G.ap j i o1 o c hjk (get_set_other hij e1) e e3 e4
      · exact G.ap j k o1 o2 c hjk (get_set_other hij e1) (get_set_other hik e2) e3 e4
end
end FP
/-! FP B: judgements, expressions, tests. -/
namespace FP
open PySem L2 PySem.Spec PyProof.Rows

/-- where the code stands -/
structure Fx where
  X : Cx
  W : WX
  b0 : Hp
  h0 : Hp
  T : List Addr
  k : Nat
  pre : ∀ P ∈ T, GxR.TabG h0 P ∧ b0 P = none
  tk : Takes X W
  sui : Bool
  calm : sui = false → X.calm = true
  nd : X.N.Nodup
  room : L2H.RoomH k X.A
  hand : sui = false → X.A.handled = none
  owns : sui = false → PassesOwn (model X.prog X.w) X.A X.env X.xe

abbrev Fx.kw (F : Fx) : KW := ⟨F.X.K, F.X.w⟩
theorem Fx.roomC (F : Fx) (h : F.sui = false) : Room F.k F.X.A := ⟨F.hand h, F.room.dp, F.room.un⟩
abbrev Fx.G (F : Fx) (b h : Hp) (σ : St) (env : Env) : Prop := Good F.kw F.b0 F.h0 b h σ env
theorem Up.pre {h h' : Hp} (u : Up h h') {P : Addr} (q : GxR.TabG h P) : GxR.TabG h' P := by
  obtain ⟨ps, e, t⟩ := q
  obtain ⟨ps', e', t'⟩ := u.tb P ps e
  exact ⟨ps', e', t' t⟩

def Po (F : Fx) (b h : Hp) (σ : St) {α : Type} (r : R α) (P : α → Hp → Hp → Prop) : Prop := match r with
  | .ok a => ∀ b' h', Ext b h b' h' → P a b' h'
  | .ex c as => ∀ b' h' dd C fs, Ext b h b' h' → F.X.mg c = some (.ref C) → h' dd = some (.xd fs) → ArgsR F.kw b' fs as → F.W (.ref C) (some dd) σ h'
  | .no => False
section
variable {F : Fx} {b h b1 h1 : Hp} {σ : St} {α β : Type}
theorem Po.grow {r : R α} {P : α → Hp → Hp → Prop} (p : Po F b h σ r P) (x : Ext b h b1 h1) : Po F b1 h1 σ r P := by
  cases r with
  | ok a => exact fun b' h' y => p b' h' (x.trans y)
  | ex c as => exact fun b' h' dd C fs y => p b' h' dd C fs (x.trans y)
  | no => exact p
theorem Po.bnd {r : R α} {k : α → R β} {P : β → Hp → Hp → Prop} {P' : α → Hp → Hp → Prop} (p : Po F b h σ (r.bnd k) P)
    (q : ∀ a, r = .ok a → ∀ b1 h1, Ext b h b1 h1 → Po F b1 h1 σ (k a) P → P' a b1 h1) : Po F b h σ r P' := by
  cases r with
  | ok a => exact fun b' h' x => q a rfl b' h' x (Po.grow (show Po F b h σ (k a) P from p) x)
  | ex c as => exact p
  | no => exact p
theorem Po.imp {r : R α} {P P' : α → Hp → Hp → Prop} (p : Po F b h σ r P) (q : ∀ a b1 h1, Ext b h b1 h1 → P a b1 h1 → P' a b1 h1) : Po F b h σ r P' := by
  cases r with
  | ok a => exact fun b' h' x => q a b' h' x (p b' h' x)
  | ex c as => exact p
  | no => exact p
end

/-- a value that is read now: a list of one's own may stand there -/
def Bp (K : KW) (b h : Hp) (v : V) (d : D) : Prop := Dp K b v d ∨ (∃ a vs l, v = .ref a ∧ h a = some (.lst vs) ∧ DpAll K b vs l ∧ d = .list l) ∨ ∃ a n l, v = .ref a ∧ OwnOk K b h a (.dct n l) ∧ d = .dict l
theorem Bp.grow {K : KW} {b h b' h' : Hp} {v : V} {d : D} (s : Same b h) (x : Ext b h b' h') (q : Bp K b h v d) : Bp K b' h' v d := by
  rcases q with q | ⟨a, vs, l, e, e1, r, e2⟩ | ⟨a, n, l, e, r, e2⟩
  · exact .inl (dp_mono (x.bb s) q)
  · exact .inr (.inl ⟨a, vs, l, e, x.up.st _ _ e1 (fun _ z => by cases z), dpAll_mono (x.bb s) r, e2⟩)
  · exact .inr (.inr ⟨a, n, l, e, r.up (x.bb s) x.up, e2⟩)
/-- a dict of one's own as a value -/
theorem OwnOk.dpD {K : KW} {b h : Hp} {a : Addr} {n : Bool} {l : List (D × D)} (s : Same b h) (q : OwnOk K b h a (.dct n l)) : Dp K h (.ref a) (.dict l) := by
  cases n with
  | false => obtain ⟨ks, e, r⟩ := q; exact .dcl e (dpPs_mono s r)
  | true => obtain ⟨xs, e, r, k⟩ := q; exact .dcn e (dpPs_mono s r) k
theorem Bp.dp {K : KW} {b h : Hp} {v : V} {d : D} (s : Same b h) (q : Bp K b h v d) : Dp K h v d := by
  rcases q with q | ⟨a, vs, l, e, e1, r, e2⟩ | ⟨a, n, l, e, r, e2⟩
  · exact dp_mono s q
  · subst e e2
    exact .lst (.inl (.inl e1)) (dpAll_mono s r)
  · subst e e2
    exact r.dpD s

def tI (F : Fx) (f : Env → R D) : TE := fun σ h Q => ∃ b env, F.G b h σ env ∧ Po F b h σ (f env) fun d b' h' => ∀ v, Dp F.kw b' v d → Q v h'
def tIB (F : Fx) (f : Env → R D) : TE := fun σ h Q => ∃ b env, F.G b h σ env ∧ Po F b h σ (f env) fun d b' h' => ∀ v, Bp F.kw b' h' v d → Q v h'
def tIT (F : Fx) (f : Env → R Bool) : TT := fun σ h Q => ∃ b env, F.G b h σ env ∧ Po F b h σ (f env) fun c _ h' => Q c h'
def tIA (F : Fx) (n : Nat) (f : Env → R (List D)) : TA := fun σ h Q => ∃ b env, F.G b h σ env ∧ Po F b h σ (f env) fun ds b' h' => ∀ vs, vs.length = n → DpAll F.kw b' vs ds → Q vs h'
def tIF (F : Fx) (f : Env → R Own) : TE := fun σ h Q => ∃ b env, F.G b h σ env ∧ Po F b h σ (f env) fun o b' h' => ∀ p u, h' p = none → (∀ ps, u ≠ .tbl ps) → OwnOk F.kw b' (upd h' p u) p o → Q (.ref p) (upd h' p u)
abbrev IE (F : Fx) (e : Expr) (f : Env → R D) : Prop := PE F.X e (tI F f)
abbrev IB (F : Fx) (e : Expr) (f : Env → R D) : Prop := PE F.X e (tIB F f)
abbrev IT (F : Fx) (e : Expr) (f : Env → R Bool) : Prop := PT F.X e (tIT F f)
abbrev IW (F : Fx) (e : Expr) (f : Env → R Bool) : Prop := PW F.X e (tIT F f)
abbrev IA (F : Fx) (n : Nat) (es : List Expr) (f : Env → R (List D)) : Prop := PA F.X es (tIA F n f)
abbrev IF (F : Fx) (e : Expr) (f : Env → R Own) : Prop := PE F.X e (tIF F f)

section
variable {X : Cx}
theorem PE.imp {e : Expr} {t t' : TE} (h : PE X e t) (q : ∀ σ H Q, t' σ H Q → t σ H Q) : PE X e t' := ⟨fun pins s σ H Q I z => h.run pins s σ H Q I (q σ H Q z)⟩
theorem PT.imp {e : Expr} {t t' : TT} (h : PT X e t) (q : ∀ σ H Q, t' σ H Q → t σ H Q) : PT X e t' := ⟨fun pins s σ H Q I z => h.run pins s σ H Q I (q σ H Q z)⟩
theorem PW.imp {e : Expr} {t t' : TT} (h : PW X e t) (q : ∀ σ H Q, t' σ H Q → t σ H Q) : PW X e t' := ⟨fun whole pins s σ H Q I z => h.run whole pins s σ H Q I (q σ H Q z)⟩
theorem PA.imp {es : List Expr} {t t' : TA} (h : PA X es t) (q : ∀ σ H Q, t' σ H Q → t σ H Q) : PA X es t' := ⟨fun pos pins s σ H Q I z => h.run pos pins s σ H Q I (q σ H Q z)⟩
theorem PS.imp {st : Stmt} {t t' : TS} (h : PS X st t) (q : ∀ D σ H, t' D σ H → t D σ H) : PS X st t' := ⟨fun pins s σ H D I z => h.run pins s σ H D I (q D σ H z)⟩
theorem PSs.imp {st : List Stmt} {t t' : TS} (h : PSs X st t) (q : ∀ D σ H, t' D σ H → t D σ H) : PSs X st t' := ⟨fun pins s σ H D I z => h.run pins s σ H D I (q D σ H z)⟩
end

section
variable {F : Fx} {e a b c : Expr} {es : List Expr} {pos : Pos} {fa fb fc : Env → R D} {ga gb : Env → R Bool}
theorem ib_of (h : IE F e fa) : IB F e fa := PE.imp h fun σ H Q ⟨b, env, G, p⟩ => ⟨b, env, G, p.imp fun d b1 h1 _ q v r => q v (.inl r)⟩

/-! ### names, constants -/
def eC (d : D) : Env → R D := fun _ => .ok d
def eV (i : Nat) : Env → R D := fun env => match env[i]? with
  | some (.vl d) => .ok d
  | _ => .no
def eO (i : Nat) : Env → R D := fun env => match env[i]? with
  | some (.vl d) => .ok d
  | some (.ow (.lst l)) => .ok (.list l)
  | some (.ow (.dct _ l)) => .ok (.dict l)
  | _ => .no
theorem ie_var (i : Nat) {x : Str} (hN : F.X.N[i]? = some x := by rfl) (hv : Vis F.X.env.scope x := by first | exact Or.inl rfl | exact Or.inr (Or.inl rfl) | exact Or.inr (Or.inr rfl)) (hd : (x == ("__debug__" : Str)) = false := by decide)
    (hcd : (x == ("__classdict__" : Str)) = false := by decide) : IE F (.Name x pos) (eV i) :=
  PE.imp (pe_var hN hv hd hcd) fun σ H Q ⟨b, env, G, p⟩ => by
    unfold eV at p
    split at p
    · rename_i d e
      obtain ⟨v, e1, r⟩ := G.var e
      exact ⟨v, e1, p b H (Ext.refl G.bh) v r⟩
    · exact p.elim
theorem ib_var (i : Nat) {x : Str} (hN : F.X.N[i]? = some x := by rfl) (hv : Vis F.X.env.scope x := by first | exact Or.inl rfl | exact Or.inr (Or.inl rfl) | exact Or.inr (Or.inr rfl)) (hd : (x == ("__debug__" : Str)) = false := by decide)
    (hcd : (x == ("__classdict__" : Str)) = false := by decide) : IB F (.Name x pos) (eO i) :=
  PE.imp (pe_var hN hv hd hcd) fun σ H Q ⟨b, env, G, p⟩ => by
    unfold eO at p
    split at p
    · rename_i d e
      obtain ⟨v, e1, r⟩ := G.var e
      exact ⟨v, e1, p b H (Ext.refl G.bh) v (.inl r)⟩
    · rename_i l e
      obtain ⟨a, e1, r, _⟩ := G.own e
      obtain ⟨vs, e2, r⟩ := r
      exact ⟨_, e1, p b H (Ext.refl G.bh) _ (.inr (.inl ⟨a, vs, l, rfl, e2, r, rfl⟩))⟩
    · rename_i n l e
      obtain ⟨a, e1, r, _⟩ := G.own e
      exact ⟨_, e1, p b H (Ext.refl G.bh) _ (.inr (.inr ⟨a, n, l, rfl, r, rfl⟩))⟩
    · exact p.elim
theorem ie_con {v : V} {d : D} (h : PE F.X e (tC v)) (r : ∀ K b, Dp K b v d) : IE F e (eC d) := PE.imp h fun σ H Q ⟨b, env, G, p⟩ => p b H (Ext.refl G.bh) v (r _ _)
theorem ie_int {i : Int} {j : Nat} : IE F (.Constant (.int i) j pos) (eC (.int i)) := ie_con pe_int fun _ _ => .int _
theorem ie_bl {i : Bool} {j : Nat} : IE F (.Constant (.bool i) j pos) (eC (.bool i)) := ie_con pe_bl fun _ _ => .bl _
theorem ie_non {j : Nat} : IE F (.Constant .none j pos) (eC .none) := ie_con pe_non fun _ _ => .non
theorem ie_str {x : Str} {j : Nat} : IE F (.Constant (.str x) j pos) (eC (.str x)) := ie_con pe_str fun _ _ => .str _
/-- a constant of the module -/
structure Glob (K : KW) (mg : Str → Option Value) (x : Str) (d : D) : Prop where
  at_ : ∃ u v, mg x = some u ∧ RelV v u ∧ ∀ b, Dp K b v d
theorem ie_glob {x : Str} {d : D} (h : Glob F.kw F.X.mg x d) (hg : Gl F.X x := by rfl) (hd : (x == ("__debug__" : Str)) = false := by decide) : IE F (.Name x pos) (eC d) := by
  obtain ⟨u, v, hm, r, q⟩ := h.at_
  exact PE.imp (pe_glob hg hm r hd) fun σ H Q ⟨b, env, G, p⟩ => p b H (Ext.refl G.bh) v (q b)

/-! ### operations -/
def PoV (K : KW) (b h : Hp) (r : R D) (Q : VK) : Prop := match r with
  | .ok d => ∀ b' h' v, Ext b h b' h' → Dp K b' v d → Q v h'
  | _ => False
theorem Po.v {F : Fx} {b h : Hp} {σ : St} {r : R D} {Q : VK} (n : ∀ c as, r ≠ .ex c as) (p : Po F b h σ r fun d b' h' => ∀ v, Dp F.kw b' v d → Q v h') : PoV F.kw b h r Q := by
  cases r with
  | ok d => exact fun b' h' v x => p b' h' x v
  | ex c as => exact (n c as rfl).elim
  | no => exact p.elim
def PoB (r : R Bool) (Q : VK) (h : Hp) : Prop := match r with
  | .ok c => Q (.bl c) h
  | _ => False
/-- what an operation of two values gives -/
structure OpOk (K : KW) (r : R2) (g : D → D → R D) : Prop where
  run : ∀ (b h : Hp) (x y : V) (d e : D) (Q : VK), Same b h → Bp K b h x d → Bp K b h y e → PoV K b h (g d e) Q → r x y h Q
  nex : ∀ d e c as, g d e ≠ .ex c as
structure UnOk (K : KW) (r : V → Hp → VK → Prop) (g : D → R D) : Prop where
  run : ∀ (b h : Hp) (x : V) (d : D) (Q : VK), Same b h → Bp K b h x d → PoV K b h (g d) Q → r x h Q
  nex : ∀ d c as, g d ≠ .ex c as
structure CmpOk (K : KW) (r : R2) (g : D → D → R Bool) : Prop where
  run : ∀ (b h : Hp) (x y : V) (d e : D) (Q : VK), Same b h → Bp K b h x d → Bp K b h y e → PoB (g d e) Q h → r x y h Q
  nex : ∀ d e c as, g d e ≠ .ex c as
def eBin {α : Type} (g : D → D → R α) (fa fb : Env → R D) : Env → R α := fun env => (fa env).bnd fun x => (fb env).bnd fun y => g x y
def eUn {α : Type} (g : D → R α) (fa : Env → R D) : Env → R α := fun env => (fa env).bnd g
theorem op_run {r : R2} {g : D → D → R D} (ho : OpOk F.kw r g) {σ : St} {H : Hp} {Q : VK} (h : tI F (eBin g fa fb) σ H Q) : tOp r (tIB F fa) (tIB F fb) σ H Q := by
  obtain ⟨b, env, G, p⟩ := h
  refine ⟨b, env, G, Po.bnd p fun d _ b1 h1 x1 p1 v1 r1 => ⟨b1, env, G.grow x1, Po.bnd p1 fun e _ b2 h2 x2 p2 v2 r2 => ?_⟩⟩
  exact ho.run b2 h2 v1 v2 d e Q x2.bh (r1.grow x1.bh x2) r2 (p2.v (ho.nex d e))
theorem ie_op {op : Operator} {r : R2} {g : D → D → R D} (hr : OpR F.X (binaryOp op) r) (ho : OpOk F.kw r g) (ha : IB F a fa) (hb : IB F b fb) : IE F (.BinOp a op b pos) (eBin g fa fb) :=
  PE.imp (pe_op hr ha hb) fun _ _ _ h => op_run ho h
theorem ie_un {op : UnaryOp} {r : V → Hp → VK → Prop} {g : D → R D} (hr : UnR F.X (unaryOp op) r) (ho : UnOk F.kw r g) (ha : IB F a fa) : IE F (.UnaryOp op a pos) (eUn g fa) :=
  PE.imp (pe_un hr ha) fun σ H Q ⟨b, env, G, p⟩ => ⟨b, env, G, Po.bnd p fun d _ b1 h1 x1 p1 v1 r1 => ho.run b1 h1 v1 d Q x1.bh r1 (p1.v (ho.nex d))⟩
theorem cmp_run {r : R2} {g : D → D → R Bool} (ho : CmpOk F.kw r g) {σ : St} {H : Hp} {Q : VK} (h : tIT F (eBin g fa fb) σ H fun c h' => Q (.bl c) h') : tOp r (tIB F fa) (tIB F fb) σ H Q := by
  obtain ⟨b, env, G, p⟩ := h
  refine ⟨b, env, G, Po.bnd p fun d _ b1 h1 x1 p1 v1 r1 => ⟨b1, env, G.grow x1, Po.bnd p1 fun e _ b2 h2 x2 p2 v2 r2 => ?_⟩⟩
  refine ho.run b2 h2 v1 v2 d e _ x2.bh (r1.grow x1.bh x2) r2 ?_
  have n := ho.nex d e
  revert p2 n
  cases g d e with
  | ok c => exact fun p2 _ => p2 b2 h2 (Ext.refl x2.bh)
  | ex c as => exact fun _ n => (n c as rfl).elim
  | no => exact fun p2 _ => p2.elim
theorem it_cmp {op : CmpOp} {r : R2} {g : D → D → R Bool} (hr : OpR F.X (compareOp op) r) (ho : CmpOk F.kw r g) (ha : IB F a fa) (hb : IB F b fb) (hm : behindInMarks op b = false) : IT F (.Compare a [op] [b] pos) (eBin g fa fb) :=
  PT.imp (pt_cmpR hr ha hb hm) fun _ _ _ ⟨b, env, G, p⟩ => cmp_run ho ⟨b, env, G, p.imp fun c _ _ _ q => ⟨c, rfl, q⟩⟩
def eOfB (g : Env → R Bool) : Env → R D := fun env => (g env).bnd fun c => .ok (.bool c)
theorem ie_cmp {op : CmpOp} {r : R2} {g : D → D → R Bool} (hr : OpR F.X (compareOp op) r) (ho : CmpOk F.kw r g) (ha : IB F a fa) (hb : IB F b fb) (hm : behindInMarks op b = false) : IE F (.Compare a [op] [b] pos) (eOfB (eBin g fa fb)) :=
  PE.imp (pe_cmpR hr ha hb hm) fun σ H Q ⟨b, env, G, p⟩ => by
    exact cmp_run ho ⟨b, env, G, Po.bnd p fun c _ b1 h1 x1 p1 => p1 b1 h1 (Ext.refl x1.bh) _ (.bl c)⟩

/-! ### tests -/
def toB : D → R Bool
  | .bool c => .ok c
  | _ => .no
def eB (fa : Env → R D) : Env → R Bool := fun env => (fa env).bnd toB
theorem Dp.isB {K : KW} {b : Hp} {v : V} {c : Bool} (h : Dp K b v (.bool c)) : v = .bl c := by cases h; rfl
/-- a value that is a bool, as a test -/
theorem it_val (h : IE F e fa) (he : ∀ whole, isTrue e F.X.env whole = (do let v ← whole; standAt e.pos; holding [v] (truthy v)) := by intro _; rfl) : IT F e (eB fa) :=
  PT.imp (pt_val h he) fun σ H Q ⟨b, env, G, p⟩ => ⟨b, env, G, Po.bnd p fun d _ b1 h1 x1 p1 v r => by
    cases d with
    | bool c => exact ⟨c, Dp.isB r, p1 b1 h1 (Ext.refl x1.bh)⟩
    | _ => exact p1.elim⟩
def tAndR (ga gb : Env → R Bool) : Env → R Bool := fun env => (ga env).bnd fun c => if c then gb env else .ok false
def tOrR (ga gb : Env → R Bool) : Env → R Bool := fun env => (ga env).bnd fun c => if c then .ok true else gb env
def tNotR (ga : Env → R Bool) : Env → R Bool := fun env => (ga env).bnd fun c => .ok (!c)
variable {rest : List Expr}
theorem iw_and1 (ha : IT F a ga) : IW F (.BoolOp .And [a] pos) ga := pw_and1 ha
theorem iw_or1 (ha : IT F a ga) : IW F (.BoolOp .Or [a] pos) ga := pw_or1 ha
theorem iw_and (ha : IT F a ga) (hb : IW F (.BoolOp .And (b :: rest) pos) gb) : IW F (.BoolOp .And (a :: b :: rest) pos) (tAndR ga gb) :=
  PW.imp (pw_and ha hb) fun σ H Q ⟨b, env, G, p⟩ => ⟨b, env, G, Po.bnd p fun c _ b1 h1 x1 p1 => by
    cases c with
    | true => exact iteT ⟨b1, env, G.grow x1, p1⟩
    | false => exact iteF (p1 b1 h1 (Ext.refl x1.bh))⟩
theorem iw_or (ha : IT F a ga) (hb : IW F (.BoolOp .Or (b :: rest) pos) gb) : IW F (.BoolOp .Or (a :: b :: rest) pos) (tOrR ga gb) :=
  PW.imp (pw_or ha hb) fun σ H Q ⟨b, env, G, p⟩ => ⟨b, env, G, Po.bnd p fun c _ b1 h1 x1 p1 => by
    cases c with
    | false => exact iteF ⟨b1, env, G.grow x1, p1⟩
    | true => exact iteT (p1 b1 h1 (Ext.refl x1.bh))⟩
theorem it_w (h : IW F e ga) : IT F e ga := PW.pt h
theorem it_not (ha : IT F a ga) : IT F (.UnaryOp .Not a pos) (tNotR ga) :=
  PT.imp (pt_not ha) fun σ H Q ⟨b, env, G, p⟩ => ⟨b, env, G, Po.bnd p fun c _ b1 h1 x1 p1 => p1 b1 h1 (Ext.refl x1.bh)⟩
/-- and, or, not as values (bools) -/
theorem ie_one {op} (h : IE F a fa) : IE F (.BoolOp op [a] pos) fa := pe_one h
def eAnd (fa fb : Env → R D) : Env → R D := fun env => (fa env).bnd fun x => match x with
  | .bool true => fb env
  | .bool false => .ok (.bool false)
  | _ => .no
def eOr (fa fb : Env → R D) : Env → R D := fun env => (fa env).bnd fun x => match x with
  | .bool true => .ok (.bool true)
  | .bool false => fb env
  | _ => .no
def eNot (fa : Env → R D) : Env → R D := fun env => (fa env).bnd fun x => match x with
  | .bool c => .ok (.bool (!c))
  | _ => .no
theorem ie_and (ha : IE F a fa) (hb : IE F (.BoolOp .And (b :: rest) pos) fb) : IE F (.BoolOp .And (a :: b :: rest) pos) (eAnd fa fb) :=
  PE.imp (pe_and ha hb) fun σ H Q ⟨b, env, G, p⟩ => ⟨b, env, G, Po.bnd p fun d _ b1 h1 x1 p1 v r => by
    cases d with
    | bool c =>
      refine ⟨c, Dp.isB r, ?_⟩
      cases c with
      | true => exact iteT ⟨b1, env, G.grow x1, p1⟩
      | false => exact iteF (p1 b1 h1 (Ext.refl x1.bh) _ (.bl _))
    | _ => exact p1.elim⟩
theorem ie_or (ha : IE F a fa) (hb : IE F (.BoolOp .Or (b :: rest) pos) fb) : IE F (.BoolOp .Or (a :: b :: rest) pos) (eOr fa fb) :=
  PE.imp (pe_or ha hb) fun σ H Q ⟨b, env, G, p⟩ => ⟨b, env, G, Po.bnd p fun d _ b1 h1 x1 p1 v r => by
    cases d with
    | bool c =>
      refine ⟨c, Dp.isB r, ?_⟩
      cases c with
      | false => exact iteF ⟨b1, env, G.grow x1, p1⟩
      | true => exact iteT (p1 b1 h1 (Ext.refl x1.bh) _ (.bl _))
    | _ => exact p1.elim⟩
theorem ie_not (ha : IE F a fa) : IE F (.UnaryOp .Not a pos) (eNot fa) :=
  PE.imp (pe_not ha) fun σ H Q ⟨b, env, G, p⟩ => ⟨b, env, G, Po.bnd p fun d _ b1 h1 x1 p1 v r => by
    cases d with
    | bool c => exact ⟨c, Dp.isB r, p1 b1 h1 (Ext.refl x1.bh) _ (.bl _)⟩
    | _ => exact p1.elim⟩
def eIf (g : Env → R Bool) (fa fb : Env → R D) : Env → R D := fun env => (g env).bnd fun c => if c then fa env else fb env
theorem ie_if (hc : IT F c ga) (ha : IE F a fa) (hb : IE F b fb) : IE F (.IfExp c a b pos) (eIf ga fa fb) :=
  PE.imp (pe_ifExp hc ha hb) fun σ H Q ⟨b, env, G, p⟩ => ⟨b, env, G, Po.bnd p fun d _ b1 h1 x1 p1 => by
    cases d with
    | true => exact iteT ⟨b1, env, G.grow x1, p1⟩
    | false => exact iteF ⟨b1, env, G.grow x1, p1⟩⟩

/-! ### argument lists, displays -/
def aNil : Env → R (List D) := fun _ => .ok []
def aCons (fa : Env → R D) (fr : Env → R (List D)) : Env → R (List D) := fun env => (fa env).bnd fun x => (fr env).bnd fun xs => .ok (x :: xs)
theorem ia_nil : IA F 0 [] aNil := PA.imp pa_nil fun σ H Q ⟨b, env, G, p⟩ => p b H (Ext.refl G.bh) [] rfl .nil
variable {fr : Env → R (List D)} {n : Nat}
theorem ia_cons (ha : IE F a fa) (hr : IA F n es fr) (hs : starEach (a :: es) F.X.env = (false, eval a F.X.env) :: starEach es F.X.env := by rfl) : IA F (n + 1) (a :: es) (aCons fa fr) :=
  PA.imp (pa_cons ha hr hs) fun σ H Q ⟨b, env, G, p⟩ => ⟨b, env, G, Po.bnd p fun d _ b1 h1 x1 p1 v r => ⟨b1, env, G.grow x1, Po.bnd p1 fun ds _ b2 h2 x2 p2 vs hl rs =>
    p2 b2 h2 (Ext.refl x2.bh) (v :: vs) (by rw [List.length_cons, hl]) (.cons (dp_mono (x2.bb x1.bh) r) rs)⟩⟩
theorem upd_same_sub {H : Hp} {p : Addr} {o : HO} (hp : H p = none) : Same H (upd H p o) := fun c u e => by rw [upd_ne (ne_of_none e hp)]; exact e
/-- a new thing that is never changed from now on -/
theorem Ext.new {b h : Hp} {p : Addr} {o : HO} (s : Same b h) (hp : h p = none) : Ext b h (upd b p o) (upd h p o) where
  up := Up.of (upd_same_sub hp)
  bh := fun c u e => by
    by_cases hc : c = p
    · subst hc; rw [upd_same] at e ⊢; exact e
    · rw [upd_ne hc] at e ⊢; exact s c u e
  fz := fun c u e => upd_ne (ne_of_none e hp)
/-- .. that stands there already, untracked in b -/
theorem Ext.newH {b h : Hp} {p : Addr} {o : HO} (s : Same b h) (hp : h p = none) : Ext b h b (upd h p o) where
  up := Up.of (upd_same_sub hp)
  bh := fun c u e => upd_same_sub hp c u (s c u e)
  fz := fun _ _ _ => rfl
theorem ie_tup {k : Nat} (h : IA F n es fr) (hn : n ≤ sizeLine := by decide) : IE F (.Tuple es k pos) (fun env => (fr env).bnd fun xs => .ok (.tuple xs)) :=
  PE.imp (pe_tup h) fun σ H Q ⟨b, env, G, p⟩ => ⟨b, env, G, Po.bnd p fun ds _ b1 h1 x1 p1 vs hl rs => by
    refine ⟨by rw [hl]; exact hn, fun q hq => ?_⟩
    exact p1 _ _ (Ext.new (o := .tup vs) x1.bh hq) _ (.tup (.inl (.inl upd_same)) (dpAll_mono (upd_same_sub (by cases e : b1 q with | none => rfl | some u => rw [x1.bh q u e] at hq; cases hq)) rs))⟩
theorem none_sub {b h : Hp} (s : Same b h) {p : Addr} (hp : h p = none) : b p = none := by
  cases e : b p with
  | none => rfl
  | some u => rw [s p u e] at hp; cases hp
theorem if_lst (h : IA F n es fr) (hn : n ≤ sizeLine := by decide) : IF F (.List es pos) (fun env => (fr env).bnd fun xs => .ok (.lst xs)) :=
  PE.imp (pe_lst h) fun σ H Q ⟨b, env, G, p⟩ => ⟨b, env, G, Po.bnd p fun ds _ b1 h1 x1 p1 vs hl rs => by
    refine ⟨by rw [hl]; exact hn, fun q hq => ?_⟩
    exact p1 _ _ (Ext.refl x1.bh) q _ hq (fun _ z => by cases z) ⟨vs, upd_same, rs⟩⟩
/-- a new list as a value that is never changed -/
def ofOwn : Own → R D
  | .lst l => .ok (.list l)
  | .dct _ l => .ok (.dict l)
  | _ => .no
theorem ie_new {fo : Env → R Own} (h : IF F e fo) : IE F e (fun env => (fo env).bnd ofOwn) :=
  PE.imp h fun σ H Q ⟨b, env, G, p⟩ => ⟨b, env, G, Po.bnd p fun o _ b1 h1 x1 p1 q u hq hu ok => by
    cases o with
    | lst l =>
      obtain ⟨vs, e, rs⟩ := ok
      rw [upd_same] at e
      cases e
      exact p1 _ _ (Ext.new x1.bh hq) _ (.lst (.inl (.inl upd_same)) (dpAll_mono (upd_same_sub (none_sub x1.bh hq)) rs))
    | dct n l =>
      cases n with
      | false =>
        obtain ⟨vs, e, rs⟩ := ok
        rw [upd_same] at e
        cases e
        exact p1 _ _ (Ext.new x1.bh hq) _ (.dcl upd_same (dpPs_mono (upd_same_sub (none_sub x1.bh hq)) rs))
      | true =>
        obtain ⟨vs, e, rs, k⟩ := ok
        rw [upd_same] at e
        cases e
        exact p1 _ _ (Ext.new x1.bh hq) _ (.dcn upd_same (dpPs_mono (upd_same_sub (none_sub x1.bh hq)) rs) k)
    | exc c as => exact p1.elim⟩
end
end FP
/-! FP C: statements, loops, calls, defs. -/
namespace FP
open PySem L2 PySem.Spec PyProof.Rows

inductive SR where
  | nx (env : Env)
  | rt (d : D)
  | bk (env : Env)
  | ct (env : Env)
  | ex (c : Str) (as : List (Str × D)) (env : Env)
  | no

def PoS (F : Fx) (Dn : Ends) (b : Hp) : SR → Prop
  | .nx env => ∀ b' h' σ', Same b b' → F.G b' h' σ' env → Dn.nx σ' h'
  | .rt d => ∀ b' h' v, Ext F.b0 F.h0 b' h' → Dp F.kw b' v d → Dn.rt v h'
  | .bk env => ∀ b' h' σ', Same b b' → F.G b' h' σ' env → Dn.bk σ' h'
  | .ct env => ∀ b' h' σ', Same b b' → F.G b' h' σ' env → Dn.ct σ' h'
  | .ex c as env => ∀ b' h' σ' dd C fs, Same b b' → F.G b' h' σ' env → F.X.mg c = some (.ref C) → h' dd = some (.xd fs) → ArgsR F.kw b' fs as → F.W (.ref C) (some dd) σ' h'
  | .no => False
theorem PoS.mono {F : Fx} {Dn : Ends} {b b1 : Hp} {r : SR} (p : PoS F Dn b r) (s : Same b b1) : PoS F Dn b1 r := by
  cases r with
  | nx env => exact fun b' h' σ' q => p b' h' σ' (s.trans q)
  | rt d => exact p
  | bk env => exact fun b' h' σ' q => p b' h' σ' (s.trans q)
  | ct env => exact fun b' h' σ' q => p b' h' σ' (s.trans q)
  | ex c as env => exact fun b' h' σ' dd C fs q => p b' h' σ' dd C fs (s.trans q)
  | no => exact p

def tS (F : Fx) (sv : Env → SR) : TS := fun Dn σ h => ∃ b env, F.G b h σ env ∧ PoS F Dn b (sv env)
abbrev IS (F : Fx) (st : Stmt) (sv : Env → SR) : Prop := PS F.X st (tS F sv)
abbrev ISs (F : Fx) (st : List Stmt) (sv : Env → SR) : Prop := PSs F.X st (tS F sv)

def R.s {α : Type} (r : R α) (env : Env) (k : α → SR) : SR := match r with
  | .ok a => k a
  | .ex c as => .ex c as env
  | .no => .no
section
variable {F : Fx} {Dn : Ends} {α : Type}
/-- an expression ahead of the rest -/
theorem PoS.bnd {r : R α} {env : Env} {k : α → SR} {b h : Hp} {σ : St} {P : α → Hp → Hp → Prop} (G : F.G b h σ env) (p : PoS F Dn b (r.s env k))
    (q : ∀ a, r = .ok a → ∀ b1 h1, Ext b h b1 h1 → F.G b1 h1 σ env → PoS F Dn b1 (k a) → P a b1 h1) : Po F b h σ r P := by
  cases r with
  | ok a => exact fun b' h' x => q a rfl b' h' x (G.grow x) (PoS.mono (show PoS F Dn b (k a) from p) (x.bb G.bh))
  | ex c as => exact fun b' h' dd C fs x hm hd ha => p b' h' σ dd C fs (x.bb G.bh) (G.grow x) hm hd ha
  | no => exact p
variable {st : Stmt} {rest : List Stmt} {s1 s2 : Env → SR} {e : Expr} {pos : Pos} {fa : Env → R D}
def sSeq (s1 s2 : Env → SR) : Env → SR := fun env => match s1 env with
  | .nx env' => s2 env'
  | r => r
def sNil : Env → SR := fun env => .nx env
theorem is_nil : ISs F [] sNil := PSs.imp pss_nil fun Dn σ H ⟨b, env, G, p⟩ => p b H σ (Same.refl _) G
theorem is_cons (h1 : IS F st s1) (h2 : ISs F rest s2) : ISs F (st :: rest) (sSeq s1 s2) := PSs.imp (pss_cons h1 h2) fun Dn σ H ⟨b, env, G, p⟩ => by
  refine ⟨b, env, G, ?_⟩
  unfold sSeq at p
  revert p
  cases s1 env with
  | nx env' => exact fun p b' h' σ' q G' => ⟨b', env', G', PoS.mono p q⟩
  | rt d => exact fun p => p
  | bk env' => exact fun p => p
  | ct env' => exact fun p => p
  | ex c as env' => exact fun p => p
  | no => exact fun p => p
theorem is_one (h1 : IS F st s1) : ISs F [st] s1 := pss_one h1
theorem is_pass : IS F (.Pass pos) sNil := PS.imp ps_pass fun Dn σ H ⟨b, env, G, p⟩ => p b H σ (Same.refl _) G
theorem is_break : IS F (.Break pos) (fun env => .bk env) := PS.imp ps_break fun Dn σ H ⟨b, env, G, p⟩ => p b H σ (Same.refl _) G
theorem is_continue : IS F (.Continue pos) (fun env => .ct env) := PS.imp ps_continue fun Dn σ H ⟨b, env, G, p⟩ => p b H σ (Same.refl _) G
theorem is_doc {x : Str} {j : Nat} {pos' : Pos} : IS F (.Expr (.Constant (.str x) j pos) pos') sNil := PS.imp ps_doc fun Dn σ H ⟨b, env, G, p⟩ => p b H σ (Same.refl _) G
def sRet (fa : Env → R D) : Env → SR := fun env => (fa env).s env .rt
theorem is_ret (he : IE F e fa) : IS F (.Return (some e) pos) (sRet fa) := PS.imp (ps_ret he) fun Dn σ H ⟨b, env, G, p⟩ =>
  ⟨b, env, G, PoS.bnd G p fun d _ b1 h1 x1 G1 p1 v r => p1 b1 h1 v G1.ext r⟩
theorem is_retN : IS F (.Return none pos) (fun _ => .rt .none) := PS.imp ps_retN fun Dn σ H ⟨b, env, G, p⟩ => p b H .non G.ext .non
/-- return of one's own list -/
def sRetO (i : Nat) : Env → SR := fun env => match env[i]? with
  | some (.vl d) => .rt d
  | some (.ow (.lst l)) => .rt (.list l)
  | some (.ow (.dct _ l)) => .rt (.dict l)
  | _ => .no
/-- one's own thing is from now on never changed -/
theorem Good.freezeG {K : KW} {b0 h0 b h : Hp} {σ : St} {env : Env} (G : Good K b0 h0 b h σ env) {i : Nat} {ow : Own} {d : D} (e : env[i]? = some (.ow ow)) (mk : ∀ a, OwnOk K b h a ow → b a = none → ∃ u, h a = some u ∧ Dp K (upd b a u) (.ref a) d) :
    ∃ b' v, Same b b' ∧ σ[i]? = some (some v) ∧ Dp K b' v d ∧ Good K b0 h0 b' h σ (env.set i (.vl d)) := by
  obtain ⟨a, ea, ok, n, m⟩ := G.own e
  obtain ⟨u0, hv, r⟩ := mk a ok n
  have sb : Same b (upd b a u0) := upd_same_sub n
  have hil := (List.getElem?_eq_some_iff.mp e).1
  refine ⟨upd b a u0, .ref a, sb, ea, r, ⟨by rw [List.length_set]; exact G.len, ⟨G.ext.up, fun c u ec => ?_, fun c u ec => ?_⟩, fun j s ej => ?_, fun j k o o' c hjk e1 e2 e3 e4 => ?_⟩⟩
  · by_cases hc : c = a
    · subst hc; rw [upd_same] at ec; cases ec; exact hv
    · rw [upd_ne hc] at ec; exact G.ext.bh c u ec
  · have hc : c ≠ a := fun z => by rw [z, m] at ec; cases ec
    rw [upd_ne hc]; exact G.ext.fz c u ec
  · by_cases hij : i = j
    · subst hij
      rw [List.getElem?_set_self hil] at ej
      cases ej
      exact ⟨_, ea, _, rfl, r⟩
    · have ej' := get_set_other hij ej
      obtain ⟨v, e1, q⟩ := G.sl j s ej'
      refine ⟨v, e1, ?_⟩
      cases s with
      | no => trivial
      | vl d => obtain ⟨u, z, w⟩ := q; exact ⟨u, z, dp_mono sb w⟩
      | ow ow =>
        obtain ⟨c, e3, q3, n3, m3⟩ := q
        subst e3
        have hca : c ≠ a := fun z => by subst z; exact G.ap i j _ ow c hij e ej' ea e1
        refine ⟨c, rfl, ?_, by rw [upd_ne hca]; exact n3, m3⟩
        exact q3.up sb (Up.refl _)
  · have h1 : i ≠ j := fun z => by
      subst z
      rw [List.getElem?_set_self hil] at e1; cases e1
    have h2 : i ≠ k := fun z => by
      subst z
      rw [List.getElem?_set_self hil] at e2; cases e2
    exact G.ap j k o o' c hjk (get_set_other h1 e1) (get_set_other h2 e2) e3 e4
theorem Good.freeze {K : KW} {b0 h0 b h : Hp} {σ : St} {env : Env} (G : Good K b0 h0 b h σ env) {i : Nat} {l : List D} (e : env[i]? = some (.ow (.lst l))) :
    ∃ b' v, Same b b' ∧ σ[i]? = some (some v) ∧ Dp K b' v (.list l) ∧ Good K b0 h0 b' h σ (env.set i (.vl (.list l))) :=
  G.freezeG e fun a ok n => by
    obtain ⟨vs, hv, rs⟩ := ok
    exact ⟨_, hv, .lst (.inl (.inl upd_same)) (dpAll_mono (upd_same_sub n) rs)⟩
theorem Good.freezeD {K : KW} {b0 h0 b h : Hp} {σ : St} {env : Env} (G : Good K b0 h0 b h σ env) {i : Nat} {n : Bool} {l : List (D × D)} (e : env[i]? = some (.ow (.dct n l))) :
    ∃ b' v, Same b b' ∧ σ[i]? = some (some v) ∧ Dp K b' v (.dict l) ∧ Good K b0 h0 b' h σ (env.set i (.vl (.dict l))) :=
  G.freezeG e fun a ok nn => by
    cases n with
    | false =>
      obtain ⟨vs, hv, rs⟩ := ok
      exact ⟨_, hv, .dcl upd_same (dpPs_mono (upd_same_sub nn) rs)⟩
    | true =>
      obtain ⟨vs, hv, rs, k⟩ := ok
      exact ⟨_, hv, .dcn upd_same (dpPs_mono (upd_same_sub nn) rs) k⟩
/-- the name's own list is frozen ahead of a statement -/
def sFz (i : Nat) (sv : Env → SR) : Env → SR := fun env => match env[i]? with
  | some (.ow (.lst l)) => sv (env.set i (.vl (.list l)))
  | some (.ow (.dct _ l)) => sv (env.set i (.vl (.dict l)))
  | _ => sv env
theorem is_fz (i : Nat) (h : IS F st s1) : IS F st (sFz i s1) := PS.imp h fun Dn σ H ⟨b, env, G, p⟩ => by
  unfold sFz at p
  split at p
  · rename_i l e
    obtain ⟨b', v, sb, _, _, G'⟩ := G.freeze e
    exact ⟨b', _, G', p.mono sb⟩
  · rename_i n l e
    obtain ⟨b', v, sb, _, _, G'⟩ := G.freezeD e
    exact ⟨b', _, G', p.mono sb⟩
  · exact ⟨b, env, G, p⟩
theorem iss_fz (i : Nat) (h : ISs F rest s1) : ISs F rest (sFz i s1) := PSs.imp h fun Dn σ H ⟨b, env, G, p⟩ => by
  unfold sFz at p
  split at p
  · rename_i l e
    obtain ⟨b', v, sb, _, _, G'⟩ := G.freeze e
    exact ⟨b', _, G', p.mono sb⟩
  · rename_i n l e
    obtain ⟨b', v, sb, _, _, G'⟩ := G.freezeD e
    exact ⟨b', _, G', p.mono sb⟩
  · exact ⟨b, env, G, p⟩
def sIf (g : Env → R Bool) (s1 s2 : Env → SR) : Env → SR := fun env => (g env).s env fun c => if c then s1 env else s2 env
theorem is_if {c : Expr} {g : Env → R Bool} {x y : List Stmt} (hc : IT F c g) (ha : ISs F x s1) (hb : ISs F y s2) : IS F (.If c x y pos) (sIf g s1 s2) := PS.imp (ps_if hc ha hb) fun Dn σ H ⟨b, env, G, p⟩ =>
  ⟨b, env, G, PoS.bnd G p fun c _ b1 h1 x1 G1 p1 => by
    cases c with
    | true => exact iteT ⟨b1, env, G1, p1⟩
    | false => exact iteF ⟨b1, env, G1, p1⟩⟩
def sDrop (fa : Env → R D) : Env → SR := fun env => (fa env).s env fun _ => .nx env
theorem is_expr (he : IE F e fa) (hs : swapsWith e none pos.line F.X.env = pure false := by rfl) : IS F (.Expr e pos) (sDrop fa) := PS.imp (ps_expr he hs) fun Dn σ H ⟨b, env, G, p⟩ =>
  ⟨b, env, G, PoS.bnd G p fun d _ b1 h1 x1 G1 p1 v r => p1 b1 h1 σ (Same.refl _) G1⟩

/-! ### targets -/
/-- a target: what is stored, or nothing is said -/
abbrev Tg := D → Env → Option Env
/-- σ' is σ but for the slots ix -/
def But (ix : List Nat) (σ σ' : St) : Prop := σ'.length = σ.length ∧ ∀ i, i ∉ ix → σ'[i]? = σ[i]?
def tIG (F : Fx) (tg : Tg) (ix : List Nat) : TG := fun v σ h Q => ∃ b env d env', F.G b h σ env ∧ Dp F.kw b v d ∧ tg d env = some env' ∧ ∀ σ', F.G b h σ' env' → But ix σ σ' → Q σ' h
abbrev IG (F : Fx) (e : Expr) (tg : Tg) (ix : List Nat) : Prop := PG F.X e (tIG F tg ix)
abbrev Tgs := List D → Env → Option Env
def tIGs (F : Fx) (tg : Tgs) (ix : List Nat) : TGs := fun vs σ h Q => ∃ b env ds env', F.G b h σ env ∧ DpAll F.kw b vs ds ∧ tg ds env = some env' ∧ ∀ σ', F.G b h σ' env' → But ix σ σ' → Q σ' h
abbrev IGs (F : Fx) (es : List Expr) (tg : Tgs) (ix : List Nat) : Prop := PGs F.X es (tIGs F tg ix)
theorem PG.imp {X : Cx} {e : Expr} {t t' : TG} (h : PG X e t) (q : ∀ v σ H Q, t' v σ H Q → t v σ H Q) : PG X e t' := ⟨fun pins s σ H v u Q I r z => h.run pins s σ H v u Q I r (q v σ H Q z)⟩
theorem PGs.imp {X : Cx} {e : List Expr} {t t' : TGs} (h : PGs X e t) (q : ∀ v σ H Q, t' v σ H Q → t v σ H Q) : PGs X e t' := ⟨fun pins s σ H v u Q I r z => h.run pins s σ H v u Q I r (q v σ H Q z)⟩
def gNm (i : Nat) : Tg := fun d env => some (env.set i (.vl d))
theorem ig_name (i : Nat) {x : Str} (hi : F.X.N[i]? = some x := by rfl) (hx : Loc F.X.env.scope x := by first | exact Or.inl rfl | exact Or.inr rfl) (hf : F.X.fn x = true ∨ F.X.env.scope.names.lookup x = some .local := by first | exact .inl rfl | exact .inr rfl) : IG F (.Name x pos) (gNm i) [i] :=
  PG.imp (pg_name F.nd hi hx hf) fun v σ H Q ⟨b, env, d, env', G, r, e, q⟩ => by
    cases e
    exact q _ (G.set r) ⟨by rw [List.length_set], fun j hj => List.getElem?_set_ne (fun z => hj (by simp [z]))⟩
def gsNil : Tgs := fun ds env => match ds with
  | [] => some env
  | _ => none
def gsCons (t : Tg) (u : Tgs) : Tgs := fun ds env => match ds with
  | d :: r => (t d env).bind fun env' => u r env'
  | [] => none
theorem igs_nil : IGs F [] gsNil [] := PGs.imp pgs_nil fun vs σ H Q ⟨b, env, ds, env', G, r, e, q⟩ => by
  cases r with
  | nil => cases e; exact ⟨rfl, q _ G ⟨rfl, fun _ _ => rfl⟩⟩
  | cons _ _ => cases e
variable {es : List Expr} {t : Tg} {u : Tgs} {ix iy : List Nat}
theorem igs_cons (h1 : IG F e t ix) (h2 : IGs F es u iy) (hs : (assignEach (e :: es) F.X.env).map (·.2) = assign e F.X.env :: (assignEach es F.X.env).map (·.2) := by rfl) : IGs F (e :: es) (gsCons t u) (ix ++ iy) :=
  PGs.imp (pgs_cons h1 h2 hs) fun vs σ H Q ⟨b, env, ds, env', G, r, e, q⟩ => by
    cases r with
    | nil => cases e
    | @cons v vs d ds r1 r2 =>
      obtain ⟨env1, e1, e2⟩ := Option.bind_eq_some_iff.mp e
      exact ⟨v, vs, rfl, b, env, d, env1, G, r1, e1, fun σ1 G1 b1 => ⟨b, env1, ds, env', G1, r2, e2, fun σ2 G2 b2 => q σ2 G2 ⟨b2.1.trans b1.1, fun i hi => (b2.2 i fun z => hi (List.mem_append_right _ z)).trans (b1.2 i fun z => hi (List.mem_append_left _ z))⟩⟩⟩
def gTp (n : Nat) (u : Tgs) : Tg := fun d env => match d with
  | .tuple ds => if ds.length = n then u ds env else none
  | _ => none
theorem dpAll_len {K : KW} {b : Hp} : ∀ {vs : List V} {ds : List D}, DpAll K b vs ds → vs.length = ds.length
  | _, _, .nil => rfl
  | _, _, .cons _ r => by rw [List.length_cons, List.length_cons, dpAll_len r]
theorem ig_tup {k : Nat} (n : Nat) (h : IGs F es u ix) (hn : (assignEach es F.X.env).length = n := by rfl) (hst : (assignEach es F.X.env).findIdx? (·.1) = none := by rfl) (hsu : F.sui = false := by rfl) : IG F (.Tuple es k pos) (gTp n u) ix :=
  PG.imp (pg_tup (F.calm hsu) h hn hst) fun v σ H Q ⟨b, env, d, env', G, r, e, q⟩ => by
    unfold gTp at e
    split at e
    · rename_i ds
      split at e
      · rename_i hl
        cases r with
        | @tup a xs _ hs hr => exact ⟨a, xs, rfl, Same.sqT G.bh hs, (dpAll_len hr).trans hl, b, env, ds, env', G, hr, e, q⟩
      · cases e
    · cases e
def O2S (o : Option Env) : SR := match o with
  | some env => .nx env
  | none => .no
def sAsg (fa : Env → R D) (t : Tg) : Env → SR := fun env => (fa env).s env fun d => O2S (t d env)
theorem is_asg {tg : Expr} (he : IE F e fa) (hg : IG F tg t ix) (hs : swapsWithSole [tg] e pos.line F.X.env = pure false := by rfl) (hw : swappedStores [tg] e F.X.env = pure none := by rfl) (h1 : (assignEach [tg] F.X.env).map (·.2) = [assign tg F.X.env] := by rfl) : IS F (.Assign [tg] e pos) (sAsg fa t) :=
  PS.imp (ps_asg he hg hs hw h1) fun Dn σ H ⟨b, env, G, p⟩ => ⟨b, env, G, PoS.bnd G p fun d _ b1 h1 x1 G1 p1 v r => by
    revert p1
    cases e : t d env with
    | none => exact fun p1 => p1.elim
    | some env' => exact fun p1 => ⟨b1, env, d, env', G1, r, e, fun σ' G' _ => p1 b1 h1 σ' (Same.refl _) G'⟩⟩
def sSet (i : Nat) (fa : Env → R D) : Env → SR := fun env => (fa env).s env fun d => .nx (env.set i (.vl d))
theorem is_set (i : Nat) {x : Str} {pos' : Pos} (he : IE F e fa) (hi : F.X.N[i]? = some x := by rfl) (hx : Loc F.X.env.scope x := by first | exact Or.inl rfl | exact Or.inr rfl) (hs : swapsWith e (some (.Name x pos')) pos.line F.X.env = pure false := by rfl)
    (hf : F.X.fn x = true ∨ F.X.env.scope.names.lookup x = some .local := by first | exact .inl rfl | exact .inr rfl) : IS F (.Assign [.Name x pos'] e pos) (sSet i fa) :=
  PS.imp (ps_set F.nd hi hx he hs hf) fun Dn σ H ⟨b, env, G, p⟩ => ⟨b, env, G, PoS.bnd G p fun d _ b1 h1 x1 G1 p1 v r => p1 b1 h1 _ (Same.refl _) (G1.set r)⟩
def sSetO (i : Nat) (fo : Env → R Own) : Env → SR := fun env => (fo env).s env fun o => .nx (env.set i (.ow o))
theorem Good.setNew {b h : Hp} {σ : St} {env : Env} {i : Nat} {p : Addr} {u : HO} {o : Own} (G : F.G b h σ env) (hp : h p = none) (ok : OwnOk F.kw b (upd h p u) p o) : F.G b (upd h p u) (σ.set i (some (.ref p))) (env.set i (.ow o)) := by
  have G2 := G.grow (Ext.newH (o := u) G.bh hp)
  refine Good.setOwn G2 ok (none_sub G.bh hp) (G.ext.up.free hp) fun j o' _ e z => ?_
  obtain ⟨a, ea, ok', _⟩ := G.own e
  rw [ea] at z
  cases z
  obtain ⟨w, hw⟩ := ok'.there
  rw [hp] at hw
  cases hw
theorem is_setO (i : Nat) {x : Str} {pos' : Pos} {fo : Env → R Own} (he : IF F e fo) (hi : F.X.N[i]? = some x := by rfl) (hx : Loc F.X.env.scope x := by first | exact Or.inl rfl | exact Or.inr rfl) (hs : swapsWith e (some (.Name x pos')) pos.line F.X.env = pure false := by rfl)
    (hf : F.X.fn x = true ∨ F.X.env.scope.names.lookup x = some .local := by first | exact .inl rfl | exact .inr rfl) : IS F (.Assign [.Name x pos'] e pos) (sSetO i fo) :=
  PS.imp (ps_set F.nd hi hx he hs hf) fun Dn σ H ⟨b, env, G, p⟩ => ⟨b, env, G, PoS.bnd G p fun o _ b1 h1 x1 G1 p1 q u hq _ ok => p1 b1 _ _ (Same.refl _) (G1.setNew hq ok)⟩
/-- name op= e -/
def sAug (i : Nat) (g : D → D → R D) (fa : Env → R D) : Env → SR := fun env => match env[i]? with
  | some (.vl x) => ((fa env).bnd fun y => g x y).s env fun d => .nx (env.set i (.vl d))
  | _ => .no
theorem is_aug (i : Nat) {x : Str} {op : Operator} {r : R2} {g : D → D → R D} {pos' : Pos} (hr : OpR F.X (inplaceOp op) r) (ho : OpOk F.kw r g) (he : IB F e fa) (hi : F.X.N[i]? = some x := by rfl) (hx : Loc F.X.env.scope x := by first | exact Or.inl rfl | exact Or.inr rfl)
    (hf : F.X.fn x = true ∨ F.X.env.scope.names.lookup x = some .local := by first | exact .inl rfl | exact .inr rfl) : IS F (.AugAssign (.Name x pos') op e pos) (sAug i g fa) :=
  PS.imp (ps_aug (ti := r) F.nd hi hx he (fun pins s σ H x y v u Q I rx ry h => hr pins s σ H x y v u Q I rx ry h) hf) fun Dn σ H ⟨b, env, G, p⟩ => by
    unfold sAug at p
    split at p
    · rename_i d e
      obtain ⟨v, ev, rv⟩ := G.var e
      refine ⟨v, ev, b, env, G, ?_⟩
      refine Po.bnd (k := fun y => g d y) (PoS.bnd (P := fun d' b' h' => ∀ w, Dp F.kw b' w d' → Dn.nx (σ.set i (some w)) h') G p fun d' _ b1 h1 x1 G1 p1 w rw => p1 b1 h1 _ (Same.refl _) (G1.set rw)) fun y _ b1 h1 x1 p1 w rw => ?_
      refine ho.run b1 h1 v w d y _ x1.bh (.inl (dp_mono (x1.bb G.bh) rv)) rw ?_
      exact Po.v (F := F) (σ := σ) (ho.nex d y) p1
    · exact p.elim
/-- x.append(e), x one's own list -/
def sApp (i : Nat) (fa : Env → R D) : Env → SR := fun env => match env[i]? with
  | some (.ow (.lst l)) => (fa env).s env fun d => if l.length < sizeLine then .nx (env.set i (.ow (.lst (l ++ [d])))) else .no
  | _ => .no
theorem dpAll_snoc {K : KW} {b : Hp} : ∀ {vs : List V} {ds : List D} {v : V} {d : D}, DpAll K b vs ds → Dp K b v d → DpAll K b (vs ++ [v]) (ds ++ [d])
  | _, _, _, _, .nil, q => .cons q .nil
  | _, _, _, _, .cons p r, q => .cons p (dpAll_snoc r q)
theorem dpAll_app {K : KW} {b : Hp} : ∀ {vs ws : List V} {ds es : List D}, DpAll K b vs ds → DpAll K b ws es → DpAll K b (vs ++ ws) (ds ++ es)
  | _, _, _, _, .nil, q => q
  | _, _, _, _, .cons p r, q => .cons p (dpAll_app r q)
theorem is_append (i : Nat) {x : Str} {p1 p2 p3 : Pos} (he : IE F e fa) (hi : F.X.N[i]? = some x := by rfl) (hv : Vis F.X.env.scope x := by first | exact Or.inl rfl | exact Or.inr (Or.inl rfl) | exact Or.inr (Or.inr rfl)) (hd : (x == ("__debug__" : Str)) = false := by decide)
    (hcd : (x == ("__classdict__" : Str)) = false := by decide)
    (hs : swapsWith (.Call (.Attribute (.Name x p1) "append" p2) [e] [] p3) none pos.line F.X.env = pure false := by rfl)
    (hpe : ∀ {te : TE}, PE F.X e te → PE F.X (.Call (.Attribute (.Name x p1) "append" p2) [e] [] p3) (tBM F.X.K "list" rAppend (tVar i) (tCons te tNil)) := by intro te hte; exact pe_bm PySem.F.plainAttrs_list PySem.F.slot_list_append PySem.F.type_list_append mt_append (pv _) (pa_cons hte pa_nil)) :
    IS F (.Expr (.Call (.Attribute (.Name x p1) "append" p2) [e] [] p3) pos) (sApp i fa) :=
  PS.imp (ps_expr (hpe he) hs) fun Dn σ H ⟨b, env, G, p⟩ => by
    unfold sApp at p
    split at p
    · rename_i l e
      obtain ⟨a, ea, ⟨vs, hv, rs⟩, n, m⟩ := G.own e
      refine ⟨_, ea, .inl ⟨rfl, vs, SqL.of hv⟩, b, env, G, PoS.bnd G p fun d _ b1 h1 x1 G1 p1 w rw => ?_⟩
      have hv1 := x1.up.st a _ hv (fun _ z => by cases z)
      have rs1 := dpAll_mono (x1.bb G.bh) rs
      split at p1
      · rename_i hl
        refine ⟨a, vs, w, rfl, rfl, hv1, by rw [dpAll_len rs]; exact hl, ?_⟩
        exact p1 b1 _ _ (Same.refl _) (Good.mut (o := .lst l) G1 e ea ⟨vs ++ [w], upd_same, dpAll_snoc rs1 rw⟩ (fun ps z => by rw [hv1] at z; cases z))
      · exact p1.elim
    · exact p.elim

/-! ### loops -/
def sWhile (g : Env → R Bool) (sb : Env → SR) : Nat → Env → SR
  | 0, _ => .no
  | n + 1, env => (g env).s env fun c => if c then (match sb env with
      | .nx env' => sWhile g sb n env'
      | .ct env' => sWhile g sb n env'
      | .bk env' => .nx env'
      | r => r) else .nx env
theorem is_while (n : Nat) {c : Expr} {g : Env → R Bool} {body : List Stmt} {sb : Env → SR} (hc : IT F c g) (hb : ISs F body sb) (hsu : F.sui = false := by rfl) : IS F (.While c body [] pos) (sWhile g sb n) :=
  PS.imp (ps_while (F.owns hsu) hc hb) fun Dn σ H ⟨b, env, G, p⟩ => by
    refine ⟨fun m σ H => ∃ b env, F.G b H σ env ∧ PoS F Dn b (sWhile g sb m env), ⟨n, b, env, G, p⟩, ?_⟩
    rintro m σ H ⟨b, env, G, p⟩
    cases m with
    | zero => exact p.elim
    | succ m =>
      unfold sWhile at p
      refine ⟨b, env, G, PoS.bnd G p fun c _ b1 h1 x1 G1 p1 => ?_⟩
      cases c with
      | false => exact iteF (p1 b1 h1 σ (Same.refl _) G1)
      | true =>
        refine iteT ⟨fun σ' H' => ∃ b env, F.G b H' σ' env ∧ PoS F Dn b (sWhile g sb m env), fun σ' H' q => ⟨m, Nat.lt_succ_self m, q⟩, b1, env, G1, ?_⟩
        revert p1
        show PoS F Dn b1 (match sb env with
          | .nx env' => sWhile g sb m env'
          | .ct env' => sWhile g sb m env'
          | .bk env' => .nx env'
          | r => r) → _
        cases sb env with
        | nx env' => exact fun p1 b' h' σ' q G' => ⟨b', env', G', p1.mono q⟩
        | rt d => exact fun p1 => p1
        | bk env' => exact fun p1 => p1
        | ct env' => exact fun p1 b' h' σ' q G' => ⟨b', env', G', p1.mono q⟩
        | ex c as env' => exact fun p1 => p1
        | no => exact fun p1 => p1
/-- a for over the items xs -/
def sFor (t : Tg) (sb : Env → SR) : List D → Env → SR
  | [], env => .nx env
  | x :: xs, env => match t x env with
    | none => .no
    | some env1 => match sb env1 with
      | .nx env' => sFor t sb xs env'
      | .ct env' => sFor t sb xs env'
      | .bk env' => .nx env'
      | r => r
/-- what a for walks: as long as b stands -/
structure Wk (K : KW) (b : Hp) (J : It) (ds : List D) : Prop where
  goes : ∀ (i : Nat) b' h', Same b b' → Same b' h' → i < ds.length → J.go i h'
  stops : ∀ b' h', Same b b' → Same b' h' → J.stop ds.length h'
  yields : ∀ (i : Nat) b' h' x h'' d, Same b b' → Same b' h' → ds[i]? = some d → J.yld i h' x h'' → ∃ b'', Ext b' h' b'' h'' ∧ Dp K b'' x d
theorem Wk.mono {K : KW} {b b1 : Hp} {J : It} {ds : List D} (w : Wk K b J ds) (s : Same b b1) : Wk K b1 J ds :=
  ⟨fun i b' h' q => w.goes i b' h' (s.trans q), fun b' h' q => w.stops b' h' (s.trans q), fun i b' h' x h'' d q => w.yields i b' h' x h'' d (s.trans q)⟩
def tII (F : Fx) (f : Env → R (List D)) : TI := fun σ h R => ∃ b env, F.G b h σ env ∧ Po F b h σ (f env) fun ds b' h' => ∀ J, Wk F.kw b' J ds → R J h'
abbrev II (F : Fx) (tg e : Expr) (f : Env → R (List D)) : Prop := PI F.X tg e (tII F f)
def sForE (f : Env → R (List D)) (t : Tg) (sb : Env → SR) : Env → SR := fun env => (f env).s env fun ds => sFor t sb ds env
theorem for_run {t : Tg} {f : Env → R (List D)} {sb : Env → SR} {Dn : Ends} {σ : St} {H : Hp} (h : tS F (sForE f t sb) Dn σ H) : tFor (tII F f) (tIG F t ix) (tS F sb) Dn σ H := by
  obtain ⟨b, env, G, p⟩ := h
  exact ⟨b, env, G, PoS.bnd G p fun ds _ b1 h1 x1 G1 p1 J wk => by
    refine ⟨fun i m σ h => m = ds.length - i ∧ i ≤ ds.length ∧ ∃ b env, F.G b h σ env ∧ Same b1 b ∧ PoS F Dn b (sFor t sb (ds.drop i) env), ⟨ds.length, by simp, Nat.zero_le _, b1, env, G1, Same.refl _, by simpa using p1⟩, ?_⟩
    rintro i m σ h ⟨rfl, hi, b, env, G, sb1, p⟩
    by_cases hlt : i < ds.length
    · refine .inr ⟨wk.goes i b h sb1 G.bh hlt, fun σ' h' => ∃ b env, F.G b h' σ' env ∧ Same b1 b ∧ PoS F Dn b (sFor t sb (ds.drop (i + 1)) env), fun σ' h' ⟨b', env', G', s', p'⟩ => ⟨ds.length - (i + 1), by omega, rfl, hlt, b', env', G', s', p'⟩, fun x h' hy => ?_⟩
      have ed : ds[i]? = some ds[i] := List.getElem?_eq_getElem hlt
      obtain ⟨b2, x2, r⟩ := wk.yields i b h x h' _ sb1 G.bh ed hy
      rw [List.drop_eq_getElem_cons hlt] at p
      unfold sFor at p
      revert p
      cases et : t ds[i] env with
      | none => exact fun p => p.elim
      | some env1 =>
        intro p
        refine ⟨b2, env, ds[i], env1, G.grow x2, r, et, fun σ' G' _ => ⟨b2, env1, G', ?_⟩⟩
        have s2 := x2.bb G.bh
        have p2 := PoS.mono p s2
        revert p2
        show PoS F Dn b2 (match sb env1 with
          | .nx env' => sFor t sb (ds.drop (i + 1)) env'
          | .ct env' => sFor t sb (ds.drop (i + 1)) env'
          | .bk env' => .nx env'
          | r => r) → _
        cases sb env1 with
        | nx env' => exact fun p2 b' h' σ' q G' => ⟨b', env', G', sb1.trans (s2.trans q), p2.mono q⟩
        | rt d => exact fun p2 => p2
        | bk env' => exact fun p2 => p2
        | ct env' => exact fun p2 b' h' σ' q G' => ⟨b', env', G', sb1.trans (s2.trans q), p2.mono q⟩
        | ex c as env' => exact fun p2 => p2
        | no => exact fun p2 => p2
    · have e : i = ds.length := by omega
      subst e
      rw [List.drop_length] at p
      exact .inl ⟨wk.stops b h sb1 G.bh, p b h σ (Same.refl _) G⟩⟩
theorem is_for {tg iter : Expr} {f : Env → R (List D)} {t : Tg} {body : List Stmt} {sb : Env → SR} (hi : II F tg iter f) (hg : IG F tg t ix) (hb : ISs F body sb) (hs : ∀ x, foldedSetIterable iter F.X.env x = pure x := by intro _; rfl) (hsu : F.sui = false := by rfl) :
    IS F (.For tg iter body [] pos) (sForE f t sb) :=
  PS.imp (ps_for (F.owns hsu) (F.calm hsu) hi hg hb hs) fun Dn σ H h => for_run h

/-! ### what is walked -/
/-- a list, a tuple or a text -/
def iSeq (K : PySem.W.Frag) (te : TE) : TI := fun σ H R => te σ H fun x H1 => (∃ a, x = .ref a ∧ (∃ xs, SqL K H1 a xs) ∧ R (Itl K a) H1) ∨ (∃ a, x = .ref a ∧ (∃ xs, SqT K H1 a xs) ∧ R (Itt K a) H1) ∨ ∃ z, x = .str z ∧ R (Its z) H1
theorem pi_seq {X : Cx} {tg l : Expr} {tl : TE} (hl : PE X l tl) : PI X tg l (iSeq X.K tl) := by
  refine ⟨fun pins s σ H R I h => ?_⟩
  refine thn (hl.run pins s σ H _ I h) fun v s1 ⟨x, H1, I1, r1, q1⟩ => ?_
  rcases q1 with ⟨a, e, ⟨xs, hq⟩, q⟩ | ⟨a, e, ⟨xs, hq⟩, q⟩ | ⟨z, e, q⟩
  · subst e
    cases r1
    obtain ⟨its, rv, p, hz⟩ := I1.list hq
    refine wpAny_pyIter_list p.isList ?_
    refine ⟨s1.heap.objs.size, [s1.heap.objs.size], _, _, H1, rfl, I1.kept (t' := s1.toks) fun b o e => Heap.get?_push_of_some _ e, turn_list a _, ⟨_, Heap.get?_push_size _ rfl, rfl, rfl⟩, fun b hb => ?_, q⟩
    have e : b = s1.heap.objs.size := by simpa using hb
    subst e
    exact I1.fpOk (Nat.le_refl _) (I1.hok.fresh (Nat.le_refl _))
  · subst e
    cases r1
    obtain ⟨its, rv, p, hz⟩ := I1.tuple hq
    refine wpAny_pyIter_tuple (show s1.heap.IsTuple a its.toArray from p) ?_
    refine ⟨s1.heap.objs.size, [s1.heap.objs.size], _, _, H1, rfl, I1.kept (t' := s1.toks) fun b o e => Heap.get?_push_of_some _ e, turn_tuple a _, ⟨_, Heap.get?_push_size _ rfl, rfl, rfl⟩, fun b hb => ?_, q⟩
    have e : b = s1.heap.objs.size := by simpa using hb
    subst e
    exact I1.fpOk (Nat.le_refl _) (I1.hok.fresh (Nat.le_refl _))
  · subst e
    obtain ⟨t, rfl⟩ := r1
    cases ha : z.cps.all (· < 128)
    · exact wpAny_pyIter_wide ha (pi_one (tk := s1.toks) I1 _ (turn_str _ z t "str_iterator" (.inr rfl)) ⟨_, Heap.get?_push_size _ rfl, rfl, rfl⟩ q)
    · exact wpAny_pyIter_ascii ha (pi_one (tk := s1.toks) I1 _ (turn_str _ z t "str_ascii_iterator" (.inl rfl)) ⟨_, Heap.get?_push_size _ rfl, rfl, rfl⟩ q)
theorem PI.imp {X : Cx} {tg e : Expr} {t t' : TI} (h : PI X tg e t) (q : ∀ σ H R, t' σ H R → t σ H R) : PI X tg e t' := ⟨fun pins s σ H R I z => h.run pins s σ H R I (q σ H R z)⟩
/-- a sign as a text -/
def sg (c : Nat) : D := .str ⟨#[c]⟩
/-- the items of a thing -/
def items : D → R (List D)
  | .list l => .ok l
  | .tuple l => .ok l
  | .str z => .ok (z.cps.toList.map sg)
  | _ => .no
theorem dpAll_get {K : KW} {b : Hp} : ∀ {vs : List V} {ds : List D} {i : Nat} {d : D} {v : V}, DpAll K b vs ds → ds[i]? = some d → vs[i]? = some v → Dp K b v d
  | _, _, 0, _, _, .cons p _, e, e' => by
    simp only [List.getElem?_cons_zero, Option.some.injEq] at e e'
    subst e e'; exact p
  | _, _, i + 1, _, _, .cons _ r, e, e' => by
    simp only [List.getElem?_cons_succ] at e e'
    exact dpAll_get r e e'
  | _, _, _, _, _, .nil, e, _ => by simp at e
theorem Same.sqL {K : PySem.W.Frag} {H H' : Hp} {a : Addr} {xs : List V} (e : Same H H') (h : SqL K H a xs) : SqL K H' a xs := e.seq h
theorem wk_list {K : KW} {b : Hp} {a : Addr} {vs : List V} {ds : List D} (hs : SqL K b a vs) (r : DpAll K b vs ds) : Wk K b (Itl K a) ds where
  goes := fun i b' h' s s' hi => by
    have hl := dpAll_len r
    exact ⟨vs, vs[i]'(by omega), Same.sqL (s.trans s') hs, List.getElem?_eq_getElem (by omega)⟩
  stops := fun b' h' s s' => ⟨vs, Same.sqL (s.trans s') hs, Nat.le_of_eq (dpAll_len r)⟩
  yields := fun i b' h' x h'' d s s' e y => by
    obtain ⟨rfl, y⟩ := y
    exact ⟨b', Ext.refl s', dpAll_get (dpAll_mono s r) e (y vs (Same.sqL (s.trans s') hs))⟩
theorem wk_tup {K : KW} {b : Hp} {a : Addr} {vs : List V} {ds : List D} (hs : SqT K b a vs) (r : DpAll K b vs ds) : Wk K b (Itt K a) ds where
  goes := fun i b' h' s s' hi => by
    have hl := dpAll_len r
    exact ⟨vs, vs[i]'(by omega), Same.sqT (s.trans s') hs, List.getElem?_eq_getElem (by omega)⟩
  stops := fun b' h' s s' => ⟨vs, Same.sqT (s.trans s') hs, Nat.le_of_eq (dpAll_len r)⟩
  yields := fun i b' h' x h'' d s s' e y => by
    obtain ⟨rfl, y⟩ := y
    exact ⟨b', Ext.refl s', dpAll_get (dpAll_mono s r) e (y vs (Same.sqT (s.trans s') hs))⟩
theorem wk_str {K : KW} {b : Hp} {z : Str} : Wk K b (Its z) (z.cps.toList.map sg) where
  goes := fun i b' h' s s' hi => by
    have hi' : i < z.cps.size := by simpa using hi
    exact hi'
  stops := fun b' h' s s' => by
    show z.cps.size ≤ _
    simp
  yields := fun i b' h' x h'' d s s' e y => by
    obtain ⟨rfl, c, hc, rfl⟩ := y
    refine ⟨b', Ext.refl s', ?_⟩
    rw [List.getElem?_map, Array.getElem?_toList, hc] at e
    cases e
    exact .str _
theorem ii_seq {tg : Expr} (he : IE F e fa) : II F tg e (fun env => (fa env).bnd items) :=
  PI.imp (pi_seq he) fun σ H R ⟨b, env, G, p⟩ => ⟨b, env, G, Po.bnd p fun d _ b1 h1 x1 p1 v r => by
    cases d with
    | list l =>
      cases r with
      | @lst a vs _ hs hr => exact .inl ⟨a, rfl, ⟨vs, Same.sqL x1.bh hs⟩, p1 b1 h1 (Ext.refl x1.bh) _ (wk_list hs hr)⟩
    | tuple l =>
      cases r with
      | @tup a vs _ hs hr => exact .inr (.inl ⟨a, rfl, ⟨vs, Same.sqT x1.bh hs⟩, p1 b1 h1 (Ext.refl x1.bh) _ (wk_tup hs hr)⟩)
    | str z =>
      cases r
      exact .inr (.inr ⟨z, rfl, p1 b1 h1 (Ext.refl x1.bh) _ wk_str⟩)
    | none => exact p1.elim
    | bool _ => exact p1.elim
    | int _ => exact p1.elim
    | dict _ => exact p1.elim⟩
/-- lo, lo + 1, .. -/
def upFrom (lo : Int) (n : Nat) : List D := (List.range n).map fun i => .int (lo + (i : Nat))
theorem wk_range {K : KW} {b : Hp} {lo : Int} {n : Nat} : Wk K b (Itr lo n) (upFrom lo n) where
  goes := fun i b' h' s s' hi => by
    have hi' : i < n := by simpa [upFrom] using hi
    exact hi'
  stops := fun b' h' s s' => by
    show n ≤ _
    simp [upFrom]
  yields := fun i b' h' x h'' d s s' e y => by
    obtain ⟨rfl, rfl⟩ := y
    refine ⟨b', Ext.refl s', ?_⟩
    unfold upFrom at e
    rw [List.getElem?_map] at e
    obtain ⟨j, ej, e⟩ := Option.map_eq_some_iff.mp e
    obtain ⟨hj, rfl⟩ := List.getElem?_eq_some_iff.mp ej
    subst e
    rw [List.getElem_range]
    exact .int _
def rng1 : D → R (List D)
  | .int j => if -(2 ^ 62) ≤ j ∧ j < 2 ^ 62 then .ok (upFrom 0 j.toNat) else .no
  | _ => .no
def rng2 : D → D → R (List D)
  | .int i, .int j => if (-(2 ^ 62) ≤ i ∧ i < 2 ^ 62) ∧ -(2 ^ 62) ≤ j ∧ j < 2 ^ 62 then .ok (upFrom i (j - i).toNat) else .no
  | _, _ => .no
theorem ia_one {a : Expr} {fa : Env → R D} (ha : IE F a fa) (hs : starEach [a] F.X.env = (false, eval a F.X.env) :: starEach [] F.X.env := by rfl) : PA F.X [a] (tCons (tI F fa) tNil) := pa_cons ha pa_nil hs
theorem ii_range1 {tg a : Expr} {p : Pos} (ha : IE F a fa) (hm : F.X.mg "range" = none) (hg : Gl F.X "range" := by rfl) (hs : starEach [a] F.X.env = [(false, eval a F.X.env)] := by rfl) (hs' : starEach [a] F.X.env = (false, eval a F.X.env) :: starEach [] F.X.env := by rfl) :
    II F tg (.Call (.Name "range" p) [a] [] pos) (fun env => (fa env).bnd rng1) :=
  PI.imp (pi_range1 hg hm (ia_one ha hs') hs) fun σ H R ⟨b, env, G, p⟩ => ⟨b, env, G, Po.bnd p fun d _ b1 h1 x1 p1 v r => by
    cases d with
    | int j =>
      cases r
      by_cases hj : -(2 ^ 62) ≤ j ∧ j < 2 ^ 62
      · rw [rng1, if_pos hj] at p1
        exact ⟨j, rfl, hj.1, hj.2, p1 b1 h1 (Ext.refl x1.bh) _ wk_range⟩
      · rw [rng1, if_neg hj] at p1
        exact p1.elim
    | _ => exact p1.elim⟩
theorem ii_range2 {tg a c : Expr} {fc : Env → R D} {p : Pos} (ha : IE F a fa) (hc : IE F c fc) (hm : F.X.mg "range" = none) (hg : Gl F.X "range" := by rfl) (hs : starEach [a, c] F.X.env = [(false, eval a F.X.env), (false, eval c F.X.env)] := by rfl) (hs2 : starEach [c] F.X.env = [(false, eval c F.X.env)] := by rfl)
    (hs' : starEach [a, c] F.X.env = (false, eval a F.X.env) :: starEach [c] F.X.env := by rfl) (hs3 : starEach [c] F.X.env = (false, eval c F.X.env) :: starEach [] F.X.env := by rfl) :
    II F tg (.Call (.Name "range" p) [a, c] [] pos) (fun env => (fa env).bnd fun x => (fc env).bnd fun y => rng2 x y) :=
  PI.imp (pi_range2 hg hm (pa_cons ha (ia_one hc hs3) hs') hs hs2) fun σ H R ⟨b, env, G, p⟩ => ⟨b, env, G, Po.bnd p fun d _ b1 h1 x1 p1 v r => ⟨b1, env, G.grow x1, Po.bnd p1 fun d2 _ b2 h2 x2 p2 v2 r2 => by
    unfold rng2 at p2
    split at p2
    · split at p2
      · rename_i hj
        cases r
        cases r2
        exact ⟨_, _, rfl, ⟨hj.1.1, hj.1.2, hj.2.1, hj.2.2⟩, p2 b2 h2 (Ext.refl x2.bh) _ wk_range⟩
      · exact p2.elim
    · exact p2.elim⟩⟩
end
end FP
/-! FP D: defs and calls. -/
namespace FP
open PySem L2 PySem.Spec PyProof.Rows

/-- a def's promise: it gives what m gives -/
def spF (K : KW) (mg : Str → Option Value) (T : List Addr) (n : Nat) (m : List D → R D) : Sp := fun vs H Q E => vs.length = n ∧ ∃ b ds, (∀ P ∈ T, GxR.TabG H P ∧ b P = none) ∧ Same b H ∧ DpAll K b vs ds ∧ match m ds with
  | .ok d => ∀ b' h' v, Ext b H b' h' → Dp K b' v d → Q v h'
  | .ex c as => ∀ b' h' dd C fs, Ext b H b' h' → mg c = some (.ref C) → h' dd = some (.xd fs) → ArgsR K b' fs as → E (.ref C) (some dd) h'
  | .no => False
/-- the def that a module's name holds -/
structure Fn (P : Program) (w : World) (K : PySem.W.Frag) (mg : Str → Option Value) (base : Heap) (T : List Addr) (x : Str) (k n : Nat) (m : List D → R D) : Prop where
  at_ : ∃ f fd ps, mg x = some (.ref f) ∧ PySem.W.keepIn K (.ref f) = true ∧ Binds K fd ps [] ∧ FnOk P w K mg base (L2.CX P w) k f fd ps (spF ⟨K, w⟩ mg T n m)
theorem Fn.mono {P : Program} {w : World} {K : PySem.W.Frag} {mg : Str → Option Value} {base : Heap} {T : List Addr} {x : Str} {k k' n : Nat} {m : List D → R D} (f : Fn P w K mg base T x k n m) (h : k ≤ k') : Fn P w K mg base T x k' n m := by
  obtain ⟨f, fd, ps, a, b, c, d⟩ := f.at_
  exact ⟨f, fd, ps, a, b, c, d.mono h⟩
abbrev FnF (F : Fx) (x : Str) (k n : Nat) (m : List D → R D) : Prop := Fn F.X.prog F.X.w F.X.K F.X.mg F.X.base F.T x k n m
section
variable {F : Fx} {e : Expr} {es : List Expr} {pos : Pos} {fr : Env → R (List D)}
theorem Good.pre {F : Fx} {b h : Hp} {σ : St} {env : Env} (G : F.G b h σ env) : ∀ P ∈ F.T, GxR.TabG h P ∧ b P = none := fun P hP => by
  obtain ⟨q, n⟩ := F.pre P hP
  refine ⟨G.ext.up.pre q, ?_⟩
  obtain ⟨ps, e, _⟩ := q
  rw [G.ext.fz P _ e]
  exact n
theorem ie_call {x : Str} {k n : Nat} {m : List D → R D} {p : Pos} (f : FnF F x k n m) (hk : k ≤ F.k) (ha : IA F n (e :: es) fr) (hg : Gl F.X x := by rfl) (hdb : (x == ("__debug__" : Str)) = false := by decide)
    (he : starEach (e :: es) F.X.env = (false, eval e F.X.env) :: starEach es F.X.env := by rfl) (hpl : (backTo pos (starEach es F.X.env)).any (·.1) = false := by rfl) (hsu : F.sui = false := by rfl) : IE F (.Call (.Name x p) (e :: es) [] pos) (fun env => (fr env).bnd m) := by
  obtain ⟨f, fd, ps, hm, kp, bi, ok⟩ := f.at_
  refine PE.imp (pe_callS ok ((F.roomC hsu).mono hk) hg hm kp bi (fun σ => passAt F.tk σ) ha hdb he hpl) fun σ H Q ⟨b, env, G, p⟩ => ⟨b, env, G, Po.bnd p fun ds _ b1 h1 x1 p1 vs hl rs => ?_⟩
  refine ⟨hl, b1, ds, (G.grow x1).pre, x1.bh, rs, ?_⟩
  revert p1
  cases m ds with
  | ok d => exact fun p1 b' h' v x r => p1 b' h' x v r
  | ex c as => exact fun p1 b' h' dd C fs x hc hd ha => p1 b' h' dd C fs x hc hd ha
  | no => exact fun p1 => p1
end

/-- the slots at a def's entry -/
def env0 (n : Nat) (ds : List D) : Env := ds.map .vl ++ List.replicate (n - ds.length) .no
theorem good0 {K : KW} {b h : Hp} {N : List Str} {vs : List V} {ds : List D} (s : Same b h) (r : DpAll K b vs ds) : Good K b h b h (L2.start N vs) (env0 N.length ds) := by
  have hl := dpAll_len r
  refine ⟨by unfold L2.start env0; simp [hl], Ext.refl s, fun i sl e => ?_, fun i j o o' a _ e => ?_⟩
  · unfold env0 at e
    unfold L2.start
    by_cases hi : i < ds.length
    · rw [List.getElem?_append_left (by simpa using hi), List.getElem?_map, List.getElem?_eq_getElem hi] at e
      cases e
      have hv : i < vs.length := by omega
      refine ⟨some vs[i], by rw [List.getElem?_append_left (by simpa using hv), List.getElem?_map, List.getElem?_eq_getElem hv]; rfl, vs[i], rfl, dpAll_get r (List.getElem?_eq_getElem hi) (List.getElem?_eq_getElem hv)⟩
    · rw [List.getElem?_append_right (by simpa using hi), List.getElem?_replicate] at e
      split at e
      · rename_i hlt
        cases e
        refine ⟨none, ?_, trivial⟩
        rw [List.getElem?_append_right (by simp; omega), List.getElem?_replicate]
        rw [if_pos (by simp at hlt ⊢; omega)]
      · cases e
  · unfold env0 at e
    by_cases hi : i < ds.length
    · rw [List.getElem?_append_left (by simpa using hi), List.getElem?_map, List.getElem?_eq_getElem hi] at e
      cases e
    · rw [List.getElem?_append_right (by simpa using hi), List.getElem?_replicate] at e
      split at e <;> cases e
/-- what a body's end says -/
def SR.r : SR → R D
  | .nx _ => .ok .none
  | .rt d => .ok d
  | .ex c as _ => .ex c as
  | _ => .no
section
variable {P : Program} {w : World} {K : PySem.W.Frag} {mg : Str → Option Value} {base : Heap} {T : List Addr}
/-- a def's body -/
abbrev bodyF (P : Program) (w : World) (K : PySem.W.Frag) (mg : Str → Option Value) (base : Heap) (T : List Addr) (N ps : List Str) (qual : Str) (sc : Scope) (S : FnScope N ps sc) (k : Nat) (f : Addr) (cdv : Value) (A : Around) (outer : List PySem.Env) (s : Shared) (H b : Hp) (E : XK)
    (hr : Room k (A.deeper (envOfC qual sc s.heap.objs.size f cdv))) (pre : ∀ P ∈ T, GxR.TabG H P ∧ b P = none) : Fx where
  X := cxOf (L2.CX P w) P w K mg base N qual sc f cdv A outer s H E
  W := fun cls d _ H => E cls d H
  b0 := b
  h0 := H
  T := T
  k := k
  pre := pre
  tk := takes_of rfl rfl rfl rfl
  sui := false
  calm := fun _ => rfl
  nd := S.nd
  room := L2H.roomH_of hr
  hand := fun _ => hr.hd
  owns := fun _ => passes_of rfl
theorem fn_ok {x qual : Str} {st : Stmt} {f : Addr} {fd : FuncData} {N ps : List Str} {k : Nat} {sv : Env → SR} (Fu : Fun K x qual st f fd) (S : FnScope N ps (defScope st)) (hm : mg x = some (.ref f)) (bi : Binds K fd ps [])
    (body : ∀ (cdv : Value) (A : Around) (outer : List PySem.Env) (s : Shared) (H b : Hp) (E : XK) (hr : Room k (A.deeper (envOfC qual (defScope st) s.heap.objs.size f cdv))) (pre : ∀ P ∈ T, GxR.TabG H P ∧ b P = none),
      ISs (bodyF P w K mg base T N ps qual (defScope st) S k f cdv A outer s H b E hr pre) (defBody st) sv) :
    Fn P w K mg base T x (k + 1) ps.length (fun ds => (sv (env0 N.length ds)).r) := by
  refine ⟨f, fd, ps, hm, Fu.kp, bi, Fu.okX S (fun vs H Q E h => h.1) fun cdv A outer s H vs Q E hr hsp => ?_⟩
  obtain ⟨hl, b, ds, pre, sb, rs, q⟩ := hsp
  refine ⟨_, body cdv A outer s H b E hr pre, b, env0 N.length ds, good0 sb rs, ?_⟩
  dsimp only at q
  revert q
  generalize sv (env0 N.length ds) = r
  cases r with
  | nx env => exact fun q b' h' σ' _ G => q b' h' .non G.ext .non
  | rt d => exact fun q b' h' v x r => q b' h' v x r
  | bk env => exact fun q => q.elim
  | ct env => exact fun q => q.elim
  | ex c as env => exact fun q b' h' σ' dd C fs _ G hc hd ha => q b' h' dd C fs G.ext hc hd ha
  | no => exact fun q => q.elim
end
end FP
/-! FP E: operations on values. -/
namespace FP
open PySem L2 PySem.Spec PyProof.Rows

/-! ### texts as lists of codes -/
abbrev tl (z : Str) : List Nat := z.cps.toList
def mkS (l : List Nat) : Str := ⟨⟨l⟩⟩
theorem tl_mkS (l : List Nat) : tl (mkS l) = l := rfl
theorem mkS_tl (z : Str) : mkS (tl z) = z := rfl
theorem mkS_app (i j : Str) : mkS (tl i ++ tl j) = i ++ j := by
  show (⟨⟨i.cps.toList ++ j.cps.toList⟩⟩ : Str) = ⟨i.cps ++ j.cps⟩
  congr 1
  rw [← Array.toList_append]
theorem len_tl (z : Str) : (tl z).length = z.length := by
  show z.cps.toList.length = z.cps.size
  simp
theorem tl_inj {a b : Str} (h : tl a = tl b) : a = b := by rw [← mkS_tl a, ← mkS_tl b, h]

/-! ### what Dp says of a value's kind -/
section
variable {K : KW} {b h : Hp} {v : V}
theorem Bp.int {i : Int} (q : Bp K b h v (.int i)) : v = .int i := by
  rcases q with q | ⟨a, vs, l, _, _, _, e⟩ | ⟨_, _, _, _, _, e⟩
  · cases q; rfl
  · cases e
  · cases e
theorem Bp.str {z : Str} (q : Bp K b h v (.str z)) : v = .str z := by
  rcases q with q | ⟨a, vs, l, _, _, _, e⟩ | ⟨_, _, _, _, _, e⟩
  · cases q; rfl
  · cases e
  · cases e
theorem Bp.bl {c : Bool} (q : Bp K b h v (.bool c)) : v = .bl c := by
  rcases q with q | ⟨a, vs, l, _, _, _, e⟩ | ⟨_, _, _, _, _, e⟩
  · cases q; rfl
  · cases e
  · cases e
theorem Bp.non (q : Bp K b h v .none) : v = .non := by
  rcases q with q | ⟨a, vs, l, _, _, _, e⟩ | ⟨_, _, _, _, _, e⟩
  · cases q; rfl
  · cases e
  · cases e
theorem Bp.tup {ds : List D} (q : Bp K b h v (.tuple ds)) : ∃ a vs, v = .ref a ∧ SqT K b a vs ∧ DpAll K b vs ds := by
  rcases q with q | ⟨a, vs, l, _, _, _, e⟩ | ⟨_, _, _, _, _, e⟩
  · cases q with | tup hs hr => exact ⟨_, _, rfl, hs, hr⟩
  · cases e
  · cases e
/-- a list, read in h, its items in b -/
theorem Bp.lst {ds : List D} (s : Same b h) (q : Bp K b h v (.list ds)) : ∃ a vs, v = .ref a ∧ SqL K h a vs ∧ DpAll K b vs ds := by
  rcases q with q | ⟨a, vs, l, e1, e2, r, e⟩ | ⟨_, _, _, _, _, e⟩
  · cases q with | lst hs hr => exact ⟨_, _, rfl, Same.sqL s hs, hr⟩
  · cases e
    exact ⟨a, vs, e1, .inl (.inl e2), r⟩
  · cases e
end

/-! ### + -/
def pyAdd : D → D → R D
  | .int i, .int j => .ok (.int (i + j))
  | .str x, .str y => if x.length + y.length ≤ sizeLine then .ok (.str (mkS (tl x ++ tl y))) else .no
  | .list x, .list y => if x.length + y.length ≤ sizeLine then .ok (.list (x ++ y)) else .no
  | .tuple x, .tuple y => if x.length + y.length ≤ sizeLine then .ok (.tuple (x ++ y)) else .no
  | _, _ => .no
/-- two lists, any that can be read -/
def rCatS (K : PySem.W.Frag) : R2 := fun x y H Q => ∃ l b xs zs, x = .ref l ∧ y = .ref b ∧ SqL K H l xs ∧ SqL K H b zs ∧ xs.length + zs.length ≤ sizeLine ∧ ∀ p, H p = none → Q (.ref p) (upd H p (.lst (xs ++ zs)))
theorem list_addW (l b : Addr) (items items2 : Array Value) (n n2 : Nat) (sl sl2 : Array (Option Value)) (hsz : items.size + items2.size ≤ sizeLine) :
    Meets (Builtin.«list.__add__» ⟨[.ref l, .ref b], []⟩) (fun _ R s => s.heap.get? l = some { cls := .type "list", dict := none, data := .seq items n, slots := sl } ∧ s.heap.get? b = some { cls := .type "list", dict := none, data := .seq items2 n2, slots := sl2 } ∧
      R (.ok (.ret (Value.ref s.heap.objs.size))) { s with heap := s.heap.push { cls := Value.type "list", data := Data.seq (items ++ items2) } }) :=
  .of_wp fun prog w A R s h => by
    obtain ⟨hp, g, d, tk, os⟩ := s
    obtain ⟨hl, hb, h⟩ := h
    have f1 := AutoSeq1.idx_int
    have f2 := AutoSeq1.sub_tuple_tuple
    have f3 := AutoSeq1.sub_list_list
    have f4 := AutoSeq1.sub_tuple_list
    have f5 := AutoSeq1.sub_list_tuple
    wp_walk using wpAny_loadPart' hl, wpAny_loadPart' hb
    exact ⟨_, rfl, h⟩
theorem op_catS {X : Cx} : OpR X (binaryOp .Add) (rCatS X.K) := by
  intro pins s σ H x y v u Q I rx ry h
  obtain ⟨l, b, xs, zs, rfl, rfl, hH, hB, hz, q⟩ := h
  cases rx
  cases ry
  obtain ⟨its, r, p, hl⟩ := I.list hH
  obtain ⟨its2, r2, p2, hl2⟩ := I.list hB
  have e1 := r.length
  have e2 := r2.length
  obtain ⟨⟨cls, dd, data, sl⟩, n, ho, hc, hdn, hd⟩ := p
  obtain ⟨⟨cls2, dd2, data2, sl2⟩, n2, ho2, hc2, hdn2, hd2⟩ := p2
  simp only at hc hd hc2 hd2 hdn hdn2
  subst hc hd hc2 hd2 hdn hdn2
  refine concat_meets ⟨_, ho, rfl⟩ ⟨_, ho2, rfl⟩ noFill_list_add seq_list_add PySem.F.slot_list_add PySem.F.entry_list_add (PySem.F.args_list_add_2 _ _) (list_addW l b _ _ _ _ _ _ (by rw [List.size_toArray, List.size_toArray]; omega)) ⟨ho, ho2, ?_⟩
  have ea : its.toArray ++ its2.toArray = (its ++ its2).toArray := by simp
  rw [ea]
  exact ⟨.ref _, _, I.lnew (t' := s.toks) (r.append r2) (by rw [List.length_append]; omega), rfl, q _ I.fresh⟩
def rAddA (K : PySem.W.Frag) : R2 := fun x y H Q => ((rI0 fun i j => .int (i + j)) x y H Q ∨ (∃ i j, x = .str i ∧ y = .str j ∧ i.length + j.length ≤ sizeLine ∧ Q (.str (i ++ j)) H)) ∨ rCatS K x y H Q ∨ rCatA K x y H Q
theorem op_addA {X : Cx} : OpR X (binaryOp .Add) (rAddA X.K) := (op_add.or op_add_str).or (op_catS.or op_catA)
theorem nil_dp {K : KW} {b : Hp} {vs : List V} {ds : List D} (r : DpAll K b vs ds) : vs = [] ↔ ds = [] := by
  cases r with
  | nil => simp
  | cons _ _ => simp
theorem ok_add {K : KW} : OpOk K (rAddA K) pyAdd where
  run := fun b h x y d e Q s rx ry p => by
    unfold pyAdd at p
    split at p
    · cases rx.int
      cases ry.int
      exact .inl (.inl ⟨_, _, rfl, rfl, p b h _ (Ext.refl s) (.int _)⟩)
    · split at p
      · rename_i hl
        cases rx.str
        cases ry.str
        refine .inl (.inr ⟨_, _, rfl, rfl, hl, ?_⟩)
        rw [← mkS_app]
        exact p b h _ (Ext.refl s) (.str _)
      · exact p.elim
    · split at p
      · rename_i hl
        obtain ⟨a, vs, rfl, q1, r1⟩ := rx.lst s
        obtain ⟨c, ws, rfl, q2, r2⟩ := ry.lst s
        refine .inr (.inl ⟨a, c, vs, ws, rfl, rfl, q1, q2, by rw [dpAll_len r1, dpAll_len r2]; exact hl, fun q hq => ?_⟩)
        exact p _ _ _ (Ext.new s hq) (.lst (.inl (.inl upd_same)) (dpAll_mono (upd_same_sub (none_sub s hq)) (dpAll_app r1 r2)))
      · exact p.elim
    · split at p
      · rename_i hl
        obtain ⟨a, vs, rfl, q1, r1⟩ := rx.tup
        obtain ⟨c, ws, rfl, q2, r2⟩ := ry.tup
        refine .inr (.inr ⟨a, c, vs, ws, rfl, rfl, Same.sqT s q1, Same.sqT s q2, by rw [dpAll_len r1, dpAll_len r2]; exact hl, fun z => ?_, fun z1 z2 => ?_, fun z1 z2 q hq => ?_⟩)
        · have := (nil_dp r1).mp z
          subst this
          exact p b h _ (Ext.refl s) (.tup q2 r2)
        · have := (nil_dp r2).mp z2
          subst this
          rw [List.append_nil] at p
          exact p b h _ (Ext.refl s) (.tup q1 r1)
        · exact p _ _ _ (Ext.new s hq) (.tup (.inl (.inl upd_same)) (dpAll_mono (upd_same_sub (none_sub s hq)) (dpAll_app r1 r2)))
      · exact p.elim
    · exact p.elim
  nex := fun d e c as z => by
    unfold pyAdd at z
    split at z
    · cases z
    all_goals first | cases z | (split at z <;> cases z)
/-! ### += of ints and texts -/
def pyIAdd : D → D → R D
  | .int i, .int j => .ok (.int (i + j))
  | .str x, .str y => if x.length + y.length ≤ sizeLine then .ok (.str (mkS (tl x ++ tl y))) else .no
  | _, _ => .no
def rIAddA : R2 := fun x y H Q => (rI0 fun i j => .int (i + j)) x y H Q ∨ (∃ i j, x = .str i ∧ y = .str j ∧ i.length + j.length ≤ sizeLine ∧ Q (.str (i ++ j)) H)
theorem op_iaddA {X : Cx} : OpR X (inplaceOp .Add) rIAddA := iop_add.or iop_add_str
theorem ok_iadd {K : KW} : OpOk K rIAddA pyIAdd where
  run := fun b h x y d e Q s rx ry p => by
    unfold pyIAdd at p
    split at p
    · cases rx.int
      cases ry.int
      exact .inl ⟨_, _, rfl, rfl, p b h _ (Ext.refl s) (.int _)⟩
    · split at p
      · rename_i hl
        cases rx.str
        cases ry.str
        refine .inr ⟨_, _, rfl, rfl, hl, ?_⟩
        rw [← mkS_app]
        exact p b h _ (Ext.refl s) (.str _)
      · exact p.elim
    · exact p.elim
  nex := fun d e c as z => by
    unfold pyIAdd at z
    split at z
    · cases z
    all_goals first | cases z | (split at z <;> cases z)

/-! ### ints -/
def pyI (g : Int → Int → R D) : D → D → R D
  | .int i, .int j => g i j
  | _, _ => .no
theorem ok_int {K : KW} {C : Int → Int → Prop} {f : Int → Int → Int} {g : Int → Int → R D} (hg : ∀ i j, (C i j ∧ g i j = .ok (.int (f i j))) ∨ g i j = .no) : OpOk K (rI C fun i j => .int (f i j)) (pyI g) where
  run := fun b h x y d e Q s rx ry p => by
    unfold pyI at p
    split at p
    · rename_i i j
      rcases hg i j with ⟨hc, e⟩ | e
      · rw [e] at p
        cases rx.int
        cases ry.int
        exact ⟨_, _, rfl, rfl, hc, p b h _ (Ext.refl s) (.int _)⟩
      · rw [e] at p
        exact p.elim
    · exact p.elim
  nex := fun d e c as z => by
    unfold pyI at z
    split at z
    · rename_i i j
      rcases hg i j with ⟨_, e⟩ | e <;> · rw [e] at z; cases z
    · cases z
def pySub : D → D → R D := pyI fun i j => .ok (.int (i - j))
def rSubA : R2 := rI (fun _ _ => True) fun i j => .int (i - j)
theorem op_subA {X : Cx} : OpR X (binaryOp .Sub) rSubA := fun pins s σ H x y v u Q I rx ry ⟨i, j, e1, e2, _, q⟩ => op_sub pins s σ H x y v u Q I rx ry ⟨i, j, e1, e2, q⟩
theorem op_isubA {X : Cx} : OpR X (inplaceOp .Sub) rSubA := fun pins s σ H x y v u Q I rx ry ⟨i, j, e1, e2, _, q⟩ => iop_sub pins s σ H x y v u Q I rx ry ⟨i, j, e1, e2, q⟩
theorem ok_sub {K : KW} : OpOk K rSubA pySub := ok_int fun _ _ => .inl ⟨trivial, rfl⟩
def pyFdiv : D → D → R D := pyI fun i j => if 0 < j ∧ j < 1073741824 then .ok (.int (i / j)) else .no
theorem ok_fdiv {K : KW} : OpOk K (rI CDiv fun i j => .int (i / j)) pyFdiv := ok_int fun i j => by
  by_cases h : 0 < j ∧ j < 1073741824
  · exact .inl ⟨h, by rw [if_pos h]⟩
  · exact .inr (by rw [if_neg h])
def pyMod : D → D → R D := pyI fun i j => if 0 < j then .ok (.int (i % j)) else .no
theorem ok_mod {K : KW} : OpOk K (rI (fun _ j => 0 < j) fun i j => .int (i % j)) pyMod := ok_int fun i j => by
  by_cases h : 0 < j
  · exact .inl ⟨h, by rw [if_pos h]⟩
  · exact .inr (by rw [if_neg h])
def pyPow : D → D → R D := pyI fun i j => if 0 ≤ j ∧ j ≤ 1000000 ∧ i.natAbs < 2 ^ 64 then .ok (.int (i ^ j.toNat)) else .no
theorem ok_pow {K : KW} : OpOk K (rI CPow fun i j => .int (i ^ j.toNat)) pyPow := ok_int fun i j => by
  by_cases h : 0 ≤ j ∧ j ≤ 1000000 ∧ i.natAbs < 2 ^ 64
  · exact .inl ⟨h, by rw [if_pos h]⟩
  · exact .inr (by rw [if_neg h])
def pyNeg : D → R D
  | .int i => .ok (.int (-i))
  | _ => .no
theorem ok_neg {K : KW} : UnOk K (rU fun i => .int (-i)) pyNeg where
  run := fun b h x d Q s rx p => by
    unfold pyNeg at p
    split at p
    · cases rx.int
      exact ⟨_, rfl, p b h _ (Ext.refl s) (.int _)⟩
    · exact p.elim
  nex := fun d c as z => by
    unfold pyNeg at z
    split at z <;> cases z
/-! ### * : ints, a text times an int, a list times an int -/
def rMulS : R2 := fun x y H Q => ∃ (z : Str) (n : Int), x = .str z ∧ y = .int n ∧ (0 ≤ n ∧ n ≤ 10000) ∧ z.length ≤ 1000 ∧ Q (.str (mkS (List.replicate n.toNat (tl z)).flatten)) H
theorem foldl_repN (its : List Nat) : ∀ (k : Nat) (acc : List Nat), List.foldl (fun x1 x2 => x1 ++ x2) acc.toArray (List.replicate k its.toArray) = (acc ++ (List.replicate k its).flatten).toArray
  | 0, acc => by simp
  | k + 1, acc => by
    have e : acc.toArray ++ its.toArray = (acc ++ its).toArray := by simp
    have e2 : (acc ++ its) ++ (List.replicate k its).flatten = acc ++ (List.replicate (k + 1) its).flatten := by
      rw [List.replicate_succ, List.flatten_cons, List.append_assoc]
    rw [← e2, ← foldl_repN its k (acc ++ its), ← e, List.replicate_succ, List.foldl_cons]
theorem op_mulS {X : Cx} : OpR X (binaryOp .Mult) rMulS := by
  intro pins s σ H x y v u Q I rx ry h
  obtain ⟨z, n, rfl, rfl, ⟨h0, h1⟩, h2, q⟩ := h
  obtain ⟨t, rfl⟩ := rx
  obtain ⟨t', rfl⟩ := ry
  by_cases hn : n < 1
  · have : n = 0 := by omega
    subst this
    refine PySem.P.mul_str_none hn (by omega) ⟨.str _, H, I.tok _, ⟨_, rfl⟩, ?_⟩
    exact q
  · refine PySem.P.mul_str ?_ (fun _ _ => ?_) (fun _ _ => ?_) ?_
    · rw [decide_eq_false (by omega), decide_eq_false (by omega)]; rfl
    · have e1 : (1000 : Int) ≤ (2 ^ 63 - 1) / n := Int.le_ediv_of_mul_le (by omega) (by omega)
      have e2 : (z.length : Int) ≤ 1000 := by omega
      omega
    · unfold Builtin.Str.tooLong
      refine decide_eq_false ?_
      have : z.length * n.toNat ≤ 1000 * 10000 := Nat.mul_le_mul h2 (by omega)
      rw [sizeLine_eq]
      omega
    · rw [if_neg hn]
      by_cases e : (n == 1 || z.length == 0) = true
      · rw [if_pos e]
        have e' : mkS (List.replicate n.toNat (tl z)).flatten = z := by
          rcases Bool.or_eq_true_iff.mp e with e | e
          · have : n = 1 := by simpa using e
            subst this
            exact tl_inj (by simp [tl_mkS])
          · have : (tl z) = [] := List.length_eq_zero_iff.mp (by rw [len_tl]; simpa using e)
            refine tl_inj ?_
            rw [tl_mkS, this]
            simp
        rw [e'] at q
        exact ⟨.str z, H, I, ⟨_, rfl⟩, q⟩
      · rw [if_neg e]
        have e1 : (List.replicate n.toNat z.cps).foldl (· ++ ·) #[] = (List.replicate n.toNat (tl z)).flatten.toArray := by
          have := foldl_repN (tl z) n.toNat []
          simpa using this
        rw [e1]
        have e2 : (⟨(List.replicate n.toNat (tl z)).flatten.toArray⟩ : Str) = mkS (List.replicate n.toNat (tl z)).flatten := rfl
        rw [e2]
        refine ⟨?_, ⟨.str _, H, I.tok _, ⟨_, rfl⟩, q⟩⟩
        rw [← len_tl, tl_mkS]
        have e3 : (List.replicate n.toNat (tl z)).flatten.length = n.toNat * z.length := by
          rw [List.length_flatten, List.map_replicate, List.sum_replicate_nat, len_tl]
        have : n.toNat * z.length ≤ 10000 * 1000 := Nat.mul_le_mul (by omega) h2
        rw [e3, sizeLine_eq]
        omega
end FP
/-! FP G: equality and membership of data at any depth. -/
namespace FP
open PySem PySem.Spec PyProof.Rows L2 SeqAt

theorem dpAll_lenK {K : PySem.W.Frag} {b : Hp} : ∀ {vs : List V} {ds : List D}, L2.DpAll K b vs ds → vs.length = ds.length
  | _, _, .nil => rfl
  | _, _, .cons _ r => by rw [List.length_cons, List.length_cons, dpAll_lenK r]
theorem dpAll_getK {K : PySem.W.Frag} {b : Hp} : ∀ {vs : List V} {ds : List D} {i : Nat} {d : D} {v : V}, L2.DpAll K b vs ds → ds[i]? = some d → vs[i]? = some v → L2.Dp K b v d
  | _, _, _, _, _, .nil, e, _ => by simp at e
  | _, _, 0, _, _, .cons p _, e, e2 => by
    simp only [List.getElem?_cons_zero, Option.some.injEq] at e e2
    subst e e2
    exact p
  | _, _, i + 1, _, _, .cons _ r, e, e2 => dpAll_getK (i := i) r (by simpa using e) (by simpa using e2)
section
variable {X : Cx} {pins : List (Addr × Obj)} {σ : St} {H : Hp} {s : Shared}
theorem not_both (I : L2.Inv X pins σ H s) {a : Addr} {xs ys : List V} (h : SqL X.K H a xs) (h' : SqT X.K H a ys) : False := by
  obtain ⟨_, _, ⟨o, _, e1, e2, _⟩, _⟩ := I.list h
  obtain ⟨_, _, ⟨o', e1', e2', _⟩, _⟩ := I.tuple h'
  rw [e1] at e1'
  cases e1'
  rw [e2] at e2'
  injection e2' with e3
  exact absurd e3 (by decide)
/-- a value is one thing -/
theorem dpU (I : L2.Inv X pins σ H s) : ∀ (n : Nat) (d e : D) (x : V), d.depth ≤ n → L2.Dp X.K H x d → L2.Dp X.K H x e → d = e := by
  intro n
  induction n with
  | zero =>
    intro d e x hn h1 h2
    cases h1 with
    | lst => simp [PyData.depth] at hn
    | tup => simp [PyData.depth] at hn
    | _ => cases h2; rfl
  | succ n ih =>
    have all : ∀ (ds es : List D) (xs : List V), PyData.depthAll ds ≤ n → L2.DpAll X.K H xs ds → L2.DpAll X.K H xs es → ds = es := by
      intro ds
      induction ds with
      | nil => intro es xs _ h1 h2; cases h1; cases h2; rfl
      | cons d ds ih2 =>
        intro es xs hn h1 h2
        cases h1 with
        | cons p1 q1 =>
          cases h2 with
          | cons p2 q2 =>
            have h3 : max d.depth (PyData.depthAll ds) ≤ n := hn
            rw [ih d _ _ (by omega) p1 p2, ih2 _ _ (by omega) q1 q2]
    intro d e x hn h1 h2
    cases h1 with
    | @lst a xs ds hs hr =>
      cases h2 with
      | lst hs2 hr2 =>
        have e0 := I.list_inj hs hs2
        subst e0
        rw [all _ _ _ (Nat.le_of_succ_le_succ hn) hr hr2]
      | tup hs2 hr2 => exact (not_both I hs hs2).elim
    | @tup a xs ds hs hr =>
      cases h2 with
      | lst hs2 hr2 => exact (not_both I hs2 hs).elim
      | tup hs2 hr2 =>
        have e0 := I.tuple_inj hs hs2
        subst e0
        rw [all _ _ _ (Nat.le_of_succ_le_succ hn) hr hr2]
    | _ => cases h2; rfl
theorem eqvR : ∀ (n : Nat) (d : D), d.depth ≤ n → ∀ {K : PySem.W.Frag} {H : Hp} {x : V}, L2.Dp K H x d → PyData.eqv d d = true := by
  intro n
  induction n with
  | zero =>
    intro d hn K H x h
    cases h with
    | lst => simp [PyData.depth] at hn
    | tup => simp [PyData.depth] at hn
    | _ => simp [PyData.eqv]
  | succ n ih =>
    intro d hn K H x h
    have all : ∀ (ds : List D) (xs : List V), PyData.depthAll ds ≤ n → L2.DpAll K H xs ds → PyData.eqvAll ds ds = true := by
      intro ds
      induction ds with
      | nil => intro xs _ _; rfl
      | cons d ds ih2 =>
        intro xs hn hr
        have h3 : max d.depth (PyData.depthAll ds) ≤ n := hn
        cases hr with
        | cons p q => rw [PyData.eqvAll, ih d (by omega) p, ih2 _ (by omega) q]; rfl
    cases h with
    | lst hs hr => exact all _ _ (Nat.le_of_succ_le_succ hn) hr
    | tup hs hr => exact all _ _ (Nat.le_of_succ_le_succ hn) hr
    | _ => simp [PyData.eqv]
/-- the items' answers from the items -/
theorem eqItems {A : Around} {s : Shared} (P : D → D → Prop) {xs ys : List D} {us ws : List Value} (f : ∀ (j : Nat) (d e : D) (u w : Value), xs[j]? = some d → ys[j]? = some e → us[j]? = some u → ws[j]? = some w → EqAt A s u w (PyData.eqv d e)) (hu : us.length = xs.length) (hw : ws.length = ys.length) :
    ∀ j (h1 : j < us.length) (h2 : j < ws.length), EqAt A s us[j] ws[j] (pairEq xs ys j) := by
  intro j h1 h2
  have e1 : xs[j]? = some (xs[j]'(by omega)) := List.getElem?_eq_getElem _
  have e2 : ys[j]? = some (ys[j]'(by omega)) := List.getElem?_eq_getElem _
  have q := f j _ _ _ _ e1 e2 (List.getElem?_eq_getElem h1) (List.getElem?_eq_getElem h2)
  have e3 : pairEq xs ys j = PyData.eqv (xs[j]'(by omega)) (ys[j]'(by omega)) := by
    unfold pairEq
    rw [List.getD_eq_getElem?_getD, List.getD_eq_getElem?_getD, e1, e2]
    rfl
  rw [e3]
  exact q
theorem get_vals {xs : List V} {us : List Value} (r : Vals xs us) {j : Nat} {u : Value} (e : us[j]? = some u) : ∃ x, xs[j]? = some x ∧ RelV x u := by
  have hj := (List.getElem?_eq_some_iff.mp e).1
  have hx : j < xs.length := by rw [r.length]; exact hj
  obtain ⟨u', e', q⟩ := r.get (List.getElem?_eq_getElem hx)
  rw [e] at e'
  cases e'
  exact ⟨_, List.getElem?_eq_getElem hx, q⟩
theorem depth_mem : ∀ {ds : List D} {j : Nat} {d : D}, ds[j]? = some d → d.depth ≤ PyData.depthAll ds
  | [], _, _, e => by simp at e
  | d :: ds, 0, _, e => by
    simp only [List.getElem?_cons_zero, Option.some.injEq] at e
    subst e
    exact Nat.le_max_left _ _
  | d :: ds, j + 1, _, e => by
    simp only [List.getElem?_cons_succ] at e
    exact Nat.le_trans (depth_mem e) (Nat.le_max_right _ _)
/-- == of two things that are read -/
theorem eqAtD (I : L2.Inv X pins σ H s) : ∀ (n : Nat) (d e : D) (A : Around) (x y : V) (v u : Value), d.depth ≤ n → L2.Dp X.K H x d → L2.Dp X.K H y e → RelV x v → RelV y u → A.units + min d.depth e.depth < cLine → EqAt A s v u (PyData.eqv d e) ∧ RcAt A s v u (PyData.eqv d e) := by
  intro n
  induction n with
  | zero =>
    intro d e A x y v u hn hx hy rx ry hu
    have h0 : A.units < cLine := by omega
    cases hx with
    | lst => simp [PyData.depth] at hn
    | tup => simp [PyData.depth] at hn
    | non =>
      cases rx
      cases hy with
      | non => cases ry; exact ⟨EqAt.same _, RcAt.none_none⟩
      | bl b => cases ry; exact ⟨EqAt.none_bool b, RcAt.none_bool b⟩
      | int i => obtain ⟨t, rfl⟩ := ry; exact ⟨EqAt.none_int i t, RcAt.none_int i t⟩
      | str z => obtain ⟨t, rfl⟩ := ry; exact ⟨EqAt.none_str z t, RcAt.none_str z t⟩
      | lst hs hr => cases ry; obtain ⟨its, _, p, _⟩ := I.list hs; exact ⟨EqAt.none_list p.isList h0, RcAt.none_list p.isList h0⟩
      | tup hs hr => cases ry; obtain ⟨its, _, p, _⟩ := I.tuple hs; exact ⟨EqAt.none_tuple p h0, RcAt.none_tuple p h0⟩
    | bl c =>
      cases rx
      cases hy with
      | non => cases ry; exact ⟨EqAt.bool_none c, RcAt.bool_none c⟩
      | bl b => cases ry; exact ⟨EqAt.bool_bool c b, RcAt.bool_bool c b⟩
      | int i => obtain ⟨t, rfl⟩ := ry; exact ⟨EqAt.bool_int c i t, RcAt.bool_int c i t⟩
      | str z => obtain ⟨t, rfl⟩ := ry; exact ⟨EqAt.bool_str c z t, RcAt.bool_str c z t⟩
      | lst hs hr => cases ry; obtain ⟨its, _, p, _⟩ := I.list hs; exact ⟨EqAt.bool_list c p.isList h0, RcAt.bool_list c p.isList h0⟩
      | tup hs hr => cases ry; obtain ⟨its, _, p, _⟩ := I.tuple hs; exact ⟨EqAt.bool_tuple c p h0, RcAt.bool_tuple c p h0⟩
    | int k =>
      obtain ⟨tk, rfl⟩ := rx
      cases hy with
      | non => cases ry; exact ⟨EqAt.int_none k tk, RcAt.int_none k tk⟩
      | bl b => cases ry; exact ⟨EqAt.int_bool k tk b, RcAt.int_bool k tk b⟩
      | int i => obtain ⟨t, rfl⟩ := ry; exact ⟨EqAt.int_int k tk i t, RcAt.int_int k tk i t⟩
      | str z => obtain ⟨t, rfl⟩ := ry; exact ⟨EqAt.int_str k tk z t, RcAt.int_str k tk z t⟩
      | lst hs hr => cases ry; obtain ⟨its, _, p, _⟩ := I.list hs; exact ⟨EqAt.int_list k tk p.isList h0, RcAt.int_list k tk p.isList h0⟩
      | tup hs hr => cases ry; obtain ⟨its, _, p, _⟩ := I.tuple hs; exact ⟨EqAt.int_tuple k tk p h0, RcAt.int_tuple k tk p h0⟩
    | str k =>
      obtain ⟨tk, rfl⟩ := rx
      cases hy with
      | non => cases ry; exact ⟨EqAt.str_none k tk, RcAt.str_none k tk⟩
      | bl b => cases ry; exact ⟨EqAt.str_bool k tk b, RcAt.str_bool k tk b⟩
      | int i => obtain ⟨t, rfl⟩ := ry; exact ⟨EqAt.str_int k tk i t, RcAt.str_int k tk i t⟩
      | str z => obtain ⟨t, rfl⟩ := ry; exact ⟨EqAt.str_str k tk z t, RcAt.str_str k tk z t⟩
      | lst hs hr => cases ry; obtain ⟨its, _, p, _⟩ := I.list hs; exact ⟨EqAt.str_list k tk p.isList h0, RcAt.str_list k tk p.isList h0⟩
      | tup hs hr => cases ry; obtain ⟨its, _, p, _⟩ := I.tuple hs; exact ⟨EqAt.str_tuple k tk p h0, RcAt.str_tuple k tk p h0⟩
  | succ n ih =>
    intro d e A x y v u hn hx hy rx ry hu
    have h0 : A.units < cLine := by omega
    by_cases hd : d.depth ≤ n
    · exact ih d e A x y v u hd hx hy rx ry hu
    cases hx with
    | @lst a xs ds hs hr =>
      cases rx
      obtain ⟨its, r1, p, _⟩ := I.list hs
      have hn' : PyData.depthAll ds ≤ n := Nat.le_of_succ_le_succ hn
      cases hy with
      | non => cases ry; exact ⟨EqAt.list_none p.isList h0, RcAt.list_none p.isList h0⟩
      | bl b => cases ry; exact ⟨EqAt.list_bool b p.isList h0, RcAt.list_bool b p.isList h0⟩
      | int i => obtain ⟨t, rfl⟩ := ry; exact ⟨EqAt.list_int i t p.isList h0, RcAt.list_int i t p.isList h0⟩
      | str z => obtain ⟨t, rfl⟩ := ry; exact ⟨EqAt.list_str z t p.isList h0, RcAt.list_str z t p.isList h0⟩
      | tup hs2 hr2 => cases ry; obtain ⟨_, _, p2, _⟩ := I.tuple hs2; exact ⟨EqAt.list_tuple p.isList p2 h0, RcAt.list_tuple p.isList p2 h0⟩
      | @lst a2 xs2 es hs2 hr2 =>
        cases ry
        obtain ⟨its2, r2, p2, _⟩ := I.list hs2
        have l1 : its.length = ds.length := by rw [← r1.length]; exact dpAll_lenK hr
        have l2 : its2.length = es.length := by rw [← r2.length]; exact dpAll_lenK hr2
        have it := eqItems (A := A.in1) (s := s) (fun _ _ => True) (xs := ds) (ys := es) (us := its) (ws := its2) (fun j d e u w e1 e2 e3 e4 => by
          obtain ⟨xv, f1, q1⟩ := get_vals r1 e3
          obtain ⟨yv, f2, q2⟩ := get_vals r2 e4
          have m1 := depth_mem e1
          have m2 := depth_mem e2
          refine (ih d e A.in1 xv yv u w (by omega) (dpAll_getK hr e1 f1) (dpAll_getK hr2 e2 f2) q1 q2 ?_).1
          have hu2 : A.units + min (PyData.depthAll ds + 1) (PyData.depthAll es + 1) < cLine := hu
          show A.units + 1 + min d.depth e.depth < cLine
          omega) l1 l2
        have rc : RcAt A s (.ref a) (.ref a2) (PyData.eqvAll ds es) := by
          by_cases hl : ds.length = es.length
          · rw [← eqvAll_same_length hl]
            have l3 : its.toArray.size = ds.length := by simpa using l1
            rw [← l3]
            exact RcAt.lists p.isList p2.isList (by simp; omega) h0 fun j j1 j2 => by simpa using it j (by simpa using j1) (by simpa using j2)
          · rw [eqvAll_other_length hl]
            exact RcAt.lists_lengths p.isList p2.isList (by simp; omega) h0
        refine ⟨?_, rc⟩
        by_cases ea : a = a2
        · subst ea
          have := dpU I _ _ _ _ (Nat.le_refl _) (L2.Dp.lst hs hr) (L2.Dp.lst hs2 hr2)
          cases this
          rw [eqvR _ _ (Nat.le_refl _) (L2.Dp.lst hs hr)]
          exact EqAt.same _
        · exact EqAt.of_refs ea rc
    | @tup a xs ds hs hr =>
      cases rx
      obtain ⟨its, r1, p, _⟩ := I.tuple hs
      have hn' : PyData.depthAll ds ≤ n := Nat.le_of_succ_le_succ hn
      cases hy with
      | non => cases ry; exact ⟨EqAt.tuple_none p h0, RcAt.tuple_none p h0⟩
      | bl b => cases ry; exact ⟨EqAt.tuple_bool b p h0, RcAt.tuple_bool b p h0⟩
      | int i => obtain ⟨t, rfl⟩ := ry; exact ⟨EqAt.tuple_int i t p h0, RcAt.tuple_int i t p h0⟩
      | str z => obtain ⟨t, rfl⟩ := ry; exact ⟨EqAt.tuple_str z t p h0, RcAt.tuple_str z t p h0⟩
      | lst hs2 hr2 => cases ry; obtain ⟨_, _, p2, _⟩ := I.list hs2; exact ⟨EqAt.tuple_list p p2.isList h0, RcAt.tuple_list p p2.isList h0⟩
      | @tup a2 xs2 es hs2 hr2 =>
        cases ry
        obtain ⟨its2, r2, p2, _⟩ := I.tuple hs2
        have l1 : its.length = ds.length := by rw [← r1.length]; exact dpAll_lenK hr
        have l2 : its2.length = es.length := by rw [← r2.length]; exact dpAll_lenK hr2
        have it := eqItems (A := A.in1) (s := s) (fun _ _ => True) (xs := ds) (ys := es) (us := its) (ws := its2) (fun j d e u w e1 e2 e3 e4 => by
          obtain ⟨xv, f1, q1⟩ := get_vals r1 e3
          obtain ⟨yv, f2, q2⟩ := get_vals r2 e4
          have m1 := depth_mem e1
          have m2 := depth_mem e2
          refine (ih d e A.in1 xv yv u w (by omega) (dpAll_getK hr e1 f1) (dpAll_getK hr2 e2 f2) q1 q2 ?_).1
          have hu2 : A.units + min (PyData.depthAll ds + 1) (PyData.depthAll es + 1) < cLine := hu
          show A.units + 1 + min d.depth e.depth < cLine
          omega) l1 l2
        have rc : RcAt A s (.ref a) (.ref a2) (PyData.eqvAll ds es) := by
          have l3 : its.toArray.size = ds.length := by simpa using l1
          have l4 : its2.toArray.size = es.length := by simpa using l2
          rw [← eqvAll_eq ds es, ← l3, ← l4]
          exact RcAt.tuples p p2 h0 fun j j1 j2 => by simpa using it j (by simpa using j1) (by simpa using j2)
        refine ⟨?_, rc⟩
        by_cases ea : a = a2
        · subst ea
          have := dpU I _ _ _ _ (Nat.le_refl _) (L2.Dp.tup hs hr) (L2.Dp.tup hs2 hr2)
          cases this
          rw [eqvR _ _ (Nat.le_refl _) (L2.Dp.tup hs hr)]
          exact EqAt.same _
        · exact EqAt.of_refs ea rc
    | _ => exact absurd (Nat.zero_le n) hd
end
end FP
/-! FP H: comparisons, membership, places, slices, len. -/
namespace FP
open PySem PySem.Spec PyProof.Rows L2 SeqAt

/-! ### a fast == -/
def leq : List Nat → List Nat → Bool
  | [], [] => true
  | x :: xs, y :: ys => Nat.beq x y && leq xs ys
  | _, _ => false
theorem leq_eq : ∀ a b : List Nat, leq a b = (a == b)
  | [], [] => rfl
  | [], _ :: _ => rfl
  | _ :: _, [] => rfl
  | x :: xs, y :: ys => by
    show (Nat.beq x y && leq xs ys) = (x == y && xs == ys)
    have e : Nat.beq x y = (x == y) := by
      by_cases h : x = y
      · subst h
        rw [Nat.beq_refl, beq_self_eq_true]
      · rw [beq_eq_false_iff_ne.mpr h]
        cases h2 : Nat.beq x y with
        | false => rfl
        | true => exact absurd (Nat.eq_of_beq_eq_true h2) h
    rw [leq_eq xs ys, e]
def seq (x y : Str) : Bool := leq (tl x) (tl y)
theorem seq_eq (x y : Str) : seq x y = (x == y) := by
  unfold seq
  rw [leq_eq, Bool.eq_iff_iff, beq_iff_eq, beq_iff_eq]
  exact ⟨tl_inj, fun e => by rw [e]⟩
def allF (f : D → D → Bool) : List D → List D → Bool
  | [], [] => true
  | x :: xs, y :: ys => f x y && allF f xs ys
  | _, _ => false
def deqF : Nat → D → D → Bool
  | _, .none, .none => true
  | _, .bool a, .bool b => a == b
  | _, .bool a, .int j => decide ((if a then 1 else 0) = j)
  | _, .int i, .bool b => decide (i = (if b then 1 else 0))
  | _, .int i, .int j => decide (i = j)
  | _, .str x, .str y => seq x y
  | n + 1, .list x, .list y => allF (deqF n) x y
  | n + 1, .tuple x, .tuple y => allF (deqF n) x y
  | _, _, _ => false
theorem allF_eq {f : D → D → Bool} : ∀ (x y : List D), (∀ d ∈ x, ∀ e ∈ y, f d e = PyData.eqv d e) → allF f x y = PyData.eqvAll x y
  | [], [], _ => rfl
  | [], _ :: _, _ => rfl
  | _ :: _, [], _ => rfl
  | d :: x, e :: y, h => by
    rw [allF, PyData.eqvAll, h d List.mem_cons_self e List.mem_cons_self, allF_eq x y fun d' hd e' he => h d' (List.mem_cons_of_mem _ hd) e' (List.mem_cons_of_mem _ he)]
theorem depth_in : ∀ {ds : List D} {d : D}, d ∈ ds → d.depth ≤ PyData.depthAll ds := fun {ds d} h => by
  obtain ⟨j, e⟩ := List.mem_iff_getElem?.mp h
  exact depth_mem e
theorem deqF_eq : ∀ (n : Nat) (d e : D), min d.depth e.depth ≤ n → deqF n d e = PyData.eqv d e := by
  intro n
  induction n with
  | zero =>
    intro d e h
    cases d <;> cases e <;> first
      | rfl
      | (simp [deqF, PyData.eqv, seq_eq]; done)
      | (simp [PyData.depth] at h; done)
      | (simp only [deqF, PyData.eqv]; rw [← Bool.beq_eq_decide_eq])
      | (simp only [deqF, PyData.eqv, seq_eq])
  | succ n ih =>
    intro d e h
    have all : ∀ x y : List D, min (PyData.depthAll x) (PyData.depthAll y) ≤ n → allF (deqF n) x y = PyData.eqvAll x y := fun x y hx => allF_eq x y fun d hd e he => ih d e (by
      have := depth_in hd
      have := depth_in he
      omega)
    cases d <;> cases e <;> first
      | rfl
      | (simp [deqF, PyData.eqv, seq_eq]; done)
      | (simp only [deqF, PyData.eqv]; exact all _ _ (by simp only [PyData.depth] at h; omega))
      | (simp only [deqF, PyData.eqv]; rw [← Bool.beq_eq_decide_eq])
      | (simp only [deqF, PyData.eqv, seq_eq])
/-- the depth is at most n -/
def depLe : Nat → D → Bool
  | n + 1, .list x => x.all (depLe n)
  | n + 1, .tuple x => x.all (depLe n)
  | 0, .list _ => false
  | 0, .tuple _ => false
  | _, .dict _ => false
  | _, _ => true
theorem depLe_ok : ∀ (n : Nat) (d : D), depLe n d = true → d.depth ≤ n := by
  intro n
  induction n with
  | zero => intro d h; cases d <;> simp_all [depLe, PyData.depth]
  | succ n ih =>
    have all : ∀ x : List D, x.all (depLe n) = true → PyData.depthAll x ≤ n := by
      intro x
      induction x with
      | nil => intro _; exact Nat.zero_le _
      | cons d x ih2 =>
        intro h
        rw [List.all_cons, Bool.and_eq_true] at h
        exact Nat.max_le.mpr ⟨ih d h.1, ih2 h.2⟩
    intro d h
    cases d with
    | list x => exact Nat.succ_le_succ (all x h)
    | tuple x => exact Nat.succ_le_succ (all x h)
    | dict x => simp [depLe] at h
    | _ => exact Nat.zero_le _
def DEP : Nat := 64
/-- == -/
theorem dp_toK {K : KW} {b : Hp} : ∀ (n : Nat) (d : D) {v : V}, depLe n d = true → Dp K b v d → L2.Dp K.fr b v d := by
  intro n
  induction n with
  | zero => intro d v h r; cases r <;> first | (simp [depLe] at h; done) | constructor
  | succ n ih =>
    have all : ∀ (x : List D) (vs : List V), x.all (depLe n) = true → DpAll K b vs x → L2.DpAll K.fr b vs x := by
      intro x
      induction x with
      | nil => intro vs _ r; cases r; exact .nil
      | cons d x ih2 =>
        intro vs h r
        rw [List.all_cons, Bool.and_eq_true] at h
        cases r with
        | cons p q => exact .cons (ih d h.1 p) (ih2 _ h.2 q)
    intro d v h r
    cases r with
    | lst hs hr => exact .lst hs (all _ _ h hr)
    | tup hs hr => exact .tup hs (all _ _ h hr)
    | dcl => simp [depLe] at h
    | dcn => simp [depLe] at h
    | non => exact .non
    | bl => exact .bl _
    | int => exact .int _
    | str => exact .str _
theorem dpAllK_of {K : KW} {b : Hp} (n : Nat) : ∀ {x : List D} {vs : List V}, x.all (depLe n) = true → DpAll K b vs x → L2.DpAll K.fr b vs x
  | [], _, _, r => by cases r; exact .nil
  | d :: x, _, h, r => by
    rw [List.all_cons, Bool.and_eq_true] at h
    cases r with
    | cons p q => exact .cons (dp_toK n d h.1 p) (dpAllK_of n h.2 q)
def pyEq (d e : D) : R Bool := if depLe 64 d && depLe 64 e then .ok (deqF 64 d e) else .no
def pyNe (d e : D) : R Bool := if depLe 64 d && depLe 64 e then .ok (!deqF 64 d e) else .no
theorem neAtD {X : Cx} {pins : List (Addr × Obj)} {σ : St} {H : Hp} {s : Shared} (I : L2.Inv X pins σ H s) (d e : D) (A : Around) (x y : V) (v u : Value) (hx : L2.Dp X.K H x d) (hy : L2.Dp X.K H y e) (rx : RelV x v) (ry : RelV y u) (hu : A.units + min d.depth e.depth < cLine) :
    RcNeAt A s v u (!PyData.eqv d e) := by
  have h0 : A.units < cLine := by omega
  cases hx with
  | non  =>
    cases rx
    cases hy with
    | non  => cases ry; exact RcNeAt.none_none  
    | bl b => cases ry; exact RcNeAt.none_bool  b
    | int i => obtain ⟨t, rfl⟩ := ry; exact RcNeAt.none_int  i t
    | str z => obtain ⟨t, rfl⟩ := ry; exact RcNeAt.none_str  z t
    | lst hs hr => cases ry; obtain ⟨_, _, p, _⟩ := I.list hs; exact RcNeAt.none_list  p.isList h0
    | tup hs hr => cases ry; obtain ⟨_, _, p, _⟩ := I.tuple hs; exact RcNeAt.none_tuple  p h0
  | bl c =>
    cases rx
    cases hy with
    | non  => cases ry; exact RcNeAt.bool_none c 
    | bl b => cases ry; exact RcNeAt.bool_bool c b
    | int i => obtain ⟨t, rfl⟩ := ry; exact RcNeAt.bool_int c i t
    | str z => obtain ⟨t, rfl⟩ := ry; exact RcNeAt.bool_str c z t
    | lst hs hr => cases ry; obtain ⟨_, _, p, _⟩ := I.list hs; exact RcNeAt.bool_list c p.isList h0
    | tup hs hr => cases ry; obtain ⟨_, _, p, _⟩ := I.tuple hs; exact RcNeAt.bool_tuple c p h0
  | int k =>
    obtain ⟨tk, rfl⟩ := rx
    cases hy with
    | non  => cases ry; exact RcNeAt.int_none k tk 
    | bl b => cases ry; exact RcNeAt.int_bool k tk b
    | int i => obtain ⟨t, rfl⟩ := ry; exact RcNeAt.int_int k tk i t
    | str z => obtain ⟨t, rfl⟩ := ry; exact RcNeAt.int_str k tk z t
    | lst hs hr => cases ry; obtain ⟨_, _, p, _⟩ := I.list hs; exact RcNeAt.int_list k tk p.isList h0
    | tup hs hr => cases ry; obtain ⟨_, _, p, _⟩ := I.tuple hs; exact RcNeAt.int_tuple k tk p h0
  | str m =>
    obtain ⟨tm, rfl⟩ := rx
    cases hy with
    | non  => cases ry; exact RcNeAt.str_none m tm 
    | bl b => cases ry; exact RcNeAt.str_bool m tm b
    | int i => obtain ⟨t, rfl⟩ := ry; exact RcNeAt.str_int m tm i t
    | str z => obtain ⟨t, rfl⟩ := ry; exact RcNeAt.str_str m tm z t
    | lst hs hr => cases ry; obtain ⟨_, _, p, _⟩ := I.list hs; exact RcNeAt.str_list m tm p.isList h0
    | tup hs hr => cases ry; obtain ⟨_, _, p, _⟩ := I.tuple hs; exact RcNeAt.str_tuple m tm p h0
  | @lst a xs ds hs hr =>
    cases rx
    obtain ⟨its, r1, p, _⟩ := I.list hs
    cases hy with
    | non  => cases ry; exact RcNeAt.list_none  p.isList h0
    | bl b => cases ry; exact RcNeAt.list_bool b p.isList h0
    | int i => obtain ⟨t, rfl⟩ := ry; exact RcNeAt.list_int i t p.isList h0
    | str z => obtain ⟨t, rfl⟩ := ry; exact RcNeAt.list_str z t p.isList h0
    | tup hs2 hr2 => cases ry; obtain ⟨_, _, p2, _⟩ := I.tuple hs2; exact RcNeAt.list_tuple p.isList p2 h0
    | @lst a2 xs2 es hs2 hr2 =>
      cases ry
      obtain ⟨its2, r2, p2, _⟩ := I.list hs2
      have l1 : its.length = ds.length := by rw [← r1.length]; exact dpAll_lenK hr
      have l2 : its2.length = es.length := by rw [← r2.length]; exact dpAll_lenK hr2
      have it := eqItems (A := A.in1) (s := s) (fun _ _ => True) (xs := ds) (ys := es) (us := its) (ws := its2) (fun j d e u w e1 e2 e3 e4 => by
        obtain ⟨xv, f1, q1⟩ := get_vals r1 e3
        obtain ⟨yv, f2, q2⟩ := get_vals r2 e4
        have m1 := depth_mem e1
        have m2 := depth_mem e2
        refine (eqAtD I _ d e A.in1 xv yv u w (Nat.le_refl _) (dpAll_getK hr e1 f1) (dpAll_getK hr2 e2 f2) q1 q2 ?_).1
        have hu2 : A.units + min (PyData.depthAll ds + 1) (PyData.depthAll es + 1) < cLine := hu
        show A.units + 1 + min d.depth e.depth < cLine
        omega) l1 l2
      show RcNeAt A s _ _ (!PyData.eqvAll ds es)
      have l3 : its.toArray.size = ds.length := by simpa using l1
      have l4 : its2.toArray.size = es.length := by simpa using l2
      by_cases hl : ds.length = es.length
      · rw [← eqvAll_same_length hl, ← l3]
        exact RcNeAt.lists p.isList p2.isList (by simp; omega) h0 fun j j1 j2 => by simpa using it j (by simpa using j1) (by simpa using j2)
      · rw [eqvAll_other_length hl]
        exact RcNeAt.lists_lengths p.isList p2.isList (by simp; omega) h0
  | @tup a xs ds hs hr =>
    cases rx
    obtain ⟨its, r1, p, _⟩ := I.tuple hs
    cases hy with
    | non  => cases ry; exact RcNeAt.tuple_none  p h0
    | bl b => cases ry; exact RcNeAt.tuple_bool b p h0
    | int i => obtain ⟨t, rfl⟩ := ry; exact RcNeAt.tuple_int i t p h0
    | str z => obtain ⟨t, rfl⟩ := ry; exact RcNeAt.tuple_str z t p h0
    | lst hs2 hr2 => cases ry; obtain ⟨_, _, p2, _⟩ := I.list hs2; exact RcNeAt.tuple_list p p2.isList h0
    | @tup a2 xs2 es hs2 hr2 =>
      cases ry
      obtain ⟨its2, r2, p2, _⟩ := I.tuple hs2
      have l1 : its.length = ds.length := by rw [← r1.length]; exact dpAll_lenK hr
      have l2 : its2.length = es.length := by rw [← r2.length]; exact dpAll_lenK hr2
      have it := eqItems (A := A.in1) (s := s) (fun _ _ => True) (xs := ds) (ys := es) (us := its) (ws := its2) (fun j d e u w e1 e2 e3 e4 => by
        obtain ⟨xv, f1, q1⟩ := get_vals r1 e3
        obtain ⟨yv, f2, q2⟩ := get_vals r2 e4
        have m1 := depth_mem e1
        have m2 := depth_mem e2
        refine (eqAtD I _ d e A.in1 xv yv u w (Nat.le_refl _) (dpAll_getK hr e1 f1) (dpAll_getK hr2 e2 f2) q1 q2 ?_).1
        have hu2 : A.units + min (PyData.depthAll ds + 1) (PyData.depthAll es + 1) < cLine := hu
        show A.units + 1 + min d.depth e.depth < cLine
        omega) l1 l2
      show RcNeAt A s _ _ (!PyData.eqvAll ds es)
      have l3 : its.toArray.size = ds.length := by simpa using l1
      have l4 : its2.toArray.size = es.length := by simpa using l2
      rw [← eqvAll_eq ds es, ← l3, ← l4]
      exact RcNeAt.tuples p p2 h0 fun j j1 j2 => by simpa using it j (by simpa using j1) (by simpa using j2)
def rEqM (K : PySem.W.Frag) : R2 := fun x y H Q => ∃ d e, L2.Dp K H x d ∧ L2.Dp K H y e ∧ d.depth ≤ 64 ∧ Q (.bl (PyData.eqv d e)) H
def rNeM (K : PySem.W.Frag) : R2 := fun x y H Q => ∃ d e, L2.Dp K H x d ∧ L2.Dp K H y e ∧ d.depth ≤ 64 ∧ Q (.bl (!PyData.eqv d e)) H
section
variable {X : Cx}
theorem op_eqM (hu : X.A.units + 64 < cLine) : OpR X (compareOp .Eq) (rEqM X.K) := by
  intro pins s σ H x y v u Q I rx ry ⟨d, e, hd, he, hl, q⟩
  exact (eqAtD I _ d e X.A x y v u (Nat.le_refl _) hd he rx ry (by omega)).2 X.prog X.w X.xe _ ⟨.bl _, H, I, rfl, q⟩
end
theorem ok_eq {K : KW} : CmpOk K (rEqM K) pyEq where
  run := fun b h x y d e Q s rx ry p => by
    unfold pyEq at p
    split at p
    · rename_i hl
      rw [Bool.and_eq_true] at hl
      have h1 := depLe_ok _ _ hl.1
      have p' : Q (.bl (deqF 64 d e)) h := p
      rw [deqF_eq 64 d e (by omega)] at p'
      exact ⟨d, e, dp_toK 64 d hl.1 (rx.dp s), dp_toK 64 e hl.2 (ry.dp s), h1, p'⟩
    · exact p.elim
  nex := fun d e c as z => by unfold pyEq at z; split at z <;> cases z
section
variable {X : Cx}
theorem op_neM (hu : X.A.units + 64 < cLine) : OpR X (compareOp .NotEq) (rNeM X.K) := by
  intro pins s σ H x y v u Q I rx ry ⟨d, e, hd, he, hl, q⟩
  exact neAtD I d e X.A x y v u hd he rx ry (by omega) X.prog X.w X.xe _ ⟨.bl _, H, I, rfl, q⟩
end
theorem ok_ne {K : KW} : CmpOk K (rNeM K) pyNe where
  run := fun b h x y d e Q s rx ry p => by
    unfold pyNe at p
    split at p
    · rename_i hl
      rw [Bool.and_eq_true] at hl
      have h1 := depLe_ok _ _ hl.1
      have p' : Q (.bl (!deqF 64 d e)) h := p
      rw [deqF_eq 64 d e (by omega)] at p'
      exact ⟨d, e, dp_toK 64 d hl.1 (rx.dp s), dp_toK 64 e hl.2 (ry.dp s), h1, p'⟩
    · exact p.elim
  nex := fun d e c as z => by unfold pyNe at z; split at z <;> cases z

/-! ### in, not in -/
/-- x in c: a sign in a text, a thing in a list or tuple -/
def isIn (x : D) : D → R Bool
  | .list ds => if depLe 64 x && ds.all (depLe 64) then .ok (ds.any fun z => deqF 64 z x) else .no
  | .tuple ds => if depLe 64 x && ds.all (depLe 64) then .ok (ds.any fun z => deqF 64 z x) else .no
  | .str z => match x with
    | .str k => match tl k with
      | [c] => .ok (decide (c ∈ tl z))
      | _ => .no
    | _ => .no
  | _ => .no
def pyIn (x c : D) : R Bool := isIn x c
def pyNotIn (x c : D) : R Bool := (isIn x c).bnd fun k => .ok (!k)
def rInM (K : PySem.W.Frag) (g : Bool → Bool) : R2 := fun x y H Q => (∃ (c : Nat) (z : Str), x = .str ⟨#[c]⟩ ∧ y = .str z ∧ Q (.bl (g (decide (c ∈ z.cps.toList)))) H) ∨
  ∃ d ds, L2.Dp K H x d ∧ (L2.Dp K H y (.list ds) ∨ L2.Dp K H y (.tuple ds)) ∧ d.depth ≤ 64 ∧ Q (.bl (g (ds.any fun z => PyData.eqv z d))) H
section
variable {X : Cx} {pins : List (Addr × Obj)} {σ : St} {H : Hp} {s : Shared}
/-- the answer of an item, read off its value -/
noncomputable def ansOf (us : List Value) (ds : List D) (d : D) (u : Value) : Bool :=
  open Classical in if ∃ (j : Nat) (z : D), us[j]? = some u ∧ ds[j]? = some z ∧ PyData.eqv z d = true then true else false
theorem ans_items (I : L2.Inv X pins σ H s) {xs : List V} {us : List Value} {ds : List D} {d : D} (r : Vals xs us) (hr : L2.DpAll X.K H xs ds) : ∀ {j : Nat} {u : Value} {z : D}, us[j]? = some u → ds[j]? = some z → ansOf us ds d u = PyData.eqv z d := by
  intro j u z e1 e2
  unfold ansOf
  obtain ⟨x1, f1, q1⟩ := get_vals r e1
  have hz := dpAll_getK hr e2 f1
  by_cases h : PyData.eqv z d = true
  · rw [if_pos ⟨j, z, e1, e2, h⟩, h]
  · rw [if_neg, (Bool.not_eq_true _).mp h]
    rintro ⟨k, z2, e3, e4, h2⟩
    obtain ⟨x2, f2, q2⟩ := get_vals r e3
    have hz2 := dpAll_getK hr e4 f2
    cases RelV.inj q1 q2
    rw [dpU I _ _ _ _ (Nat.le_refl _) hz hz2] at h
    exact h h2
theorem any_ans (I : L2.Inv X pins σ H s) {d : D} {us0 : List Value} {ds0 : List D} (f : ∀ {j : Nat} {u : Value} {z : D}, us0[j]? = some u → ds0[j]? = some z → ansOf us0 ds0 d u = PyData.eqv z d) (hl : us0.length = ds0.length) :
    us0.any (ansOf us0 ds0 d) = ds0.any fun z => PyData.eqv z d := by
  rw [Bool.eq_iff_iff, List.any_eq_true, List.any_eq_true]
  constructor
  · rintro ⟨u, hu, ha⟩
    obtain ⟨j, hj, e⟩ := List.getElem_of_mem hu
    have e1 : us0[j]? = some u := by rw [List.getElem?_eq_getElem hj, e]
    have e2 : ds0[j]? = some (ds0[j]'(by omega)) := List.getElem?_eq_getElem _
    rw [f e1 e2] at ha
    exact ⟨_, List.getElem_mem _, ha⟩
  · rintro ⟨z, hz, ha⟩
    obtain ⟨j, hj, e⟩ := List.getElem_of_mem hz
    have e2 : ds0[j]? = some z := by rw [List.getElem?_eq_getElem hj, e]
    have hj2 : j < us0.length := by omega
    have e1 : us0[j]? = some (us0[j]'hj2) := List.getElem?_eq_getElem _
    refine ⟨us0[j]'hj2, List.getElem_mem hj2, ?_⟩
    rw [f e1 e2]
    exact ha
theorem in_seq (I : L2.Inv X pins σ H s) {x y : V} {v u : Value} {d : D} {ds : List D} (hd : L2.Dp X.K H x d) (hy : L2.Dp X.K H y (.list ds) ∨ L2.Dp X.K H y (.tuple ds)) (rx : RelV x v) (ry : RelV y u) (hu : X.A.units + 1 + d.depth < cLine) {E : Value → Shared → Prop} {Q : Value → Shared → Prop} :
    (Q (.bool (ds.any fun z => PyData.eqv z d)) s → wpAny (model X.prog X.w) X.A (compareOp .In v u) Q E s) ∧ (Q (.bool (!ds.any fun z => PyData.eqv z d)) s → wpAny (model X.prog X.w) X.A (compareOp .NotIn v u) Q E s) := by
  have main : ∀ {xs : List V} {its : List Value}, Vals xs its → L2.DpAll X.K H xs ds → (∀ z, z ∈ its.toArray → EqAt X.A.in1 s z v (ansOf its ds d z)) ∧ its.toArray.any (ansOf its ds d) = ds.any fun z => PyData.eqv z d := by
    intro xs its r hr
    have hl : its.length = ds.length := by rw [← r.length]; exact dpAll_lenK hr
    have f : ∀ {j : Nat} {u : Value} {z : D}, its[j]? = some u → ds[j]? = some z → ansOf its ds d u = PyData.eqv z d := ans_items I r hr
    refine ⟨fun z hz => ?_, ?_⟩
    · obtain ⟨j, hj, e⟩ := List.getElem_of_mem (show z ∈ its by simpa using hz)
      have e1 : its[j]? = some z := by rw [List.getElem?_eq_getElem hj, e]
      have e2 : ds[j]? = some (ds[j]'(by omega)) := List.getElem?_eq_getElem _
      rw [f e1 e2]
      obtain ⟨xv, f1, q1⟩ := get_vals r e1
      exact (eqAtD I _ _ d X.A.in1 xv x z v (Nat.le_refl _) (dpAll_getK hr e2 f1) hd q1 rx (by show X.A.units + 1 + _ < cLine; omega)).1
    · rw [← any_ans I f hl]
      simp
  rcases hy with hy | hy
  · cases hy with
    | @lst a xs _ hs hr =>
      cases ry
      obtain ⟨its, r, p, _⟩ := I.list hs
      obtain ⟨m1, m2⟩ := main r hr
      rw [← m2]
      exact ⟨fun q => in_listAt _ p.isList m1 q, fun q => notIn_listAt _ p.isList m1 q⟩
  · cases hy with
    | @tup a xs _ hs hr =>
      cases ry
      obtain ⟨its, r, p, _⟩ := I.tuple hs
      obtain ⟨m1, m2⟩ := main r hr
      rw [← m2]
      exact ⟨fun q => in_tupleAt _ p m1 q, fun q => notIn_tupleAt _ p m1 q⟩
theorem op_inM (hu : X.A.units + 65 < cLine) : OpR X (compareOp .In) (rInM X.K id) := by
  intro pins s σ H x y v u Q I rx ry h
  rcases h with h | ⟨d, ds, hd, hy, hl, q⟩
  · exact op_in_sign pins s σ H x y v u Q I rx ry h
  · exact (in_seq I hd hy rx ry (by omega)).1 ⟨.bl _, H, I, rfl, q⟩
theorem op_notInM (hu : X.A.units + 65 < cLine) : OpR X (compareOp .NotIn) (rInM X.K not) := by
  intro pins s σ H x y v u Q I rx ry h
  rcases h with h | ⟨d, ds, hd, hy, hl, q⟩
  · exact op_notIn_sign pins s σ H x y v u Q I rx ry h
  · exact (in_seq I hd hy rx ry (by omega)).2 ⟨.bl _, H, I, rfl, q⟩
end
theorem any_congr {f g : D → Bool} : ∀ {l : List D}, (∀ x ∈ l, f x = g x) → l.any f = l.any g
  | [], _ => rfl
  | x :: l, h => by rw [List.any_cons, List.any_cons, h x List.mem_cons_self, any_congr fun y hy => h y (List.mem_cons_of_mem _ hy)]
theorem isIn_run {K : KW} {g : Bool → Bool} {b h : Hp} {x y : V} {d e : D} {Q : VK} {c : Bool} (s : Same b h) (rx : Bp K b h x d) (ry : Bp K b h y e) (hc : isIn d e = .ok c) (q : Q (.bl (g c)) h) : rInM K g x y h Q := by
  unfold isIn at hc
  split at hc
  · split at hc
    · rename_i ds hl
      injection hc with hc
      subst hc
      rw [Bool.and_eq_true] at hl
      have h1 := depLe_ok _ _ hl.1
      refine .inr ⟨d, ds, dp_toK 64 d hl.1 (rx.dp s), .inl (dp_toK 65 (.list ds) hl.2 (ry.dp s)), h1, ?_⟩
      rw [← any_congr (f := fun z => deqF 64 z d) fun z _ => deqF_eq 64 z d (by omega)]
      exact q
    · cases hc
  · split at hc
    · rename_i ds hl
      injection hc with hc
      subst hc
      rw [Bool.and_eq_true] at hl
      have h1 := depLe_ok _ _ hl.1
      refine .inr ⟨d, ds, dp_toK 64 d hl.1 (rx.dp s), .inr (dp_toK 65 (.tuple ds) hl.2 (ry.dp s)), h1, ?_⟩
      rw [← any_congr (f := fun z => deqF 64 z d) fun z _ => deqF_eq 64 z d (by omega)]
      exact q
    · cases hc
  · split at hc
    · split at hc
      · rename_i z1 z k c' ek
        injection hc with hc
        subst hc
        cases rx.str
        cases ry.str
        refine .inl ⟨c', _, ?_, rfl, q⟩
        exact congrArg V.str (tl_inj (by rw [ek]))
      · cases hc
    · cases hc
  · cases hc
theorem isIn_nex (d e : D) (c : Str) (as : List (Str × D)) : isIn d e ≠ .ex c as := fun z => by
  unfold isIn at z
  split at z
  · split at z <;> cases z
  · split at z <;> cases z
  · split at z
    · split at z <;> cases z
    · cases z
  · cases z
theorem ok_in {K : KW} : CmpOk K (rInM K id) pyIn where
  run := fun b h x y d e Q s rx ry p => by
    unfold pyIn at p
    cases hc : isIn d e with
    | ok c => rw [hc] at p; exact isIn_run (g := id) s rx ry hc p
    | ex c as => exact (isIn_nex _ _ _ _ hc).elim
    | no => rw [hc] at p; exact p.elim
  nex := fun d e c as z => isIn_nex _ _ _ _ z
theorem ok_notIn {K : KW} : CmpOk K (rInM K not) pyNotIn where
  run := fun b h x y d e Q s rx ry p => by
    unfold pyNotIn at p
    cases hc : isIn d e with
    | ok c => rw [hc] at p; exact isIn_run (g := not) s rx ry hc p
    | ex c as => exact (isIn_nex _ _ _ _ hc).elim
    | no => rw [hc] at p; exact p.elim
  nex := fun d e c as z => by
    unfold pyNotIn at z
    cases hc : isIn d e with
    | ok c => rw [hc] at z; cases z
    | ex c as => exact (isIn_nex _ _ _ _ hc).elim
    | no => rw [hc] at z; cases z
end FP
/-! FP I: places, slices, len, is None. -/
namespace FP
open PySem L2 PySem.Spec PyProof.Rows

/-- the place that an index means -/
def atP {α : Type} (l : List α) (i : Int) : Option α := if 0 ≤ i then l[i.toNat]? else if -(l.length : Int) ≤ i then l[(i + l.length).toNat]? else none
theorem atP_eq {α : Type} (l : List α) (i : Int) : atP l i = atI l i := by
  unfold atP atI ixN
  by_cases h : 0 ≤ i
  · rw [if_pos h, if_pos h]
    by_cases h2 : i < l.length
    · rw [if_pos h2]; rfl
    · rw [if_neg h2]
      exact List.getElem?_eq_none_iff.mpr (by omega)
  · rw [if_neg h, if_neg h]
    by_cases h2 : -(l.length : Int) ≤ i
    · rw [if_pos h2, if_pos h2]; rfl
    · rw [if_neg h2, if_neg h2]; rfl
theorem atP_lt {α : Type} {l : List α} {i : Int} {x : α} (e : atP l i = some x) : ∃ j : Nat, l[j]? = some x ∧ ∀ {β : Type} (m : List β), m.length = l.length → atP m i = m[j]? := by
  unfold atP at e
  split at e
  · rename_i h
    exact ⟨i.toNat, e, fun m _ => by unfold atP; rw [if_pos h]⟩
  · rename_i h
    split at e
    · rename_i h2
      exact ⟨_, e, fun m hm => by unfold atP; rw [if_neg h, hm, if_pos h2]⟩
    · cases e
def RO {α : Type} : Option α → R α
  | some a => .ok a
  | none => .no
/-- x[i] of a list, a tuple, a text -/
def pyIx : D → D → R D
  | .list l, .int i => RO (atP l i)
  | .tuple l, .int i => RO (atP l i)
  | .str z, .int i => if z.length ≤ sizeLine then RO ((atP (tl z) i).map sg) else .no
  | _, _ => .no
theorem dpAll_ex {K : KW} {b : Hp} {vs : List V} {ds : List D} {j : Nat} {d : D} (r : DpAll K b vs ds) (e : ds[j]? = some d) : ∃ v, vs[j]? = some v ∧ Dp K b v d := by
  have hj := (List.getElem?_eq_some_iff.mp e).1
  have hl := dpAll_len r
  have e1 : vs[j]? = some (vs[j]'(by omega)) := List.getElem?_eq_getElem _
  exact ⟨_, e1, dpAll_get r e e1⟩
theorem ok_ix {K : KW} : OpOk K (rIx K) pyIx where
  run := fun b h x y d e Q s rx ry p => by
    unfold pyIx at p
    split at p
    · rename_i l i
      cases ry.int
      obtain ⟨a, vs, rfl, hs, hr⟩ := rx.lst s
      cases ea : atP l i with
      | none => rw [ea] at p; exact p.elim
      | some d =>
        rw [ea] at p
        obtain ⟨j, e1, e2⟩ := atP_lt ea
        obtain ⟨v, e3, r⟩ := dpAll_ex hr e1
        exact .inl ⟨a, vs, i, v, rfl, rfl, hs, by rw [← atP_eq, e2 vs (dpAll_len hr), e3], p b h v (Ext.refl s) r⟩
    · rename_i l i
      cases ry.int
      obtain ⟨a, vs, rfl, hs, hr⟩ := rx.tup
      cases ea : atP l i with
      | none => rw [ea] at p; exact p.elim
      | some d =>
        rw [ea] at p
        obtain ⟨j, e1, e2⟩ := atP_lt ea
        obtain ⟨v, e3, r⟩ := dpAll_ex hr e1
        exact .inr (.inl ⟨a, vs, i, v, rfl, rfl, Same.sqT s hs, by rw [← atP_eq, e2 vs (dpAll_len hr), e3], p b h v (Ext.refl s) r⟩)
    · rename_i z i
      split at p
      · rename_i hl
        cases rx.str
        cases ry.int
        cases ea : atP (tl z) i with
        | none => rw [ea] at p; exact p.elim
        | some c =>
          rw [ea] at p
          exact .inr (.inr ⟨z, i, c, rfl, rfl, hl, by rw [← atP_eq, ea], p b h _ (Ext.refl s) (.str _)⟩)
      · exact p.elim
    · exact p.elim
  nex := fun d e c as z => by
    unfold pyIx at z
    split at z
    · rename_i l i
      cases h : atP l i <;> rw [h] at z <;> cases z
    · rename_i l i
      cases h : atP l i <;> rw [h] at z <;> cases z
    · rename_i l i
      split at z
      · cases h : atP (tl l) i <;> rw [h] at z <;> cases z
      · cases z
    · cases z
section
variable {F : Fx} {e a b : Expr} {pos p2 : Pos} {fa fb : Env → R D}
theorem ie_ix (ha : IB F a fa) (hb : IB F b fb) (hs : PlainIx b := by exact fun _ _ => rfl) : IE F (.Subscript a b pos) (eBin pyIx fa fb) :=
  PE.imp (pe_ix ix_seq ha hb hs) fun _ _ _ h => op_run ok_ix h

/-! ### slices -/
/-- a bound as a place among n -/
def cutIx (n d : Nat) : Option Int → Nat
  | none => d
  | some i => if i < 0 then (i + n).toNat else min i.toNat n
theorem cutIx_eq (n d : Nat) (o : Option Int) : cutIx n d o = HT.sIx n d o := by
  cases o with
  | none => rfl
  | some i =>
    have := HT.clip_eq i n d
    show (if i < 0 then (i + n).toNat else min i.toNat n) = _
    by_cases h : i < 0
    · rw [if_pos h] at this ⊢; omega
    · rw [if_neg h] at this ⊢; omega
def cut {α : Type} (l : List α) (lo hi : Option Int) : List α := (l.drop (cutIx l.length 0 lo)).take (cutIx l.length l.length hi - cutIx l.length 0 lo)
theorem cut_eq (l : List V) (lo hi : Option Int) : cut l lo hi = cutV l lo hi := by unfold cut cutV; rw [cutIx_eq, cutIx_eq]
theorem cut_all {α : Type} {l : List α} {lo hi : Option Int} (h : cutIx l.length 0 lo = 0 ∧ cutIx l.length l.length hi = l.length) : cut l lo hi = l := by
  unfold cut
  rw [h.1, h.2, List.drop_zero, Nat.sub_zero, List.take_length]
def pySl (lo hi : Option Int) : D → R D
  | .list l => .ok (.list (cut l lo hi))
  | .tuple l => .ok (.tuple (cut l lo hi))
  | .str z => if z.length ≤ sizeLine then .ok (.str (mkS (cut (tl z) lo hi))) else .no
  | _ => .no
/-- a bound of a slice -/
def tIO (F : Fx) (f : Env → R (Option Int)) : TO := fun σ h Q => ∃ b env, F.G b h σ env ∧ Po F b h σ (f env) fun o _ h' => Q o h'
abbrev IO (F : Fx) (e : Option Expr) (f : Env → R (Option Int)) : Prop := PO F.X e (tIO F f)
theorem PO.imp {X : Cx} {e : Option Expr} {t t' : TO} (h : PO X e t) (q : ∀ σ H Q, t' σ H Q → t σ H Q) : PO X e t' := ⟨fun pins s σ H Q I z => h.run pins s σ H Q I (q σ H Q z)⟩
def toI : D → R (Option Int)
  | .int i => .ok (some i)
  | _ => .no
theorem io_none : IO F none (fun _ => .ok none) := PO.imp po_none fun σ H Q ⟨b, env, G, p⟩ => p b H (Ext.refl G.bh)
theorem io_some (h : IE F e fa) : IO F (some e) (fun env => (fa env).bnd toI) := PO.imp (po_some h) fun σ H Q ⟨b, env, G, p⟩ => ⟨b, env, G, Po.bnd p fun d _ b1 h1 x1 p1 v r => by
  cases d with
  | int i => cases r; exact ⟨i, rfl, p1 b1 h1 (Ext.refl x1.bh)⟩
  | _ => exact p1.elim⟩
def rSlM (K : PySem.W.Frag) : V → Option Int → Option Int → Hp → VK → Prop := fun x lo hi H Q => rSlL K x lo hi H Q ∨ rSlA K x lo hi H Q ∨ rSlS x lo hi H Q
theorem sl_m {X : Cx} : SlR X (rSlM X.K) := sl_list.or (sl_tupA.or sl_str)
theorem dpAll_take {K : KW} {b : Hp} : ∀ {vs : List V} {ds : List D} (n : Nat), DpAll K b vs ds → DpAll K b (vs.take n) (ds.take n)
  | _, _, 0, _ => .nil
  | _, _, _ + 1, .nil => .nil
  | _, _, n + 1, .cons p r => .cons p (dpAll_take n r)
theorem dpAll_drop {K : KW} {b : Hp} : ∀ {vs : List V} {ds : List D} (n : Nat), DpAll K b vs ds → DpAll K b (vs.drop n) (ds.drop n)
  | _, _, 0, r => r
  | _, _, _ + 1, .nil => .nil
  | _, _, n + 1, .cons p r => dpAll_drop n r
theorem dpAll_cut {K : KW} {b : Hp} {vs : List V} {ds : List D} (lo hi : Option Int) (r : DpAll K b vs ds) : DpAll K b (cutV vs lo hi) (cut ds lo hi) := by
  rw [← cut_eq]
  unfold cut
  rw [dpAll_len r]
  exact dpAll_take _ (dpAll_drop _ r)
theorem sl_run {K : KW} {b h : Hp} {x : V} {d : D} {lo hi : Option Int} {Q : VK} (s : Same b h) (rx : Bp K b h x d) (p : PoV K b h (pySl lo hi d) Q) : rSlM K x lo hi h Q := by
  unfold pySl at p
  split at p
  · obtain ⟨a, vs, rfl, hs, hr⟩ := rx.lst s
    exact .inl ⟨a, vs, rfl, hs, fun q hq => p _ _ _ (Ext.new s hq) (.lst (.inl (.inl upd_same)) (dpAll_mono (upd_same_sub (none_sub s hq)) (dpAll_cut lo hi hr)))⟩
  · obtain ⟨a, vs, rfl, hs, hr⟩ := rx.tup
    refine .inr (.inl ⟨a, vs, rfl, Same.sqT s hs, fun hw => ?_, fun hw q hq => ?_⟩)
    · rename_i l
      rw [← cutIx_eq, ← cutIx_eq, dpAll_len hr] at hw
      rw [cut_all hw] at p
      exact p b h _ (Ext.refl s) (.tup hs hr)
    · exact p _ _ _ (Ext.new s hq) (.tup (.inl (.inl upd_same)) (dpAll_mono (upd_same_sub (none_sub s hq)) (dpAll_cut lo hi hr)))
  · split at p
    · rename_i z hl
      cases rx.str
      refine .inr (.inr ⟨z, rfl, hl, ?_⟩)
      have e : mkS (cut (tl z) lo hi) = cutS z lo hi := by
        refine tl_inj ?_
        rw [tl_mkS]
        show cut (tl z) lo hi = (cutS z lo hi).cps.toList
        unfold cutS cut
        rw [cutIx_eq, cutIx_eq, len_tl]
      rw [← e]
      exact p b h _ (Ext.refl s) (.str _)
    · exact p.elim
  · exact p.elim
theorem sl_nex (lo hi : Option Int) (d : D) (c : Str) (as : List (Str × D)) : pySl lo hi d ≠ .ex c as := fun z => by
  unfold pySl at z
  split at z
  · cases z
  · cases z
  · split at z <;> cases z
  · cases z
def eSl (fa : Env → R D) (fl fh : Env → R (Option Int)) : Env → R D := fun env => (fa env).bnd fun d => (fl env).bnd fun lo => (fh env).bnd fun hi => pySl lo hi d
theorem ie_sl {lo hi : Option Expr} {fl fh : Env → R (Option Int)} (ha : IB F e fa) (hl : IO F lo fl) (hh : IO F hi fh) : IE F (.Subscript e (.Slice lo hi none p2) pos) (eSl fa fl fh) :=
  PE.imp (pe_slice sl_m ha hl hh) fun σ H Q ⟨b, env, G, p⟩ => ⟨b, env, G, Po.bnd p fun d _ b1 h1 x1 p1 v r => ⟨b1, env, G.grow x1, Po.bnd p1 fun lo _ b2 h2 x2 p2 => ⟨b2, env, (G.grow x1).grow x2, Po.bnd p2 fun hi _ b3 h3 x3 p3 => by
    exact sl_run x3.bh ((r.grow x1.bh x2).grow x2.bh x3) (p3.v (sl_nex lo hi d))⟩⟩⟩

/-! ### len -/
def pyLen : D → R D
  | .list l => .ok (.int l.length)
  | .tuple l => .ok (.int l.length)
  | .str z => if z.length ≤ sizeLine then .ok (.int (tl z).length) else .no
  | _ => .no
/-- an argument list whose only item is read -/
theorem pa_oneB {a : Expr} {fa : Env → R D} (ha : IB F a fa) (hs : starEach [a] F.X.env = (false, eval a F.X.env) :: starEach [] F.X.env := by rfl) : PA F.X [a] (tCons (tIB F fa) tNil) := pa_cons ha pa_nil hs
theorem len_run {K : KW} {b h : Hp} {x : V} {d : D} {Q : VK} (s : Same b h) (rx : Bp K b h x d) (p : PoV K b h (pyLen d) Q) : ∃ y n, [x] = [y] ∧ LenV K y h n ∧ Q (.int n) h := by
  unfold pyLen at p
  split at p
  · obtain ⟨a, vs, rfl, hs, hr⟩ := rx.lst s
    exact ⟨_, _, rfl, .inl ⟨vs, hs, (dpAll_len hr).symm⟩, p b h _ (Ext.refl s) (.int _)⟩
  · obtain ⟨a, vs, rfl, hs, hr⟩ := rx.tup
    exact ⟨_, _, rfl, .inr ⟨vs, Same.sqT s hs, (dpAll_len hr).symm⟩, p b h _ (Ext.refl s) (.int _)⟩
  · split at p
    · rename_i z hl
      cases rx.str
      rw [len_tl] at p
      exact ⟨_, _, rfl, ⟨hl, rfl⟩, p b h _ (Ext.refl s) (.int _)⟩
    · exact p.elim
  · exact p.elim
theorem len_nex (d : D) (c : Str) (as : List (Str × D)) : pyLen d ≠ .ex c as := fun z => by
  unfold pyLen at z
  split at z
  · cases z
  · cases z
  · split at z <;> cases z
  · cases z
theorem ie_len {p : Pos} (hm : F.X.mg "len" = none) (ha : IB F a fa) (hg : Gl F.X "len" := by rfl) (hs : starEach [a] F.X.env = (false, eval a F.X.env) :: starEach [] F.X.env := by rfl) (hpl : (backTo pos (starEach [] F.X.env)).any (·.1) = false := by rfl) :
    IE F (.Call (.Name "len" p) [a] [] pos) (eUn pyLen fa) :=
  PE.imp (pe_callB call_len hg hm PySem.boot_len (pa_oneB ha hs) (by decide) (by decide) hs hpl) fun σ H Q ⟨b, env, G, p⟩ => ⟨b, env, G, Po.bnd p fun d _ b1 h1 x1 p1 v r => len_run x1.bh r (p1.v (len_nex d))⟩

/-! ### is None -/
def isNone : D → Bool
  | .none => true
  | _ => false
theorem Bp.isNone {K : KW} {b h : Hp} {v : V} {d : D} (q : Bp K b h v d) : decide (v = .non) = isNone d := by
  rcases q with q | ⟨a, vs, l, e, _, _, e2⟩ | ⟨_, _, _, e, _, e2⟩
  · cases q <;> first | rfl | exact decide_eq_false (fun z => by cases z)
  · subst e e2
    exact decide_eq_false (fun z => by cases z)
  · subst e e2
    exact decide_eq_false (fun z => by cases z)
theorem it_isN {j : Nat} {pos' : Pos} (ha : IB F a fa) : IT F (.Compare a [.Is] [.Constant .none j pos'] pos) (fun env => (fa env).bnd fun d => .ok (isNone d)) :=
  PT.imp (pt_cmp (pc_isN ha)) fun σ H Q ⟨b, env, G, p⟩ => ⟨b, env, G, Po.bnd p fun d _ b1 h1 x1 p1 v r => ⟨_, by rw [r.isNone], p1 b1 h1 (Ext.refl x1.bh)⟩⟩
theorem it_notN {j : Nat} {pos' : Pos} (ha : IB F a fa) : IT F (.Compare a [.IsNot] [.Constant .none j pos'] pos) (fun env => (fa env).bnd fun d => .ok (!isNone d)) :=
  PT.imp (pt_cmp (pc_notN ha)) fun σ H Q ⟨b, env, G, p⟩ => ⟨b, env, G, Po.bnd p fun d _ b1 h1 x1 p1 v r => ⟨_, by rw [r.isNone], p1 b1 h1 (Ext.refl x1.bh)⟩⟩
theorem ie_isN {j : Nat} {pos' : Pos} (ha : IB F a fa) : IE F (.Compare a [.Is] [.Constant .none j pos'] pos) (eOfB fun env => (fa env).bnd fun d => .ok (isNone d)) :=
  PE.imp (pe_cmp (pc_isN ha)) fun σ H Q ⟨b, env, G, p⟩ => by
    refine ⟨b, env, G, ?_⟩
    unfold eOfB at p
    dsimp only at p
    cases hd : fa env with
    | ok d =>
      rw [hd] at p
      intro b1 h1 x1 v r
      rw [r.isNone]
      exact p b1 h1 x1 _ (.bl _)
    | ex c as => rw [hd] at p; exact p
    | no => rw [hd] at p; exact p
end
end FP
/-! FP J: list comprehensions. -/
namespace FP
open PySem L2 PySem.Spec PyProof.Rows

/-- the block of a comprehension -/
abbrev Fx.blk (F : Fx) (s : Shared) (H : Hp) (scope : Scope) (C : Addr) (cl : List (Str × Addr)) (fp : List Addr) : Fx where
  X := F.X.blk s H scope (compEnvC scope cl C F.X.env) fp
  W := fun _ _ _ _ => False
  b0 := F.b0
  h0 := F.h0
  T := F.T
  k := F.k
  pre := F.pre
  tk := takes0
  sui := F.sui
  calm := F.calm
  nd := F.nd
  room := F.room
  hand := F.hand
  owns := fun _ => PassesOwn.never

def wipeE (env : Env) : List Nat → Env
  | [] => env
  | v :: vs => (wipeE env vs).set v .no
/-- the items of a comprehension -/
def compL (t : Tg) (g : Env → R Bool) (fe : Env → R D) (env : Env) : List D → R (List D)
  | [] => .ok []
  | d :: ds => match t d env with
    | none => .no
    | some env1 => match g env1 with
      | .ok true => match fe env1 with
        | .ok y => (compL t g fe env ds).bnd fun r => .ok (y :: r)
        | _ => .no
      | .ok false => compL t g fe env ds
      | _ => .no
def eComp (f : Env → R (List D)) (t : Tg) (g : Env → R Bool) (fe : Env → R D) (vs : List Nat) : Env → R Own := fun env => (f env).bnd fun ds => if ds.length ≤ sizeLine then (compL t g fe (wipeE env vs) ds).bnd fun r => .ok (.lst r) else .no

section
variable {K : KW} {b0 h0 b h : Hp} {σ : St} {env : Env}
theorem Good.forget (G : Good K b0 h0 b h σ env) (v : Nat) : Good K b0 h0 b h (σ.set v none) (env.set v .no) := by
  refine ⟨by rw [List.length_set, List.length_set]; exact G.len, G.ext, fun j s e => ?_, fun j k o1 o2 c hjk e1 e2 e3 e4 => ?_⟩
  · by_cases hij : v = j
    · subst hij
      have hl : v < env.length := by
        have := (List.getElem?_eq_some_iff.mp e).1
        rwa [List.length_set] at this
      rw [List.getElem?_set_self hl] at e
      cases e
      exact ⟨none, List.getElem?_set_self (by rw [G.len]; exact hl), trivial⟩
    · obtain ⟨w, e1, q⟩ := G.sl j s (get_set_other hij e)
      exact ⟨w, by rw [List.getElem?_set_ne hij]; exact e1, q⟩
  · have h1 : v ≠ j := fun z => by
      subst z
      have hl := (List.getElem?_eq_some_iff.mp e1).1
      rw [List.length_set] at hl
      rw [List.getElem?_set_self hl] at e1; cases e1
    have h2 : v ≠ k := fun z => by
      subst z
      have hl := (List.getElem?_eq_some_iff.mp e2).1
      rw [List.length_set] at hl
      rw [List.getElem?_set_self hl] at e2; cases e2
    exact G.ap j k o1 o2 c hjk (get_set_other h1 e1) (get_set_other h2 e2) (get_set_other h1 e3) (get_set_other h2 e4)
theorem Good.wipe (G : Good K b0 h0 b h σ env) : ∀ vs : List Nat, Good K b0 h0 b h (wipe σ vs) (wipeE env vs)
  | [] => G
  | v :: vs => (G.wipe vs).forget v
theorem wipe_get {σ : St} (i : Nat) : ∀ vs : List Nat, (L2.wipe σ vs)[i]? = if i ∈ vs then (if i < σ.length then some none else none) else σ[i]?
  | [] => by rw [if_neg (by simp)]; rfl
  | v :: vs => by
    unfold L2.wipe
    by_cases hi : v = i
    · subst hi
      rw [if_pos (by simp)]
      by_cases hl : v < σ.length
      · rw [List.getElem?_set_self (by rw [wipe_length]; exact hl), if_pos hl]
      · rw [List.getElem?_eq_none (by rw [List.length_set, wipe_length]; omega), if_neg hl]
    · rw [List.getElem?_set_ne hi, wipe_get i vs]
      by_cases hm : i ∈ vs
      · rw [if_pos hm, if_pos (List.mem_cons_of_mem _ hm)]
      · rw [if_neg hm, if_neg (by simp only [List.mem_cons, not_or]; exact ⟨fun e => hi e.symm, hm⟩)]
theorem wipe_but {σ σ' : St} {vs ix : List Nat} (hb : But ix (L2.wipe σ vs) σ') (hs : ∀ i ∈ ix, i ∈ vs) : L2.wipe σ' vs = L2.wipe σ vs := by
  refine List.ext_getElem? fun i => ?_
  have hl : σ'.length = σ.length := by rw [hb.1, wipe_length]
  rw [wipe_get, wipe_get, hl]
  by_cases hm : i ∈ vs
  · rw [if_pos hm, if_pos hm]
  · rw [if_neg hm, if_neg hm, hb.2 i (fun z => hm (hs i z)), wipe_get, if_neg hm]
/-- a list apart from the frame's things is changed -/
theorem Good.updApart (G : Good K b0 h0 b h σ env) {a : Addr} {u w : HO} (ha : h a = some u) (hu : ∀ fs, u ≠ .xd fs) (n : b a = none) (m : h0 a = none) (hap : ∀ (i : Nat) (o : Own), env[i]? = some (.ow o) → σ[i]? ≠ some (some (.ref a))) : Good K b0 h0 b (upd h a w) σ env := by
  refine ⟨G.len, ⟨⟨fun c z ec nt => ?_, fun c ps ec => ?_⟩, fun c z ec => ?_, G.ext.fz⟩, fun j s ej => ?_, G.ap⟩
  · have : c ≠ a := fun z => by rw [z, m] at ec; cases ec
    rw [upd_ne this]; exact G.ext.up.st c z ec nt
  · have : c ≠ a := fun z => by rw [z, m] at ec; cases ec
    rw [upd_ne this]; exact G.ext.up.tb c ps ec
  · have : c ≠ a := fun z => by rw [z, n] at ec; cases ec
    rw [upd_ne this]; exact G.ext.bh c z ec
  · obtain ⟨v, e1, q⟩ := G.sl j s ej
    refine ⟨v, e1, ?_⟩
    cases s with
    | no => trivial
    | vl d => exact q
    | ow o =>
      obtain ⟨c, e2, q2, n2, m2⟩ := q
      subst e2
      have hca : c ≠ a := fun z => by subst z; exact hap j o ej e1
      refine ⟨c, rfl, ?_, n2, m2⟩
      exact q2.other hca fun d fs e z => by rw [z, ha] at e; cases e; exact hu _ rfl
end

/-- a clause's tests -/
def tITs (F : Fx) (f : Env → R Bool) : TT := tIT F f
abbrev ITs (F : Fx) (es : List Expr) (f : Env → R Bool) : Prop := PTs F.X es (tIT F f)
theorem PTs.imp {X : Cx} {e : List Expr} {t t' : TT} (h : PTs X e t) (q : ∀ σ H Q, t' σ H Q → t σ H Q) : PTs X e t' := ⟨fun pins s σ H Q I z => h.run pins s σ H Q I (q σ H Q z)⟩
def tYesR : Env → R Bool := fun _ => .ok true
theorem its_nil {F : Fx} : ITs F [] tYesR := PTs.imp pts_nil fun σ H Q ⟨b, env, G, p⟩ => p b H (Ext.refl G.bh)
theorem its_one {F : Fx} {c : Expr} {g : Env → R Bool} (h : IT F c g) : ITs F [c] g := pts_one h

section
variable {F : Fx} {elt tg iter : Expr} {ifs : List Expr} {scope : Scope} {pos : Pos} {f : Env → R (List D)} {t : Tg} {g : Env → R Bool} {fe : Env → R D}
/-- the reading of a comprehension -/
theorem comp_run {vs ix : List Nat} (hix : ∀ i ∈ ix, i ∈ vs) {σ : St} {H : Hp} {Q : VK} {Fb : Fx} (hF : Fb.kw = F.kw ∧ Fb.b0 = F.b0 ∧ Fb.h0 = F.h0) (hW : ∀ c d s h, ¬ Fb.W c d s h)
    (h : ∃ b env, F.G b H σ env ∧ Po F b H σ (eComp f t g fe vs env) fun o b' h' => ∀ p u, h' p = none → (∀ ps, u ≠ .tbl ps) → OwnOk F.kw b' (upd h' p u) p o → Q (.ref p) (upd h' p u)) : tLc (tII F f) (tIG Fb t ix) (tIT Fb g) (tI Fb fe) vs σ H Q := by
  obtain ⟨b, env, G, p⟩ := h
  obtain ⟨eK, eb, eh⟩ := hF
  refine ⟨b, env, G, Po.bnd p fun ds _ b1 h1 x1 p1 J wk Dn hDn => ?_⟩
  split at p1
  · rename_i hsz
    cases hc : compL t g fe (wipeE env vs) ds with
    | ex c as =>
      exfalso
      have nex : ∀ (l : List D) (c : Str) (as : List (Str × D)), compL t g fe (wipeE env vs) l ≠ .ex c as := by
        intro l
        induction l with
        | nil => intro c as z; cases z
        | cons d l ih =>
          intro c as z
          unfold compL at z
          split at z
          · cases z
          · split at z
            · split at z
              · cases hr : compL t g fe (wipeE env vs) l with
                | ok r => rw [hr] at z; cases z
                | ex c' as' => exact ih c' as' hr
                | no => rw [hr] at z; cases z
              · cases z
            · exact ih c as z
            · cases z
      exact nex _ _ _ hc
    | no => rw [hc] at p1; exact p1.elim
    | ok res =>
      rw [hc] at p1
      have G1 := G.grow x1
      have hq : ∀ b' h' u, Ext b1 h1 b' h' → h' Dn = none → (∀ ps, u ≠ .tbl ps) → OwnOk F.kw b' (upd h' Dn u) Dn (.lst res) → Q (.ref Dn) (upd h' Dn u) := fun b' h' u x hn hu ok => p1 b' h' x Dn u hn hu ok
      -- the new list's states, told without it
      refine ⟨fun i m h => m = ds.length - i ∧ i ≤ ds.length ∧ ∃ b' h' acc vacc rest, Ext b1 h1 b' h' ∧ h' Dn = none ∧ h = upd h' Dn (.lst vacc) ∧ DpAll F.kw b' vacc acc ∧ acc.length ≤ i ∧ compL t g fe (wipeE env vs) (ds.drop i) = .ok rest ∧ res = acc ++ rest,
        ⟨ds.length, by simp, Nat.zero_le _, b1, h1, [], [], res, Ext.refl x1.bh, hDn, rfl, .nil, Nat.zero_le _, by simpa using hc, rfl⟩, ?_⟩
      rintro i m h ⟨rfl, hi, b', h', acc, vacc, rest, xe, hn, rfl, ra, hal, hcr, hres⟩
      have G' := G1.grow xe
      have hb' : Same b' (upd h' Dn (.lst vacc)) := fun a o e => by
        have : a ≠ Dn := fun z => by subst z; rw [none_sub xe.bh hn] at e; cases e
        rw [upd_ne this]; exact xe.bh a o e
      have nb : b' Dn = none := none_sub xe.bh hn
      have nh0 : F.h0 Dn = none := G'.ext.up.free hn
      have s1 : Same b1 b' := xe.bb x1.bh
      have G2 : F.G b' (upd h' Dn (.lst vacc)) σ env := G'.grow (Ext.newH (o := .lst vacc) xe.bh hn)
      by_cases hlt : i < ds.length
      · have ed : ds[i]? = some ds[i] := List.getElem?_eq_getElem hlt
        refine .inr ⟨wk.goes i b' _ s1 hb' hlt, fun h => ∃ b' h' acc vacc rest, Ext b1 h1 b' h' ∧ h' Dn = none ∧ h = upd h' Dn (.lst vacc) ∧ DpAll F.kw b' vacc acc ∧ acc.length ≤ i + 1 ∧ compL t g fe (wipeE env vs) (ds.drop (i + 1)) = .ok rest ∧ res = acc ++ rest,
          fun h ⟨b', h', acc, vacc, rest, z⟩ => ⟨ds.length - (i + 1), by omega, rfl, hlt, b', h', acc, vacc, rest, z⟩, fun x h3 hy => ?_⟩
        obtain ⟨b3, x3, r3⟩ := wk.yields i b' _ x h3 _ s1 hb' ed hy
        rw [List.drop_eq_getElem_cons hlt] at hcr
        unfold compL at hcr
        cases et : t ds[i] (wipeE env vs) with
        | none => rw [et] at hcr; cases hcr
        | some env1 =>
          rw [et] at hcr
          dsimp only at hcr
          -- all states from here on: h5 with the list at Dn within
          have back : ∀ b5 h5, Ext b' (upd h' Dn (.lst vacc)) b5 h5 → ∃ h6, h6 Dn = none ∧ h5 = upd h6 Dn (.lst vacc) ∧ Ext b1 h1 b5 h6 := fun b5 h5 x5 => by
            have hd5 : h5 Dn = some (.lst vacc) := x5.up.st _ _ upd_same (fun _ z => by cases z)
            have bd5 : b5 Dn = none := (x5.fz Dn _ upd_same).trans nb
            refine ⟨fun a => if a = Dn then none else h5 a, if_pos rfl, ?_, ⟨⟨fun a o e nt => ?_, fun a ps e => ?_⟩, fun a o e => ?_, fun a o e => ?_⟩⟩
            · funext a
              by_cases ha : a = Dn
              · subst ha; rw [hd5, upd_same]
              · rw [upd_ne ha]; exact (if_neg ha).symm
            · have ha : a ≠ Dn := fun z => by subst z; rw [hDn] at e; cases e
              show (if a = Dn then none else h5 a) = some o
              rw [if_neg ha]
              exact x5.up.st a o (by rw [upd_ne ha]; exact xe.up.st a o e nt) nt
            · have ha : a ≠ Dn := fun z => by subst z; rw [hDn] at e; cases e
              show ∃ ps', (if a = Dn then none else h5 a) = some (.tbl ps') ∧ _
              rw [if_neg ha]
              obtain ⟨p1, e1, z1⟩ := xe.up.tb a ps e
              obtain ⟨p2, e2, z2⟩ := x5.up.tb a p1 (by rw [upd_ne ha]; exact e1)
              exact ⟨p2, e2, fun z => z2 (z1 z)⟩
            · have ha : a ≠ Dn := fun z => by subst z; rw [bd5] at e; cases e
              show (if a = Dn then none else h5 a) = some o
              rw [if_neg ha]
              exact x5.bh a o e
            · have ha : a ≠ Dn := fun z => by subst z; rw [hDn] at e; cases e
              obtain ⟨o', e'⟩ := xe.up.there e
              rw [x5.fz a o' (by rw [upd_ne ha]; exact e'), xe.fz a o e]
          have Gb : ∀ {b5 h5 : Hp} {σ5 : St} {env5 : Env}, F.G b5 h5 σ5 env5 → Fb.G b5 h5 σ5 env5 := fun {b5 h5 σ5 env5} G => by
            show Good Fb.kw Fb.b0 Fb.h0 b5 h5 σ5 env5
            rw [eK, eb, eh]; exact G
          have Gf : ∀ {b5 h5 : Hp} {σ5 : St} {env5 : Env}, Fb.G b5 h5 σ5 env5 → F.G b5 h5 σ5 env5 := fun {b5 h5 σ5 env5} G => by
            show Good F.kw F.b0 F.h0 b5 h5 σ5 env5
            rw [← eK, ← eb, ← eh]; exact G
          refine ⟨b3, wipeE env vs, ds[i], env1, Gb ((G2.grow x3).wipe vs), by rw [eK]; exact r3, et, fun σ' Gs hbt => ⟨wipe_but hbt hix, ?_⟩⟩
          cases hg : g env1 with
          | ex c as => rw [hg] at hcr; cases hcr
          | no => rw [hg] at hcr; cases hcr
          | ok cc =>
            rw [hg] at hcr
            refine ⟨b3, env1, Gs, ?_⟩
            rw [hg]
            intro b4 h4 x4
            cases cc with
            | false =>
              refine iteF ?_
              obtain ⟨h6, e6, rfl, x6⟩ := back b4 h4 (x3.trans x4)
              exact ⟨b4, h6, acc, vacc, rest, x6, e6, rfl, dpAll_mono ((x3.trans x4).bb hb') ra, by omega, hcr, hres⟩
            | true =>
              refine iteT ?_
              dsimp only at hcr
              cases hfe : fe env1 with
              | ex c as => rw [hfe] at hcr; cases hcr
              | no => rw [hfe] at hcr; cases hcr
              | ok y =>
                rw [hfe] at hcr
                dsimp only at hcr
                cases hcl : compL t g fe (wipeE env vs) (ds.drop (i + 1)) with
                | ex c as => rw [hcl] at hcr; cases hcr
                | no => rw [hcl] at hcr; cases hcr
                | ok r =>
                  rw [hcl] at hcr
                  have hr : y :: r = rest := by injection hcr
                  refine ⟨b4, env1, Gs.grow x4, ?_⟩
                  rw [hfe]
                  intro b5 h5 x5 v rv
                  obtain ⟨h6, e6, rfl, x6⟩ := back b5 h5 ((x3.trans x4).trans x5)
                  refine ⟨vacc, upd_same, by rw [dpAll_len ra]; omega, b5, h6, acc ++ [y], vacc ++ [v], r, x6, e6, upd_upd, dpAll_snoc (dpAll_mono (((x3.trans x4).trans x5).bb hb') ra) (by rw [← eK]; exact rv), by rw [List.length_append]; simpa using hal, rfl, ?_⟩
                  rw [hres, ← hr, List.append_assoc]
                  rfl
      · have e : i = ds.length := by omega
        subst e
        rw [List.drop_length] at hcr
        have hr : rest = [] := by injection hcr with z; exact z.symm
        subst hr
        rw [List.append_nil] at hres
        subst hres
        exact .inl ⟨wk.stops b' _ s1 hb', hq b' h' _ xe hn (fun _ z => by cases z) ⟨vacc, upd_same, ra⟩⟩
  · exact p1.elim
theorem if_comp {ix : List Nat} (own : List (Str × Nat)) (hi : II F tg iter f) (ok : blkC F.X.N F.X.env.scope scope own = true) (hix : ∀ i ∈ ix, i ∈ own.map (·.2))
    (hg : ∀ (s : Shared) (H : Hp) (C : Addr) (cl : List (Str × Addr)) (fp : List Addr), IG (F.blk s H scope C cl fp) tg t ix) (ht : ∀ (s : Shared) (H : Hp) (C : Addr) (cl : List (Str × Addr)) (fp : List Addr), ITs (F.blk s H scope C cl fp) ifs g)
    (he : ∀ (s : Shared) (H : Hp) (C : Addr) (cl : List (Str × Addr)) (fp : List Addr), IE (F.blk s H scope C cl fp) elt fe) (hs : ∀ x, foldedSetIterable iter F.X.env x = pure x := by intro _; rfl) (hsu : F.sui = false := by rfl) :
    IF F (.ListComp elt [⟨tg, iter, ifs, 0⟩] scope pos) (eComp f t g fe (own.map (·.2))) :=
  PE.imp (pe_lc (wi := tII F f) (g := tIG (F.blk F.X.s_0 F.X.H_0 scope 0 [] []) t ix) (tt := tIT (F.blk F.X.s_0 F.X.H_0 scope 0 [] []) g) (te := tI (F.blk F.X.s_0 F.X.H_0 scope 0 [] []) fe) (F.calm hsu) F.nd hi (blkOk_by ok) (fun s H C cl fp => hg s H C cl fp) (fun s H C cl fp => ht s H C cl fp) (fun s H C cl fp => he s H C cl fp) hs)
    fun σ H Q h => comp_run hix ⟨rfl, rfl, rfl⟩ (fun _ _ _ _ z => z) h
end
end FP
/-! FP K: generator expressions. -/
namespace FP
open PySem L2 PySem.Spec PyProof.Rows

/-- where a generator expression's code runs -/
abbrev gX (X : Cx) (s : Shared) (H : Hp) (cenv : PySem.Env) (A : Around) (fp : List Addr) : Cx :=
  { X with A := A, s_0 := s, H_0 := H, env := cenv, outer := X.stack, stack := cenv :: X.stack, ex := fp, fn := fun _ => false, pn := [], xe := fun _ _ => False }
/-- a generator's own scope -/
structure GSc (scope : Scope) : Prop where
  kind : scope.kind = .function
  co : scope.isCoroutine = false
  cell : ∀ y ∈ scope.names, y.2 ≠ .cell
  dot : scope.names.lookup (".0" : Str) = some NameKind.local
theorem clo_in {X : Cx} {pins : List (Addr × Obj)} {σ : St} {H : Hp} {s : Shared} {scope : Scope} {own : List (Str × Nat)} (I : L2.Inv X pins σ H s) (ok : BlkOk X.N X.env.scope scope own) {y : Str} {c : Addr} (h : (cloFrom X.env.cells scope.names []).lookup y = some c) :
    X.env.cells.lookup y = some c := by
  rcases cloFrom_mem (PySem.mem_of_lookup h) with z | ⟨z, e⟩
  · cases z
  · have hf := ok.free _ z rfl
    obtain ⟨c2, h2⟩ := I.ok.has y (hf.elim .inl .inr)
    rw [e, h2]
    rfl
theorem clo_has {X : Cx} {pins : List (Addr × Obj)} {σ : St} {H : Hp} {s : Shared} {scope : Scope} {own : List (Str × Nat)} (I : L2.Inv X pins σ H s) (ok : BlkOk X.N X.env.scope scope own) {y : Str} (h : scope.names.lookup y = some .free) :
    ∃ c, (cloFrom X.env.cells scope.names []).lookup y = some c ∧ X.env.cells.lookup y = some c := by
  obtain ⟨c, e⟩ := mem_lookup (cloFrom_has (cells := X.env.cells) (acc := []) (PySem.mem_of_lookup h))
  exact ⟨c, e, clo_in I ok e⟩
/-- the generator's frame stands: its code's state -/
theorem gen_inv {X : Cx} {pins : List (Addr × Obj)} {σ : St} {H : Hp} {s s6 : Shared} {scope : Scope} {own : List (Str × Nat)} {fp : List Addr} {cenv : PySem.Env} {A : Around} (I : L2.Inv X pins σ H s) (ok : BlkOk X.N X.env.scope scope own) (hN : X.N.Nodup) (S : GSc scope)
    (hfp : ∀ b ∈ fp, FpOk X pins H b ∧ b < s.heap.objs.size) (hsc : cenv.scope = scope) (hgl : cenv.globals = X.env.globals) (hbt : cenv.builtins = builtinsNs) (hL : cenv.locals = s.heap.objs.size) (hcl : cenv.cells = cloFrom X.env.cells scope.names []) (hfr : cenv.frame = some cenv.locals)
    (hA : A.frames = some (cenv :: X.stack)) (hh : A.handled = none) (kp : ∀ b o, s.heap.get? b = some o → s6.heap.get? b = some o) (hos : s6.os = s.os) (hba : AllBare s6.gens) {m : Str → Option Value} (hns : s6.heap.Ns cenv.locals m) :
    L2.Inv (gX X s H cenv A fp) [] (L2.wipe σ (own.map (·.2))) H s6 := by
  have cX : ∀ {y c}, cenv.cells.lookup y = some c → X.env.cells.lookup y = some c := fun {y c} h => clo_in I ok (by rw [← hcl]; exact h)
  have okB : (gX X s H cenv A fp).Ok := {
    mod := I.ok.mod
    kind := by show cenv.scope.kind = _; rw [hsc]; exact S.kind
    glob := hgl.trans I.ok.glob
    blt := hbt
    above := Nat.le_of_eq hL.symm
    inj := fun x y c e1 e2 => I.ok.inj x y c (cX e1) (cX e2)
    has := fun y hy => by
      have h2 : scope.names.lookup y = some .cell ∨ scope.names.lookup y = some .free := by rw [← hsc]; exact hy
      rcases h2 with z | z
      · exact absurd rfl (S.cell _ (PySem.mem_of_lookup z))
      · obtain ⟨c, e, _⟩ := clo_has I ok z
        exact ⟨c, by show cenv.cells.lookup y = _; rw [hcl]; exact e⟩
    cab := fun _ _ z => by cases z
    hd := fun _ => hh
    frames := hA
    stk := .inr ⟨rfl, hfr⟩
    exf := fun b hb => ⟨by rw [hL]; exact Nat.ne_of_lt (hfp b hb).2, fun x c e => (hfp b hb).1.2.2.2.2.1 x c (cX e)⟩
    bs := I.bs
    bsz := Nat.le_trans I.ok.bsz I.sz
    noex := fun b o e hb => by
      rcases (hfp b hb).1.2.2.2.1 with z | z
      · exact I.ok.noex b o e z
      · have := Nat.lt_of_lt_of_le (Heap.lt_size e) (Nat.le_trans I.ok.bsz z)
        exact Nat.lt_irrefl _ this
    exfs := fun b hb z => (List.mem_cons.mp (I.stkSub b z)).elim (fun y => (hfp b hb).1.2.1 y) fun y => (hfp b hb).1.2.2.1 y
    funs := I.stack
    frf := I.stkFree }
  have cellK : ∀ {y c}, cenv.cells.lookup y = some c → ∃ v, s6.heap.IsCell c v := fun {y c} e => by
    obtain ⟨v, z⟩ := I.cell y c (cX e)
    exact ⟨v, z.keeps kp⟩
  refine ⟨okB, hos, hba, Un.kept kp, ⟨m, hns, fun i y av e1 e2 e3 => ?_⟩, fun y c e => cellK e, ?_, fun y c e => I.freeC y c (cX e), fun p hp => by simp at hp, I.hok.kept kp, by rw [wipe_length]; exact I.len⟩
  · obtain ⟨e2, hne⟩ := wipe_some e2
    have e3' : Vis scope y := by rw [← hsc]; exact e3
    have noOwn : ∀ k, (y, k) ∈ scope.names → k = .local ∨ k = .cell → False := fun k hm hk => by
      rcases ok.own _ hm hk with z | z
      · obtain ⟨p, hp, hpy⟩ := List.mem_map.mp z
        have e4 := ok.ix p hp
        rw [show p.1 = y from hpy] at e4
        exact hne (List.mem_map.mpr ⟨p, hp, nodup_ix hN e4 e1⟩)
      · exact z (List.mem_of_getElem? e1)
    have hf : scope.names.lookup y = some .free := by
      rcases e3' with z | z | z
      · exact (noOwn _ (PySem.mem_of_lookup z) (.inl rfl)).elim
      · exact (noOwn _ (PySem.mem_of_lookup z) (.inr rfl)).elim
      · exact z
    obtain ⟨c, h1, h2⟩ := clo_has I ok hf
    have hvis : Vis X.env.scope y := (ok.free _ (PySem.mem_of_lookup hf) rfl).elim (fun k => .inr (.inl k)) fun k => .inr (.inr k)
    obtain ⟨m0, hn0, hl0⟩ := I.loc
    obtain ⟨u, r, q⟩ := hl0 i y av e1 e2 hvis
    refine ⟨u, r, .inr ⟨.inr (by show cenv.scope.names.lookup y = _; rw [hsc]; exact hf), c, by show cenv.cells.lookup y = _; rw [hcl]; exact h1, ?_⟩⟩
    rcases q with ⟨k, _⟩ | ⟨_, c', e', z⟩
    · have k' : X.env.scope.names.lookup y = some .local := k
      rcases ok.free _ (PySem.mem_of_lookup hf) rfl with w | w
      · rw [show X.env.scope.names.lookup y = some .cell from w] at k'; cases k'
      · rw [show X.env.scope.names.lookup y = some .free from w] at k'; cases k'
    · rw [h2] at e'
      cases e'
      exact z.keeps kp
  · show H cenv.locals = none
    rw [hL]
    exact I.hok.fresh (Nat.le_refl _)
end FP
/-! FP L: a generator's turns. -/
namespace FP
open PySem L2 PySem.Spec PyProof.Rows

/-- where a generator's elements are evaluated -/
abbrev Fx.gen (F : Fx) (s : Shared) (H : Hp) (cenv : PySem.Env) (A : Around) (fp : List Addr) (k : Nat) (hr : Room k A) : Fx where
  X := gX F.X s H cenv A fp
  W := fun _ _ _ _ => False
  b0 := F.b0
  h0 := F.h0
  T := F.T
  k := k
  pre := F.pre
  tk := takes0
  sui := F.sui
  calm := F.calm
  nd := F.nd
  room := L2H.roomH_of hr
  hand := fun _ => hr.hd
  owns := fun _ => PassesOwn.never

/-! ### what it yields -/
def nextY (t : Tg) (g : Env → R Bool) (fe : Env → R D) (env : Env) : List D → R (Option (D × List D))
  | [] => .ok none
  | d :: ds => match t d env with
    | none => .no
    | some env1 => match g env1 with
      | .ok true => (match fe env1 with
        | .ok y => .ok (some (y, ds))
        | _ => .no)
      | .ok false => nextY t g fe env ds
      | _ => .no
/-- what is left behind j yields -/
def restY (nx : List D → R (Option (D × List D))) : Nat → List D → Option (List D)
  | 0, ds => some ds
  | j + 1, ds => match nx ds with
    | .ok (some (_, r)) => restY nx j r
    | _ => none
theorem restY_snoc {nx : List D → R (Option (D × List D))} : ∀ (j : Nat) {ds r r' : List D} {y : D}, restY nx j ds = some r → nx r = .ok (some (y, r')) → restY nx (j + 1) ds = some r'
  | 0, ds, r, r', y, e, h => by
    cases e
    unfold restY
    rw [h]
    rfl
  | j + 1, ds, r, r', y, e, h => by
    unfold restY at e ⊢
    cases q : nx ds with
    | ok o =>
      rw [q] at e
      cases o with
      | none => cases e
      | some p => exact restY_snoc j e h
    | ex c as => rw [q] at e; cases e
    | no => rw [q] at e; cases e
theorem nextY_lt {t : Tg} {g : Env → R Bool} {fe : Env → R D} {env : Env} : ∀ {ds r : List D} {y : D}, nextY t g fe env ds = .ok (some (y, r)) → r.length < ds.length
  | [], r, y, h => by cases h
  | d :: ds, r, y, h => by
    unfold nextY at h
    split at h
    · cases h
    · split at h
      · split at h
        · cases h; simp
        · cases h
      · have := nextY_lt h
        simp only [List.length_cons]; omega
      · cases h
theorem nextY_suf {t : Tg} {g : Env → R Bool} {fe : Env → R D} {env : Env} : ∀ {ds r : List D} {y : D}, nextY t g fe env ds = .ok (some (y, r)) → ∃ l, ds = l ++ r
  | [], r, y, h => by cases h
  | d :: ds, r, y, h => by
    unfold nextY at h
    split at h
    · cases h
    · split at h
      · split at h
        · cases h; exact ⟨[d], rfl⟩
        · cases h
      · obtain ⟨l, e⟩ := nextY_suf h
        exact ⟨d :: l, by rw [e]; rfl⟩
      · cases h

/-! ### a generator's state -/
structure GAt (Fg : Fx) (pins : List (Addr × Obj)) (fp : List Addr) (tn : Nat → Heap → Prop) (σw : St) (envw : Env) (b1 h1 : Hp) (i : Nat) (b h : Hp) (s : Shared) : Prop where
  inv : Inv Fg.X pins σw h s
  fpo : ∀ c ∈ fp, h c = none
  st : tn i s.heap
  good : Fg.G b h σw envw
  ext : Ext b1 h1 b h
structure GEnd (Fg : Fx) (pins : List (Addr × Obj)) (σw : St) (envw : Env) (b1 h1 : Hp) (b h : Hp) (s : Shared) : Prop where
  inv : Inv Fg.X pins σw h s
  good : Fg.G b h σw envw
  ext : Ext b1 h1 b h
theorem bare_set {s : Shared} (h : AllBare s.gens) (g : Nat) {x : GenState} (hx : x.bare = true) : AllBare (s.setGen g x).gens := by
  intro y hy
  have hy' : y ∈ s.gens.setIfInBounds g x := hy
  rcases Array.mem_iff_getElem.mp hy' with ⟨j, hj, e⟩
  rw [Array.getElem_setIfInBounds (by simpa using hj)] at e
  split at e
  · rw [← e]; exact hx
  · rw [← e]; exact h _ (Array.getElem_mem _)
theorem inv_set {X : Cx} {pins : List (Addr × Obj)} {σ : St} {H : Hp} {s : Shared} (I : L2.Inv X pins σ H s) (g : Nat) {x : GenState} (hx : x.bare = true) : L2.Inv X pins σ H (s.setGen g x) :=
  ⟨I.ok, I.os, bare_set I.bare g hx, I.base, I.loc, I.cell, I.free, I.freeC, I.pin, I.hok, I.len⟩
theorem set_get {s : Shared} {g : Nat} {x : GenState} (h : g < s.gens.size) : (s.setGen g x).gens[g]? = some x := by
  show (s.gens.setIfInBounds g x)[g]? = some x
  simp [h]
section
variable {Fg : Fx} {pins : List (Addr × Obj)} {fp : List Addr} {tn : Nat → Heap → Prop} {σw : St} {envw : Env} {b1 h1 : Hp}
theorem GAt.setGen {i : Nat} {b h : Hp} {s : Shared} (G : GAt Fg pins fp tn σw envw b1 h1 i b h s) (g : Nat) {x : GenState} (hx : x.bare = true) : GAt Fg pins fp tn σw envw b1 h1 i b h (s.setGen g x) :=
  ⟨inv_set G.inv g hx, G.fpo, G.st, G.good, G.ext⟩
/-- at a yield -/
def gY (Fg : Fx) (pf : Heap → List (Addr × Obj)) (fp : List Addr) (tn : Nat → Heap → Prop) (σw : St) (envw : Env) (b1 h1 : Hp) (nx : List D → R (Option (D × List D))) (ds : List D) : Protocol := fun n s₀ v s₁ k =>
  ∃ r y r' b h u, restY nx (ds.length - n) ds = some r ∧ nx r = .ok (some (y, r')) ∧ RelV u v ∧ Dp Fg.kw b u y ∧ GAt Fg (pf s₀.heap) fp tn σw envw b1 h1 (ds.length - r'.length) b h s₁ ∧
    ∀ b'' h'' s'' o, nx r' = .ok o → GAt Fg (pf s''.heap) fp tn σw envw b1 h1 (ds.length - r'.length) b'' h'' s'' → k (.send .none) s''
/-- at the end -/
def gE (Fg : Fx) (pf : Heap → List (Addr × Obj)) (σw : St) (envw : Env) (b1 h1 : Hp) (nx : List D → R (Option (D × List D))) (ds : List D) : Nat → Shared → Shared → Prop := fun n s₀ s₁ =>
  ∃ r b h, restY nx (ds.length + 1 - n) ds = some r ∧ nx r = .ok none ∧ GEnd Fg (pf s₀.heap) σw envw b1 h1 b h s₁
end

theorem over_gen {A : Around} {elt tg iter : Expr} {ifs : List Expr} {scope : Scope} {pos : Pos} {v : Value} {cenv : PySem.Env} :
    (A.over (.compLoop (.GeneratorExp elt [⟨tg, iter, ifs, 0⟩] scope pos) 0 v .none cenv) []).depth ≤ A.depth + 1 ∧ (A.over (.compLoop (.GeneratorExp elt [⟨tg, iter, ifs, 0⟩] scope pos) 0 v .none cenv) []).units ≤ A.units + 3 ∧
    (A.over (.compLoop (.GeneratorExp elt [⟨tg, iter, ifs, 0⟩] scope pos) 0 v .none cenv) []).handled = A.handled ∧ ∀ l, A.frames = some l → (A.over (.compLoop (.GeneratorExp elt [⟨tg, iter, ifs, 0⟩] scope pos) 0 v .none cenv) []).frames = some (cenv :: l) :=
  ⟨Nat.le_of_eq rfl, Nat.le_of_eq rfl, rfl, fun l e => by
    obtain ⟨hd, d, fr, gs, u⟩ := A
    have e' : fr = some l := e
    subst e'
    rfl⟩

section
variable {F : Fx} {s1 : Shared} {H1 : Hp} {cenv : PySem.Env} {Ag : Around} {fp : List Addr} {it : Addr} {tn : Nat → Heap → Prop} {J : It} {tg elt iter : Expr} {ifs : List Expr} {scope : Scope} {pos : Pos} {k : Nat}
  {t : Tg} {ix : List Nat} {g : Env → R Bool} {fe : Env → R D} {b1 h1 : Hp} {ds : List D} {σ0 : St} {env0 : Env} {vs : List Nat} {pf : Heap → List (Addr × Obj)}
theorem gen_loop (hr : Room k (Ag.over (.compLoop (.GeneratorExp elt [⟨tg, iter, ifs, 0⟩] scope pos) 0 (.ref it) .none cenv) []))
    (hT : Turn F.X.prog F.X.w F.X.K tg J fp it tn) (hg : IG (F.gen s1 H1 cenv _ fp k hr) tg t ix) (ht : ITs (F.gen s1 H1 cenv _ fp k hr) ifs g) (he : IE (F.gen s1 H1 cenv _ fp k hr) elt fe)
    (wk : Wk F.kw b1 J ds) (sb1 : Same b1 h1) (hix : ∀ i ∈ ix, i ∈ vs) (hco : cenv.scope.isCoroutine = false) (hpf : ∀ hh, ∀ p ∈ pf hh, p.1 ∉ fp) (hsu : F.sui = false) :
    ∀ (cur : List D) (m : Nat) (s₀ s : Shared) (b h : Hp) (r₀ : List D) (o : Option (D × List D)), (∃ l, ds = l ++ cur) → cur.length < m → m ≤ ds.length + 1 → restY (nextY t g fe (wipeE env0 vs)) (ds.length + 1 - m) ds = some r₀ →
      nextY t g fe (wipeE env0 vs) r₀ = nextY t g fe (wipeE env0 vs) cur → nextY t g fe (wipeE env0 vs) cur = .ok o → GAt (F.gen s1 H1 cenv _ fp k hr) (pf s₀.heap) fp tn (L2.wipe σ0 vs) (wipeE env0 vs) b1 h1 (ds.length - cur.length) b h s →
      Seg (model F.X.prog F.X.w) Ag (fun n s₀ r s₁ => r = .ok .next ∧ gE (F.gen s1 H1 cenv _ fp k hr) pf (L2.wipe σ0 vs) (wipeE env0 vs) b1 h1 (nextY t g fe (wipeE env0 vs)) ds n s₀ s₁)
        (gY (F.gen s1 H1 cenv _ fp k hr) pf fp tn (L2.wipe σ0 vs) (wipeE env0 vs) b1 h1 (nextY t g fe (wipeE env0 vs)) ds) m s₀
        (.compLoop (.GeneratorExp elt [⟨tg, iter, ifs, 0⟩] scope pos) 0 (.ref it) .none cenv) ((model F.X.prog F.X.w).den (.compLoop (.GeneratorExp elt [⟨tg, iter, ifs, 0⟩] scope pos) 0 (.ref it) .none cenv)) [] s := by
  have fpOkOf : ∀ {hh : Heap} {σ' : St} {H' : Hp} {s' : Shared}, Inv (F.gen s1 H1 cenv _ fp k hr).X (pf hh) σ' H' s' → (∀ c ∈ fp, H' c = none) → ∀ c ∈ fp, FpOk (F.gen s1 H1 cenv _ fp k hr).X (pf hh) H' c := fun {hh σ' H' s'} I hn c hc =>
    ⟨hn c hc, (I.ok.exf c hc).1, I.ok.exfs c hc, .inl hc, fun x d e => (I.ok.exf c hc).2 x d e, fun p hp z => by
      rcases List.mem_append.mp hp with w | w
      · cases w
      · exact hpf hh p w (z ▸ hc)⟩
  have hy : ∀ v, yieldOut cenv v = yieldValue v := fun v => by simp only [yieldOut, hco, Bool.false_eq_true, if_false]
  intro cur
  induction cur with
  | nil =>
    intro m s₀ s b h r₀ o _ _ hm hr0 hnx hno G
    show Seg _ Ag _ _ _ s₀ _ ((compTurn (.GeneratorExp elt [⟨tg, iter, ifs, 0⟩] scope pos) 0 (.ref it) .none cenv).onRaise (leaving cenv)) [] s
    rw [compTurn_gen, Sem.onRaise_eq_wrap]
    refine seg_bind_wrap (wpAny_standAt ?_)
    have td := hT.done (F.gen s1 H1 cenv _ fp k hr).X rfl rfl rfl (F.calm hsu) _ (pf s₀.heap) s _ h (fun _ _ => False) G.inv (fpOkOf G.inv G.fpo) G.st (wk.stops b h (G.ext.bb sb1) G.good.bh)
    refine seg_bind_wrap (thnF td fun r s6 ⟨hr6, I6⟩ => ?_)
    subst hr6
    exact seg_end (.ok .next) ⟨rfl, r₀, b, h, hr0, hnx, I6, G.good, G.ext⟩
  | cons d cur ih =>
    intro m s₀ s b h r₀ o hl hcm hm hr0 hnx hno G
    obtain ⟨l, hl⟩ := hl
    have hpos : ds.length - (d :: cur).length < ds.length := by
      have : ds.length = l.length + (d :: cur).length := by rw [hl, List.length_append]
      simp only [List.length_cons] at this ⊢; omega
    have hget : ds[ds.length - (d :: cur).length]? = some d := by
      have e1 : ds.length - (d :: cur).length = l.length := by rw [hl, List.length_append]; omega
      rw [e1, hl, List.getElem?_append_right (Nat.le_refl _), Nat.sub_self]; rfl
    have hstep : ds.length - (d :: cur).length + 1 = ds.length - cur.length := by
      have : ds.length = l.length + (d :: cur).length := by rw [hl, List.length_append]
      simp only [List.length_cons] at this ⊢; omega
    show Seg _ Ag _ _ _ s₀ _ ((compTurn (.GeneratorExp elt [⟨tg, iter, ifs, 0⟩] scope pos) 0 (.ref it) .none cenv).onRaise (leaving cenv)) [] s
    rw [compTurn_gen, Sem.onRaise_eq_wrap]
    refine seg_bind_wrap (wpAny_standAt ?_)
    have ti := hT.item (F.gen s1 H1 cenv _ fp k hr).X rfl rfl rfl (F.calm hsu) _ (pf s₀.heap) s _ h (fun _ _ => False) G.inv (fpOkOf G.inv G.fpo) G.st (wk.goes _ b h (G.ext.bb sb1) G.good.bh hpos)
    refine seg_bind_wrap (thnF ti fun r s6 ⟨u, hr6, h6⟩ => ?_)
    subst hr6
    refine seg_bind_wrap (thnF h6 fun _ s7 ⟨x, H7, I7, r7, y7, st7, n7⟩ => ?_)
    obtain ⟨b7, x7, d7⟩ := wk.yields _ b h x H7 d (G.ext.bb sb1) G.good.bh hget y7
    have I7' := I7.pinned (fpOkOf I7 n7) (hT.obj _ _ st7)
    have hno' := hno
    unfold nextY at hno
    cases et : t d (wipeE env0 vs) with
    | none => rw [et] at hno; cases hno
    | some env1 =>
      rw [et] at hno
      dsimp only at hno
      refine seg_bind_wrap (thnF (hg.run _ s7 _ H7 x u (fun σ8 H8 => (∃ b8, (F.gen s1 H1 cenv _ fp k hr).G b8 H8 σ8 env1 ∧ Ext b h b8 H8) ∧ L2.wipe σ8 vs = L2.wipe σ0 vs) I7' r7 ⟨b7, wipeE env0 vs, d, env1, G.good.grow x7, d7, et, fun σ' G' hb => ⟨⟨b7, G', x7⟩, ?_⟩⟩) fun _ s8 ⟨σ8, H8, I8, ⟨b8, G8, x8⟩, hw8⟩ => ?_)
      · exact wipe_but hb hix
      -- the turn's end
      have fin : ∀ {s' : Shared} {b' H' : Hp}, Inv (F.gen s1 H1 cenv _ fp k hr).X (pf s₀.heap ++ pinsAt fp s7.heap) σ8 H' s' → Ext b8 H8 b' H' → GAt (F.gen s1 H1 cenv _ fp k hr) (pf s₀.heap) fp tn (L2.wipe σ0 vs) (wipeE env0 vs) b1 h1 (ds.length - cur.length) b' H' s' := fun {s' b' H'} I' x' => by
        have pin' : ∀ c ∈ fp, ∀ o, s7.heap.get? c = some o → s'.heap.get? c = some o ∧ H' c = none := fun c hc o e =>
          let z := I'.pin (c, o) (List.mem_append_right _ (List.mem_append_right _ (mem_pinsAt hc e)))
          ⟨z.1, z.2.1⟩
        have hl8 : (L2.wipe σ0 vs).length = σ8.length := by rw [← hw8, wipe_length]
        refine ⟨(I'.unpinned (pins := pf s₀.heap)).weak hl8 (fun j v e => ?_), fun c hc => ?_, ?_, ?_, ?_⟩
        · rw [← hw8] at e
          exact (wipe_some e).1
        · obtain ⟨o, e, _⟩ := hT.obj _ _ st7 c hc
          exact (pin' c hc o e).2
        · rw [← hstep]
          exact hT.keep _ _ _ st7 fun c hc o e => (pin' c hc o e).1
        · exact G.good.grow (x8.trans x')
        · exact (G.ext.trans x8).trans x'
      have again : ∀ {s' : Shared} {b' H' : Hp}, Inv (F.gen s1 H1 cenv _ fp k hr).X (pf s₀.heap ++ pinsAt fp s7.heap) σ8 H' s' → Ext b8 H8 b' H' → nextY t g fe (wipeE env0 vs) (d :: cur) = nextY t g fe (wipeE env0 vs) cur → Seg (model F.X.prog F.X.w) Ag _ _ m s₀ _ ((model F.X.prog F.X.w).den (.compLoop (.GeneratorExp elt [⟨tg, iter, ifs, 0⟩] scope pos) 0 (.ref it) .none cenv)) [] s' := fun {s' b' H'} I' x' hcn =>
        ih m s₀ s' b' H' r₀ o ⟨l ++ [d], by rw [hl]; simp⟩ (by simp only [List.length_cons] at hcm; omega) hm hr0 (hnx.trans hcn) (hcn ▸ hno') (fin I' x')
      refine seg_bind_wrap (thnF (ht.run _ s8 σ8 H8 (fun c H9 => g env1 = .ok c ∧ ∃ b9, Ext b8 H8 b9 H9) I8 ⟨b8, env1, G8, ?_⟩) fun c s9 ⟨H9, I9, hgc, b9, x9⟩ => ?_)
      · cases hgc : g env1 with
        | ok c => exact fun b' h' x' => ⟨rfl, b', x'⟩
        | ex c as => rw [hgc] at hno; cases hno
        | no => rw [hgc] at hno; cases hno
      rw [hgc] at hno
      cases c with
      | false =>
        simp only [Bool.false_eq_true, if_false]
        refine seg_again rfl (again I9 x9 ?_)
        show nextY t g fe (wipeE env0 vs) (d :: cur) = _
        conv => lhs; unfold nextY
        rw [et]; dsimp only; rw [hgc]
      | true =>
        simp only [if_true]
        dsimp only at hno
        cases hfe : fe env1 with
        | ex c as => rw [hfe] at hno; cases hno
        | no => rw [hfe] at hno; cases hno
        | ok y =>
          rw [hfe] at hno
          have ho : o = some (y, cur) := by injection hno with z; exact z.symm
          subst ho
          simp only [hy]
          rw [Sem.bind_eq_wrap', Sem.bind_eq_wrap', Sem.wrap_wrap, Sem.wrap_wrap]
          refine seg_wrap (thnF (he.run _ s9 σ8 H9 (fun v H10 => ∃ b10, Ext b9 H9 b10 H10 ∧ Dp F.kw b10 v y) I9 ⟨b9, env1, G8.grow x9, ?_⟩) fun z s10 ⟨yv, H10, I10, r10, b10, x10, d10⟩ => ?_)
          · rw [hfe]
            exact fun b' h' x' v rv => ⟨b', x', rv⟩
          obtain ⟨m', rfl⟩ : ∃ m', m = m' + 1 := ⟨m - 1, by simp only [List.length_cons] at hcm; omega⟩
          have hrest : restY (nextY t g fe (wipeE env0 vs)) (ds.length + 1 - m') ds = some cur := by
            have e1 : ds.length + 1 - m' = ds.length + 1 - (m' + 1) + 1 := by omega
            rw [e1]
            exact restY_snoc _ hr0 (hnx.trans hno')
          refine seg_at (seg_yield rfl rfl rfl ⟨r₀, y, cur, b10, H10, yv, ?_, hnx.trans hno', r10, d10, fin I10 (x9.trans x10), fun b'' h'' s'' o' ho' G' => ?_⟩)
          · have e1 : ds.length - m' = ds.length + 1 - (m' + 1) := by omega
            show restY _ (ds.length - m') ds = some r₀
            rw [e1]; exact hr0
          · refine seg_again rfl (ih m' s'' s'' b'' h'' cur o' ⟨l ++ [d], by rw [hl]; simp⟩ (by simp only [List.length_cons] at hcm; omega) (by omega) hrest rfl ho' G')
end
end FP
/-! FP M: any, all of a generator expression. -/
namespace FP
open PySem L2 PySem.Spec PyProof.Rows

section
variable {F : Fx} {s1 : Shared} {H1 : Hp} {cenv : PySem.Env} {fp : List Addr} {it : Addr} {tn : Nat → Heap → Prop} {J : It} {tg elt iter : Expr} {ifs : List Expr} {scope : Scope} {pos : Pos} {k : Nat}
  {t : Tg} {ix : List Nat} {g : Env → R Bool} {fe : Env → R D} {b1 h1 : Hp} {ds : List D} {σ0 : St} {env0 : Env} {vs : List Nat} {a S : Addr} {ob : Obj}
/-- what a step must keep: the generator's object, the object at S -/
def pS (a : Addr) (ob : Obj) (S : Addr) (h : Heap) : List (Addr × Obj) := (a, ob) :: (match h.get? S with
  | some o => [(S, o)]
  | none => [])
theorem pS_at {a : Addr} {ob : Obj} {S : Addr} {h : Heap} {o : Obj} (e : h.get? S = some o) : pS a ob S h = [(a, ob), (S, o)] := by unfold pS; rw [e]
theorem pS_eq {a : Addr} {ob : Obj} {S : Addr} {h h' : Heap} (e : h'.get? S = h.get? S) : pS a ob S h' = pS a ob S h := by unfold pS; rw [e]
/-- the generator gn at a waits -/
def GR (Fg : Fx) (prog : Program) (w : World) (Ag : Around) (a : Addr) (ob : Obj) (S : Addr) (gn : Nat) (fp : List Addr) (tn : Nat → Heap → Prop) (σw : St) (envw : Env) (b1 h1 : Hp) (nx : List D → R (Option (D × List D))) (ds r : List D) (m : Nat) (s : Shared) : Prop :=
  (∃ o, s.heap.get? S = some o) ∧ ∃ gs b h, s.gens[gn]? = some gs ∧ GAt Fg (pS a ob S s.heap) fp tn σw envw b1 h1 (ds.length - r.length) b h s ∧ restY nx (ds.length + 1 - m) ds = some r ∧ r.length < m ∧ m ≤ ds.length + 1 ∧
    ∀ s'' b'' h'' o, nx r = .ok o → GAt Fg (pS a ob S s''.heap) fp tn σw envw b1 h1 (ds.length - r.length) b'' h'' s'' →
      gs.Goes (model prog w) Ag (fun n s₀ q s₁ => q = .ok .next ∧ gE Fg (pS a ob S) σw envw b1 h1 nx ds n s₀ s₁) (gY Fg (pS a ob S) fp tn σw envw b1 h1 nx ds) m (.send .none) s''
/-- .. made just now: what it is run beside is told later -/
def GR0 (Fg : Fx) (prog : Program) (w : World) (Ag : Around) (a : Addr) (ob : Obj) (gn : Nat) (fp : List Addr) (tn : Nat → Heap → Prop) (σw : St) (envw : Env) (b1 h1 : Hp) (nx : List D → R (Option (D × List D))) (ds : List D) (s : Shared) : Prop :=
  (a ∉ fp ∧ (∃ o, s.heap.get? a = some o) ∧ (∀ p ∈ Fg.X.pn, p.1 < s.heap.objs.size) ∧ Fg.X.s_0.heap.objs.size ≤ s.heap.objs.size ∧ (∀ c ∈ fp, c < s.heap.objs.size) ∧ ∀ (i : Nat) (h h' : Heap), tn i h → (∀ c ∈ fp, ∀ o, h.get? c = some o → h'.get? c = some o) → tn i h') ∧
  ∃ gs b h, s.gens[gn]? = some gs ∧ GAt Fg [(a, ob)] fp tn σw envw b1 h1 (ds.length - ds.length) b h s ∧
    ∀ S, S ∉ fp → ∀ s'' b'' h'' o, nx ds = .ok o → GAt Fg (pS a ob S s''.heap) fp tn σw envw b1 h1 (ds.length - ds.length) b'' h'' s'' →
      gs.Goes (model prog w) Ag (fun n s₀ q s₁ => q = .ok .next ∧ gE Fg (pS a ob S) σw envw b1 h1 nx ds n s₀ s₁) (gY Fg (pS a ob S) fp tn σw envw b1 h1 nx ds) (ds.length + 1) (.send .none) s''
theorem GR0.self {Fg : Fx} {prog : Program} {w : World} {Ag : Around} {gn : Nat} {σw : St} {envw : Env} {nx : List D → R (Option (D × List D))} {s : Shared} (G : GR0 Fg prog w Ag a ob gn fp tn σw envw b1 h1 nx ds s) : GR Fg prog w Ag a ob a gn fp tn σw envw b1 h1 nx ds ds (ds.length + 1) s := by
  obtain ⟨⟨naf, ⟨o, ho⟩, _⟩, gs, b, h, hg, hat, go⟩ := G
  have e0 := hat.inv.pin (a, ob) (List.mem_append_right _ List.mem_cons_self)
  have e1 : pS a ob a s.heap = [(a, ob), (a, ob)] := pS_at e0.1
  refine ⟨⟨o, ho⟩, gs, b, h, hg, ?_, by rw [Nat.sub_self]; rfl, Nat.lt_succ_self _, Nat.le_refl _, go a naf⟩
  rw [e1]
  refine ⟨hat.inv.pins_of fun p hp => ?_, hat.fpo, hat.st, hat.good, hat.ext⟩
  rcases List.mem_cons.mp hp with rfl | hp
  · exact e0
  · rcases List.mem_cons.mp hp with rfl | hp
    · exact e0
    · cases hp
theorem GEnd.drop {Fg : Fx} {σw : St} {envw : Env} {S : Addr} {hh : Heap} {b h : Hp} {s : Shared} (G : GEnd Fg (pS a ob S hh) σw envw b1 h1 b h s) : GEnd Fg [(a, ob)] σw envw b1 h1 b h s :=
  ⟨G.inv.pins_of (fun p hp => by
    obtain rfl := List.mem_singleton.mp hp
    exact G.inv.pin _ (List.mem_append_right _ List.mem_cons_self)), G.good, G.ext⟩
theorem gens_lt {s : Shared} {gn : Nat} {gs : GenState} (h : s.gens[gn]? = some gs) : gn < s.gens.size := by
  obtain ⟨h', _⟩ := Array.getElem?_eq_some_iff.mp h
  exact h'
/-- the next item -/
theorem gen_next {Fg : Fx} {A : Around} {gn : Nat} {σw : St} {envw : Env} {nx : List D → R (Option (D × List D))} {r : List D} {m : Nat} {s : Shared} {o : Option (D × List D)} {E : Value → Shared → Prop} (hh : A.handled = none) (hd : A.depth < recursionLimit)
    (hob : ob.cls = .type "generator" ∧ ∃ nm qn, ob.data = .fields #[.int gn 0, nm, qn] ∧ ob.slots = #[]) (G : GR Fg F.X.prog F.X.w A.in1 a ob S gn fp tn σw envw b1 h1 nx ds r m s) (ho : nx r = .ok o) (hlt : ∀ y r', nx r = .ok (some (y, r')) → r'.length < r.length) :
    wpAny (model F.X.prog F.X.w) A (pyNext (.ref a)) (fun v s' => match o with
      | none => v = none ∧ ∃ b h, GEnd Fg (pS a ob S s.heap) σw envw b1 h1 b h s'
      | some (y, r') => ∃ u x b, v = some u ∧ RelV x u ∧ Dp Fg.kw b x y ∧ GR Fg F.X.prog F.X.w A.in1 a ob S gn fp tn σw envw b1 h1 nx ds r' (m - 1) s' ∧ r'.length < r.length ∧ ∀ o, s.heap.get? S = some o → s'.heap.get? S = some o) E s := by
  obtain ⟨⟨oS, hS⟩, gs, b, h, hgs, hat, hrest, hrm, hm, hgo⟩ := G
  have isG : ∀ {s' : Shared} {σ' : St} {H' : Hp}, L2.Inv Fg.X (pS a ob S s.heap) σ' H' s' → s'.heap.IsGen a gn := fun {s' σ' H'} I => by
    obtain ⟨e, _⟩ := I.pin (a, ob) (List.mem_append_right _ List.mem_cons_self)
    obtain ⟨hc, nm, qn, hdd⟩ := hob
    exact ⟨ob, nm, qn, e, hc, hdd⟩
  refine GenW.wpAny_gsz (n := s.gens.size) (Nat.le_refl _) ?_
  refine wpAny_pyNext_genexpQ (P := gE Fg (pS a ob S) σw envw b1 h1 nx ds) hh hat.inv.nolimit hd (isG hat.inv) hgs (hgo _ b h o ho (hat.setGen gn (x := .running) rfl)) (fun v s₁ gs' hb hv => ?_) fun s₁ hp h' hk => ?_
  · intro hsz
    obtain ⟨r₁, y, r', b', h', u, e1, e2, ru, du, hat', hkont⟩ := hv
    obtain ⟨m', rfl⟩ : ∃ m', m = m' + 1 := ⟨m - 1, by omega⟩
    have e3 : ds.length - (m' + 1 - 1) = ds.length + 1 - (m' + 1) := by omega
    rw [e3, hrest] at e1
    cases e1
    rw [ho] at e2
    cases e2
    have hS1 : s₁.heap.get? S = some oS := (hat'.inv.pin (S, oS) (List.mem_append_right _ (by show (S, oS) ∈ pS a ob S s.heap; rw [pS_at hS]; simp))).1
    have hat'' : GAt Fg (pS a ob S s₁.heap) fp tn σw envw b1 h1 (ds.length - r'.length) b' h' s₁ := by
      rw [pS_eq (h := s.heap) (hS1.trans hS.symm)]
      exact hat'
    refine ⟨v, u, b', rfl, ru, du, ⟨⟨oS, hS1⟩, gs', b', h', set_get ?_, hat''.setGen gn hb, ?_, ?_, ?_, fun s'' b'' h'' o' ho' G' => hkont b'' h'' s'' o' ho' G'⟩, hlt _ _ ho, fun o eo => by rw [hS] at eo; cases eo; exact hS1⟩
    · have h9 : s.gens.size ≤ (s₁.setGen gn gs').gens.size := hsz
      rw [GenW.setGen_size] at h9
      exact Nat.lt_of_lt_of_le (gens_lt hgs) h9
    · have e4 : ds.length + 1 - (m' + 1 - 1) = ds.length + 1 - (m' + 1) + 1 := by omega
      rw [e4]
      exact restY_snoc _ hrest ho
    · have := hlt _ _ ho; omega
    · omega
  · intro _
    obtain ⟨r₁, b', h'', e1, e2, I', G', X'⟩ := hp
    rw [hrest] at e1
    cases e1
    rw [ho] at e2
    cases e2
    exact ⟨rfl, b', h'', (inv_set I' gn (x := .finished) rfl).kept (t' := s₁.toks) hk, G', X'⟩

/-! ### all, any -/
def toB1 : D → R Bool
  | .bool c => .ok c
  | _ => .no
/-- all(..) of the items, from the left -/
def allL (t : Tg) (g : Env → R Bool) (fe : Env → R D) (env : Env) : List D → R Bool
  | [] => .ok true
  | d :: ds => match t d env with
    | none => .no
    | some env1 => match g env1 with
      | .ok true => (match fe env1 with
        | .ok (.bool true) => allL t g fe env ds
        | .ok (.bool false) => .ok false
        | _ => .no)
      | .ok false => allL t g fe env ds
      | _ => .no
def anyL (t : Tg) (g : Env → R Bool) (fe : Env → R D) (env : Env) : List D → R Bool
  | [] => .ok false
  | d :: ds => match t d env with
    | none => .no
    | some env1 => match g env1 with
      | .ok true => (match fe env1 with
        | .ok (.bool true) => .ok true
        | .ok (.bool false) => anyL t g fe env ds
        | _ => .no)
      | .ok false => anyL t g fe env ds
      | _ => .no
theorem allL_nx {env : Env} : ∀ {r : List D} {c : Bool}, allL t g fe env r = .ok c → (nextY t g fe env r = .ok none ∧ c = true) ∨ ∃ d r', nextY t g fe env r = .ok (some (.bool d, r')) ∧ ((d = true ∧ allL t g fe env r' = .ok c) ∨ (d = false ∧ c = false))
  | [], c, h => by cases h; exact .inl ⟨rfl, rfl⟩
  | x :: r, c, h => by
    unfold allL at h
    unfold nextY
    cases et : t x env with
    | none => rw [et] at h; cases h
    | some env1 =>
      rw [et] at h
      dsimp only at h ⊢
      cases eg : g env1 with
      | ex _ _ => rw [eg] at h; cases h
      | no => rw [eg] at h; cases h
      | ok b =>
        rw [eg] at h
        cases b with
        | false => exact allL_nx h
        | true =>
          dsimp only at h ⊢
          split at h
          · rename_i ef
            rw [ef]
            exact .inr ⟨true, r, rfl, .inl ⟨rfl, h⟩⟩
          · rename_i ef
            rw [ef]
            cases h
            exact .inr ⟨false, r, rfl, .inr ⟨rfl, rfl⟩⟩
          · cases h
theorem anyL_nx {env : Env} : ∀ {r : List D} {c : Bool}, anyL t g fe env r = .ok c → (nextY t g fe env r = .ok none ∧ c = false) ∨ ∃ d r', nextY t g fe env r = .ok (some (.bool d, r')) ∧ ((d = false ∧ anyL t g fe env r' = .ok c) ∨ (d = true ∧ c = true))
  | [], c, h => by cases h; exact .inl ⟨rfl, rfl⟩
  | x :: r, c, h => by
    unfold anyL at h
    unfold nextY
    cases et : t x env with
    | none => rw [et] at h; cases h
    | some env1 =>
      rw [et] at h
      dsimp only at h ⊢
      cases eg : g env1 with
      | ex _ _ => rw [eg] at h; cases h
      | no => rw [eg] at h; cases h
      | ok b =>
        rw [eg] at h
        cases b with
        | false => exact anyL_nx h
        | true =>
          dsimp only at h ⊢
          split at h
          · rename_i ef
            rw [ef]
            cases h
            exact .inr ⟨true, r, rfl, .inr ⟨rfl, rfl⟩⟩
          · rename_i ef
            rw [ef]
            exact .inr ⟨false, r, rfl, .inl ⟨rfl, h⟩⟩
          · cases h
theorem GR.left {Fg : Fx} {prog : Program} {w : World} {Ag : Around} {gn : Nat} {σw : St} {envw : Env} {nx : List D → R (Option (D × List D))} {r : List D} {m : Nat} {s : Shared} (G : GR Fg prog w Ag a ob S gn fp tn σw envw b1 h1 nx ds r m s) : ∃ b h, GEnd Fg (pS a ob S s.heap) σw envw b1 h1 b h s := by
  obtain ⟨_, gs, b, h, _, hat, _⟩ := G
  exact ⟨b, h, hat.inv, hat.good, hat.ext⟩
theorem all_loop {Fg : Fx} {A : Around} {gn : Nat} {σw : St} {envw : Env} {Rr : Result → Shared → Prop} {c : Bool} (hh : A.handled = none) (hd : A.depth < recursionLimit) (hob : ob.cls = .type "generator" ∧ ∃ nm qn, ob.data = .fields #[.int gn 0, nm, qn] ∧ ob.slots = #[])
    (hR : ∀ hh b h s', GEnd Fg (pS a ob S hh) σw envw b1 h1 b h s' → Rr (.ok (.ret (.bool c))) s') : ∀ (n : Nat) (r : List D) (m : Nat) (s : Shared), r.length < n → allL t g fe envw r = .ok c → GR Fg F.X.prog F.X.w A.in1.in1 a ob S gn fp tn σw envw b1 h1 (nextY t g fe envw) ds r m s →
      codeAny (model F.X.prog F.X.w) A (.builtin "all.loop" ⟨[.ref a], []⟩) Rr s
  | 0, _, _, _, hn, _, _ => absurd hn (Nat.not_lt_zero _)
  | n + 1, r, m, s, hn, hc, G => by
    refine codeAny_builtin PySem.F.entry_all_loop ?_
    rw [Around.under_plainId PySem.F.plain_all_loop _]
    show wpAny _ A.in1 (pyNext (.ref a) >>= _) _ _ s
    rcases allL_nx hc with ⟨e, rfl⟩ | ⟨d, r', e, hd'⟩
    · refine wpAny_bind (thnF (gen_next (F := F) (A := A.in1) hh hd hob G e (fun y r' q => nextY_lt q)) fun v s' ⟨hv, b, h, hE⟩ => ?_)
      subst hv
      exact wpAny_bind (wpAny_rule (wpAny_pure (hR _ b h s' hE)))
    · refine wpAny_bind (thnF (gen_next (F := F) (A := A.in1) hh hd hob G e (fun y r' q => nextY_lt q)) fun v s' ⟨u, x, b, hv, ru, du, G', hlt, _⟩ => ?_)
      subst hv
      cases du
      cases ru
      refine wpAny_bind (wpAny_holding (wpAny_truthy_bool ?_))
      refine wpAny_bind (wpAny_letGo ?_)
      rcases hd' with ⟨rfl, hc'⟩ | ⟨rfl, rfl⟩
      · simp only [if_true]
        exact wpAny_pure ⟨plainId_quiet PySem.F.plain_all_loop _, all_loop hh hd hob hR n r' (m - 1) s' (by omega) hc' G'⟩
      · simp only [Bool.false_eq_true, if_false]
        obtain ⟨b', h', hE⟩ := G'.left
        exact wpAny_bind (wpAny_rule (wpAny_pure (hR _ b' h' s' hE)))
theorem any_loop {Fg : Fx} {A : Around} {gn : Nat} {σw : St} {envw : Env} {Rr : Result → Shared → Prop} {c : Bool} (hh : A.handled = none) (hd : A.depth < recursionLimit) (hob : ob.cls = .type "generator" ∧ ∃ nm qn, ob.data = .fields #[.int gn 0, nm, qn] ∧ ob.slots = #[])
    (hR : ∀ hh b h s', GEnd Fg (pS a ob S hh) σw envw b1 h1 b h s' → Rr (.ok (.ret (.bool c))) s') : ∀ (n : Nat) (r : List D) (m : Nat) (s : Shared), r.length < n → anyL t g fe envw r = .ok c → GR Fg F.X.prog F.X.w A.in1.in1 a ob S gn fp tn σw envw b1 h1 (nextY t g fe envw) ds r m s →
      codeAny (model F.X.prog F.X.w) A (.builtin "any.loop" ⟨[.ref a], []⟩) Rr s
  | 0, _, _, _, hn, _, _ => absurd hn (Nat.not_lt_zero _)
  | n + 1, r, m, s, hn, hc, G => by
    refine codeAny_builtin PySem.F.entry_any_loop ?_
    rw [Around.under_plainId PySem.F.plain_any_loop _]
    show wpAny _ A.in1 (pyNext (.ref a) >>= _) _ _ s
    rcases anyL_nx hc with ⟨e, rfl⟩ | ⟨d, r', e, hd'⟩
    · refine wpAny_bind (thnF (gen_next (F := F) (A := A.in1) hh hd hob G e (fun y r' q => nextY_lt q)) fun v s' ⟨hv, b, h, hE⟩ => ?_)
      subst hv
      exact wpAny_bind (wpAny_rule (wpAny_pure (hR _ b h s' hE)))
    · refine wpAny_bind (thnF (gen_next (F := F) (A := A.in1) hh hd hob G e (fun y r' q => nextY_lt q)) fun v s' ⟨u, x, b, hv, ru, du, G', hlt, _⟩ => ?_)
      subst hv
      cases du
      cases ru
      refine wpAny_bind (wpAny_holding (wpAny_truthy_bool ?_))
      refine wpAny_bind (wpAny_letGo ?_)
      rcases hd' with ⟨rfl, hc'⟩ | ⟨rfl, rfl⟩
      · simp only [Bool.false_eq_true, if_false]
        exact wpAny_pure ⟨plainId_quiet PySem.F.plain_any_loop _, any_loop hh hd hob hR n r' (m - 1) s' (by omega) hc' G'⟩
      · simp only [if_true]
        obtain ⟨b', h', hE⟩ := G'.left
        exact wpAny_bind (wpAny_rule (wpAny_pure (hR _ b' h' s' hE)))
end
end FP
/-! FP N: a generator expression is made; any, all of it. -/
namespace FP
open PySem L2 PySem.Spec PyProof.Rows

/-- the table of the running def's code -/
structure TabX (X : Cx) (P : Addr) : Prop where
  ex : ∃ c, X.env.code = .ref c ∧ LamX.TabB X.base X.mg c P
theorem upd_at {H : Hp} {p c : Addr} {o : HO} (h : c ≠ p) : upd H p o c = H c := upd_ne h
theorem Ext.tab {b h : Hp} {P : Addr} {ps more : Array Value} (s : Same b h) (e : h P = some (.tbl ps)) (n : b P = none) (ht : TriplesOk ps.toList → TriplesOk (ps ++ more).toList) : Ext b h b (upd h P (.tbl (ps ++ more))) where
  up := ⟨fun c o ec nt => by
      have : c ≠ P := fun z => by rw [z, e] at ec; cases ec; exact nt ps rfl
      rw [upd_ne this]; exact ec, fun c qs ec => by
      by_cases hc : c = P
      · subst hc
        rw [e] at ec
        cases ec
        exact ⟨_, upd_same, ht⟩
      · exact ⟨qs, by rw [upd_ne hc]; exact ec, fun z => z⟩⟩
  bh := fun c o ec => by
    have : c ≠ P := fun z => by rw [z, n] at ec; cases ec
    rw [upd_ne this]; exact s c o ec
  fz := fun _ _ _ => rfl
section
variable {F : Fx} {tg elt iter : Expr} {ifs : List Expr} {scope : Scope} {pos : Pos} {k : Nat} {t : Tg} {ix : List Nat} {g : Env → R Bool} {fe : Env → R D} {f : Env → R (List D)}
  {pins : List (Addr × Obj)} {σ : St} {H : Hp} {s : Shared} {own : List (Str × Nat)} {P : Addr}
theorem gen_make {Q' : Value → Shared → Prop} (I : L2.Inv F.X pins σ H s) (hsu : F.sui = false) (hk : k + 1 ≤ F.k) (hi : II F tg iter f) (ok : BlkOk F.X.N F.X.env.scope scope own) (S_ : GSc scope) (hP : P ∈ F.T) (TB : TabX F.X P) (hix : ∀ i ∈ ix, i ∈ own.map (·.2))
    (hg : ∀ (s : Shared) (H : Hp) (cl : List (Str × Addr)) (C : Addr) (code : Value) (bi : Addr) (A : Around) (fp : List Addr) (hr : Room k A), IG (F.gen s H (genEnv scope cl C code bi F.X.env) A fp k hr) tg t ix)
    (ht : ∀ (s : Shared) (H : Hp) (cl : List (Str × Addr)) (C : Addr) (code : Value) (bi : Addr) (A : Around) (fp : List Addr) (hr : Room k A), ITs (F.gen s H (genEnv scope cl C code bi F.X.env) A fp k hr) ifs g)
    (he : ∀ (s : Shared) (H : Hp) (cl : List (Str × Addr)) (C : Addr) (code : Value) (bi : Addr) (A : Around) (fp : List Addr) (hr : Room k A), IE (F.gen s H (genEnv scope cl C code bi F.X.env) A fp k hr) elt fe)
    (hs : ∀ v, genFold iter F.X.env v = pure v)
    (h : ∃ b env, F.G b H σ env ∧ Po F b H σ (f env) fun ds b1 h1 => ∀ (Fg : Fx) (a : Addr) (ob : Obj) (gn : Nat) (fp : List Addr) (tn : Nat → Heap → Prop) (b2 h2 : Hp) (s5 : Shared), F.G b2 h2 σ env → Fg.kw = F.kw → Ext b1 h1 b2 h2 →
      (ob.cls = .type "generator" ∧ ∃ nm qn, ob.data = .fields #[.int gn 0, nm, qn] ∧ ob.slots = #[]) → s5.heap.get? a = some ob →
      GR0 Fg F.X.prog F.X.w F.X.A.in1.in1 a ob gn fp tn (L2.wipe σ (own.map (·.2))) (wipeE env (own.map (·.2))) b2 h2 (nextY t g fe (wipeE env (own.map (·.2)))) ds s5 →
      (∀ b' h' s', GEnd Fg [(a, ob)] (L2.wipe σ (own.map (·.2))) (wipeE env (own.map (·.2))) b2 h2 b' h' s' → L2.Inv F.X pins σ h' s' ∧ Ext b2 h2 b' h') → Q' (.ref a) s5) :
    wpAny (model F.X.prog F.X.w) F.X.A (eval (.GeneratorExp elt [⟨tg, iter, ifs, 0⟩] scope pos) F.X.env) Q' F.X.xe s := by
  have hfree : ∀ y ∈ scope.names, y.2 = .free → ∃ c, F.X.env.cells.lookup y.1 = some c := fun y hy e => by
    rcases ok.free y hy e with z | z
    · exact I.ok.has _ (.inl z)
    · exact I.ok.has _ (.inr z)
  have hA := F.room.dp
  have hU := F.room.un
  refine wpAny_GeneratorExp_make S_.co (closure_ok hfree) S_.cell S_.dot S_.kind (by omega) ?_ hs
  obtain ⟨b, env, G, hpo⟩ := h
  refine thn (hi.run pins s σ H (fun J h1 => ∃ ds b1, Wk F.kw b1 J ds ∧ Ext b H b1 h1 ∧ _) I ⟨b, env, G, hpo.imp fun ds b1 h1 x1 q J wk => ⟨ds, b1, wk, x1, q⟩⟩) fun xv s1 hx => thn hx fun itv s2 h2 => ?_
  obtain ⟨it, fp, tn, J, H2, e, I2, T, st2, f2, ds, b1, wk, x1, q⟩ := h2
  subst e
  have G1 := G.grow x1
  obtain ⟨⟨ps, hPs, htr⟩, nb⟩ := G1.pre P hP
  obtain ⟨c, hcode, TB⟩ := TB.ex
  have hPo : s2.heap.get? P = some { cls := .none, data := .fields ps } := I2.hok P _ hPs
  have cd : PySem.W.CodeHd s2.heap c P := TB.code.keeps fun b u e => I2.bk b u e
  -- behind the code object
  have cont : ∀ (code : Value) (h3 : Heap) (tk : Nat) (h2' : Hp), L2.Inv F.X pins σ h2' { s2 with heap := h3, toks := tk } → Ext b1 H2 b1 h2' → (∀ b o, b ≠ P → s2.heap.get? b = some o → h3.get? b = some o) → s2.heap.objs.size ≤ h3.objs.size → (∀ b ∈ fp, h2' b = none) →
      wpAny (model F.X.prog F.X.w) F.X.A (builtinsFor F.X.env.globals F.X.env.builtins) (fun bi s₄ =>
        ∀ h', h'.Ns s₄.heap.objs.size (fun y => if y = ".0" then some (Value.ref it) else none) → Heap.SameBut s₄.heap.objs.size (s₄.heap.push { cls := .type "frame", data := .dict #[] }) h' →
          Q' (.ref h'.objs.size) { s₄ with
            gens := s₄.gens.push (.fresh (.compStart (.GeneratorExp elt [⟨tg, iter, ifs, 0⟩] scope pos) 0 (.ref it) .none (genEnv scope (cloFrom F.X.env.cells scope.names []) s₄.heap.objs.size code bi F.X.env))),
            toks := s₄.toks + 1 + 1 + 1,
            heap := h'.push { cls := .type "generator", data := .fields #[.int s₄.gens.size 0, .str "<genexpr>" (s₄.toks + 1), .str (F.X.env.qual ++ "<genexpr>") (s₄.toks + 1 + 1)] } }) F.X.xe { s2 with heap := h3, toks := tk } := by
    intro code h3 tk h2' I3 x2 k3 hsz nfp
    obtain ⟨bm, ob, e1, e2, e3, e4, e5, e6, e7, e8⟩ := TB.bm
    refine wpAny_builtinsFor (m := F.X.mg) (by rw [I2.ok.glob]; exact I3.mod.glob.keeps I3.bk) e1 e2 (k3 _ _ e4 (I2.bk _ _ e5)) e6 e7 e8 ?_
    intro h' hn' hs'
    generalize hs4 : ({ s2 with heap := h3, toks := tk } : Shared) = s4 at I3 hn' hs'
    have h4 : s4.heap = h3 := by rw [← hs4]
    have g4 : s4.gens = s2.gens := by rw [← hs4]
    have hsz' : h'.objs.size = s4.heap.objs.size + 1 := by rw [hs'.1, Heap.size_push]
    have keep' : ∀ b o, s4.heap.get? b = some o → h'.get? b = some o := fun b o e => hs'.extBut b o (Nat.ne_of_lt (Heap.lt_size e)) (Heap.get?_push_of_some _ e)
    generalize hob : ({ cls := .type "generator", data := .fields #[.int s4.gens.size 0, .str "<genexpr>" (s4.toks + 1), .str (F.X.env.qual ++ "<genexpr>") (s4.toks + 1 + 1)] } : Obj) = gob
    have keep5 : ∀ b o, s4.heap.get? b = some o → (h'.push gob).get? b = some o := fun b o e => Heap.get?_push_of_some _ (keep' b o e)
    generalize hce : genEnv scope (cloFrom F.X.env.cells scope.names []) s4.heap.objs.size code builtinsNs F.X.env = ce
    have hg' := hg s4 h2' (cloFrom F.X.env.cells scope.names []) s4.heap.objs.size code builtinsNs
    have ht' := ht s4 h2' (cloFrom F.X.env.cells scope.names []) s4.heap.objs.size code builtinsNs
    have he' := he s4 h2' (cloFrom F.X.env.cells scope.names []) s4.heap.objs.size code builtinsNs
    rw [hce] at hg' ht' he'
    have cL : ce.locals = s4.heap.objs.size := by rw [← hce]; rfl
    have cS : ce.scope = scope := by rw [← hce]; rfl
    -- the elements' around
    obtain ⟨o1, o2, o3, o4⟩ := over_gen (A := F.X.A.in1.in1) (elt := elt) (tg := tg) (iter := iter) (ifs := ifs) (scope := scope) (pos := pos) (v := .ref it) (cenv := ce)
    have hr : Room k ((F.X.A.in1.in1).over (.compLoop (.GeneratorExp elt [⟨tg, iter, ifs, 0⟩] scope pos) 0 (.ref it) .none ce) []) := by
      have o1' : ((F.X.A.in1.in1).over (.compLoop (.GeneratorExp elt [⟨tg, iter, ifs, 0⟩] scope pos) 0 (.ref it) .none ce) []).depth ≤ F.X.A.depth + 1 := o1
      have o2' : ((F.X.A.in1.in1).over (.compLoop (.GeneratorExp elt [⟨tg, iter, ifs, 0⟩] scope pos) 0 (.ref it) .none ce) []).units ≤ F.X.A.units + 1 + 1 + 3 := o2
      refine ⟨o3.trans (F.hand hsu), ?_, ?_⟩ <;> omega
    have hfp4 : ∀ b ∈ fp, FpOk F.X pins h2' b ∧ b < s4.heap.objs.size := fun b hb => by
      obtain ⟨o, e, _⟩ := T.obj _ _ st2 b hb
      have hlt := Heap.lt_size e
      exact ⟨⟨nfp b hb, (f2 b hb).2⟩, by rw [h4]; exact Nat.lt_of_lt_of_le hlt hsz⟩
    have hfrS : F.X.A.frames = some F.X.stack := I.ok.frames
    have J0 := gen_inv (s6 := { s4 with gens := s4.gens.push (.fresh (.compStart (.GeneratorExp elt [⟨tg, iter, ifs, 0⟩] scope pos) 0 (.ref it) .none ce)), toks := s4.toks + 1 + 1 + 1, heap := h'.push gob }) (cenv := ce) (A := (F.X.A.in1.in1).over (.compLoop (.GeneratorExp elt [⟨tg, iter, ifs, 0⟩] scope pos) 0 (.ref it) .none ce) []) (fp := fp) (m := fun y => if y = ".0" then some (Value.ref it) else none)
      I3 ok F.nd S_ hfp4 cS (by rw [← hce]; rfl) (by rw [← hce]; rfl) cL (by rw [← hce]; rfl) (by rw [← hce]; rfl) (o4 _ hfrS) hr.hd keep5 rfl (I3.bare.push rfl) (by rw [cL]; exact hn'.push _)
    have ha : s4.heap.objs.size ≤ h'.objs.size := by omega
    have na : h2' h'.objs.size = none := I3.hok.fresh ha
    have naf : h'.objs.size ∉ frs F.X.stack := fun z => by
      rcases List.mem_cons.mp (I3.stkSub _ z) with e | e
      · have h1 : F.X.env.locals < s4.heap.objs.size := I3.lt
        rw [← e] at h1
        exact Nat.lt_irrefl _ (Nat.lt_of_lt_of_le h1 ha)
      · exact I3.nofs ha e
    have J1 : L2.Inv (F.gen s4 h2' ce _ fp k hr).X [(h'.objs.size, gob)] (L2.wipe σ (own.map (·.2))) h2' { s4 with gens := s4.gens.push (.fresh (.compStart (.GeneratorExp elt [⟨tg, iter, ifs, 0⟩] scope pos) 0 (.ref it) .none ce)), toks := s4.toks + 1 + 1 + 1, heap := h'.push gob } :=
      J0.pins_of fun p hp => by
        have e : p = (h'.objs.size, gob) := List.mem_singleton.mp hp
        subst e
        refine ⟨Heap.get?_push_size _ (by rw [← hob]; rfl), na, ?_, naf, fun v z => ?_⟩
        · show h'.objs.size ≠ ce.locals
          rw [cL, hsz']
          exact Nat.succ_ne_self _
        · rw [← hob] at z; cases z
    have G2 : F.G b1 h2' σ env := G1.grow x2
    have sb1 : Same b1 h2' := x2.bh
    have hpf : ∀ p ∈ [(h'.objs.size, gob)], p.1 ∉ fp := fun p hp z => by
      have e : p = (h'.objs.size, gob) := List.mem_singleton.mp hp
      subst e
      have h9 : h'.objs.size < s4.heap.objs.size := (hfp4 _ z).2
      exact Nat.lt_irrefl _ (Nat.lt_of_lt_of_le h9 ha)
    have st4 : ∀ {hh : Heap}, (∀ b o, s4.heap.get? b = some o → hh.get? b = some o) → tn 0 hh := fun {hh} kk => T.keep _ _ _ st2 fun b hb o e => by
      refine kk b o ?_
      rw [h4]
      exact k3 b o (fun z => by have := (f2 b hb).1; rw [z, hPs] at this; cases this) e
    have gl : ∀ S, S ∉ fp → _ := fun S hS => gen_loop (F := F) (s1 := s4) (H1 := h2') (cenv := ce) (Ag := F.X.A.in1.in1) (fp := fp) (it := it) (tn := tn) (J := J) (tg := tg) (elt := elt) (iter := iter) (ifs := ifs) (scope := scope) (pos := pos) (k := k) (t := t) (ix := ix) (g := g) (fe := fe) (b1 := b1) (h1 := h2') (ds := ds) (σ0 := σ) (env0 := env) (vs := own.map (·.2)) (pf := pS h'.objs.size gob S)
      hr T (hg' _ fp hr) (ht' _ fp hr) (he' _ fp hr) wk sb1 hix (by rw [cS]; exact S_.co) (fun hh p hp => by
        rcases List.mem_cons.mp hp with rfl | hp
        · exact hpf _ (List.mem_singleton.mpr rfl)
        · split at hp
          · obtain rfl := List.mem_singleton.mp hp
            exact hS
          · cases hp) hsu
    have at0 : GAt (F.gen s4 h2' ce _ fp k hr) [(h'.objs.size, gob)] fp tn (L2.wipe σ (own.map (·.2))) (wipeE env (own.map (·.2))) b1 h2' (ds.length - ds.length) b1 h2' { s4 with gens := s4.gens.push (.fresh (.compStart (.GeneratorExp elt [⟨tg, iter, ifs, 0⟩] scope pos) 0 (.ref it) .none ce)), toks := s4.toks + 1 + 1 + 1, heap := h'.push gob } := by
      rw [Nat.sub_self]
      exact ⟨J1, nfp, st4 keep5, G2.wipe _, Ext.refl sb1⟩
    refine q (F.gen s4 h2' ce _ fp k hr) h'.objs.size gob s4.gens.size fp tn b1 h2' _ G2 rfl x2 ⟨by rw [← hob], _, _, by rw [← hob], by rw [← hob]⟩ (Heap.get?_push_size _ (by rw [← hob]; rfl)) ⟨⟨hpf _ (List.mem_singleton.mpr rfl), ⟨_, Heap.get?_push_size _ (by rw [← hob]; rfl)⟩, (fun p hp => by cases hp), (by show s4.heap.objs.size ≤ (h'.push gob).objs.size; rw [Heap.size_push]; exact Nat.le_succ_of_le ha), (fun c hc => by show c < (h'.push gob).objs.size; rw [Heap.size_push]; exact Nat.lt_succ_of_le (Nat.le_trans (Nat.le_of_lt (hfp4 c hc).2) ha)), fun i h h' st k => T.keep _ _ _ st k⟩, _, b1, h2', Array.getElem?_push_size .., at0, fun S hS s'' b'' h'' o ho G' => ⟨rfl, ?_⟩⟩ fun b' h'' s' hE => ?_
    · have loop := gl S hS ds (ds.length + 1) s'' s'' b'' h'' ds o ⟨[], rfl⟩ (Nat.lt_succ_self _) (Nat.le_refl _) (by rw [Nat.sub_self]; rfl) rfl ho G'
      show Seg _ _ _ _ _ s'' _ ((compStart (.GeneratorExp elt [⟨tg, iter, ifs, 0⟩] scope pos) 0 (.ref it) .none ce).onRaise (leaving ce)) [] s''
      unfold compStart
      rw [Sem.onRaise_eq_wrap]
      show Seg _ _ _ _ _ s'' _ ((ask >>= _).wrap _ _ _ _) [] s''
      refine seg_bind_wrap (wpAny_askSetting ?_)
      split
      · exact seg_again rfl loop
      · refine seg_bind_wrap (wpAny_rule ?_)
        show Seg _ _ _ _ _ s'' _ ((standAt iter.pos >>= _).wrap _ _ _ _) [] s''
        refine seg_bind_wrap (wpAny_standAt (seg_bind_wrap (T.self _ _ _ _ _ G'.st ?_)))
        exact seg_again rfl loop
    · refine ⟨?_, hE.ext⟩
      have J := hE.inv
      exact I3.call' (ch := fp) J.os J.base J.hok J.bare fun b hb => ⟨(hfp4 b hb).1.2.2.2.1, (hfp4 b hb).1.2.1, (hfp4 b hb).1.2.2.2.2.1, (hfp4 b hb).1.2.2.2.2.2⟩
  refine ⟨I2.nolimit, ?_⟩
  cases hf : codeAmong pos ps.toList with
  | none =>
    refine wpAny_genexprCodeX hcode (cd.code hPo htr) (cd.tab hPo) hf fun c' h' tk hx hge hlt hco' _ htab' _ => ?_
    obtain ⟨o1, vs1, f1, tf1, fl1, tg1, inF1, tx1, tt1, op1, _, _, _, _, _, _, _, _, _, htr1, _⟩ := hco'
    have I3 := GxR.inv_tab (more := #[rawInt pos.line, rawInt pos.col, .ref c']) (h' := h') (g' := s2.gens) (d' := s2.drawn) (t' := tk) I2 hPs (fun b u hb e => hx b u hb e) htab'.2 I2.bare
    refine cont _ h' tk _ I3 (Ext.tab x1.bh hPs nb fun _ => htr1) (fun b o hb e => hx b o hb e) (Nat.le_trans hge (Nat.le_of_lt hlt)) fun b hb => ?_
    rw [upd_at (fun z => by have := (f2 b hb).1; rw [z, hPs] at this; cases this)]
    exact (f2 b hb).1
  | some cv =>
    refine wpAny_genexprCode_hit hcode (cd.code hPo htr) hf ?_
    exact cont cv s2.heap s2.toks H2 I2 (Ext.refl x1.bh) (fun _ _ _ e => e) (Nat.le_refl _) fun b hb => (f2 b hb).1

def eGen (q : Env → List D → R Bool) (f : Env → R (List D)) (vs : List Nat) : Env → R D := fun env => (f env).bnd fun ds => (q (wipeE env vs) ds).bnd fun c => .ok (.bool c)
theorem R.bnd_ok {α β : Type} {r : R α} {k : α → R β} {c : β} (h : ∃ a, r = .ok a ∧ k a = .ok c) : r.bnd k = .ok c := by
  obtain ⟨a, e, e2⟩ := h
  rw [e]; exact e2
theorem allL_nex {t : Tg} {g : Env → R Bool} {fe : Env → R D} {env : Env} : ∀ {r : List D} {c : Str} {as : List (Str × D)}, allL t g fe env r ≠ .ex c as
  | [], c, as => fun h => by cases h
  | x :: r, c, as => fun h => by
    unfold allL at h
    split at h
    · cases h
    · split at h
      · split at h
        · exact allL_nex h
        · cases h
        · cases h
      · exact allL_nex h
      · cases h
theorem anyL_nex {t : Tg} {g : Env → R Bool} {fe : Env → R D} {env : Env} : ∀ {r : List D} {c : Str} {as : List (Str × D)}, anyL t g fe env r ≠ .ex c as
  | [], c, as => fun h => by cases h
  | x :: r, c, as => fun h => by
    unfold anyL at h
    split at h
    · cases h
    · split at h
      · split at h
        · cases h
        · exact anyL_nex h
        · cases h
      · exact anyL_nex h
      · cases h
theorem ie_all {p gpos : Pos} (own : List (Str × Nat)) (P : Addr) (hm : F.X.mg "all" = none) (hk : k + 1 ≤ F.k) (hi : II F tg iter f) (hP : P ∈ F.T) (TB : TabX F.X P) 
    (hg : ∀ (s : Shared) (H : Hp) (cl : List (Str × Addr)) (C : Addr) (code : Value) (bi : Addr) (A : Around) (fp : List Addr) (hr : Room k A), IG (F.gen s H (genEnv scope cl C code bi F.X.env) A fp k hr) tg t ix)
    (ht : ∀ (s : Shared) (H : Hp) (cl : List (Str × Addr)) (C : Addr) (code : Value) (bi : Addr) (A : Around) (fp : List Addr) (hr : Room k A), ITs (F.gen s H (genEnv scope cl C code bi F.X.env) A fp k hr) ifs g)
    (he : ∀ (s : Shared) (H : Hp) (cl : List (Str × Addr)) (C : Addr) (code : Value) (bi : Addr) (A : Around) (fp : List Addr) (hr : Room k A), IE (F.gen s H (genEnv scope cl C code bi F.X.env) A fp k hr) elt fe)
    (ok : blkC F.X.N F.X.env.scope scope own = true) (S : GSc scope) (hix : ∀ i ∈ ix, i ∈ own.map (·.2))
    (hgl : Gl F.X "all" := by rfl) (hs : ∀ v, genFold iter F.X.env v = pure v := by intro _; rfl)
    (hst : starEach [.GeneratorExp elt [⟨tg, iter, ifs, 0⟩] scope gpos] F.X.env = (false, eval (.GeneratorExp elt [⟨tg, iter, ifs, 0⟩] scope gpos) F.X.env) :: starEach [] F.X.env := by rfl) (hsu : F.sui = false := by rfl) :
    IE F (.Call (.Name "all" p) [.GeneratorExp elt [⟨tg, iter, ifs, 0⟩] scope gpos] [] pos) (eGen (allL t g fe) f (own.map (·.2))) := by
  refine ⟨fun pins s σ H Q I h => ?_⟩
  obtain ⟨b, env, G, hp⟩ := h
  refine wpAny_Call_Name_kw (ld_blt I hgl hm rfl ?_)
  refine PyProof.Rows.callWith_builtin1 ?_ hst (by rfl)
  rw [hst]
  show wpAny _ _ (spliced ((false, eval (.GeneratorExp elt [⟨tg, iter, ifs, 0⟩] scope gpos) F.X.env) :: backTo pos (starEach [] F.X.env))) _ _ s
  refine Calls.spliced_cons (gen_make I hsu hk hi (blkOk_by ok) S hP TB hix hg ht he hs ⟨b, env, G, Po.bnd hp fun ds _ b1 h1 x1 p1 Fg a ob gn fp tn b2 h2 s5 G2 eK x2 hob hobs hGR hback => ?_⟩)
  have hA := F.room.dp
  cases hc : allL t g fe (wipeE env (own.map (·.2))) ds with
  | ex c as => exact (allL_nex hc).elim
  | no => rw [hc] at p1; exact p1.elim
  | ok c =>
    rw [hc] at p1
    have isG : s5.heap.IsGen a gn := by
      obtain ⟨hcl, nm, qn, hdd, hsl⟩ := hob
      exact ⟨ob, nm, qn, hobs, hcl, hdd, hsl⟩
    refine Calls.spliced_nil (call_function_tree PySem.F.kind_all PySem.F.plain_all PySem.F.entry_all (PySem.F.args_all1 _) ?_)
    unfold Builtin.«all»
    refine wpAny_bind (m := oneArg "all" _) (wpAny_pure ?_)
    refine wpAny_bind (wpAny_pyIter_gen isG ?_)
    refine wpAny_pure ⟨plainId_quiet PySem.F.plain_all_loop _, all_loop (F := F) (F.hand hsu) (by omega) hob (fun _ b' h' s' hE => ?_) _ ds _ s5 (Nat.lt_succ_self _) hc hGR.self⟩
    obtain ⟨I', x'⟩ := hback b' h' s' hE.drop
    exact ⟨.bl c, h', I', rfl, p1 b' h' (x2.trans x') _ (.bl c)⟩
theorem ie_any {p gpos : Pos} (own : List (Str × Nat)) (P : Addr) (hm : F.X.mg "any" = none) (hk : k + 1 ≤ F.k) (hi : II F tg iter f) (hP : P ∈ F.T) (TB : TabX F.X P) 
    (hg : ∀ (s : Shared) (H : Hp) (cl : List (Str × Addr)) (C : Addr) (code : Value) (bi : Addr) (A : Around) (fp : List Addr) (hr : Room k A), IG (F.gen s H (genEnv scope cl C code bi F.X.env) A fp k hr) tg t ix)
    (ht : ∀ (s : Shared) (H : Hp) (cl : List (Str × Addr)) (C : Addr) (code : Value) (bi : Addr) (A : Around) (fp : List Addr) (hr : Room k A), ITs (F.gen s H (genEnv scope cl C code bi F.X.env) A fp k hr) ifs g)
    (he : ∀ (s : Shared) (H : Hp) (cl : List (Str × Addr)) (C : Addr) (code : Value) (bi : Addr) (A : Around) (fp : List Addr) (hr : Room k A), IE (F.gen s H (genEnv scope cl C code bi F.X.env) A fp k hr) elt fe)
    (ok : blkC F.X.N F.X.env.scope scope own = true) (S : GSc scope) (hix : ∀ i ∈ ix, i ∈ own.map (·.2))
    (hgl : Gl F.X "any" := by rfl) (hs : ∀ v, genFold iter F.X.env v = pure v := by intro _; rfl)
    (hst : starEach [.GeneratorExp elt [⟨tg, iter, ifs, 0⟩] scope gpos] F.X.env = (false, eval (.GeneratorExp elt [⟨tg, iter, ifs, 0⟩] scope gpos) F.X.env) :: starEach [] F.X.env := by rfl) (hsu : F.sui = false := by rfl) :
    IE F (.Call (.Name "any" p) [.GeneratorExp elt [⟨tg, iter, ifs, 0⟩] scope gpos] [] pos) (eGen (anyL t g fe) f (own.map (·.2))) := by
  refine ⟨fun pins s σ H Q I h => ?_⟩
  obtain ⟨b, env, G, hp⟩ := h
  refine wpAny_Call_Name_kw (ld_blt I hgl hm boot_any ?_)
  refine PyProof.Rows.callWith_builtin1 ?_ hst (by rfl)
  rw [hst]
  show wpAny _ _ (spliced ((false, eval (.GeneratorExp elt [⟨tg, iter, ifs, 0⟩] scope gpos) F.X.env) :: backTo pos (starEach [] F.X.env))) _ _ s
  refine Calls.spliced_cons (gen_make I hsu hk hi (blkOk_by ok) S hP TB hix hg ht he hs ⟨b, env, G, Po.bnd hp fun ds _ b1 h1 x1 p1 Fg a ob gn fp tn b2 h2 s5 G2 eK x2 hob hobs hGR hback => ?_⟩)
  have hA := F.room.dp
  cases hc : anyL t g fe (wipeE env (own.map (·.2))) ds with
  | ex c as => exact (anyL_nex hc).elim
  | no => rw [hc] at p1; exact p1.elim
  | ok c =>
    rw [hc] at p1
    have isG : s5.heap.IsGen a gn := by
      obtain ⟨hcl, nm, qn, hdd, hsl⟩ := hob
      exact ⟨ob, nm, qn, hobs, hcl, hdd, hsl⟩
    refine Calls.spliced_nil (call_function_tree PySem.F.kind_any PySem.F.plain_any PySem.F.entry_any (PySem.F.args_any1 _) ?_)
    unfold Builtin.«any»
    refine wpAny_bind (m := oneArg "any" _) (wpAny_pure ?_)
    refine wpAny_bind (wpAny_pyIter_gen isG ?_)
    refine wpAny_pure ⟨plainId_quiet PySem.F.plain_any_loop _, any_loop (F := F) (F.hand hsu) (by omega) hob (fun _ b' h' s' hE => ?_) _ ds _ s5 (Nat.lt_succ_self _) hc hGR.self⟩
    obtain ⟨I', x'⟩ := hback b' h' s' hE.drop
    exact ⟨.bl c, h', I', rfl, p1 b' h' (x2.trans x') _ (.bl c)⟩
end
end FP
/-! FP O: int comparisons, products, isinstance, split, join, a comprehension stored in a name. -/
namespace FP
open PySem L2 PySem.Spec PyProof.Rows

/-! ### int comparisons -/
def cmpI (g : Int → Int → Bool) : D → D → R Bool
  | .int i, .int j => .ok (g i j)
  | _, _ => .no
theorem ok_cmpI {K : KW} {g : Int → Int → Bool} : CmpOk K (rI0 fun i j => .bl (g i j)) (cmpI g) where
  run := fun b h x y d e Q s rx ry p => by
    unfold cmpI at p
    split at p
    · cases rx.int
      cases ry.int
      exact ⟨_, _, rfl, rfl, p⟩
    · exact p.elim
  nex := fun d e c as z => by
    unfold cmpI at z
    split at z <;> cases z
abbrev pyLt : D → D → R Bool := cmpI fun i j => decide (i < j)
abbrev pyLe : D → D → R Bool := cmpI fun i j => decide (i ≤ j)
abbrev pyGt : D → D → R Bool := cmpI fun i j => decide (j < i)
abbrev pyGe : D → D → R Bool := cmpI fun i j => decide (j ≤ i)
/-! ### * -/
def pyMul : D → D → R D
  | .int i, .int j => if i.natAbs < 2 ^ 64 then .ok (.int (i * j)) else .no
  | .str z, .int n => if 0 ≤ n ∧ n ≤ 10000 ∧ z.length ≤ 1000 then .ok (.str (mkS (List.replicate n.toNat (tl z)).flatten)) else .no
  | _, _ => .no
def rMulA : R2 := fun x y H Q => rI CMul (fun i j => .int (i * j)) x y H Q ∨ rMulS x y H Q
theorem op_mulA {X : Cx} : OpR X (binaryOp .Mult) rMulA := op_mul.or op_mulS
theorem ok_mul {K : KW} : OpOk K rMulA pyMul where
  run := fun b h x y d e Q s rx ry p => by
    unfold pyMul at p
    split at p
    · split at p
      · rename_i i j hi
        cases rx.int
        cases ry.int
        exact .inl ⟨_, _, rfl, rfl, by first | exact hi | exact Or.inl hi | exact .inl (by omega) | exact ⟨hi⟩ | (unfold CMul; omega), p b h _ (Ext.refl s) (.int _)⟩
      · exact p.elim
    · split at p
      · rename_i z n hn
        cases rx.str
        cases ry.int
        exact .inr ⟨_, _, rfl, rfl, ⟨hn.1, hn.2.1⟩, hn.2.2, p b h _ (Ext.refl s) (.str _)⟩
      · exact p.elim
    · exact p.elim
  nex := fun d e c as z => by
    unfold pyMul at z
    split at z
    all_goals first | cases z | (split at z <;> cases z)

/-! ### isinstance -/
inductive Ty | bool | int | str | tuple | list
def Ty.nm : Ty → String
  | .bool => "bool"
  | .int => "int"
  | .str => "str"
  | .tuple => "tuple"
  | .list => "list"
def isT : Ty → D → Bool
  | .bool, .bool _ => true
  | .int, .bool _ => true
  | .int, .int _ => true
  | .str, .str _ => true
  | .tuple, .tuple _ => true
  | .list, .list _ => true
  | _, _ => false
def tyNm : D → String
  | .none => "NoneType"
  | .bool _ => "bool"
  | .int _ => "int"
  | .str _ => "str"
  | .list _ => "list"
  | .tuple _ => "tuple"
  | .dict _ => "dict"
theorem kit_isT (T : Ty) (d : D) (h : ∀ l, d ≠ .dict l) : kitB (tyNm d) T.nm = some (isT T d) := by
  cases d with
  | dict l => exact (h l rfl).elim
  | _ => cases T <;> (simp only [tyNm, Ty.nm, isT]; decide +kernel)
theorem Bp.tyX {K : KW} {b h : Hp} {v : V} {d : D} (s : Same b h) (q : Bp K b h v d) (nd : ∀ l, d ≠ .dict l) : TyX K h v (.type (tyNm d)) := by
  rcases q with q | ⟨a, vs, l, e, e1, r, e2⟩ | ⟨_, _, l, _, _, e2⟩
  · cases q with
    | non => exact .base .non
    | bl _ => exact .base (.bl _)
    | int _ => exact .base (.int _)
    | str _ => exact .base (.str _)
    | lst hs hr =>
      rcases Same.sqL s hs with (e | ⟨o, e⟩) | ⟨o, its, n, e, c, _⟩
      · exact .base (.lst e)
      · exact .base (.frz e)
      · exact .kList e c
    | tup hs hr =>
      rcases Same.sqT s hs with (e | ⟨o, e⟩) | ⟨o, its, n, e, c, _⟩
      · exact .base (.tup e)
      · exact .fTuple e
      · exact .kTuple e c
    | dcl => exact (nd _ rfl).elim
    | dcn => exact (nd _ rfl).elim
  · subst e e2
    exact .base (.lst e1)
  · exact (nd l e2).elim
def isiR (T : Ty) : D → R D
  | .dict _ => .no
  | d => .ok (.bool (isT T d))
theorem isiR_ok {T : Ty} {d : D} (h : ∀ l, d ≠ .dict l) : isiR T d = .ok (.bool (isT T d)) := by
  cases d with
  | dict l => exact (h l rfl).elim
  | _ => rfl
section
variable {F : Fx} {a e : Expr} {fa fb : Env → R D} {pos : Pos}
theorem boot_isi : ∀ T : Ty, bootBuiltins (Str.ofString T.nm) = some (.type T.nm)
  | .bool => rfl
  | .int => rfl
  | .str => rfl
  | .tuple => rfl
  | .list => rfl
theorem ie_isi {p p2 : Pos} {x : Str} (T : Ty) (hm : F.X.mg "isinstance" = none) (hmT : F.X.mg x = none) (ha : IB F a fa) (hg : Gl F.X "isinstance" := by rfl) (hgT : Gl F.X x := by rfl) (hb : bootBuiltins x = some (.type T.nm) := by exact boot_isi _)
    (hn : x ≠ "__name__" := by decide) (hd : (x == ("__debug__" : Str)) = false := by decide)
    (hs : starEach [a, .Name x p2] F.X.env = (false, eval a F.X.env) :: starEach [.Name x p2] F.X.env := by rfl)
    (hs2 : starEach [.Name x p2] F.X.env = (false, eval (.Name x p2) F.X.env) :: starEach [] F.X.env := by rfl)
    (hpl : (backTo pos (starEach [.Name x p2] F.X.env)).any (·.1) = false := by rfl) :
    IE F (.Call (.Name "isinstance" p) [a, .Name x p2] [] pos) (fun env => (fa env).bnd (isiR T)) :=
  PE.imp (pe_callB call_isi hg hm rfl (pa_cons ha (pa_cons (pe_bltn (v := .ty T.nm) hgT hmT hb rfl hn hd) pa_nil hs2) hs) (by decide) (by decide) hs hpl) fun σ H Q ⟨b, env, G, p⟩ => ⟨b, env, G, Po.bnd p fun d _ b1 h1 x1 p1 v r => by
    by_cases nd : ∃ l, d = .dict l
    · obtain ⟨l, rfl⟩ := nd; exact p1.elim
    have nd : ∀ l, d ≠ .dict l := fun l e => nd ⟨l, e⟩
    rw [isiR_ok nd] at p1
    refine ⟨_, _, _, _, _, rfl, .ty _, r.tyX x1.bh nd, kit_ty (kit_isT T d nd), ?_⟩
    exact p1 b1 h1 (Ext.refl x1.bh) _ (.bl _)⟩

/-! ### split, join -/
/-- texts as data -/
def txts (l : List Str) : List D := l.map .str
theorem dpAll_txts {K : KW} {b : Hp} : ∀ l : List Str, DpAll K b (l.map V.str) (txts l)
  | [] => .nil
  | x :: l => .cons (.str x) (dpAll_txts l)
/-- a method of a text -/
def eM1 {α : Type} (g : Str → D → R α) (fa fb : Env → R D) : Env → R α := fun env => (fa env).bnd fun x => match x with
  | .str z => (fb env).bnd (g z)
  | _ => .no
def splitF (a : Str) : D → R Own
  | .str b => if (b.length == 0) = false ∧ a.length + 2 ≤ sizeLine then .ok (.lst (txts (Txt.split a b))) else .no
  | _ => .no
theorem if_split {apos : Pos} (ha : IB F a fa) (hb : IB F e fb) (hs : starEach [e] F.X.env = [(false, eval e F.X.env)] := by rfl) (hbase : attributeBase a "split" F.X.env (eval a F.X.env) = eval a F.X.env := by rfl) (hline : (apos.endLine == pos.line) = true := by rfl) :
    IF F (.Call (.Attribute a "split" apos) [e] [] pos) (eM1 splitF fa fb) :=
  PE.imp (pe_split ha hb hs hbase hline) fun σ H Q ⟨b, env, G, p⟩ => ⟨b, env, G, Po.bnd p fun d _ b1 h1 x1 p1 v r => by
    cases d with
    | str z =>
      cases r.str
      refine ⟨⟨z, rfl⟩, b1, env, G.grow x1, Po.bnd p1 fun y _ b2 h2 x2 p2 w rw => ?_⟩
      unfold splitF at p2
      split at p2
      · split at p2
        · rename_i hb
          cases rw.str
          refine ⟨_, _, rfl, rfl, hb.1, hb.2, fun q hq => ?_⟩
          exact p2 b2 h2 (Ext.refl x2.bh) q _ hq (fun _ z => by cases z) ⟨_, upd_same, dpAll_txts _⟩
        · exact p2.elim
      · exact p2.elim
    | _ => exact p1.elim⟩
/-- the texts of a list -/
def toStrs : List D → Option (List Str)
  | [] => some []
  | .str z :: l => (toStrs l).map (z :: ·)
  | _ => none
theorem dpAll_toStrs {K : KW} {b : Hp} : ∀ {ds : List D} {vs : List V} {l : List Str}, toStrs ds = some l → DpAll K b vs ds → vs = l.map V.str
  | [], _, _, e, h => by cases e; cases h; rfl
  | d :: ds, _, _, e, h => by
    cases d with
    | str z =>
      obtain ⟨l', e', rfl⟩ := Option.map_eq_some_iff.mp e
      cases h with
      | cons p r => cases p; rw [dpAll_toStrs e' r]; rfl
    | _ => cases e
/-- sep.join, in codes -/
def jnL (sep : List Nat) : List (List Nat) → List Nat
  | [] => []
  | [x] => x
  | x :: y :: l => x ++ sep ++ jnL sep (y :: l)
def joinS (a : Str) (l : List Str) : R D := if (l.map (·.length)).sum + l.length * a.length ≤ 16777216 then .ok (.str (mkS (jnL (tl a) (l.map tl)))) else .no
def joinF (a : Str) : D → R D
  | .list ds => match toStrs ds with
    | some l => joinS a l
    | none => .no
  | .tuple ds => match toStrs ds with
    | some l => joinS a l
    | none => .no
  | _ => .no
theorem tl_join (a : Str) : ∀ l : List Str, tl (Txt.join a l) = jnL (tl a) (l.map tl) := by
  intro l
  show tl (Builtin.Str.glued a l) = _
  rw [StrLaws.glued_eq_join]
  induction l with
  | nil => rfl
  | cons x l ih =>
    cases l with
    | nil => rfl
    | cons y l =>
      show tl (x ++ a ++ Str.join a (y :: l)) = tl x ++ tl a ++ jnL (tl a) ((y :: l).map tl)
      rw [← ih, ← mkS_app, ← mkS_app, tl_mkS, tl_mkS]
theorem ie_join {apos : Pos} (ha : IB F a fa) (hb : IB F e fb) (hs : starEach [e] F.X.env = [(false, eval e F.X.env)] := by rfl) (hbase : attributeBase a "join" F.X.env (eval a F.X.env) = eval a F.X.env := by rfl) (hline : (apos.endLine == pos.line) = true := by rfl) :
    IE F (.Call (.Attribute a "join" apos) [e] [] pos) (eM1 joinF fa fb) :=
  PE.imp (pe_join ha hb hs hbase hline) fun σ H Q ⟨b, env, G, p⟩ => ⟨b, env, G, Po.bnd p fun d _ b1 h1 x1 p1 v r => by
    cases d with
    | str z =>
      cases r.str
      refine ⟨⟨z, rfl⟩, b1, env, G.grow x1, Po.bnd p1 fun y _ b2 h2 x2 p2 w rw => ?_⟩
      have fin : ∀ {ds : List D} {l : List Str} {q : Addr} {vs : List V}, toStrs ds = some l → DpAll F.kw b2 vs ds → (SqL F.X.K h2 q vs ∨ SqT F.X.K h2 q vs) → w = .ref q → Po F b2 h2 σ (joinS z l) (fun d b' h' => ∀ v, Dp F.kw b' v d → Q v h') →
          ∃ a p, ∃ ys : List Str, V.str z = .str a ∧ [w] = [.ref p] ∧ (SqL F.X.K h2 p (ys.map V.str) ∨ SqT F.X.K h2 p (ys.map V.str)) ∧ (ys.map (·.length)).sum + ys.length * a.length ≤ 16777216 ∧ Q (.str (Txt.join a ys)) h2 := by
        intro ds l q vs ht hr hq hw p3
        have e := dpAll_toStrs ht hr
        subst e hw
        unfold joinS at p3
        split at p3
        · rename_i hz
          refine ⟨_, _, l, rfl, rfl, hq, hz, ?_⟩
          rw [← tl_join] at p3
          exact p3 b2 h2 (Ext.refl x2.bh) _ (.str _)
        · exact p3.elim
      unfold joinF at p2
      split at p2
      · split at p2
        · rename_i ht
          obtain ⟨q, vs, e, hs, hr⟩ := rw.lst x2.bh
          exact fin ht hr (.inl hs) e p2
        · exact p2.elim
      · split at p2
        · rename_i ht
          obtain ⟨q, vs, e, hs, hr⟩ := rw.tup
          exact fin ht hr (.inr (Same.sqT x2.bh hs)) e p2
        · exact p2.elim
      · exact p2.elim
    | _ => exact p1.elim⟩
/-! ### name = [..] of a local name -/
variable {elt tg iter : Expr} {ifs : List Expr} {scope : Scope} {f : Env → R (List D)} {t : Tg} {g : Env → R Bool} {fe : Env → R D}
theorem is_setLc (i : Nat) {ix : List Nat} {x : Str} {py spos : Pos} (own : List (Str × Nat)) (hi : II F tg iter f) (ok : blkC F.X.N F.X.env.scope scope own = true) (hix : ∀ i ∈ ix, i ∈ own.map (·.2))
    (hg : ∀ (s : Shared) (H : Hp) (C : Addr) (cl : List (Str × Addr)) (fp : List Addr), IG (F.blk s H scope C cl fp) tg t ix) (ht : ∀ (s : Shared) (H : Hp) (C : Addr) (cl : List (Str × Addr)) (fp : List Addr), ITs (F.blk s H scope C cl fp) ifs g)
    (he : ∀ (s : Shared) (H : Hp) (C : Addr) (cl : List (Str × Addr)) (fp : List Addr), IE (F.blk s H scope C cl fp) elt fe) (hN : F.X.N[i]? = some x := by rfl) (hl : F.X.env.scope.names.lookup x = some .local := by rfl)
    (hk : F.X.env.scope.kind = .function := by rfl) (hln : (py.line == pos.line) = true := by rfl) (hany : (scope.names.any fun (n, k) => n == x && (k == .local || k == .cell)) = false := by rfl)
    (hs : ∀ x, foldedSetIterable iter F.X.env x = pure x := by intro _; rfl) (hsu : F.sui = false := by rfl) :
    IS F (.Assign [.Name x py] (.ListComp elt [⟨tg, iter, ifs, 0⟩] scope pos) spos) (sSetO i (eComp f t g fe (own.map (·.2)))) :=
  PS.imp (ps_setLc (wi := tII F f) (g := tIG (F.blk F.X.s_0 F.X.H_0 scope 0 [] []) t ix) (tt := tIT (F.blk F.X.s_0 F.X.H_0 scope 0 [] []) g) (te := tI (F.blk F.X.s_0 F.X.H_0 scope 0 [] []) fe) (F.calm hsu) F.nd hN hl (sw_true hk hl hln hany) hi (blkOk_by ok) (fun s H C cl fp => hg s H C cl fp) (fun s H C cl fp => ht s H C cl fp) (fun s H C cl fp => he s H C cl fp) hs)
    fun Dn σ H ⟨b, env, G, p⟩ => comp_run hix ⟨rfl, rfl, rfl⟩ (fun _ _ _ _ z => z) ⟨b, env, G, PoS.bnd G p fun o _ b1 h1 x1 G1 p1 q u hq _ ok => p1 b1 _ _ (Same.refl _) (G1.setNew hq ok)⟩
end
end FP
/-! FP P: defs as the top leaves them, constants of the module, the law. -/
namespace FP
open PySem L2 PySem.Spec PyProof.Rows

section
variable {P : Program} {w : World} {K : PySem.W.Frag} {mg : Str → Option Value} {base : Heap} {T : List Addr}
/-- a def at its address by its body's derivation -/
theorem fnok_T {at_ : Str × Option Str} {x qual : Str} {params : Arguments} {body : List Stmt} {sc : Scope} {dvs : List V} {kws : List (Str × V)} {fd : FuncData} {N ps : List Str} {k : Nat} {sv : Env → SR} (Fu : FunD K x qual params body sc dvs kws (He.fAd K at_) fd) (S : FnScope N ps sc)
    (hb : ∀ (A : Around) (outer : List PySem.Env) (s : Shared) (H b : Hp) (E : XK) (hr : Room k (A.deeper (envOfC qual sc s.heap.objs.size (He.fAd K at_) (.ref (He.codeOf K at_))))) (pre : ∀ P ∈ T, GxR.TabG H P ∧ b P = none),
      ISs (bodyF P w K mg base T N ps qual sc S k (He.fAd K at_) (.ref (He.codeOf K at_)) A outer s H b E hr pre) body sv) :
    FnOk P w K mg base (L2.CX P w) (k + 1) (He.fAd K at_) fd ps (spF ⟨K, w⟩ mg T ps.length (fun ds => (sv (env0 N.length ds)).r)) := by
  obtain ⟨oc, od, dV, kV, doc, pm, an, cdv, ct, osl, rfl, lk, hcd, _, _⟩ := Fu.ex
  obtain ⟨c, rfl⟩ := He.codeIn_ref hcd
  have ec : He.codeOf K at_ = c := He.codeOf_eq lk rfl
  rw [ec] at hb
  refine fn_of lk hcd S (fun vs H Q E h => h.1) fun A outer s H vs Q E hr hsp => ?_
  obtain ⟨hl, b, ds, pre, sb, rs, q⟩ := hsp
  refine ⟨_, hb A outer s H b E hr pre, b, env0 N.length ds, good0 sb rs, ?_⟩
  dsimp only at q
  revert q
  generalize sv (env0 N.length ds) = r
  cases r with
  | nx env => exact fun q b' h' σ' _ G => q b' h' .non G.ext .non
  | rt d => exact fun q b' h' v x r => q b' h' v x r
  | bk env => exact fun q => q.elim
  | ct env => exact fun q => q.elim
  | ex c as env => exact fun q b' h' σ' dd C fs _ G hc hd ha => q b' h' dd C fs G.ext hc hd ha
  | no => exact fun q => q.elim
theorem fn_okT {at_ : Str × Option Str} {x qual : Str} {params : Arguments} {body : List Stmt} {sc : Scope} {fd : FuncData} {N ps : List Str} {k : Nat} {sv : Env → SR} (Fu : FunD K x qual params body sc [] [] (He.fAd K at_) fd) (S : FnScope N ps sc) (hm : mg x = some (.ref (He.fAd K at_)))
    (bi : ∀ (kV doc pm : Value) (an : Option Addr) (cdv ct : Value) (us : List Value), us.length = ps.length → bindArgs (PySem.W.fnOf x qual params body sc .none kV doc pm an cdv ct) ⟨us, []⟩ = pure (ps.zip us))
    (hb : ∀ (A : Around) (outer : List PySem.Env) (s : Shared) (H b : Hp) (E : XK) (hr : Room k (A.deeper (envOfC qual sc s.heap.objs.size (He.fAd K at_) (.ref (He.codeOf K at_))))) (pre : ∀ P ∈ T, GxR.TabG H P ∧ b P = none),
      ISs (bodyF P w K mg base T N ps qual sc S k (He.fAd K at_) (.ref (He.codeOf K at_)) A outer s H b E hr pre) body sv) : Fn P w K mg base T x (k + 1) ps.length (fun ds => (sv (env0 N.length ds)).r) :=
  ⟨_, fd, ps, hm, Fu.kp, Fu.bindsN bi, fnok_T Fu S hb⟩
/-- no promise at all -/
theorem fn_no {at_ : Str × Option Str} {x qual : Str} {params : Arguments} {body : List Stmt} {sc : Scope} {fd : FuncData} {ps : List Str} (Fu : FunD K x qual params body sc [] [] (He.fAd K at_) fd) (hm : mg x = some (.ref (He.fAd K at_)))
    (bi : ∀ (kV doc pm : Value) (an : Option Addr) (cdv ct : Value) (us : List Value), us.length = ps.length → bindArgs (PySem.W.fnOf x qual params body sc .none kV doc pm an cdv ct) ⟨us, []⟩ = pure (ps.zip us)) : Fn P w K mg base T x 0 ps.length (fun _ => .no) :=
  ⟨_, fd, ps, hm, Fu.kp, Fu.bindsN bi, ⟨fun vs H Q E h => h.1, fun A outer s H args us vs Q E hr e0 hbn r hsp => by
    obtain ⟨_, b, ds, _, _, _, q⟩ := hsp
    exact q.elim⟩⟩
end

/-! ### constants -/
def wideLe (n : Nat) : Bool := decide (n ≤ sizeLine)
mutual
/-- the written value u is the data d -/
def rdV (K : PySem.W.Frag) : Value → D → Bool
  | u, .none => He.relB .non u
  | u, .bool c => He.relB (.bl c) u
  | u, .int i => He.relB (.int i) u
  | u, .str z => He.relB (.str z) u
  | u, .tuple ds => (match u with
    | .ref a => (match K.lookup a with
      | some ⟨.type c, _, .seq its _, _⟩ => decide (c = "tuple") && (decide (its.size ≤ sizeLine) && rdAll K its.toList ds)
      | _ => false)
    | _ => false)
  | u, .list ds => (match u with
    | .ref a => (match K.lookup a with
      | some ⟨.type c, none, .seq its _, _⟩ => decide (c = "list") && (decide (its.size ≤ sizeLine) && rdAll K its.toList ds)
      | _ => false)
    | _ => false)
  | _, .dict _ => false
def rdAll (K : PySem.W.Frag) : List Value → List D → Bool
  | [], [] => true
  | u :: us, d :: ds => rdV K u d && rdAll K us ds
  | _, _ => false
end
mutual
theorem rdV_ok {K : KW} : ∀ {u : Value} {d : D}, rdV K u d = true → ∃ v, RelV v u ∧ ∀ b, Dp K b v d
  | u, .none, h => ⟨.non, He.relB_ok (by unfold rdV at h; exact h), fun _ => .non⟩
  | u, .bool c, h => ⟨.bl c, He.relB_ok (by unfold rdV at h; exact h), fun _ => .bl _⟩
  | u, .int i, h => ⟨.int i, He.relB_ok (by unfold rdV at h; exact h), fun _ => .int _⟩
  | u, .str z, h => ⟨.str z, He.relB_ok (by unfold rdV at h; exact h), fun _ => .str _⟩
  | u, .tuple ds, h => by
    unfold rdV at h
    cases u with
    | ref a =>
      dsimp only at h
      cases q : K.fr.lookup a with
      | none => rw [q] at h; cases h
      | some o =>
        obtain ⟨oc, od, dt, osl⟩ := o
        rw [q] at h
        cases oc with
        | type c =>
          cases dt with
          | seq its n =>
            obtain ⟨h1, h2⟩ := He.ba h
            obtain ⟨h3, h4⟩ := He.ba h2
            obtain ⟨vs, r, dd⟩ := rdAll_ok h4
            exact ⟨.ref a, rfl, fun b => .tup (.inr ⟨_, its, n, q, congrArg Value.type (of_decide_eq_true h1), rfl, of_decide_eq_true h3, r⟩) (dd b)⟩
          | _ => cases h
        | _ => cases dt <;> cases h
    | _ => cases h
  | u, .list ds, h => by
    unfold rdV at h
    cases u with
    | ref a =>
      dsimp only at h
      cases q : K.fr.lookup a with
      | none => rw [q] at h; cases h
      | some o =>
        obtain ⟨oc, od, dt, osl⟩ := o
        rw [q] at h
        cases oc with
        | type c =>
          cases od with
          | none =>
            cases dt with
            | seq its n =>
              obtain ⟨h1, h2⟩ := He.ba h
              obtain ⟨h3, h4⟩ := He.ba h2
              obtain ⟨vs, r, dd⟩ := rdAll_ok h4
              exact ⟨.ref a, rfl, fun b => .lst (.inr ⟨_, its, n, q, congrArg Value.type (of_decide_eq_true h1), rfl, rfl, of_decide_eq_true h3, r⟩) (dd b)⟩
            | _ => cases h
          | some _ => cases dt <;> cases h
        | _ => cases od <;> cases dt <;> cases h
    | _ => cases h
  | u, .dict _, h => by unfold rdV at h; cases h
theorem rdAll_ok {K : KW} : ∀ {us : List Value} {ds : List D}, rdAll K us ds = true → ∃ vs, Vals vs us ∧ ∀ b, DpAll K b vs ds
  | [], [], _ => ⟨[], .nil, fun _ => .nil⟩
  | u :: us, d :: ds, h => by
    unfold rdAll at h
    obtain ⟨h1, h2⟩ := He.ba h
    obtain ⟨v, r, dd⟩ := rdV_ok h1
    obtain ⟨vs, rs, dds⟩ := rdAll_ok h2
    exact ⟨v :: vs, .cons r rs, fun b => .cons (dd b) (dds b)⟩
  | [], _ :: _, h => by unfold rdAll at h; cases h
  | _ :: _, [], h => by unfold rdAll at h; cases h
end
/-- the module's name x is the data d -/
def globB (K : PySem.W.Frag) (x : Str) (d : D) : Bool := match PySem.W.nsIn K mainGlobals x with
  | some (some u) => rdV K u d
  | _ => false
theorem globB_ok {K : PySem.W.Frag} {w : World} {h : Heap} {mg : Str → Option Value} (X : K.In h) (G : h.Ns mainGlobals mg) {x : Str} {d : D} (c : globB K x d = true) : Glob ⟨K, w⟩ mg x d := by
  unfold globB at c
  cases e : PySem.W.nsIn K mainGlobals x with
  | none => rw [e] at c; cases c
  | some r =>
    rw [e] at c
    cases r with
    | none => cases c
    | some u =>
      obtain ⟨v, q, dd⟩ := rdV_ok (K := ⟨K, w⟩) c
      exact ⟨u, v, PySem.W.mg_of X G e, q, dd⟩

/-! ### the law -/
theorem dpAll_ints {K : KW} {b : Hp} : ∀ ns : List Int, DpAll K b (ns.map V.int) (ns.map PyData.int)
  | [] => .nil
  | i :: r => .cons (.int i) (dpAll_ints r)
theorem law_sp {K : KW} {mg : Str → Option Value} {T : List Addr} {m : List D → R D} {H : Hp} {a : Addr} {ns : List Int} (hT : ∀ P ∈ T, H P = some (.tbl #[])) (hS : SqL K H a (ns.map V.int)) (hm : m [.list (ns.map .int)] = .ok (.bool true)) :
    spF K mg T 1 m [.ref a] H (fun v _ => v = .bl true) fun _ _ _ => False := by
  have fin : ∀ (b : Hp), (∀ P ∈ T, b P = none) → Same b H → SqL K b a (ns.map V.int) → spF K mg T 1 m [.ref a] H (fun v _ => v = .bl true) fun _ _ _ => False := fun b hb s q => by
    refine ⟨rfl, b, [.list (ns.map .int)], fun P hP => ⟨⟨#[], hT P hP, trivial⟩, hb P hP⟩, s, .cons (.lst q (dpAll_ints ns)) .nil, ?_⟩
    rw [hm]
    exact fun b' h' v x r => by cases r; rfl
  rcases hS with h | h
  · refine fin (fun c => if c = a then H a else none) (fun P hP => ?_) (fun c o e => ?_) (.inl ?_)
    · have : P ≠ a := fun z => by
        have e := hT P hP
        rw [z] at e
        rcases h with h | ⟨o, h⟩ <;> · rw [e] at h; cases h
      exact if_neg this
    · dsimp only at e
      by_cases hc : c = a
      · rw [if_pos hc] at e; rw [hc]; exact e
      · rw [if_neg hc] at e; cases e
    · rcases h with h | ⟨o, h⟩
      · exact .inl ((if_pos rfl).trans h)
      · exact .inr ⟨o, (if_pos rfl).trans h⟩
  · exact fin (fun _ => none) (fun _ _ => rfl) (fun _ _ e => by cases e) (.inr h)
theorem cx_none {P : Program} {w : World} {H : Hp} {s : Shared} {e : Value} {s' : Shared} : L2.CX P w [] H s (fun _ _ _ => False) e s' → False := fun h => by
  obtain ⟨_, _, _, _, _, _, _, _, _, _, _, _, z⟩ := h
  exact z
/-- what the end of a law's row asks -/
theorem law_at {l : PySem.W.OpenLaw} {w : World} {K : PySem.W.Frag} {mg : Str → Option Value} {h : Heap} {k : Nat} {fa : List He.Fa} {fn : List He.DefD} {ts : List He.Tab} {tf : List He.Defn} {ex : PySem.W.Frag → Bool} {x : Str} {params : Arguments} {body : List Stmt} {sc : Scope} {fd : FuncData} {f : Addr} {m : List D → R D}
    (X : K.In h) (c : He.SaysX fa fn ts tf ex w h K) (Fu : FunD K "law" "law" params body sc [] [] f fd)
    (bi : ∀ (kV doc pm : Value) (an : Option Addr) (cdv ct : Value) (us : List Value), us.length = 1 → bindArgs (PySem.W.fnOf "law" "law" params body sc .none kV doc pm an cdv ct) ⟨us, []⟩ = pure ([x].zip us))
    (hF : ∀ base : Heap, K.In base → base.Ns mainGlobals mg → (∀ p ∈ tf.map (He.cT K), LamX.TabB base mg p.1 p.2) → FnOk l.prog w K mg base (L2.CX l.prog w) k f fd [x] (spF ⟨K, w⟩ mg ((tf.map (He.cT K)).map (·.2)) 1 m))
    (hm : ∀ ns : List Int, ns.length ≤ 63 → (∀ z ∈ ns, Builtin.Int.intBits z ≤ 1048576) → m [.list (ns.map .int)] = .ok (.bool true)) : LamX.LawAtS l w K (L2.CX l.prog w) k 63 x mg f h := by
  refine ⟨fd, tf.map (He.cT K), _, fun p hp => ?_, fun p hp => ?_, fun p hp => ?_, fun s u => Fu.bindsA (ps := [x]) bi s [u] rfl, fun H a ns hl hbits hH hS => law_sp (fun P hP => ?_) hS (hm ns hl hbits), hF⟩
  · obtain ⟨q, hq, e⟩ := List.mem_map.mp hp
    rw [← e]; exact c.empty q hq
  · obtain ⟨q, hq, e⟩ := List.mem_map.mp hp
    rw [← e]; exact c.out q hq
  · obtain ⟨q, hq, e⟩ := List.mem_map.mp hp
    rw [← e]; exact PySem.W.codeHd_of_K X (c.hd q hq)
  · obtain ⟨p, hp, e⟩ := List.mem_map.mp hP
    rw [← e]; exact hH p hp
end FP
/-! FP Q: a, b = x, y of plain local names; odds and ends for printed derivations. -/
namespace FP
open PySem L2 PySem.Spec PyProof.Rows

/-- values and new things of one's own, side by side -/
inductive Mv where
  | vl (d : D)
  | ow (o : Own)
def ownAs : List V → List Mv → List Addr
  | .ref a :: vs, .ow _ :: ms => a :: ownAs vs ms
  | _ :: vs, _ :: ms => ownAs vs ms
  | _, _ => []
inductive MsOk (K : KW) (hs b h : Hp) : List V → List Mv → Prop where
  | nil : MsOk K hs b h [] []
  | vl {v : V} {d : D} {vs : List V} {ms : List Mv} (r : Dp K b v d) (t : MsOk K hs b h vs ms) : MsOk K hs b h (v :: vs) (.vl d :: ms)
  | ow {a : Addr} {o : Own} {vs : List V} {ms : List Mv} (r : OwnOk K b h a o) (n : b a = none) (m : hs a = none) (u : a ∉ ownAs vs ms) (t : MsOk K hs b h vs ms) : MsOk K hs b h (.ref a :: vs) (.ow o :: ms)
def tM (F : Fx) (n : Nat) (f : Env → R (List Mv)) : TA := fun σ h Q => ∃ b env, F.G b h σ env ∧ Po F b h σ (f env) fun ms b' h' => ∀ vs, vs.length = n → MsOk F.kw h b' h' vs ms → Q vs h'
abbrev IM (F : Fx) (n : Nat) (es : List Expr) (f : Env → R (List Mv)) : Prop := PA F.X es (tM F n f)
theorem MsOk.old {K : KW} {hs hs' b h : Hp} (u : ∀ a, hs a = none → hs' a = none) : ∀ {vs : List V} {ms : List Mv}, MsOk K hs b h vs ms → MsOk K hs' b h vs ms
  | _, _, .nil => .nil
  | _, _, .vl r t => .vl r (t.old u)
  | _, _, .ow r n m w t => .ow r n (u _ m) w (t.old u)
theorem MsOk.new_ne {K : KW} {hs b h : Hp} {a : Addr} {u : HO} (ha : hs a = some u) : ∀ {vs : List V} {ms : List Mv}, MsOk K hs b h vs ms → a ∉ ownAs vs ms
  | _, _, .nil => by intro z; cases z
  | v :: vs, .vl d :: ms, .vl r t => by
    intro z
    have z' : a ∈ ownAs vs ms := by cases v <;> exact z
    exact t.new_ne ha z'
  | _, _, .ow r n m w t => by
    intro z
    rcases List.mem_cons.mp z with e | z
    · rw [e, m] at ha; cases ha
    · exact t.new_ne ha z
section
variable {F : Fx} {a e : Expr} {es : List Expr} {fa : Env → R D} {fo : Env → R Own} {fr : Env → R (List Mv)} {n : Nat}
def mNil : Env → R (List Mv) := fun _ => .ok []
def mCons (fa : Env → R D) (fr : Env → R (List Mv)) : Env → R (List Mv) := fun env => (fa env).bnd fun x => (fr env).bnd fun xs => .ok (.vl x :: xs)
def mConsO (fo : Env → R Own) (fr : Env → R (List Mv)) : Env → R (List Mv) := fun env => (fo env).bnd fun x => (fr env).bnd fun xs => .ok (.ow x :: xs)
theorem im_nil : IM F 0 [] mNil := PA.imp pa_nil fun σ H Q ⟨b, env, G, p⟩ => p b H (Ext.refl G.bh) [] rfl .nil
theorem im_cons (ha : IE F a fa) (hr : IM F n es fr) (hs : starEach (a :: es) F.X.env = (false, eval a F.X.env) :: starEach es F.X.env := by rfl) : IM F (n + 1) (a :: es) (mCons fa fr) :=
  PA.imp (pa_cons ha hr hs) fun σ H Q ⟨b, env, G, p⟩ => ⟨b, env, G, Po.bnd p fun d _ b1 h1 x1 p1 v r => ⟨b1, env, G.grow x1, Po.bnd p1 fun ds _ b2 h2 x2 p2 vs hl rs =>
    p2 b2 h2 (Ext.refl x2.bh) (v :: vs) (by rw [List.length_cons, hl]) (.vl (dp_mono (x2.bb x1.bh) r) (rs.old fun c z => x1.up.free z))⟩⟩
theorem im_consO (ha : IF F a fo) (hr : IM F n es fr) (hs : starEach (a :: es) F.X.env = (false, eval a F.X.env) :: starEach es F.X.env := by rfl) : IM F (n + 1) (a :: es) (mConsO fo fr) :=
  PA.imp (pa_cons ha hr hs) fun σ H Q ⟨b, env, G, p⟩ => ⟨b, env, G, Po.bnd p fun o _ b1 h1 x1 p1 q u hq hu ok => ⟨b1, env, (G.grow x1).grow (Ext.newH (o := u) x1.bh hq), by
    have xq : Ext b1 h1 b1 (upd h1 q u) := Ext.newH (o := u) x1.bh hq
    refine Po.bnd (p1.grow xq) fun ds _ b2 h2 x2 p2 vs hl rs => ?_
    refine p2 b2 h2 (Ext.refl x2.bh) (.ref q :: vs) (by rw [List.length_cons, hl]) ?_
    refine .ow (ok.up (x2.bb xq.bh) x2.up) ((x2.fz q u upd_same).trans (none_sub x1.bh hq)) (x1.up.free hq) (rs.new_ne (u := u) upd_same) (rs.old fun c z => ?_)
    exact x1.up.free (xq.up.free z)⟩⟩
/-- the sum of what is stored -/
def Mv.sl : Mv → Sl
  | .vl d => .vl d
  | .ow o => .ow o
theorem Good.setM {b h hs : Hp} {σ : St} {env : Env} {i : Nat} {v : V} {m : Mv} (G : F.G b h σ env) (r : match m with
    | .vl d => Dp F.kw b v d
    | .ow o => ∃ a, v = .ref a ∧ OwnOk F.kw b h a o ∧ b a = none ∧ F.h0 a = none ∧ ∀ j o', j ≠ i → env[j]? = some (.ow o') → σ[j]? ≠ some (some (.ref a))) : F.G b h (σ.set i (some v)) (env.set i m.sl) := by
  cases m with
  | vl d => exact Good.set G r
  | ow o => obtain ⟨a, rfl, q, n, z, fr⟩ := r; exact Good.setOwn G q n z fr
def sPar (i j : Nat) (fm : Env → R (List Mv)) : Env → SR := fun env => (fm env).s env fun ms => match ms with
  | [x, y] => .nx ((env.set i x.sl).set j y.sl)
  | _ => .no
theorem fresh_own {b h hs : Hp} {σ : St} {env : Env} (G0 : F.G b hs σ env) {a : Addr} (m : hs a = none) : ∀ (j : Nat) (o' : Own), env[j]? = some (.ow o') → σ[j]? ≠ some (some (.ref a)) := fun j o' e z => by
  obtain ⟨c, ec, ok, _⟩ := G0.own e
  rw [ec] at z
  cases z
  obtain ⟨w, hw⟩ := ok.there
  rw [m] at hw
  cases hw
theorem par_set {b0 b h hs : Hp} {σ : St} {env : Env} {i j : Nat} {v w : V} {x y : Mv} (G0 : F.G b0 hs σ env) (G : F.G b h σ env) (ok : MsOk F.kw hs b h [v, w] [x, y]) : F.G b h ((σ.set i (some v)).set j (some w)) ((env.set i x.sl).set j y.sl) := by
  have up := G0.ext.up
  have one : ∀ {v : V} {x : Mv} {vs : List V} {ms : List Mv}, MsOk F.kw hs b h (v :: vs) (x :: ms) → MsOk F.kw hs b h vs ms ∧ match x with
    | .vl d => Dp F.kw b v d
    | .ow o => ∃ a, v = .ref a ∧ OwnOk F.kw b h a o ∧ b a = none ∧ F.h0 a = none ∧ hs a = none ∧ a ∉ ownAs vs ms := fun z => by
    cases z with
    | vl r t => exact ⟨t, r⟩
    | ow r n m u t => exact ⟨t, _, rfl, r, n, up.free m, m, u⟩
  obtain ⟨t1, r1⟩ := one ok
  obtain ⟨_, r2⟩ := one t1
  have G1 : F.G b h (σ.set i (some v)) (env.set i x.sl) := by
    refine Good.setM (hs := hs) G ?_
    cases x with
    | vl d => exact r1
    | ow o => obtain ⟨a, e, q, n, z, m, u⟩ := r1; exact ⟨a, e, q, n, z, fun k o' _ => fresh_own (h := h) G0 m k o'⟩
  refine Good.setM (hs := hs) G1 ?_
  cases y with
  | vl d => exact r2
  | ow o =>
    obtain ⟨a, e, q, n, z, m, _⟩ := r2
    refine ⟨a, e, q, n, z, fun k o' hk ek => ?_⟩
    by_cases hik : i = k
    · subst hik
      have hil : i < env.length := by
        have := (List.getElem?_eq_some_iff.mp ek).1
        rwa [List.length_set] at this
      rw [List.getElem?_set_self hil] at ek
      cases x with
      | vl d => cases ek
      | ow o1 =>
        obtain ⟨a1, e1, _, _, _, _, u⟩ := r1
        rw [List.getElem?_set_self (by rw [G.len]; exact hil)]
        subst e e1
        intro z2
        have z3 : a1 = a := by injection z2 with z2; injection z2 with z2; injection z2
        exact u (by rw [z3]; exact List.mem_cons_self)
    · rw [List.getElem?_set_ne hik] at ek ⊢
      exact fresh_own (h := h) G0 m k o' ek
theorem is_par (i j : Nat) {x y : Str} {a c : Expr} {px py pt pos : Pos} {kt k2 : Nat} {pt2 : Pos} {fm : Env → R (List Mv)} (ha : IM F 2 [a, c] fm) (hi : F.X.N[i]? = some x := by rfl) (hj : F.X.N[j]? = some y := by rfl) (hij : i ≠ j := by decide)
    (hx : F.X.env.scope.names.lookup x = some .local := by rfl) (hy : F.X.env.scope.names.lookup y = some .local := by rfl)
    (hw : swappedStores [.Tuple [.Name x px, .Name y py] kt pt] (.Tuple [a, c] k2 pt2) F.X.env = pure (some [x, y]) := by rfl)
    (hs : swapsWithSole [.Tuple [.Name x px, .Name y py] kt pt] (.Tuple [a, c] k2 pt2) pos.line F.X.env = pure false := by rfl) (hsu : F.sui = false := by rfl) :
    IS F (.Assign [.Tuple [.Name x px, .Name y py] kt pt] (.Tuple [a, c] k2 pt2) pos) (sPar i j fm) :=
  PS.imp (ps_par (F.calm hsu) F.nd hi hj hij hx hy ha hw hs) fun Dn σ H ⟨b, env, G, p⟩ => ⟨b, env, G, PoS.bnd G p fun ms _ b1 h1 x1 G1 p1 vs hl ok => by
    cases ok with
    | nil => cases hl
    | vl r t =>
      cases t with
      | nil => cases hl
      | vl r2 t2 =>
        cases t2 with
        | nil => exact ⟨_, _, rfl, p1 b1 h1 _ (Same.refl _) (par_set G G1 (.vl r (.vl r2 .nil)))⟩
        | vl _ _ => simp at hl
        | ow _ _ _ _ _ => simp at hl
      | ow r2 n2 m2 u2 t2 =>
        cases t2 with
        | nil => exact ⟨_, _, rfl, p1 b1 h1 _ (Same.refl _) (par_set G G1 (.vl r (.ow r2 n2 m2 u2 .nil)))⟩
        | vl _ _ => simp at hl
        | ow _ _ _ _ _ => simp at hl
    | ow r n m u t =>
      cases t with
      | nil => cases hl
      | vl r2 t2 =>
        cases t2 with
        | nil => exact ⟨_, _, rfl, p1 b1 h1 _ (Same.refl _) (par_set G G1 (.ow r n m u (.vl r2 .nil)))⟩
        | vl _ _ => simp at hl
        | ow _ _ _ _ _ => simp at hl
      | ow r2 n2 m2 u2 t2 =>
        cases t2 with
        | nil => exact ⟨_, _, rfl, p1 b1 h1 _ (Same.refl _) (par_set G G1 (.ow r n m u (.ow r2 n2 m2 u2 .nil)))⟩
        | vl _ _ => simp at hl
        | ow _ _ _ _ _ => simp at hl⟩
/-! ### short names of what the rules say -/
def eNew (fo : Env → R Own) : Env → R D := fun env => (fo env).bnd ofOwn
def eTup (fr : Env → R (List D)) : Env → R D := fun env => (fr env).bnd fun xs => .ok (.tuple xs)
def eLst (fr : Env → R (List D)) : Env → R Own := fun env => (fr env).bnd fun xs => .ok (.lst xs)
def eCall (fr : Env → R (List D)) (m : List D → R D) : Env → R D := fun env => (fr env).bnd m
def eIsi (T : Ty) (fa : Env → R D) : Env → R D := fun env => (fa env).bnd (isiR T)
def tIsN (fa : Env → R D) : Env → R Bool := fun env => (fa env).bnd fun d => .ok (isNone d)
def tNotNn (fa : Env → R D) : Env → R Bool := fun env => (fa env).bnd fun d => .ok (!isNone d)
def eIsN (fa : Env → R D) : Env → R D := eOfB (tIsN fa)
def iItems (fa : Env → R D) : Env → R (List D) := fun env => (fa env).bnd items
def iRng1 (fa : Env → R D) : Env → R (List D) := fun env => (fa env).bnd rng1
def iRng2 (fa fc : Env → R D) : Env → R (List D) := fun env => (fa env).bnd fun x => (fc env).bnd fun y => rng2 x y
def oNone : Env → R (Option Int) := fun _ => .ok none
def oSome (fa : Env → R D) : Env → R (Option Int) := fun env => (fa env).bnd toI
def sBrk : Env → SR := fun env => .bk env
def sCnt : Env → SR := fun env => .ct env
def sRetN : Env → SR := fun _ => .rt .none
theorem hu64 : F.X.A.units + 64 < cLine := by have := F.room.un; omega
theorem hu65 : F.X.A.units + 65 < cLine := by have := F.room.un; omega
end
end FP
/-! FP R: the laws' common defs: a cell, a draw. -/
namespace FP
open PySem L2 PySem.Spec PyProof.Rows

def cellSV : Env → SR := (sSeq (sIf (eBin pyLt (eO 1) (eUn pyLen (eO 0))) (sRet (eBin pyIx (eO 0) (eO 1))) sNil) (sRet (eC (.int 0))))
def cellF : List D → R D := fun ds => (cellSV (env0 2 ds)).r
def drawSV : Env → SR := (sSeq (sSet 3 (eCall (aCons (eV 0) (aCons (eV 1) aNil)) cellF)) (sSeq (sIf (eBin pyLt (eO 3) (eC (.int 0))) (sSet 3 (eUn pyNeg (eO 3))) sNil) (sSeq (sSetO 4 (eLst aNil)) (sSeq (sIf (eBin pyGe (eO 3) (eBin pyPow (eC (.int 10)) (eC (.int 18)))) (sSeq (sSet 3 (eBin pySub (eO 3) (eBin pyPow (eC (.int 10)) (eC (.int 18))))) (sSeq (sForE (iItems (eV 2)) (gNm 5) (sSeq (sApp 4 (eBin pyMod (eO 3) (eO 5))) (sSet 3 (eBin pyFdiv (eO 3) (eO 5))))) (sFz 4 (sRet (eV 4))))) sNil) (sSeq (sSet 6 (eBin pyMod (eBin pyAdd (eBin pyAdd (eO 3) (eC (.int 1))) (eBin pyMul (eC (.int 31)) (eO 1))) (eC (.int 2147483647)))) (sSeq (sForE (iRng1 (eUn pyLen (eO 2))) (gNm 7) (sSeq (sSet 6 (eBin pyMod (eBin pyAdd (eBin pyAdd (eBin pyMul (eO 6) (eC (.int 48271))) (eC (.int 11))) (eO 7)) (eC (.int 2147483647)))) (sSeq (sSet 6 (eBin pyMod (eBin pyAdd (eBin pyMul (eO 6) (eC (.int 69621))) (eC (.int 3))) (eC (.int 2147483647)))) (sApp 4 (eBin pyMod (eBin pyFdiv (eO 6) (eC (.int 7))) (eBin pyIx (eO 2) (eO 7))))))) (sFz 4 (sRet (eV 4)))))))))
def drawF : List D → R D := fun ds => (drawSV (env0 8 ds)).r

/-! ### steps -/
theorem sSeq_nx {s1 s2 : Env → SR} {env env' : Env} (h : s1 env = .nx env') : sSeq s1 s2 env = s2 env' := by unfold sSeq; rw [h]
theorem sSeq_rt {s1 s2 : Env → SR} {env : Env} {d : D} (h : s1 env = .rt d) : sSeq s1 s2 env = .rt d := by unfold sSeq; rw [h]
theorem sIf_t {g : Env → R Bool} {s1 s2 : Env → SR} {env : Env} (h : g env = .ok true) : sIf g s1 s2 env = s1 env := by unfold sIf; rw [h]; rfl
theorem sIf_f {g : Env → R Bool} {s1 s2 : Env → SR} {env : Env} (h : g env = .ok false) : sIf g s1 s2 env = s2 env := by unfold sIf; rw [h]; rfl
theorem sIf_b {g : Env → R Bool} {s1 s2 : Env → SR} {env : Env} {c : Bool} (h : g env = .ok c) : sIf g s1 s2 env = if c then s1 env else s2 env := by unfold sIf; rw [h]; rfl
theorem sSet_ok {i : Nat} {fa : Env → R D} {env : Env} {d : D} (h : fa env = .ok d) : sSet i fa env = .nx (env.set i (.vl d)) := by unfold sSet; rw [h]; rfl
theorem sSetO_ok {i : Nat} {fa : Env → R Own} {env : Env} {d : Own} (h : fa env = .ok d) : sSetO i fa env = .nx (env.set i (.ow d)) := by unfold sSetO; rw [h]; rfl
theorem sRet_ok {fa : Env → R D} {env : Env} {d : D} (h : fa env = .ok d) : sRet fa env = .rt d := by unfold sRet; rw [h]; rfl
theorem sForE_ok {f : Env → R (List D)} {t : Tg} {sb : Env → SR} {env : Env} {ds : List D} (h : f env = .ok ds) : sForE f t sb env = sFor t sb ds env := by unfold sForE; rw [h]; rfl
theorem sWhile_t {g : Env → R Bool} {sb : Env → SR} {n : Nat} {env env' : Env} (h : g env = .ok true) (hb : sb env = .nx env') : sWhile g sb (n + 1) env = sWhile g sb n env' := by
  show (g env).s env _ = _
  rw [h]
  show (match sb env with | .nx env' => sWhile g sb n env' | .ct env' => sWhile g sb n env' | .bk env' => .nx env' | r => r) = _
  rw [hb]
theorem sWhile_rt {g : Env → R Bool} {sb : Env → SR} {n : Nat} {env : Env} {d : D} (h : g env = .ok true) (hb : sb env = .rt d) : sWhile g sb (n + 1) env = .rt d := by
  show (g env).s env _ = _
  rw [h]
  show (match sb env with | .nx env' => sWhile g sb n env' | .ct env' => sWhile g sb n env' | .bk env' => .nx env' | r => r) = _
  rw [hb]
theorem sWhile_f {g : Env → R Bool} {sb : Env → SR} {n : Nat} {env : Env} (h : g env = .ok false) : sWhile g sb (n + 1) env = .nx env := by
  show (g env).s env _ = _
  rw [h]; rfl
theorem sFor_nx {t : Tg} {sb : Env → SR} {x : D} {xs : List D} {env env1 env' : Env} (h1 : t x env = some env1) (h : sb env1 = .nx env') : sFor t sb (x :: xs) env = sFor t sb xs env' := by
  show (match t x env with | none => SR.no | some env1 => _) = _
  rw [h1]
  show (match sb env1 with | .nx env' => sFor t sb xs env' | .ct env' => sFor t sb xs env' | .bk env' => .nx env' | r => r) = _
  rw [h]

/-! ### cells -/
theorem cellF_eq (ns : List Int) (k : Nat) : cellF [.list (ns.map .int), .int k] = .ok (.int (ns.getD k 0)) := by
  have env : env0 2 [.list (ns.map .int), .int k] = [.vl (.list (ns.map .int)), .vl (.int k)] := rfl
  unfold cellF
  rw [env]
  unfold cellSV
  have ht : (eBin pyLt (eO 1) (eUn pyLen (eO 0))) [.vl (.list (ns.map .int)), .vl (.int k)] = .ok (decide ((k : Int) < ((ns.map PyData.int).length : Nat))) := rfl
  by_cases h : (k : Int) < ((ns.map PyData.int).length : Nat)
  · have ht' := ht
    rw [decide_eq_true h] at ht'
    have hk : k < ns.length := by simpa using h
    have hr : (eBin pyIx (eO 0) (eO 1)) [.vl (.list (ns.map .int)), .vl (.int k)] = .ok (.int (ns.getD k 0)) := by
      show RO (atP (ns.map PyData.int) (k : Int)) = _
      unfold atP
      rw [if_pos (Int.natCast_nonneg k), Int.toNat_natCast, List.getElem?_map, List.getElem?_eq_getElem hk]
      show R.ok (PyData.int ns[k]) = _
      rw [List.getD_eq_getElem?_getD, List.getElem?_eq_getElem hk]
      rfl
    rw [sSeq_rt ((sIf_t ht').trans (sRet_ok hr))]
    rfl
  · have ht' := ht
    rw [decide_eq_false h] at ht'
    have hk : ¬ k < ns.length := by simpa using h
    rw [sSeq_nx ((sIf_f ht').trans (show sNil _ = SR.nx _ from rfl))]
    show R.ok (PyData.int 0) = _
    rw [List.getD_eq_getElem?_getD, List.getElem?_eq_none (by omega)]
    rfl

/-! ### draws -/
/-- digits below their sizes -/
inductive Dig : List Int → List Int → Prop where
  | nil : Dig [] []
  | cons {d s : Int} {ds ss : List Int} (h0 : 0 ≤ d) (h1 : d < s) (t : Dig ds ss) : Dig (d :: ds) (s :: ss)
theorem Dig.snoc {d s : Int} : ∀ {ds ss : List Int}, Dig ds ss → 0 ≤ d → d < s → Dig (ds ++ [d]) (ss ++ [s])
  | _, _, .nil, h0, h1 => .cons h0 h1 .nil
  | _, _, .cons a b t, h0, h1 => .cons a b (t.snoc h0 h1)
theorem Dig.len : ∀ {ds ss : List Int}, Dig ds ss → ds.length = ss.length
  | _, _, .nil => rfl
  | _, _, .cons _ _ t => by simp [t.len]
abbrev dEnv (a b c : D) (cell : Int) (dr : List Int) (e5 e6 e7 : Sl) : Env := [.vl a, .vl b, .vl c, .vl (.int cell), .ow (.lst (dr.map .int)), e5, e6, e7]
def loopA : Env → SR := sSeq (sApp 4 (eBin pyMod (eO 3) (eO 5))) (sSet 3 (eBin pyFdiv (eO 3) (eO 5)))
theorem app_step {a b c : D} {cell : Int} {dr : List Int} {e5 e6 e7 : Sl} {fa : Env → R D} {d : Int} (h : fa (dEnv a b c cell dr e5 e6 e7) = .ok (.int d)) (hl : dr.length < 1000) : sApp 4 fa (dEnv a b c cell dr e5 e6 e7) = .nx (dEnv a b c cell (dr ++ [d]) e5 e6 e7) := by
  show (fa (dEnv a b c cell dr e5 e6 e7)).s _ _ = _
  rw [h]
  show (if (dr.map PyData.int).length < sizeLine then SR.nx _ else SR.no) = _
  rw [if_pos (by rw [List.length_map]; exact Nat.lt_of_lt_of_le hl (by decide))]
  show SR.nx _ = SR.nx _
  congr 1
  show [_, _, _, _, Sl.ow (.lst (dr.map PyData.int ++ [PyData.int d])), _, _, _] = _
  simp
theorem loopA_ok {a b c : D} {e6 e7 : Sl} : ∀ (ss done : List Int) (cell : Int) (dr : List Int) (e5 : Sl), (∀ s ∈ ss, 0 < s ∧ s < 1073741824) → 0 ≤ cell → Dig dr done → (done ++ ss).length ≤ 999 →
    ∃ cell' ds e5', sFor (gNm 5) loopA (ss.map .int) (dEnv a b c cell dr e5 e6 e7) = .nx (dEnv a b c cell' ds e5' e6 e7) ∧ Dig ds (done ++ ss)
  | [], done, cell, dr, e5, _, _, hd, _ => ⟨cell, dr, e5, rfl, by rw [List.append_nil]; exact hd⟩
  | s :: ss, done, cell, dr, e5, hs, hc, hd, hl => by
    obtain ⟨h0, h1⟩ := hs s (by simp)
    have hl2 : dr.length < 1000 := by
      have := hd.len
      simp only [List.length_append, List.length_cons] at hl; omega
    obtain ⟨cell', ds, e5', e, q⟩ := loopA_ok (a := a) (b := b) (c := c) (e6 := e6) (e7 := e7) ss (done ++ [s]) (cell / s) (dr ++ [cell % s]) (.vl (.int s)) (fun x hx => hs x (by simp [hx])) (Int.ediv_nonneg hc (by omega)) (hd.snoc (Int.emod_nonneg _ (by omega)) (Int.emod_lt_of_pos _ h0)) (by simpa using hl)
    refine ⟨cell', ds, e5', ?_, by simpa using q⟩
    refine (sFor_nx (env1 := dEnv a b c cell dr (.vl (.int s)) e6 e7) rfl ?_).trans e
    unfold loopA
    refine (sSeq_nx (app_step (d := cell % s) ?_ hl2)).trans (sSet_ok ?_)
    · show (if 0 < s then R.ok (PyData.int (cell % s)) else .no) = _
      rw [if_pos h0]
    · show (if 0 < s ∧ s < 1073741824 then R.ok (PyData.int (cell / s)) else .no) = _
      rw [if_pos ⟨h0, h1⟩]
def loopB : Env → SR := (sSeq (sSet 6 (eBin pyMod (eBin pyAdd (eBin pyAdd (eBin pyMul (eO 6) (eC (.int 48271))) (eC (.int 11))) (eO 7)) (eC (.int 2147483647)))) (sSeq (sSet 6 (eBin pyMod (eBin pyAdd (eBin pyMul (eO 6) (eC (.int 69621))) (eC (.int 3))) (eC (.int 2147483647)))) (sApp 4 (eBin pyMod (eBin pyFdiv (eO 6) (eC (.int 7))) (eBin pyIx (eO 2) (eO 7))))))
abbrev bEnv (a b : D) (ss : List Int) (cell : Int) (dr : List Int) (e5 : Sl) (mixed : Int) (e7 : Sl) : Env := [.vl a, .vl b, .vl (.list (ss.map .int)), .vl (.int cell), .ow (.lst (dr.map .int)), e5, .vl (.int mixed), e7]
theorem mod_pos (x : Int) {m : Int} (h : 0 < m) : pyMod (.int x) (.int m) = .ok (.int (x % m)) := by
  show (if 0 < m then R.ok (PyData.int (x % m)) else .no) = _
  rw [if_pos h]
theorem mul_ok {x : Int} (y : Int) (h : x.natAbs < 2 ^ 64) : pyMul (.int x) (.int y) = .ok (.int (x * y)) := by
  show (if x.natAbs < 2 ^ 64 then R.ok (PyData.int (x * y)) else .no) = _
  rw [if_pos h]
theorem eBin_ok {α : Type} {g : D → D → R α} {fa fb : Env → R D} {env : Env} {x y : D} (ha : fa env = .ok x) (hb : fb env = .ok y) : eBin g fa fb env = g x y := by
  unfold eBin
  rw [ha]
  show (fb env).bnd _ = _
  rw [hb]
  rfl
theorem eBin_to {α : Type} {g : D → D → R α} {fa fb : Env → R D} {env : Env} {x y : D} {z : α} (ha : fa env = .ok x) (hb : fb env = .ok y) (h : g x y = .ok z) : eBin g fa fb env = .ok z := (eBin_ok ha hb).trans h
theorem eO_vl {i : Nat} {env : Env} {d : D} (h : env[i]? = some (.vl d)) : eO i env = .ok d := by unfold eO; rw [h]
theorem eV_vl {i : Nat} {env : Env} {d : D} (h : env[i]? = some (.vl d)) : eV i env = .ok d := by unfold eV; rw [h]
theorem eO_ow {i : Nat} {env : Env} {l : List D} (h : env[i]? = some (.ow (.lst l))) : eO i env = .ok (.list l) := by unfold eO; rw [h]
theorem add_i (x y : Int) : pyAdd (.int x) (.int y) = .ok (.int (x + y)) := rfl
theorem ix_at {ss : List Int} {j : Nat} {s : Int} (h : ss[j]? = some s) : pyIx (.list (ss.map .int)) (.int j) = .ok (.int s) := by
  show RO (atP (ss.map PyData.int) (j : Int)) = _
  unfold atP
  rw [if_pos (Int.natCast_nonneg j), Int.toNat_natCast, List.getElem?_map, h]
  rfl
theorem loopB_ok {a b : D} {ss : List Int} {cell : Int} {e5 : Sl} (hs : ∀ s ∈ ss, 0 < s ∧ s < 1073741824) (hl : ss.length ≤ 999) : ∀ (n j : Nat) (dr : List Int) (mixed : Int) (e7 : Sl), j + n = ss.length → Dig dr (ss.take j) → 0 ≤ mixed → mixed < 2147483647 →
    ∃ mixed' ds e7', sFor (gNm 7) loopB ((List.range' j n).map fun i : Nat => PyData.int (i : Int)) (bEnv a b ss cell dr e5 mixed e7) = .nx (bEnv a b ss cell ds e5 mixed' e7') ∧ Dig ds ss
  | 0, j, dr, mixed, e7, hj, hd, _, _ => ⟨mixed, dr, e7, rfl, by rw [List.take_of_length_le (by omega)] at hd; exact hd⟩
  | n + 1, j, dr, mixed, e7, hj, hd, h0, h1 => by
    have hjl : j < ss.length := by omega
    have es : ss[j]? = some ss[j] := List.getElem?_eq_getElem hjl
    obtain ⟨q0, q1⟩ := hs ss[j] (List.getElem_mem hjl)
    have hl2 : dr.length < 1000 := by
      have := hd.len
      rw [List.length_take] at this; omega
    have p : (0 : Int) < 2147483647 := by decide
    have m1 : 0 ≤ (mixed * 48271 + 11 + (j : Int)) % 2147483647 := Int.emod_nonneg _ (by decide)
    have m2 : (mixed * 48271 + 11 + (j : Int)) % 2147483647 < 2147483647 := Int.emod_lt_of_pos _ p
    generalize hA : (mixed * 48271 + 11 + (j : Int)) % 2147483647 = A at m1 m2
    have m3 : 0 ≤ (A * 69621 + 3) % 2147483647 := Int.emod_nonneg _ (by decide)
    have m4 : (A * 69621 + 3) % 2147483647 < 2147483647 := Int.emod_lt_of_pos _ p
    generalize hB : (A * 69621 + 3) % 2147483647 = B at m3 m4
    have hd' : Dig (dr ++ [B / 7 % ss[j]]) (ss.take (j + 1)) := by
      rw [List.take_add_one, es]
      exact hd.snoc (Int.emod_nonneg _ (by omega)) (Int.emod_lt_of_pos _ q0)
    obtain ⟨mixed', ds, e7', e, q⟩ := loopB_ok (a := a) (b := b) (cell := cell) (e5 := e5) hs hl n (j + 1) (dr ++ [B / 7 % ss[j]]) B (.vl (.int j)) (by omega) hd' m3 m4
    refine ⟨mixed', ds, e7', ?_, q⟩
    rw [List.range'_succ, List.map_cons]
    refine (sFor_nx (env1 := bEnv a b ss cell dr e5 mixed (.vl (.int j))) rfl ?_).trans e
    unfold loopB
    refine (sSeq_nx (env' := bEnv a b ss cell dr e5 A (.vl (.int j))) ((sSet_ok (d := .int A) ?_).trans rfl)).trans ?_
    · rw [← hA]
      exact eBin_to (eBin_to (eBin_to (eBin_to (eO_vl rfl) rfl (mul_ok _ (by omega))) rfl (add_i _ _)) (eO_vl rfl) (add_i _ _)) rfl (mod_pos _ p)
    refine (sSeq_nx (env' := bEnv a b ss cell dr e5 B (.vl (.int j))) ((sSet_ok (d := .int B) ?_).trans rfl)).trans ?_
    · rw [← hB]
      exact eBin_to (eBin_to (eBin_to (eO_vl rfl) rfl (mul_ok _ (by omega))) rfl (add_i _ _)) rfl (mod_pos _ p)
    show (((eBin pyMod (eBin pyFdiv (eO 6) (eC (.int 7))) (eBin pyIx (eO 2) (eO 7))) (bEnv a b ss cell dr e5 B (.vl (.int j)))).s _ _) = _
    rw [eBin_to (z := PyData.int (B / 7 % ss[j])) (eBin_to (eO_vl rfl) rfl rfl) (eBin_to (eO_vl rfl) (eO_vl rfl) (ix_at es)) (mod_pos _ q0)]
    show (if (dr.map PyData.int).length < sizeLine then SR.nx _ else SR.no) = _
    rw [if_pos (by rw [List.length_map]; exact Nat.lt_of_lt_of_le hl2 (by decide))]
    show SR.nx _ = SR.nx _
    congr 1
    show [_, _, _, _, Sl.ow (.lst (dr.map PyData.int ++ [PyData.int (B / 7 % ss[j])])), _, _, _] = _
    simp
theorem up_range (n : Nat) : upFrom 0 n = (List.range' 0 n).map fun i : Nat => PyData.int (i : Int) := by
  unfold upFrom
  rw [List.range_eq_range']
  exact List.map_congr_left fun i _ => by rw [Int.zero_add]
theorem rng1_nat {n : Nat} (h : n < 4611686018427387904) : rng1 (.int n) = .ok ((List.range' 0 n).map fun i : Nat => PyData.int (i : Int)) := by
  unfold rng1
  dsimp only
  rw [if_pos ⟨by omega, by omega⟩, Int.toNat_natCast, up_range]
theorem bnd_k {α β : Type} (x : α) (k : α → R β) : (R.ok x).bnd k = k x := rfl
theorem iRng1_to {fa : Env → R D} {env : Env} {n : Nat} (ha : fa env = .ok (.int n)) (h : n < 4611686018427387904) : iRng1 fa env = .ok ((List.range' 0 n).map fun i : Nat => PyData.int (i : Int)) := by
  unfold iRng1
  rw [ha, bnd_k, rng1_nat h]
theorem eUn_to {g : D → R D} {fa : Env → R D} {env : Env} {x z : D} (ha : fa env = .ok x) (h : g x = .ok z) : eUn g fa env = .ok z := by
  unfold eUn
  rw [ha]
  exact h
/-- a draw: its digits are below their sizes -/
theorem drawF_ok (ns : List Int) (k : Nat) (ss : List Int) (hk : k ≤ 1000000) (hs : ∀ s ∈ ss, 0 < s ∧ s < 1073741824) (hl : ss.length ≤ 999) : ∃ ds : List Int, drawF [.list (ns.map .int), .int k, .list (ss.map .int)] = .ok (.list (ds.map .int)) ∧ Dig ds ss := by
  unfold drawF
  have e0 : env0 8 [.list (ns.map .int), .int k, .list (ss.map .int)] = [.vl (.list (ns.map .int)), .vl (.int k), .vl (.list (ss.map .int)), .no, .no, .no, .no, .no] := rfl
  rw [e0]
  generalize ha : PyData.list (ns.map .int) = a
  have hcell : cellF [a, .int k] = .ok (.int (ns.getD k 0)) := by rw [← ha]; exact cellF_eq ns k
  generalize ns.getD k 0 = c0 at hcell
  suffices h : ∃ ds : List Int, drawSV [.vl a, .vl (.int k), .vl (.list (ss.map .int)), .no, .no, .no, .no, .no] = .rt (.list (ds.map .int)) ∧ Dig ds ss by
    obtain ⟨ds, h, q⟩ := h
    exact ⟨ds, congrArg SR.r h, q⟩
  unfold drawSV
  -- if cell < 0
  have h1 : ∃ c1 : Int, 0 ≤ c1 ∧ sIf (eBin pyLt (eO 3) (eC (.int 0))) (sSet 3 (eUn pyNeg (eO 3))) sNil [.vl a, .vl (.int k), .vl (.list (ss.map .int)), .vl (.int c0), .no, .no, .no, .no] = .nx [.vl a, .vl (.int k), .vl (.list (ss.map .int)), .vl (.int c1), .no, .no, .no, .no] := by
    by_cases h : c0 < 0
    · exact ⟨-c0, by omega, (sIf_t (show R.ok (decide (c0 < 0)) = _ by rw [decide_eq_true h])).trans rfl⟩
    · exact ⟨c0, by omega, (sIf_f (show R.ok (decide (c0 < 0)) = _ by rw [decide_eq_false h])).trans rfl⟩
  obtain ⟨c1, hc1, h1⟩ := h1
  have st0 : ∀ {r : SR} {s2 : Env → SR}, s2 [.vl a, .vl (.int k), .vl (.list (ss.map .int)), .vl (.int c1), .ow (.lst []), .no, .no, .no] = r →
      sSeq (sSet 3 (eCall (aCons (eV 0) (aCons (eV 1) aNil)) cellF)) (sSeq (sIf (eBin pyLt (eO 3) (eC (.int 0))) (sSet 3 (eUn pyNeg (eO 3))) sNil) (sSeq (sSetO 4 (eLst aNil)) s2)) [.vl a, .vl (.int k), .vl (.list (ss.map .int)), .no, .no, .no, .no, .no] = r := fun {r s2} h =>
    (sSeq_nx (env' := [.vl a, .vl (.int k), .vl (.list (ss.map .int)), .vl (.int c0), .no, .no, .no, .no]) ((sSet_ok (d := .int c0) hcell).trans rfl)).trans ((sSeq_nx h1).trans ((sSeq_nx (env' := [.vl a, .vl (.int k), .vl (.list (ss.map .int)), .vl (.int c1), .ow (.lst []), .no, .no, .no]) rfl).trans h))
  by_cases hbig : (10 : Int) ^ 18 ≤ c1
  · -- the digits of the cell
    obtain ⟨cell', ds, e5', e, q⟩ := loopA_ok (a := a) (b := .int k) (c := .list (ss.map .int)) (e6 := .no) (e7 := .no) ss [] (c1 - 10 ^ 18) [] .no hs (by omega) .nil (by simpa using hl)
    refine ⟨ds, st0 (sSeq_rt ((sIf_t (show R.ok (decide ((10 : Int) ^ 18 ≤ c1)) = _ by rw [decide_eq_true hbig])).trans ?_)), by simpa using q⟩
    refine (sSeq_nx (env' := dEnv a (.int k) (.list (ss.map .int)) (c1 - 10 ^ 18) [] .no .no .no) rfl).trans ?_
    exact (sSeq_nx (env' := dEnv a (.int k) (.list (ss.map .int)) cell' ds e5' .no .no) ((sForE_ok (ds := ss.map .int) rfl).trans e)).trans rfl
  · have g1 : 0 ≤ (c1 + 1 + 31 * (k : Int)) % 2147483647 := Int.emod_nonneg _ (by decide)
    have g2 : (c1 + 1 + 31 * (k : Int)) % 2147483647 < 2147483647 := Int.emod_lt_of_pos _ (by decide)
    generalize hM : (c1 + 1 + 31 * (k : Int)) % 2147483647 = M at g1 g2
    obtain ⟨mixed', ds, e7', e, q⟩ := loopB_ok (a := a) (b := .int k) (cell := c1) (e5 := .no) hs hl ss.length 0 [] M .no (by omega) .nil g1 g2
    refine ⟨ds, st0 ((sSeq_nx ((sIf_f (show R.ok (decide ((10 : Int) ^ 18 ≤ c1)) = _ by rw [decide_eq_false hbig])).trans (show sNil _ = SR.nx _ from rfl))).trans ?_), q⟩
    refine (sSeq_nx (env' := bEnv a (.int k) ss c1 [] .no M .no) ((sSet_ok (d := .int M) ?_).trans rfl)).trans ?_
    · rw [← hM]
      exact eBin_to (eBin_to (eBin_to (eO_vl rfl) rfl (add_i _ _)) (eBin_to rfl (eO_vl rfl) (mul_ok _ (by decide))) (add_i _ _)) rfl (mod_pos _ (by decide))
    · refine (sSeq_nx (env' := bEnv a (.int k) ss c1 ds .no mixed' e7') ((sForE_ok (ds := (List.range' 0 ss.length).map fun i : Nat => PyData.int (i : Int)) ?_).trans e)).trans rfl
      refine iRng1_to (eUn_to (eO_vl rfl) ?_) (by omega)
      show R.ok (PyData.int ((ss.map PyData.int).length : Nat)) = _
      rw [List.length_map]
end FP
/-! FP S: texts as lists of codes, in mirrors. -/
namespace FP
open PySem L2 PySem.Spec PyProof.Rows

theorem big : (1000000 : Nat) ≤ sizeLine := by decide
theorem len_mkS (L : List Nat) : (mkS L).length = L.length := by rw [← len_tl, tl_mkS]
theorem eqS (a b : Str) : pyEq (.str a) (.str b) = .ok (leq (tl a) (tl b)) := rfl
theorem neS (a b : Str) : pyNe (.str a) (.str b) = .ok (!leq (tl a) (tl b)) := rfl
theorem leq_refl : ∀ l : List Nat, leq l l = true := fun l => by rw [leq_eq]; exact beq_self_eq_true l
theorem leq_ne {a b : List Nat} (h : a ≠ b) : leq a b = false := by rw [leq_eq]; exact beq_eq_false_iff_ne.mpr h
theorem leq_of {a b : List Nat} (h : leq a b = true) : a = b := by rw [leq_eq] at h; exact eq_of_beq h
theorem ixS {L : List Nat} {j c : Nat} (h : L[j]? = some c) (hL : L.length ≤ 1000000) : pyIx (.str (mkS L)) (.int j) = .ok (sg c) := by
  unfold pyIx
  dsimp only
  rw [if_pos (by rw [len_mkS]; exact Nat.le_trans hL big), tl_mkS]
  unfold atP
  rw [if_pos (Int.natCast_nonneg j), Int.toNat_natCast, h]
  rfl
theorem inS (c : Nat) (z : Str) : pyIn (sg c) (.str z) = .ok (decide (c ∈ tl z)) := rfl
theorem lenS {L : List Nat} (hL : L.length ≤ 1000000) : pyLen (.str (mkS L)) = .ok (.int L.length) := by
  unfold pyLen
  dsimp only
  rw [if_pos (by rw [len_mkS]; exact Nat.le_trans hL big), tl_mkS]
theorem slS {L : List Nat} {i j : Nat} (hL : L.length ≤ 1000000) : pySl (some (i : Int)) (some (j : Int)) (.str (mkS L)) = .ok (.str (mkS ((L.drop i).take (min j L.length - min i L.length)))) := by
  unfold pySl
  dsimp only
  rw [if_pos (by rw [len_mkS]; exact Nat.le_trans hL big), tl_mkS]
  have e1 : cutIx L.length 0 (some (i : Int)) = min i L.length := by
    show (if (i : Int) < 0 then ((i : Int) + L.length).toNat else min (i : Int).toNat L.length) = _
    rw [if_neg (by omega), Int.toNat_natCast]
  have e2 : cutIx L.length L.length (some (j : Int)) = min j L.length := by
    show (if (j : Int) < 0 then ((j : Int) + L.length).toNat else min (j : Int).toNat L.length) = _
    rw [if_neg (by omega), Int.toNat_natCast]
  unfold cut
  rw [e1, e2]
  congr 4
  rcases Nat.le_total i L.length with h | h
  · rw [Nat.min_eq_left h]
  · rw [Nat.min_eq_right h, List.drop_of_length_le (Nat.le_refl _), List.drop_of_length_le h]
/-- a piece of p ++ w ++ r -/
theorem slS_mid {p w r : List Nat} (hL : (p ++ w ++ r).length ≤ 1000000) : pySl (some (p.length : Int)) (some ((p ++ w).length : Int)) (.str (mkS (p ++ w ++ r))) = .ok (.str (mkS w)) := by
  rw [slS hL]
  congr 3
  have e1 : min (p ++ w).length (p ++ w ++ r).length - min p.length (p ++ w ++ r).length = w.length := by
    simp only [List.length_append]; omega
  rw [e1, List.append_assoc, List.drop_left, List.take_left]
theorem addS {a b : List Nat} (h : a.length + b.length ≤ 1000000) : pyAdd (.str (mkS a)) (.str (mkS b)) = .ok (.str (mkS (a ++ b))) := by
  unfold pyAdd
  dsimp only
  rw [if_pos (by rw [len_mkS, len_mkS]; exact Nat.le_trans h big), tl_mkS, tl_mkS]
theorem eSl_to {fa : Env → R D} {fl fh : Env → R (Option Int)} {env : Env} {x z : D} {lo hi : Option Int} (ha : fa env = .ok x) (hl : fl env = .ok lo) (hh : fh env = .ok hi) (h : pySl lo hi x = .ok z) : eSl fa fl fh env = .ok z := by
  unfold eSl
  rw [ha, bnd_k, hl, bnd_k, hh, bnd_k, h]
theorem oSome_to {fa : Env → R D} {env : Env} {i : Int} (ha : fa env = .ok (.int i)) : oSome fa env = .ok (some i) := by
  unfold oSome
  rw [ha]; rfl
theorem and_tt {ga gb : Env → R Bool} {env : Env} {c : Bool} (ha : ga env = .ok true) (hb : gb env = .ok c) : tAndR ga gb env = .ok c := by
  unfold tAndR
  rw [ha]; exact hb
theorem and_f {ga gb : Env → R Bool} {env : Env} (ha : ga env = .ok false) : tAndR ga gb env = .ok false := by
  unfold tAndR
  rw [ha]; rfl
theorem or_t {ga gb : Env → R Bool} {env : Env} (ha : ga env = .ok true) : tOrR ga gb env = .ok true := by
  unfold tOrR
  rw [ha]; rfl
theorem or_ff {ga gb : Env → R Bool} {env : Env} {c : Bool} (ha : ga env = .ok false) (hb : gb env = .ok c) : tOrR ga gb env = .ok c := by
  unfold tOrR
  rw [ha]; exact hb
theorem sAug_to {i : Nat} {g : D → D → R D} {fa : Env → R D} {env : Env} {x y z : D} (hx : env[i]? = some (.vl x)) (ha : fa env = .ok y) (h : g x y = .ok z) : sAug i g fa env = .nx (env.set i (.vl z)) := by
  unfold sAug
  rw [hx]
  dsimp only
  rw [ha, bnd_k, h]
  rfl
theorem sApp_to {i : Nat} {fa : Env → R D} {env : Env} {l : List D} {d : D} (hx : env[i]? = some (.ow (.lst l))) (ha : fa env = .ok d) (hl : l.length ≤ 999999) : sApp i fa env = .nx (env.set i (.ow (.lst (l ++ [d])))) := by
  unfold sApp
  rw [hx]
  dsimp only
  rw [ha]
  show (if l.length < sizeLine then _ else _) = _
  rw [if_pos (Nat.lt_of_lt_of_le (Nat.lt_succ_of_le hl) big)]
theorem eB_to {fa : Env → R D} {env : Env} {c : Bool} (h : fa env = .ok (.bool c)) : eB fa env = .ok c := by
  unfold eB
  rw [h]; rfl
theorem tNot_to {ga : Env → R Bool} {env : Env} {c : Bool} (h : ga env = .ok c) : tNotR ga env = .ok (!c) := by
  unfold tNotR
  rw [h]; rfl
theorem eCall_to {fr : Env → R (List D)} {m : List D → R D} {env : Env} {ds : List D} {r : R D} (h : fr env = .ok ds) (h2 : m ds = r) : eCall fr m env = r := by
  unfold eCall
  rw [h]; exact h2
theorem aCons_to {fa : Env → R D} {fr : Env → R (List D)} {env : Env} {d : D} {ds : List D} (ha : fa env = .ok d) (hr : fr env = .ok ds) : aCons fa fr env = .ok (d :: ds) := by
  unfold aCons
  rw [ha, bnd_k, hr]; rfl
theorem eNew_to {fo : Env → R Own} {env : Env} {o : Own} (h : fo env = .ok o) : eNew fo env = ofOwn o := by
  unfold eNew
  rw [h]; rfl
theorem sFz_to {i : Nat} {sv : Env → SR} {env : Env} {l : List D} (h : env[i]? = some (.ow (.lst l))) : sFz i sv env = sv (env.set i (.vl (.list l))) := by
  unfold sFz
  rw [h]
end FP
/-! FP T: the laws' common compare. -/
namespace FP
open PySem L2 PySem.Spec PyProof.Rows

def strictLoop (f : List D → R D) : Env → SR := (sIf (tNotR (eB (eCall (aCons (eBin pyIx (eO 0) (eO 2)) (aCons (eBin pyIx (eO 1) (eO 2)) aNil)) f))) (sRet (eC (.bool false))) sNil)
def strictSV (f : List D → R D) : Env → SR := (sSeq (sIf (tIsN (eO 0)) (sRet (eIsN (eO 1))) sNil) (sSeq (sIf (eB (eIsi .bool (eO 0))) (sRet (eAnd (eIsi .int (eO 1)) (eOfB (eBin pyEq (eO 1) (eO 0))))) sNil) (sSeq (sIf (eB (eIsi .int (eO 0))) (sRet (eAnd (eIsi .int (eO 1)) (eAnd (eNot (eIsi .bool (eO 1))) (eOfB (eBin pyEq (eO 1) (eO 0)))))) sNil) (sSeq (sIf (eB (eIsi .str (eO 0))) (sRet (eAnd (eIsi .str (eO 1)) (eOfB (eBin pyEq (eO 1) (eO 0))))) sNil) (sSeq (sIf (tOrR (eBin pyNe (eIsi .tuple (eO 0)) (eIsi .tuple (eO 1))) (eBin pyNe (eIsi .list (eO 0)) (eIsi .list (eO 1)))) (sRet (eC (.bool false))) sNil) (sSeq (sIf (tOrR (eB (eIsi .tuple (eO 0))) (eB (eIsi .list (eO 0)))) (sSeq (sIf (eBin pyNe (eUn pyLen (eO 1)) (eUn pyLen (eO 0))) (sRet (eC (.bool false))) sNil) (sSeq (sForE (iRng1 (eUn pyLen (eO 0))) (gNm 2) (strictLoop f)) (sRet (eC (.bool true))))) sNil) (sRet (eOfB (eBin pyEq (eO 1) (eO 0))))))))))
def strictF : Nat → List D → R D
  | 0 => fun _ => .no
  | n + 1 => fun ds => (strictSV (strictF n) (env0 3 ds)).r
/-- plain data: no dict; lists short -/
def plainD : Nat → D → Bool
  | _, .none => true
  | _, .bool _ => true
  | _, .int _ => true
  | _, .str _ => true
  | n + 1, .list l => decide (l.length ≤ 1000000) && l.all (plainD n)
  | n + 1, .tuple l => decide (l.length ≤ 1000000) && l.all (plainD n)
  | _, _ => false
theorem refl_loop {f : List D → R D} {x : D} {l : List D} (hx : ∀ j d, l[j]? = some d → pyIx x (.int (j : Nat)) = .ok d) (hf : ∀ d ∈ l, f [d, d] = .ok (.bool true)) : ∀ (n j : Nat) (e2 : Sl), j + n ≤ l.length →
    ∃ e2', sFor (gNm 2) (strictLoop f) ((List.range' j n).map fun i : Nat => PyData.int (i : Int)) [.vl x, .vl x, e2] = .nx [.vl x, .vl x, e2']
  | 0, j, e2, _ => ⟨e2, rfl⟩
  | n + 1, j, e2, h => by
    have hj : j < l.length := by omega
    have hg := hx j l[j] (List.getElem?_eq_getElem hj)
    obtain ⟨e2', e⟩ := refl_loop hx hf n (j + 1) (.vl (.int j)) (by omega)
    refine ⟨e2', ?_⟩
    rw [List.range'_succ, List.map_cons]
    refine (sFor_nx (env1 := [.vl x, .vl x, .vl (.int j)]) rfl ?_).trans e
    unfold strictLoop
    exact (sIf_f (tNot_to (eB_to (eCall_to (aCons_to (eBin_to (eO_vl rfl) (eO_vl rfl) hg) (aCons_to (eBin_to (eO_vl rfl) (eO_vl rfl) hg) rfl)) (hf _ (List.getElem_mem hj)))))).trans rfl
theorem eAnd_t {fa fb : Env → R D} {env : Env} (h : fa env = .ok (.bool true)) : eAnd fa fb env = fb env := by
  unfold eAnd
  rw [h]; rfl
theorem eOfB_to {g : Env → R Bool} {env : Env} {c : Bool} (h : g env = .ok c) : eOfB g env = .ok (.bool c) := by
  unfold eOfB
  rw [h]; rfl
theorem seq_refl (z : Str) : pyEq (.str z) (.str z) = .ok true := by rw [eqS, leq_refl]
theorem strict_seq {f : List D → R D} {x : D} {l : List D} (hx : ∀ j d, l[j]? = some d → pyIx x (.int (j : Nat)) = .ok d) (hf : ∀ d ∈ l, f [d, d] = .ok (.bool true)) (hl : l.length ≤ 1000000) (hlen : pyLen x = .ok (.int l.length)) (hk : (∃ l, x = .list l) ∨ ∃ l, x = .tuple l) :
    strictSV f [.vl x, .vl x, .no] = .rt (.bool true) := by
  obtain ⟨e2', e⟩ := refl_loop hx hf l.length 0 .no (by omega)
  unfold strictSV
  have pass : ∀ {s1 s2 : Env → SR} {r : SR}, s1 [.vl x, .vl x, .no] = .nx [.vl x, .vl x, .no] → s2 [.vl x, .vl x, .no] = r → sSeq s1 s2 [.vl x, .vl x, .no] = r := fun h1 h2 => (sSeq_nx h1).trans h2
  refine pass (by rcases hk with ⟨l, rfl⟩ | ⟨l, rfl⟩ <;> rfl) (pass (by rcases hk with ⟨l, rfl⟩ | ⟨l, rfl⟩ <;> rfl) (pass (by rcases hk with ⟨l, rfl⟩ | ⟨l, rfl⟩ <;> rfl) (pass (by rcases hk with ⟨l, rfl⟩ | ⟨l, rfl⟩ <;> rfl) (pass (by rcases hk with ⟨l, rfl⟩ | ⟨l, rfl⟩ <;> rfl) ?_))))
  refine sSeq_rt ((sIf_t (by rcases hk with ⟨l, rfl⟩ | ⟨l, rfl⟩ <;> rfl)).trans ?_)
  refine pass ((sIf_f (eBin_to (eUn_to (eO_vl rfl) hlen) (eUn_to (eO_vl rfl) hlen) ?_)).trans rfl) ?_
  · show R.ok (!decide ((l.length : Int) = (l.length : Int))) = _
    rw [decide_eq_true rfl]; rfl
  · exact (sSeq_nx ((sForE_ok (iRng1_to (eUn_to (eO_vl rfl) hlen) (by omega))).trans e)).trans rfl
theorem strict_refl : ∀ (n : Nat) (d : D), plainD n d = true → strictF (n + 1) [d, d] = .ok (.bool true)
  | _, .none, _ => rfl
  | _, .bool c, _ => by cases c <;> rfl
  | n, .int i, _ => by
    have e : pyEq (.int i) (.int i) = .ok true := by
      show R.ok (decide (i = i)) = _
      rw [decide_eq_true rfl]
    refine congrArg SR.r (?_ : strictSV (strictF n) [.vl (.int i), .vl (.int i), .no] = .rt (.bool true))
    exact (sSeq_nx (env' := [.vl (.int i), .vl (.int i), .no]) rfl).trans ((sSeq_nx (env' := [.vl (.int i), .vl (.int i), .no]) rfl).trans (sSeq_rt ((sIf_t rfl).trans (sRet_ok ((eAnd_t rfl).trans ((eAnd_t rfl).trans (eOfB_to (eBin_to rfl rfl e))))))))
  | n, .str z, _ => by
    refine congrArg SR.r (?_ : strictSV (strictF n) [.vl (.str z), .vl (.str z), .no] = .rt (.bool true))
    exact (sSeq_nx (env' := [.vl (.str z), .vl (.str z), .no]) rfl).trans ((sSeq_nx (env' := [.vl (.str z), .vl (.str z), .no]) rfl).trans ((sSeq_nx (env' := [.vl (.str z), .vl (.str z), .no]) rfl).trans (sSeq_rt ((sIf_t rfl).trans (sRet_ok ((eAnd_t rfl).trans (eOfB_to (eBin_to rfl rfl (seq_refl z)))))))))
  | 0, .list l, h => by cases h
  | 0, .tuple l, h => by cases h
  | n + 1, .list l, h => by
    simp only [plainD, Bool.and_eq_true, decide_eq_true_eq, List.all_eq_true] at h
    show (strictSV (strictF (n + 1)) [.vl (.list l), .vl (.list l), .no]).r = _
    rw [strict_seq (l := l) (fun j d hd => ?_) (fun d hd => strict_refl n d (h.2 d hd)) h.1 rfl (.inl ⟨l, rfl⟩)]
    · rfl
    · show RO (atP l (j : Int)) = _
      unfold atP
      rw [if_pos (Int.natCast_nonneg j), Int.toNat_natCast, hd]; rfl
  | n + 1, .tuple l, h => by
    simp only [plainD, Bool.and_eq_true, decide_eq_true_eq, List.all_eq_true] at h
    show (strictSV (strictF (n + 1)) [.vl (.tuple l), .vl (.tuple l), .no]).r = _
    rw [strict_seq (l := l) (fun j d hd => ?_) (fun d hd => strict_refl n d (h.2 d hd)) h.1 rfl (.inr ⟨l, rfl⟩)]
    · rfl
    · show RO (atP l (j : Int)) = _
      unfold atP
      rw [if_pos (Int.natCast_nonneg j), Int.toNat_natCast, hd]; rfl
  | 0, .dict _, h => by cases h
  | _ + 1, .dict _, h => by cases h
end FP
/-! FP U: exceptions of the program's own: super().__init__(x), then fields. -/
namespace PySem
namespace FPX
open PySem.W PySem.Calls PyProof.Rows PySem.HandSPX Builtin Builtin.ObjectAttr

abbrev xT : List Value := [.type "Exception", .type "BaseException", .type "object"]
section
variable {prog : Program} {w : World} {A : Around} {E : Value → Shared → Prop} {R : Result → Shared → Prop} {hp : Heap} {g : Array GenState} {d : Drawn} {t : Nat} {os : OsState} {K : Frag}
/-- x.name = v, x without a dict -/
theorem sto_new {name : Str} {tk : Tok} {v : Value} {x C : Addr} {fv : Array Value} (X : K.In hp) (hx : hp.get? x = some { cls := .ref C, data := .fields fv }) (ov : excOver K C xT = true) (hd : hasDictIn K C = true) (ta : takerIn K C name = some none)
    (hq : ∀ h' tk' dx, (∀ b o, b ≠ x → hp.get? b = some o → h'.get? b = some o) → hp.objs.size ≤ dx → dx ≠ x → h'.get? x = some { cls := .ref C, dict := some dx, data := .fields fv } → h'.Ns1 dx (fun y => if y = name then some v else none) → R (.ok (.ret .none)) ⟨h', g, d, tk', os⟩) :
    codeAny (model prog w) A (.call (.builtin "object.__setattr__") ⟨[.ref x, .str name tk, v], []⟩) R ⟨hp, g, d, t, os⟩ := by
  have hxs : x ≠ hp.objs.size := Nat.ne_of_lt (Heap.lt_size hx)
  obtain ⟨cd, hcd, hh⟩ := any_some hd
  refine osa_openX PySem.F.store_Exception X (s := ⟨hp, g, d, t, os⟩) (od := none) ⟨hx, rfl, rfl, trivial⟩ ov ta fun b => ?_
  have hcls : Looks (model prog w) hp (classData C) cd := looks_clsIn X hcd
  obtain ⟨nm, bs, mro, ns, qn, hdd, sn, sb, ab, col, del⟩ := cd
  have hh' : hdd = true := hh
  subst hh'
  show wpAny _ _ (storeInOwnDict (.ref x) (.ref C) (.str name tk) name v b) _ _ _
  unfold storeInOwnDict ownDictForStores
  repeat (first | with_reducible refine store_in_new ?_ ?_ | with_reducible refine wpAny_loadPart_at hx ?_ | with_reducible refine hcls.at ?_ | wp_step)
  · exact ⟨_, #[], _, (Heap.get?_update_ne _ _ _ _ hxs.symm).trans (Heap.get?_push_at rfl rfl), rfl, fun e he => absurd he (by simp), fun _ => rfl⟩
  · intro h' tk' hn' hs
    have hx₁ : (hp.push { cls := .type "dict", data := .dict #[] }).get? x = some { cls := .ref C, data := .fields fv } := Heap.get?_push_of_some _ hx
    refine hq h' tk' hp.objs.size (fun b o hb ho => ?_) (Nat.le_refl _) hxs.symm ?_ hn'
    · exact (hs.2 b (Nat.ne_of_lt (Heap.lt_size ho))).trans ((Heap.get?_update_ne _ _ _ _ hb).trans (Heap.get?_push_of_some _ ho))
    · exact (hs.2 x hxs).trans (Heap.get?_update_self _ hx₁ rfl)
/-- x.name = v, x with a dict -/
theorem sto_old {name : Str} {tk : Tok} {v : Value} {x C dx : Addr} {fv : Array Value} {m0 : Str → Option Value} {nl : List Str} (X : K.In hp) (hx : hp.get? x = some { cls := .ref C, dict := some dx, data := .fields fv }) (hns : hp.Ns1 dx m0) (hw : Within m0 nl) (hz : nl.length ≤ 1000)
    (ov : excOver K C xT = true) (hd : hasDictIn K C = true) (ta : takerIn K C name = some none)
    (hq : ∀ h' tk', (∀ b o, b ≠ dx → hp.get? b = some o → h'.get? b = some o) → h'.Ns1 dx (fun y => if y = name then some v else m0 y) → R (.ok (.ret .none)) ⟨h', g, d, tk', os⟩) :
    codeAny (model prog w) A (.call (.builtin "object.__setattr__") ⟨[.ref x, .str name tk, v], []⟩) R ⟨hp, g, d, t, os⟩ := by
  obtain ⟨oD, esD, epD, hoD, hdD, _⟩ := hns.count hw
  obtain ⟨cd, hcd, hh⟩ := any_some hd
  refine osa_openX PySem.F.store_Exception X (s := ⟨hp, g, d, t, os⟩) (od := some oD) ⟨hx, rfl, rfl, hoD⟩ ov ta fun b => ?_
  have hcls : Looks (model prog w) hp (classData C) cd := looks_clsIn X hcd
  obtain ⟨nm, bs, mro, ns, qn, hdd, sn, sb, ab, col, del⟩ := cd
  have hh' : hdd = true := hh
  subst hh'
  show wpAny _ _ (storeInOwnDict (.ref x) (.ref C) (.str name tk) name v b) _ _ _
  unfold storeInOwnDict ownDictForStores
  repeat (first | with_reducible refine ESX.store_in_old hns hw hz ?_ | with_reducible refine wpAny_loadPart_at hx ?_ | with_reducible refine hcls.at ?_ | wp_step)
  intro h' tk' hn' hs
  exact hq h' tk' (fun b o hb ho => (hs.2 b hb).trans ho) hn'
end

/-- what the written part says of such a class: C its class object, fI its __init__ of the text st, cc the cell of its name, cda the code object -/
structure XCls (prog : Program) (K : Frag) (C fI cc cda : Addr) (qual : Str) (st : Stmt) : Prop where
  new : excInitIn K C xT "Exception.__new__" = true
  ov : excOver K C xT = true
  hd : hasDictIn K C = true
  sa : findIn K (.ref C) "__setattr__" = some (some (.builtin "object.__setattr__"))
  ini : findIn K (.ref C) "__init__" = some (some (.ref fI))
  isf : isFn K (.ref fI) = true
  sup : ks_superIn K C C "__init__" = some (some (.builtin "Exception.__init__"))
  sub : mroIn K C (.ref C) = some true
  subE : subIn K (.ref C) (.type "Exception") = some true
  exC : subIn K (.ref C) (.type "BaseException") = some true
  tyC : typeIn K (.ref C) = some (.type "type")
  kC : keepIn K (.ref C) = true
  opq : nsIn K cStatics "thirdparty.any" = some none
  cell : ∃ cl cld csl, K.lookup cc = some ⟨cl, cld, .cell (some (.ref C)), csl⟩
  code : ∃ ccl cdd vs ccs file tf, K.lookup cda = some ⟨ccl, cdd, .fields vs, ccs⟩ ∧ vs[2]? = some (.str file tf) ∧ ((prog.main.file : Str) == file) = true
  fn : ∃ oc od kV doc pm an ct osl, K.lookup fI = some ⟨oc, od, .func (ksFn "__init__" qual (L2.defArgs st) (L2.defBody st) (L2.defScope st) .none kV doc pm an (.ref cda) ct cc), osl⟩ ∧ codeIn K (.ref cda) qual = true
/-- the two lines that store a parameter in a field -/
def stoE (q1 q2 q3 q4 : Pos) (n : Str) : Stmt := .Assign [.Attribute (.Name "self" q1) n q2] (.Name n q3) q4
def supE (p1 p2 p3 p4 p5 p6 : Pos) (z : Str) : Stmt := .Expr (.Call (.Attribute (.Call (.Name "super" p1) [] [] p2) "__init__" p3) [.Name z p4] [] p5) p6
section
variable {prog : Program} {w : World} {A : Around} {E : Value → Shared → Prop} {R : Result → Shared → Prop} {K : Frag} {C fI cc cda : Addr} {mg mb : Str → Option Value}
/-- what the walk needs of the heap -/
structure Gnd (K : Frag) (mg : Str → Option Value) (h : Heap) : Prop where
  kin : K.In h
  glob : h.Ns mainGlobals mg
  spr : mg "super" = none
  blt : ∃ mb, h.Ns builtinsNs mb ∧ mb "super" = some (.type "super")
theorem Gnd.keeps {h h' : Heap} (G : Gnd K mg h) (k : ∀ b o, h.get? b = some o → h'.get? b = some o) : Gnd K mg h' := ⟨G.kin.keeps k, G.glob.keeps k, G.spr, let ⟨mb, a, b⟩ := G.blt; ⟨mb, a.keeps k, b⟩⟩
theorem Gnd.but {h h' : Heap} {x : Addr} (G : Gnd K mg h) (hx : K.lookup x = none) (nx : ∃ o, h.get? x = some o ∧ ∀ es ep, o.data ≠ .dict es ep) (k : ∀ b o, b ≠ x → h.get? b = some o → h'.get? b = some o) : Gnd K mg h' := by
  obtain ⟨ox, ex, dx⟩ := nx
  have ns : ∀ {L : Addr} {m : Str → Option Value}, h.Ns L m → h'.Ns L m := fun {L m} ⟨o, es, ep, e, d, r⟩ => by
    have : L ≠ x := fun z => by
      rw [z, ex] at e
      cases e
      exact dx _ _ d
    exact ⟨o, es, ep, k _ _ this e, d, r⟩
  exact ⟨fun a o e => k a o (fun z => by rw [z, hx] at e; cases e) (G.kin a o e), ns G.glob, G.spr, let ⟨mb, a, b⟩ := G.blt; ⟨mb, ns a, b⟩⟩
/-- how that line is evaluated (by rfl, where its places are written) -/
def SupEv (qual : Str) (st : Stmt) (fI cc cda : Addr) (p1 p2 p3 p4 p5 : Pos) (z : Str) : Prop := ∃ pl : Sem Bool, ∀ L : Addr,
  eval (.Call (.Attribute (.Call (.Name "super" p1) [] [] p2) "__init__" p3) [.Name z p4] [] p5) (ksEnv qual (L2.defScope st) L fI (.ref cda) cc) = (do
      let ov ← attributeBase (.Call (.Name "super" p1) [] [] p2) "__init__" (ksEnv qual (L2.defScope st) L fI (.ref cda) cc) (eval (.Call (.Name "super" p1) [] [] p2) (ksEnv qual (L2.defScope st) L fI (.ref cda) cc))
      standAt p3.atName
      let (f, first) ← holding [ov] (getMethod ov "__init__" pl)
      callWith p5 f first (backTo p5 (starEach [.Name z p4] (ksEnv qual (L2.defScope st) L fI (.ref cda) cc))) [])
/-- super().__init__(z) in __init__'s frame -/
theorem sup_stmt {qual : Str} {st : Stmt} (T : XCls prog K C fI cc cda qual st) {s : Shared} {L : Addr} {m : Str → Option Value} {body : List Stmt} {x : Addr} {t0 : Addr} {z : Str} {zv : Value} {p1 p2 p3 p4 p5 p6 : Pos} {Q : Flow → Shared → Prop} {ps : List Arg} {q0 : Pos}
    (G : Gnd K mg s.heap) (hns : s.heap.Ns L m) (hx : s.heap.get? x = some (excO C t0)) (hself : m "self" = some (.ref x)) (hz : m z = some zv) (hpar : (L2.defArgs st).posonlyargs ++ (L2.defArgs st).args = { arg := "self", annotation := none, pos := q0 } :: ps)
    (hk : (L2.defScope st).kind = .function) (ks : (L2.defScope st).names.lookup ("super" : Str) = some .globalImplicit) (kc : (L2.defScope st).names.lookup ("__class__" : Str) = some .free) (kself : (L2.defScope st).names.lookup ("self" : Str) = some .local) (kz : (L2.defScope st).names.lookup z = some .local)
    (htop : (prog.main.scope.names.lookup ("super" : Str)).isSome = false) (hzd : (z == ("__debug__" : Str)) = false) (he : SupEv qual st fI cc cda p1 p2 p3 p4 p5 z)
    (h : ∀ h' tk t1, (∀ b o, b ≠ x → s.heap.get? b = some o → h'.get? b = some o) → h'.get? x = some (excO C t1) → Q .next { s with heap := h', toks := tk }) :
    _root_.PySem.wpAt (model prog w) A (.func body (ksEnv qual (L2.defScope st) L fI (.ref cda) cc)) (exec (supE p1 p2 p3 p4 p5 p6 z) (ksEnv qual (L2.defScope st) L fI (.ref cda) cc)) Q E s := by
  obtain ⟨oc, od, kV, doc, pm, an, ct, osl, lk, _⟩ := T.fn
  obtain ⟨ccl, cdd, vs, ccs, file, tf, hcode, hvs, hfile⟩ := T.code
  obtain ⟨cl, cld, csl, hcell⟩ := T.cell
  have X := G.kin
  obtain ⟨nm, N', qn, bs, bm, hdct, sn, sub, ab, col, dd, k0, k1, k2, k3, k5, hC, hT⟩ := excInit_of X T.new
  obtain ⟨mb, hb, hsup⟩ := G.blt
  have I : InstAt s.heap x (excO C t0) C none := ⟨hx, rfl, rfl, trivial⟩
  obtain ⟨hh, g, d, t, os⟩ := s
  have hCd : ∃ cd, clsIn K C = some cd := by
    obtain ⟨cd, hcd, _⟩ := any_some T.hd
    exact ⟨cd, hcd⟩
  obtain ⟨cd, hcd⟩ := hCd
  obtain ⟨pl, he⟩ := he
  refine ks_wpAt_Expr_any (ks_wpAt_MethodCall (pl := pl) ?_ (he L)) (by unfold interactive; simp [hk])
  refine ks_wpAt_super_base (env := ksEnv qual (L2.defScope st) L fI (.ref cda) cc) ks kc (by decide) rfl (X _ _ lk) rfl (show ((L2.defArgs st).posonlyargs ++ (L2.defArgs st).args).head? = _ by rw [hpar]; rfl) rfl (X _ _ hcode) rfl hvs hfile htop ?_
  refine ks_loadName_global hk ks (loadGlobal_builtin (env := ksEnv qual (L2.defScope st) L fI (.ref cda) cc) G.glob G.spr hb hsup ⟨rfl, ?_⟩)
  refine wpAny_loadName_free hk kc rfl ⟨_, X _ _ hcell, rfl⟩ ?_
  refine wpAny_loadName_local hk kself hns hself ?_
  refine ks_wpAny_isType_cls hC rfl ⟨rfl, ?_⟩
  refine ks_wpAny_call_super hC rfl hx rfl (fun c e => by cases e) (looks_mroIn X T.sub) (fun h1 e1 kk1 => ?_)
  have X1 : K.In h1 := X.keeps kk1
  have hm := T.sup
  unfold ks_superIn at hm
  rw [hcd] at hm
  have hI0 : Looks (model prog w) hh (isInstance (.ref x) (.type "Exception")) true := I.type.andThen (looks_subIn X T.subE)
  have hI : Looks (model prog w) h1 (isInstance (.ref x) (.type "Exception")) true := hI0.keeps kk1
  refine kxs_getMethod kxs_Exception e1 (looks_opaque X1 T.opq) (l₀ := cd.mro) (fun A Q E s k q => wpAny_bind ((looks_clsIn X1 hcd) A _ E s k (wpAny_pure q))) rfl X1 hm hI (ks_ne X I hcd) rfl ?_
  have e2 : (h1.push (kxs_mw "Exception.__init__" x)).get? h1.objs.size = some (ESX.bw x) := Heap.get?_push_at rfl rfl
  have kk2 : ∀ b o, hh.get? b = some o → (h1.push (kxs_mw "Exception.__init__" x)).get? b = some o := fun b o e => Heap.get?_push_of_some _ (kk1 b o e)
  refine ESX.callWith_bound (x := x) ?_
  show wpAny _ _ (spliced ((false, eval (.Name z p4) _) :: backTo p5 (starEach [] _))) _ _ _
  refine Calls.spliced_cons ?_
  refine wpAny_Name (wpAny_loadName_local hk kz (hns.keeps kk2) hz ?_) hzd
  refine Calls.spliced_nil ⟨e2, ?_⟩
  refine ESX.call_bw (nm := nm) (q := qn) (C := C) (N := N') (bs := bs) (bm := bm) (kk2 _ _ hC) (kk2 _ _ hx) e2 (by show 1 ≤ sizeLine; decide) fun h' t1 k3 hx3 => ?_
  exact h h' _ t1 (fun b o hb e => k3 b o hb (kk2 b o e)) hx3
/-- what __init__ leaves of a fresh exception at x: its fields fs -/
structure XEnd (h h' : Heap) (x C dx t1 : Addr) (m : Str → Option Value) : Prop where
  keep : ∀ b o, b ≠ x → h.get? b = some o → h'.get? b = some o
  obj : h'.get? x = some { cls := .ref C, dict := some dx, data := .fields #[.ref t1, .none, .none, .none, .bool false, .none] }
  dbig : h.objs.size ≤ dx
  dne : dx ≠ x
  ns : h'.Ns1 dx m
theorem ldX {M : Model} {env : Env} {m : Str → Option Value} {x : Str} {pos : Pos} {v : Value} {Q : Value → Shared → Prop} {s : Shared} (hn : s.heap.Ns env.locals m) (hv : m x = some v) (hk : env.scope.kind = .function) (hl : env.scope.names.lookup x = some .local) (hd : (x == ("__debug__" : Str)) = false) (h : Q v s) :
    wpAny M A (eval (.Name x pos) env) Q E s := wpAny_Name (wpAny_loadName_local hk hl hn hv h) hd
/-- the first store -/
theorem sto1 {qual : Str} {st : Stmt} (T : XCls prog K C fI cc cda qual st) {s : Shared} {L : Addr} {m : Str → Option Value} {x t0 : Addr} {n : Str} {v : Value} {q1 q2 q3 q4 : Pos} {Q : Flow → Shared → Prop}
    (X : K.In s.heap) (hns : s.heap.Ns L m) (hx : s.heap.get? x = some (excO C t0)) (hself : m "self" = some (.ref x)) (hv : m n = some v) (hk : (L2.defScope st).kind = .function)
    (kself : (L2.defScope st).names.lookup ("self" : Str) = some .local) (kn : (L2.defScope st).names.lookup n = some .local) (hnd : (n == ("__debug__" : Str)) = false) (ta : takerIn K C n = some none) (hsw : swapsWith (.Name n q3) (some (.Attribute (.Name "self" q1) n q2)) q4.line (ksEnv qual (L2.defScope st) L fI (.ref cda) cc) = pure false)
    (h : ∀ h' tk dx, XEnd s.heap h' x C dx t0 (fun y => if y = n then some v else none) → Q .next { s with heap := h', toks := tk }) :
    wpAny (model prog w) A (exec (stoE q1 q2 q3 q4 n) (ksEnv qual (L2.defScope st) L fI (.ref cda) cc)) Q E s := by
  refine plainObj_wpAny_Assign_Attribute ?_ hsw
  refine ldX hns hv hk kn hnd (ldX hns hself hk kself (by decide) ?_)
  obtain ⟨hp, g, d, t, os⟩ := s
  refine set_plain (ox := excO C t0) (od := none) X ⟨hx, rfl, rfl, trivial⟩ T.sa ?_
  exact sto_new X hx T.ov T.hd ta fun h' tk dx k dn dne hx' hn' => h h' tk dx ⟨k, hx', dn, dne, hn'⟩
/-- the second store -/
theorem sto2 {qual : Str} {st : Stmt} (T : XCls prog K C fI cc cda qual st) {s : Shared} {L : Addr} {m : Str → Option Value} {x t0 dx : Addr} {n n0 : Str} {v v0 : Value} {q1 q2 q3 q4 : Pos} {Q : Flow → Shared → Prop} {hb : Heap}
    (X : K.In s.heap) (hns : s.heap.Ns L m) (Z : XEnd hb s.heap x C dx t0 (fun y => if y = n0 then some v0 else none)) (hself : m "self" = some (.ref x)) (hv : m n = some v) (hk : (L2.defScope st).kind = .function)
    (kself : (L2.defScope st).names.lookup ("self" : Str) = some .local) (kn : (L2.defScope st).names.lookup n = some .local) (hnd : (n == ("__debug__" : Str)) = false) (ta : takerIn K C n = some none) (hsw : swapsWith (.Name n q3) (some (.Attribute (.Name "self" q1) n q2)) q4.line (ksEnv qual (L2.defScope st) L fI (.ref cda) cc) = pure false)
    (h : ∀ h' tk, XEnd hb h' x C dx t0 (fun y => if y = n then some v else if y = n0 then some v0 else none) → Q .next { s with heap := h', toks := tk }) :
    wpAny (model prog w) A (exec (stoE q1 q2 q3 q4 n) (ksEnv qual (L2.defScope st) L fI (.ref cda) cc)) Q E s := by
  refine plainObj_wpAny_Assign_Attribute ?_ hsw
  refine ldX hns hv hk kn hnd (ldX hns hself hk kself (by decide) ?_)
  obtain ⟨hp, g, d, t, os⟩ := s
  have hw : Within (fun y : Str => if y = n0 then some v0 else none) [n0] := fun y hy => by
    by_cases e : y = n0
    · rw [e]; exact List.mem_singleton.mpr rfl
    · simp [e] at hy
  obtain ⟨oD, esD, epD, hoD, hdD, _⟩ := Z.ns.count hw
  refine set_plain (ox := { cls := .ref C, dict := some dx, data := .fields #[.ref t0, .none, .none, .none, .bool false, .none] }) (od := some oD) X ⟨Z.obj, rfl, rfl, hoD⟩ T.sa ?_
  refine sto_old (nl := [n0]) X Z.obj Z.ns hw (by show 1 ≤ 1000; decide) T.ov T.hd ta fun h' tk k hn' => ?_
  refine h h' tk ⟨fun b o hb e => ?_, k _ _ Z.dne.symm Z.obj, Z.dbig, Z.dne, hn'⟩
  exact k b o (fun z => by have := Heap.lt_size e; rw [z] at this; exact absurd (Nat.lt_of_lt_of_le this Z.dbig) (Nat.lt_irrefl _)) (Z.keep b o hb e)
/-- the text of an __init__ of two parameters -/
structure XT2 (prog : Program) (K : Frag) (C fI cc cda : Addr) (qual : Str) (st : Stmt) (a b z : Str) : Prop where
  cls : XCls prog K C fI cc cda qual st
  body : ∃ p1 p2 p3 p4 p5 p6 q1 q2 q3 q4 r1 r2 r3 r4, L2.defBody st = [supE p1 p2 p3 p4 p5 p6 z, stoE q1 q2 q3 q4 a, stoE r1 r2 r3 r4 b] ∧ SupEv qual st fI cc cda p1 p2 p3 p4 p5 z ∧
    (∀ L, swapsWith (.Name a q3) (some (.Attribute (.Name "self" q1) a q2)) q4.line (ksEnv qual (L2.defScope st) L fI (.ref cda) cc) = pure false) ∧ ∀ L, swapsWith (.Name b r3) (some (.Attribute (.Name "self" r1) b r2)) r4.line (ksEnv qual (L2.defScope st) L fI (.ref cda) cc) = pure false
  par : ∃ q0 ps, (L2.defArgs st).posonlyargs ++ (L2.defArgs st).args = { arg := "self", annotation := none, pos := q0 } :: ps
  bind : ∀ (kV doc pm : Value) (an : Option Addr) (cdv ct u v w : Value), bindArgs (ksFn "__init__" qual (L2.defArgs st) (L2.defBody st) (L2.defScope st) .none kV doc pm an cdv ct cc) ⟨[u, v, w], []⟩ = pure [(("self" : Str), u), (a, v), (b, w)]
  kind : (L2.defScope st).kind = .function
  co : (L2.defScope st).isCoroutine = false
  gen : (L2.defScope st).isGenerator = false
  nocell : ∀ x ∈ (L2.defScope st).names, x.2 ≠ .cell
  ks : (L2.defScope st).names.lookup ("super" : Str) = some .globalImplicit
  kc : (L2.defScope st).names.lookup ("__class__" : Str) = some .free
  kself : (L2.defScope st).names.lookup ("self" : Str) = some .local
  ka : (L2.defScope st).names.lookup a = some .local
  kb : (L2.defScope st).names.lookup b = some .local
  da : (a == ("__debug__" : Str)) = false
  db : (b == ("__debug__" : Str)) = false
  na : (("self" : Str) == a) = false
  nb : (("self" : Str) == b) = false
  nab : (a == b) = false
  hz : z = a ∨ z = b
  ta : takerIn K C a = some none
  tb : takerIn K C b = some none
  top : (prog.main.scope.names.lookup ("super" : Str)).isSome = false
theorem lt_of_ns {h : Heap} {L : Addr} {m : Str → Option Value} (n : h.Ns L m) : L < h.objs.size := n.lt
theorem init2 {qual : Str} {st : Stmt} {a b z : Str} (T : XT2 prog K C fI cc cda qual st a b z) {s : Shared} {x t0 : Addr} {v w' : Value} (G : Gnd K mg s.heap) (hlim : s.heap.NoLimit) (hx : s.heap.get? x = some (excO C t0)) (hnx : K.lookup x = none) (hroom : A.depth < recursionLimit)
    (hq : ∀ h' tk dx t1, XEnd s.heap h' x C dx t1 (fun y => if y = b then some w' else if y = a then some v else none) → R (.ok (.ret .none)) { s with heap := h', toks := tk }) :
    codeAny (model prog w) A (.call (.ref fI) ⟨[.ref x, v, w'], []⟩) R s := by
  obtain ⟨oc, od, kV, doc, pm, an, ct, osl, lk, hcd⟩ := T.cls.fn
  obtain ⟨p1, p2, p3, p4, p5, p6, q1, q2, q3, q4, r1, r2, r3, r4, hbody, hsup, hsa, hsb⟩ := T.body
  obtain ⟨q0, ps, hpar⟩ := T.par
  have X := G.kin
  have hloc : ∀ y ∈ ([("self", .ref x), (a, v), (b, w')] : List (Str × Value)), (L2.defScope st).names.lookup y.1 = some .local := fun y hy => by
    rcases List.mem_cons.mp hy with rfl | hy
    · exact T.kself
    rcases List.mem_cons.mp hy with rfl | hy
    · exact T.ka
    rcases List.mem_cons.mp hy with rfl | hy
    · exact T.kb
    · cases hy
  refine ks_codeAny_call_defAt (fd := ksFn "__init__" qual (L2.defArgs st) (L2.defBody st) (L2.defScope st) .none kV doc pm an (.ref cda) ct cc) (body := L2.defBody st) (binds := [(("self" : Str), .ref x), (a, v), (b, w')]) hroom (X _ _ lk) rfl hlim (codeRec_of X hcd) rfl (BindsTo.of_eq (T.bind _ _ _ _ _ _ _ _ _)) T.nocell hloc (fun h₁ hns hk₁ => ?_) T.co T.gen T.kind
  have hm : (fun y : Str => ([("self", .ref x), (a, v), (b, w')] : List (Str × Value)).reverse.lookup y) = fun y : Str => ([(b, w'), (a, v), ("self", .ref x)] : List (Str × Value)).lookup y := rfl
  rw [hm] at hns
  have mself : ([(b, w'), (a, v), ("self", .ref x)] : List (Str × Value)).lookup ("self" : Str) = some (.ref x) := by simp [List.lookup, T.na, T.nb]
  have ma : ([(b, w'), (a, v), ("self", .ref x)] : List (Str × Value)).lookup a = some v := by simp [List.lookup, T.nab]
  have mb : ([(b, w'), (a, v), ("self", .ref x)] : List (Str × Value)).lookup b = some w' := by simp [List.lookup]
  have hxL : s.heap.objs.size ≠ x := Nat.ne_of_gt (Heap.lt_size hx)
  have G₁ : Gnd K mg h₁ := G.keeps hk₁
  have hx₁ := hk₁ _ _ hx
  show _root_.PySem.wpAt (model prog w) (A.deeper (ksEnv qual (L2.defScope st) s.heap.objs.size fI (.ref cda) cc)) (.func (L2.defBody st) (ksEnv qual (L2.defScope st) s.heap.objs.size fI (.ref cda) cc)) (execs (L2.defBody st) (ksEnv qual (L2.defScope st) s.heap.objs.size fI (.ref cda) cc)) _ _ _
  rw [show execs (L2.defBody st) (ksEnv qual (L2.defScope st) s.heap.objs.size fI (.ref cda) cc) = execs [supE p1 p2 p3 p4 p5 p6 z, stoE q1 q2 q3 q4 a, stoE r1 r2 r3 r4 b] (ksEnv qual (L2.defScope st) s.heap.objs.size fI (.ref cda) cc) by rw [hbody]]
  refine ks_wpAt_execs_cons (st := supE p1 p2 p3 p4 p5 p6 z) (rest := [stoE q1 q2 q3 q4 a, stoE r1 r2 r3 r4 b]) ?_
  obtain ⟨zv, hzv, kz, dz⟩ : ∃ zv, ([(b, w'), (a, v), ("self", .ref x)] : List (Str × Value)).lookup z = some zv ∧ (L2.defScope st).names.lookup z = some .local ∧ (z == ("__debug__" : Str)) = false := by
    rcases T.hz with rfl | rfl
    · exact ⟨v, ma, T.ka, T.da⟩
    · exact ⟨w', mb, T.kb, T.db⟩
  refine sup_stmt T.cls (s := { s with heap := h₁, toks := _ }) G₁ hns hx₁ mself hzv hpar T.kind T.ks T.kc T.kself kz T.top dz hsup fun h₂ tk₂ t1 k₂ hx₂ => ?_
  have hns₂ : h₂.Ns s.heap.objs.size (fun y : Str => ([(b, w'), (a, v), ("self", .ref x)] : List (Str × Value)).lookup y) := by
    obtain ⟨o, es, ep, e, d, r⟩ := hns
    exact ⟨o, es, ep, k₂ _ _ hxL e, d, r⟩
  have X₂ : K.In h₂ := fun c o e => k₂ c o (fun y => by rw [y, hnx] at e; cases e) (G₁.kin c o e)
  refine wpAt_of_wpAny (wpAny_execs_cons (sto1 T.cls (s := { s with heap := h₂, toks := tk₂ }) X₂ hns₂ hx₂ mself ma T.kind T.kself T.ka T.da T.ta (hsa _) fun h₃ tk₃ dx Z => ?_))
  have hns₃ : h₃.Ns s.heap.objs.size (fun y : Str => ([(b, w'), (a, v), ("self", .ref x)] : List (Str × Value)).lookup y) := by
    obtain ⟨o, es, ep, e, d, r⟩ := hns₂
    exact ⟨o, es, ep, Z.keep _ _ hxL e, d, r⟩
  have X₃ : K.In h₃ := fun c o e => Z.keep c o (fun y => by rw [y, hnx] at e; cases e) (X₂ c o e)
  show wpAny _ _ (execs [stoE r1 r2 r3 r4 b] _) _ _ _
  refine wpAny_execs_cons (sto2 T.cls (s := { s with heap := h₃, toks := tk₃ }) (n0 := a) (v0 := v) X₃ hns₃ Z mself mb T.kind T.kself T.kb T.db T.tb (hsb _) fun h₄ tk₄ Y => ?_)
  show wpAny _ _ (execs [] _) _ _ _
  have z1 : s.heap.objs.size < h₂.objs.size := lt_of_ns hns₂
  exact wpAny_execs_nil (hq h₄ tk₄ dx t1 ⟨fun c o hc e => Y.keep c o hc (k₂ c o hc (hk₁ c o e)), Y.obj, Nat.le_trans (Nat.le_of_lt z1) Y.dbig, Y.dne, Y.ns⟩)
/-- .. of one -/
structure XT1 (prog : Program) (K : Frag) (C fI cc cda : Addr) (qual : Str) (st : Stmt) (a : Str) : Prop where
  cls : XCls prog K C fI cc cda qual st
  body : ∃ p1 p2 p3 p4 p5 p6 q1 q2 q3 q4, L2.defBody st = [supE p1 p2 p3 p4 p5 p6 a, stoE q1 q2 q3 q4 a] ∧ SupEv qual st fI cc cda p1 p2 p3 p4 p5 a ∧
    (∀ L, swapsWith (.Name a q3) (some (.Attribute (.Name "self" q1) a q2)) q4.line (ksEnv qual (L2.defScope st) L fI (.ref cda) cc) = pure false)
  par : ∃ q0 ps, (L2.defArgs st).posonlyargs ++ (L2.defArgs st).args = { arg := "self", annotation := none, pos := q0 } :: ps
  bind : ∀ (kV doc pm : Value) (an : Option Addr) (cdv ct u v : Value), bindArgs (ksFn "__init__" qual (L2.defArgs st) (L2.defBody st) (L2.defScope st) .none kV doc pm an cdv ct cc) ⟨[u, v], []⟩ = pure [(("self" : Str), u), (a, v)]
  kind : (L2.defScope st).kind = .function
  co : (L2.defScope st).isCoroutine = false
  gen : (L2.defScope st).isGenerator = false
  nocell : ∀ x ∈ (L2.defScope st).names, x.2 ≠ .cell
  ks : (L2.defScope st).names.lookup ("super" : Str) = some .globalImplicit
  kc : (L2.defScope st).names.lookup ("__class__" : Str) = some .free
  kself : (L2.defScope st).names.lookup ("self" : Str) = some .local
  ka : (L2.defScope st).names.lookup a = some .local
  da : (a == ("__debug__" : Str)) = false
  na : (("self" : Str) == a) = false
  ta : takerIn K C a = some none
  top : (prog.main.scope.names.lookup ("super" : Str)).isSome = false
theorem init1 {qual : Str} {st : Stmt} {a : Str} (T : XT1 prog K C fI cc cda qual st a) {s : Shared} {x t0 : Addr} {v : Value} (G : Gnd K mg s.heap) (hlim : s.heap.NoLimit) (hx : s.heap.get? x = some (excO C t0)) (hnx : K.lookup x = none) (hroom : A.depth < recursionLimit)
    (hq : ∀ h' tk dx t1, XEnd s.heap h' x C dx t1 (fun y => if y = a then some v else none) → R (.ok (.ret .none)) { s with heap := h', toks := tk }) :
    codeAny (model prog w) A (.call (.ref fI) ⟨[.ref x, v], []⟩) R s := by
  obtain ⟨oc, od, kV, doc, pm, an, ct, osl, lk, hcd⟩ := T.cls.fn
  obtain ⟨p1, p2, p3, p4, p5, p6, q1, q2, q3, q4, hbody, hsup, hsa⟩ := T.body
  obtain ⟨q0, ps, hpar⟩ := T.par
  have X := G.kin
  have hloc : ∀ y ∈ ([("self", .ref x), (a, v)] : List (Str × Value)), (L2.defScope st).names.lookup y.1 = some .local := fun y hy => by
    rcases List.mem_cons.mp hy with rfl | hy
    · exact T.kself
    rcases List.mem_cons.mp hy with rfl | hy
    · exact T.ka
    · cases hy
  refine ks_codeAny_call_defAt (fd := ksFn "__init__" qual (L2.defArgs st) (L2.defBody st) (L2.defScope st) .none kV doc pm an (.ref cda) ct cc) (body := L2.defBody st) (binds := [(("self" : Str), .ref x), (a, v)]) hroom (X _ _ lk) rfl hlim (codeRec_of X hcd) rfl (BindsTo.of_eq (T.bind _ _ _ _ _ _ _ _)) T.nocell hloc (fun h₁ hns hk₁ => ?_) T.co T.gen T.kind
  have hm : (fun y : Str => ([("self", .ref x), (a, v)] : List (Str × Value)).reverse.lookup y) = fun y : Str => ([(a, v), ("self", .ref x)] : List (Str × Value)).lookup y := rfl
  rw [hm] at hns
  have mself : ([(a, v), ("self", .ref x)] : List (Str × Value)).lookup ("self" : Str) = some (.ref x) := by simp [List.lookup, T.na]
  have ma : ([(a, v), ("self", .ref x)] : List (Str × Value)).lookup a = some v := by simp [List.lookup]
  have hxL : s.heap.objs.size ≠ x := Nat.ne_of_gt (Heap.lt_size hx)
  have G₁ : Gnd K mg h₁ := G.keeps hk₁
  have hx₁ := hk₁ _ _ hx
  show _root_.PySem.wpAt (model prog w) (A.deeper (ksEnv qual (L2.defScope st) s.heap.objs.size fI (.ref cda) cc)) (.func (L2.defBody st) (ksEnv qual (L2.defScope st) s.heap.objs.size fI (.ref cda) cc)) (execs (L2.defBody st) (ksEnv qual (L2.defScope st) s.heap.objs.size fI (.ref cda) cc)) _ _ _
  rw [show execs (L2.defBody st) (ksEnv qual (L2.defScope st) s.heap.objs.size fI (.ref cda) cc) = execs [supE p1 p2 p3 p4 p5 p6 a, stoE q1 q2 q3 q4 a] (ksEnv qual (L2.defScope st) s.heap.objs.size fI (.ref cda) cc) by rw [hbody]]
  refine ks_wpAt_execs_cons (st := supE p1 p2 p3 p4 p5 p6 a) (rest := [stoE q1 q2 q3 q4 a]) ?_
  refine sup_stmt T.cls (s := { s with heap := h₁, toks := _ }) G₁ hns hx₁ mself ma hpar T.kind T.ks T.kc T.kself T.ka T.top T.da hsup fun h₂ tk₂ t1 k₂ hx₂ => ?_
  have hns₂ : h₂.Ns s.heap.objs.size (fun y : Str => ([(a, v), ("self", .ref x)] : List (Str × Value)).lookup y) := by
    obtain ⟨o, es, ep, e, d, r⟩ := hns
    exact ⟨o, es, ep, k₂ _ _ hxL e, d, r⟩
  have X₂ : K.In h₂ := fun c o e => k₂ c o (fun y => by rw [y, hnx] at e; cases e) (G₁.kin c o e)
  refine wpAt_of_wpAny (wpAny_execs_cons (sto1 T.cls (s := { s with heap := h₂, toks := tk₂ }) X₂ hns₂ hx₂ mself ma T.kind T.kself T.ka T.da T.ta (hsa _) fun h₃ tk₃ dx Z => ?_))
  show wpAny _ _ (execs [] _) _ _ _
  have z1 : s.heap.objs.size < h₂.objs.size := lt_of_ns hns₂
  exact wpAny_execs_nil (hq h₃ tk₃ dx t1 ⟨fun c o hc e => Z.keep c o hc (k₂ c o hc (hk₁ c o e)), Z.obj, Nat.le_trans (Nat.le_of_lt z1) Z.dbig, Z.dne, Z.ns⟩)
/-- what a made exception is -/
structure XMade (h h' : Heap) (e C d : Addr) (m : Str → Option Value) : Prop where
  keep : ∀ b o, h.get? b = some o → h'.get? b = some o
  new : h.objs.size ≤ e
  obj : ∃ oe vs, h'.get? e = some oe ∧ oe.cls = .ref C ∧ oe.dict = some d ∧ oe.data = .fields vs ∧ vs[1]? = some .none
  dbig : h.objs.size ≤ d
  dne : d ≠ e
  ns : h'.Ns1 d m
/-- a class made by its __init__ -/
theorem made_by {qual : Str} {st : Stmt} (T : XCls prog K C fI cc cda qual st) {s : Shared} {vs : List Value} {m : Str → Option Value} (G : Gnd K mg s.heap) (hlim : s.heap.NoLimit) (hroom : A.depth + 1 < recursionLimit) (hz : vs.length ≤ 1000)
    (hi : ∀ (A' : Around) (s' : Shared) (x t0 : Addr) (R' : Result → Shared → Prop), Gnd K mg s'.heap → s'.heap.NoLimit → s'.heap.get? x = some (excO C t0) → K.lookup x = none → A'.depth < recursionLimit →
      (∀ h' tk dx t1, XEnd s'.heap h' x C dx t1 m → R' (.ok (.ret .none)) { s' with heap := h', toks := tk }) → codeAny (model prog w) A' (.call (.ref fI) ⟨.ref x :: vs, []⟩) R' s')
    (hq : ∀ h' tk e d, XMade s.heap h' e C d m → R (.ok (.ret (.ref e))) { s with heap := h', toks := tk }) : codeAny (model prog w) A (.call (.ref C) ⟨vs, []⟩) R s := by
  have X := G.kin
  obtain ⟨nm, N', qn, bs, bm, hdct, sn, sub, ab, col, dd, k0, k1, k2, k3, k5, hC, hT⟩ := excInit_of X T.new
  obtain ⟨hp, g, dr, tk, os⟩ := s
  obtain ⟨oI, hoI, hcI⟩ : ∃ oI, hp.get? fI = some oI ∧ oI.cls = .type "function" := by
    obtain ⟨o, ho, hc⟩ := Option.map_eq_some_iff.mp (show (K.lookup fI).map (·.cls) = some (.type "function") from beq_iff_eq.mp T.isf)
    exact ⟨o, X _ _ ho, hc⟩
  have k : ∀ b o, hp.get? b = some o → ((hp.push (kdv_tup vs)).push (excO C hp.objs.size)).get? b = some o := fun b o e => Heap.get?_push_of_some _ (Heap.get?_push_of_some _ e)
  have hget : ((hp.push (kdv_tup vs)).push (excO C hp.objs.size)).get? (hp.objs.size + 1) = some (excO C hp.objs.size) := by heap_get
  have hnx : K.lookup (hp.objs.size + 1) = none := by
    cases e : K.lookup (hp.objs.size + 1) with
    | none => rfl
    | some o =>
      have z : hp.get? (hp.objs.size + 1) = some o := X _ _ e
      exact absurd (Nat.lt_of_succ_lt (Heap.lt_size z)) (Nat.lt_irrefl _)
  refine HandSPX.call_own PySem.F.excBase_Exception hT hC (looks_findIn X T.ini) (fun self => exc_bind hoI hcI self) (Nat.le_trans hz (by decide)) ?_
  refine hi _ ⟨(hp.push (kdv_tup vs)).push (excO C hp.objs.size), g, dr, tk, os⟩ _ _ _ (G.keeps k) (hlim.keeps k) hget hnx ?_ fun h' tk' dx t1 Z => ?_
  · show A.depth + 1 < recursionLimit
    exact hroom
  · have old : ∀ b o, hp.get? b = some o → h'.get? b = some o := fun b o e => Z.keep b o (Nat.ne_of_lt (Nat.lt_succ_of_lt (Heap.lt_size e))) (k b o e)
    have z : hp.objs.size + 1 + 1 ≤ dx := by
      have q := Z.dbig
      rw [Heap.size_push, Heap.size_push] at q
      exact q
    exact ⟨rfl, hq h' tk' (hp.objs.size + 1) dx ⟨old, Nat.le_succ _, ⟨_, _, Z.obj, rfl, rfl, rfl, rfl⟩, Nat.le_trans (Nat.le_trans (Nat.le_succ _) (Nat.le_succ _)) z, Z.dne, Z.ns⟩⟩
end
end FPX
end PySem
/-! FP V: raise C(..). -/
namespace FP
open PySem PySem.Spec PyProof.Rows L2 FPX

/-- the class that a module's name holds, its fields -/
structure XC (P : Program) (w : World) (K : PySem.W.Frag) (mg : Str → Option Value) (x : Str) (ns : List Str) : Prop where
  at_ : ∃ C, mg x = some (.ref C) ∧ PySem.W.keepIn K (.ref C) = true ∧ PySem.W.subIn K (.ref C) (.type "BaseException") = some true ∧ PySem.W.typeIn K (.ref C) = some (.type "type") ∧ XfC K C ∧ (∀ n ∈ ns, PySem.W.findIn K (.ref C) n = some none) ∧
    ∀ (A : Around) (R : Result → Shared → Prop) (s : Shared) (us : List Value), us.length = ns.length → Gnd K mg s.heap → s.heap.NoLimit → A.depth + 1 < recursionLimit →
      (∀ h' tk e d m, XMade s.heap h' e C d m → (∀ f, m f = List.lookup f (ns.zip us)) → R (.ok (.ret (.ref e))) { s with heap := h', toks := tk }) → codeAny (model P w) A (.call (.ref C) ⟨us, []⟩) R s
theorem relO_zip : ∀ {ns : List Str} {vs : List V} {us : List Value}, Vals vs us → ∀ f, RelO (List.lookup f (ns.zip vs)) (List.lookup f (ns.zip us))
  | [], _, _, _, f => by simp [RelO]
  | n :: ns, _, _, .nil, f => by simp [RelO]
  | n :: ns, _, _, .cons r q, f => by
    rw [List.zip_cons_cons, List.zip_cons_cons, List.lookup_cons, List.lookup_cons]
    cases h : (f == n) with
    | true => exact r
    | false => exact relO_zip q f
theorem argsR_zip {K : KW} {b : Hp} : ∀ {ns : List Str} {vs : List V} {ds : List D}, DpAll K b vs ds → ArgsR K b (ns.zip vs) (ns.zip ds)
  | [], _, _, _ => .nil
  | n :: ns, _, _, .nil => .nil
  | n :: ns, _, _, .cons r q => .cons ⟨rfl, r⟩ (argsR_zip q)
section
variable {F : Fx} {e : Expr} {es : List Expr} {pos p pos2 : Pos} {fr : Env → R (List D)} {x : Str} {ns : List Str}
def tMk (F : Fx) (x : Str) (ns : List Str) (fr : Env → R (List D)) : L2.St → Hp → XK → Prop := fun σ H Q => ∃ b env, F.G b H σ env ∧ Po F b H σ (fr env) fun ds b1 h1 => ∀ vs, vs.length = ns.length → DpAll F.kw b1 vs ds →
  ∀ C d, F.X.mg x = some (.ref C) → h1 d = none → Q (.ref C) (some d) (upd h1 d (.xd (ns.zip vs)))
theorem gnd_of {X : Cx} {pins : List (Addr × Obj)} {σ : L2.St} {H : Hp} {s : Shared} (I : L2.Inv X pins σ H s) (hs : X.mg "super" = none) : Gnd X.K X.mg s.heap := by
  refine ⟨I.kIn, I.mod.glob.keeps I.bk, hs, ?_⟩
  obtain ⟨mb, h1, h2⟩ := I.mod.blt
  exact ⟨mb, h1.keeps I.bk, (h2 "super" (by decide)).trans (by rfl)⟩
theorem pmk_x (xc : XC F.X.prog F.X.w F.X.K F.X.mg x ns) (hsp : F.X.mg "super" = none) (hk : 2 ≤ F.k) (ha : IA F ns.length (e :: es) fr) (hg : Gl F.X x := by rfl) (hdb : (x == ("__debug__" : Str)) = false := by decide)
    (he : starEach (e :: es) F.X.env = (false, eval e F.X.env) :: starEach es F.X.env := by rfl) (hpl : (backTo pos (starEach es F.X.env)).any (·.1) = false := by rfl) :
    PMk F.X (.Call (.Name x p) (e :: es) [] pos) (tMk F x ns fr) := by
  intro pins s σ H Q I h
  obtain ⟨C, gC, kC, exC, tyC, XF, nos, call_⟩ := xc.at_
  refine wpAny_Call_Name_kw (ld_glob I hg gC ?_ hdb)
  refine PySem.W.callWith_K (h₀ := F.X.base) I.ok.mod.kin kC (thn (ha.run pos pins s σ H (fun vs h1 => vs.length = ns.length ∧ ∀ d, h1 d = none → Q (.ref C) (some d) (upd h1 d (.xd (ns.zip vs)))) I ?_) fun us s1 hh => ?_) he hpl
  · obtain ⟨b, env, G, p⟩ := h
    exact ⟨b, env, G, p.imp fun ds b1 h1 _ q vs hl r => ⟨hl, fun d hd => q vs hl r C d gC hd⟩⟩
  obtain ⟨vs, H1, I1, r1, hl, q1⟩ := hh
  refine ⟨I1.kIn, ?_⟩
  show wpAny _ _ (call (.ref C) us) _ _ _
  have hlim := I1.nolimit
  have G0 := gnd_of I1 hsp
  have ul : us.length = ns.length := by rw [← r1.length]; exact hl
  have room : F.X.A.depth + 1 < recursionLimit := by have := F.room.dp; omega
  obtain ⟨hp, g, dr, tk, os⟩ := s1
  refine wpAny_call (call_ F.X.A _ ⟨hp, g, dr, tk, os⟩ us ul G0 hlim room fun h' tk' e d m M hm => ?_)
  show MkP F.X pins σ Q (.ref e) ⟨h', g, dr, tk', os⟩
  obtain ⟨oe, fv, hoe, hc, hd, hdat, h1⟩ := M.obj
  have hns := M.ns
  obtain ⟨G', g1, g2⟩ := restrict h' fun b => decide (b ≠ e)
  have gk : ∀ b, b ≠ e → G'.get? b = h'.get? b := fun b hb => g1 b (decide_eq_true hb)
  have ge : G'.get? e = none := g2 e (by simp)
  have old : ∀ b o, hp.get? b = some o → G'.get? b = some o := fun b o q => (gk b (Nat.ne_of_lt (Nat.lt_of_lt_of_le (Heap.lt_size q) M.new))).trans (M.keep b o q)
  have ob : ObjOk F.X.prog F.X.w (upd H1 d (.xd (ns.zip vs))) G' d (.xd (ns.zip vs)) :=
    ⟨_, hns.at (fun o q => (gk d M.dne).trans q), fun f => by rw [hm f]; exact relO_zip r1 f⟩
  have J : Inv F.X pins σ (upd H1 d (.xd (ns.zip vs))) ⟨G', g, dr, tk', os⟩ := I1.laid (t' := tk') old M.dbig ob
  refine ⟨e, oe, fv, ⟨G', g, dr, tk', os⟩, _, .ref C, some d, rfl, J, fun b o q => ?_, ge, hoe, ⟨hc, hd⟩, hdat, h1, ?_, rfl, I1.bare, raises_own exC tyC, q1 d (I1.hok.fresh M.dbig)⟩
  · by_cases hb : b = e
    · have q' : G'.get? b = some o := q
      rw [hb, ge] at q'; cases q'
    · exact (gk b hb).symm.trans q
  · rw [upd_ne (Ne.symm M.dne)]
    exact I1.hok.fresh M.new
/-- raise x(..) -/
def sRaise (x : Str) (ns : List Str) (fr : Env → R (List D)) : Env → SR := fun env => (fr env).s env fun ds => .ex x (ns.zip ds) env
theorem is_raise (xc : XC F.X.prog F.X.w F.X.K F.X.mg x ns) (hsp : F.X.mg "super" = none) (hk : 2 ≤ F.k) (ha : IA F ns.length (e :: es) fr) (hg : Gl F.X x := by rfl) (hdb : (x == ("__debug__" : Str)) = false := by decide)
    (he : starEach (e :: es) F.X.env = (false, eval e F.X.env) :: starEach es F.X.env := by rfl) (hpl : (backTo pos (starEach es F.X.env)).any (·.1) = false := by rfl) (hsu : F.sui = false := by rfl) :
    IS F (.Raise (some (.Call (.Name x p) (e :: es) [] pos)) none pos2) (sRaise x ns fr) :=
  PS.imp (ps_raise (F.calm hsu) F.tk (pmk_x xc hsp hk ha hg hdb he hpl)) fun Dn σ H ⟨b, env, G, p⟩ => by
    refine ⟨b, env, G, PoS.bnd G p fun ds _ b1 h1 x1 G1 p1 vs hl rs C d gC hd => ?_⟩
    exact p1 b1 _ σ d C _ (Same.refl _) (G1.grow (Ext.newH x1.bh hd)) gC upd_same (argsR_zip rs)
end
end FP
/-! FP W: try: .. except C as e: .. -/
namespace FP
open PySem L2 PySem.Spec PyProof.Rows

/-- a caught exception's object -/
def excHc (a : Addr) (cls : Value) (d : Option Addr) : HO := .ext fun h => ∃ (oe : Obj) (vs : Array Value), h.get? a = some oe ∧ oe.cls = cls ∧ oe.dict = d ∧ oe.data = .fields vs
theorem excHc_ok {P : Program} {w : World} {H : Hp} {h : Heap} {a : Addr} {cls : Value} {d : Option Addr} {oe : Obj} (he : h.get? a = some oe) (hz : Zc cls d oe) (hf : ∃ vs, oe.data = .fields vs) : ObjOk P w H h a (excHc a cls d) := by
  obtain ⟨vs, hd⟩ := hf
  exact ⟨⟨oe, vs, he, hz.1, hz.2, hd⟩, ⟨oe, he⟩, fun h1 h2 ⟨o, ws, e, z⟩ k => ⟨o, ws, k _ e, z⟩⟩
/-- the context of an except suite that raises nothing -/
abbrev suiteY (X : Cx) (a : Addr) : Cx := { X with A := X.A.mark (some (.ref a)), calm := false, xe := fun _ _ => False }
section
variable {X : Cx} {pins : List (Addr × Obj)} {σ : L2.St} {H : Hp} {s : Shared}
theorem okY (ok : X.Ok) (a : Addr) : (suiteY X a).Ok :=
  ⟨ok.mod, ok.kind, ok.glob, ok.blt, ok.above, ok.inj, ok.has, ok.cab, (fun z => absurd (show false = true from z) Bool.false_ne_true), ok.frames, ok.stk, ok.exf, ok.bs, ok.bsz, ok.noex, ok.exfs, ok.funs, ok.frf⟩
theorem invY (I : L2.Inv X pins σ H s) (a : Addr) : L2.Inv (suiteY X a) pins σ H s :=
  ⟨okY I.ok a, I.os, I.bare, I.base, I.loc, I.cell, I.free, I.freeC, I.pin, I.hok, I.len⟩
theorem invUnY {a : Addr} (I : L2.Inv (suiteY X a) pins σ H s) (ok : X.Ok) : L2.Inv X pins σ H s :=
  ⟨ok, I.os, I.bare, I.base, I.loc, I.cell, I.free, I.freeC, I.pin, I.hok, I.len⟩
/-- the exception that is caught is tracked from now on -/
theorem landedX {sI s' : Shared} {B : Heap} {a : Addr} {o : HO} (I : L2.Inv X pins σ H sI) (nb : ∀ b o, sI.heap.get? b = some o → b ∉ frs X.stack → B.get? b = some o) (st : B.StaysIn s'.heap) (up : sI.heap.UpToSlots s'.heap) (os : s'.os = sI.os) (ag : AllBare s'.gens)
    (na : H a = none) (nI : sI.heap.get? a = none) (new : ObjOk X.prog X.w (upd H a o) s'.heap a o) : L2.Inv X pins σ (upd H a o) s' := by
  have nf : ∀ b ∈ frs X.stack, ∀ o, sI.heap.get? b = some o → ∃ sl, s'.heap.get? b = some { o with slots := sl } := fun b hb o e => by
    obtain ⟨_, o', e', hd⟩ := I.stack.mem hb
    rw [e] at e'; cases e'
    exact up b o e hd
  have J := I.call (ch := []) (h' := s'.heap) (g' := s'.gens) (t' := s'.toks) (d' := s'.drawn) (H' := upd H a o)
    ⟨fun b o e _ hb _ => st b o (nb b o e hb), fun b o e _ hb _ => nf b hb o e, fun b o e n _ => by rw [upd_ne (fun z => by rw [z, nI] at e; cases e)]; exact n, fun b o e _ => by
      by_cases hb : b ∈ frs X.stack
      · obtain ⟨sl, q⟩ := nf b hb o e
        exact ⟨_, q⟩
      · exact ⟨o, st b o (nb b o e hb)⟩, fun b xs e => by rw [upd_ne (ne_of_none e na)]; exact e, fun b u xs e => by rw [upd_ne (ne_of_none e na)]; exact e, fun b ps e => ⟨#[], by rw [upd_ne (ne_of_none e na), e]; simp⟩⟩
    (HOk.laidN ((I.inGround nb).kept st) (fun _ _ q => q) na new) ag (fun _ z => nomatch z)
  obtain ⟨a1, a2, a3, a4, a5⟩ := s'
  have e5 : a5 = sI.os := os
  subst e5
  exact J
end
/-- a flight in a heap that grew -/
theorem flying_grow {B h h' : Heap} {l : List PySem.Env} {a : Addr} {Z : Obj → Prop} (x : HandSPX.FlyingZ B l a Z h) (k : ∀ b o, h.get? b = some o → h'.get? b = some o) : HandSPX.FlyingZ B l a Z h' := by
  obtain ⟨k1, k2, k3, oe, vs, T, oT, ts, he, hz, hd, h1, hn, hne, hT, hr⟩ := x
  exact ⟨fun b o e => k _ _ (k1 b o e), k2, k3.of_keeps fun b o e _ => ⟨o, k _ _ e, rfl⟩, oe, vs, T, oT, ts, k _ _ he, hz, hd, h1, hn, hne, k _ _ hT, hr⟩
theorem upTo_grow {h h' : Heap} (k : ∀ b o, h.get? b = some o → h'.get? b = some o) : h.UpToSlots h' := fun b o e _ => ⟨o.slots, k b o e⟩
/-- how a clause's classes are looked at -/
def Tst (X : Cx) (te : Expr) (cs : List Value) : Prop := ∀ (a : Addr) (cls : Value) (b : Bool) (pins : List (Addr × Obj)) (σ : L2.St) (H : Hp) (s : Shared) (E : Value → Shared → Prop) (Q : Bool → Shared → Prop), L2.Inv (suiteY X a) pins σ H s →
  (∀ h, (∀ c o, s.heap.get? c = some o → h.get? c = some o) → PySem.W.Looks (model X.prog X.w) h (typeOf (.ref a)) cls) → PySem.W.exmAny X.K cls cs = some b →
  (∀ h' tk, (∀ c o, s.heap.get? c = some o → h'.get? c = some o) → Q b { s with heap := h', toks := tk }) →
  wpAny (model X.prog X.w) (X.A.mark (some (.ref a))) (eval te X.env) (fun c s₁ => wpAny (model X.prog X.w) (X.A.mark (some (.ref a))) (excMatches (.ref a) c) Q E s₁) E s
theorem tst_one {X : Cx} {x : Str} {c : Value} {np : Pos} (hc : Names X x c) : Tst X (.Name x np) [c] := by
  intro a cls b pins σ H s E Q I LT hx q
  obtain ⟨b1, d1, x1, y1, rfl⟩ := PySem.W.exmAny_cons hx
  cases y1
  have LM := PySem.W.exm_one (M := model X.prog X.w) I.kIn (LT s.heap fun _ _ e => e) x1
  have fin : wpAny (model X.prog X.w) (X.A.mark (some (.ref a))) (excMatches (.ref a) c) Q E s := LM.here (by
    have := q s.heap s.toks fun _ _ e => e
    rw [Bool.or_false] at this
    exact this)
  obtain ⟨hg, hdbg, hm | ⟨hm, hv, hnn⟩⟩ := hc
  · exact ld_glob (X := suiteY X a) I hg hm fin hdbg
  · exact ld_blt (X := suiteY X a) I hg hm hv fin hnn hdbg

abbrev HA : Type := List Value × Option Nat × (Addr → TS)
def setNo (io : Option Nat) (σ : L2.St) : L2.St := match io with
  | some i => σ.set i none
  | none => σ
def setA (io : Option Nat) (a : Addr) (σ : L2.St) : L2.St := match io with
  | some i => σ.set i (some (.ref a))
  | none => σ
def wA (K : PySem.W.Frag) (Wout : WX) (D : Ends) : List HA → WX
  | [] => Wout
  | (cs, io, ts) :: r => fun cls d σ H => ∃ b, PySem.W.exmAny K cls cs = some b ∧ (b = true → ∀ a, H a = none → ts a { nx := fun σ' H' => D.nx (setNo io σ') H', rt := D.rt, bk := fun σ' H' => D.bk (setNo io σ') H', ct := fun σ' H' => D.ct (setNo io σ') H' } (setA io a σ) (upd H a (excHc a cls d))) ∧
    (b = false → wA K Wout D r cls d σ H)
inductive HdsA (X : Cx) : List ExceptHandler → List HA → Prop
  | nil : HdsA X [] []
  | plain {te : Expr} {cs : List Value} {ts : Addr → TS} {b₀ : Stmt} {suite : List Stmt} {pos' : Pos} {hds : List ExceptHandler} {l : List HA} (ht : Tst X te cs) (hsu : ∀ a : Addr, PSs (suiteY X a) (b₀ :: suite) (ts a)) (r : HdsA X hds l) :
      HdsA X (.ExceptHandler (some te) none (b₀ :: suite) pos' :: hds) ((cs, none, ts) :: l)
  | named {te : Expr} {cs : List Value} {n : Str} {i : Nat} {ts : Addr → TS} {b₀ : Stmt} {suite : List Stmt} {pos' : Pos} {hds : List ExceptHandler} {l : List HA} (ht : Tst X te cs) (hi : X.N[i]? = some n) (hln : X.env.kindOf n = some .local) (hsu : ∀ a : Addr, PSs (suiteY X a) (b₀ :: suite) (ts a)) (r : HdsA X hds l) :
      HdsA X (.ExceptHandler (some te) (some n) (b₀ :: suite) pos' :: hds) ((cs, some i, ts) :: l)
section
variable {X : Cx} {body : List Stmt} {h₀ : ExceptHandler} {hds : List ExceptHandler} {l : List HA} {pos : Pos} {tb : WX → TS} {Wout : WX}
theorem ps_tryA (hs : X.stack = X.env :: X.outer) (hf : X.env.frame = some X.env.locals) (hN : X.N.Nodup) (tk : Takes X Wout)
    (hb : ∀ (W : WX) (pn : List (Addr × Obj)) (xe : Value → Shared → Prop), Takes (X.tr pn xe) W → PassesOwn (model X.prog X.w) X.A X.env xe → PSs (X.tr pn xe) body (tb W))
    (hh : HdsA X (h₀ :: hds) l) : PS X (.Try body (h₀ :: hds) [] [] pos) (fun D σ H => tb (wA X.K Wout D l) D σ H) := by
  refine ⟨fun pins s σ H D I h => ?_⟩
  have ok := I.ok
  have hfr : X.A.frames = some (X.env :: X.outer) := by rw [ok.frames, hs]
  refine wpAny_Try_except ?_
  refine wpAny_mono ((hb (wA X.K Wout D l) (X.pn ++ pins) (fun e s₁ => wpAny (model X.prog X.w) X.A (noteFrame e X.env) (fun _ s₂ => wpAny (model X.prog X.w) X.A (setFlight e none) (fun _ s₃ =>
    wpAny (model X.prog X.w) X.A (handleBy e X.env (h₀ :: hds)) (SP X pins D) X.xe s₃) X.xe s₂) X.xe s₁) (fun u s' xx => ?_) PassesOwn.looking).run [] s σ H D (I.toTry _) h) (fun f s1 hsp => ?_) (fun e s1 he => he)
  · -- the catch
    obtain ⟨a, B, sI, pins', σ', H', cls, d, rfl, J', nb, up, sky, na, os, ag, w⟩ := xx
    have J : L2.Inv X pins σ' H' sI := J'.ofTry ok
    have sky' : Sky B (X.env :: X.outer) a (Zc cls d) X.env.locals s'.heap := by rw [← hs]; exact sky
    show wpAny (model X.prog X.w) X.A (noteFrame (.ref a) X.env) _ _ _
    refine Sky.land Zc.steady hfr hf sky' fun h3 fl3 up3 => ?_
    have notFr : ∀ {h : Heap} {o : Obj} {vs : Array Value}, h.FunFrames B (X.env :: X.outer) → h.get? a = some o → o.data = .fields vs → a ∉ frs (X.env :: X.outer) := fun {h o vs} ff e dd hm => by
      obtain ⟨_, o', e', hnf⟩ := ff.mem hm
      rw [e] at e'; cases e'
      exact hnf _ dd
    have go : ∀ {hds' : List ExceptHandler} {l' : List HA}, HdsA X hds' l' → wA X.K Wout D l' cls d σ' H' → ∀ s3 : Shared, HandSPX.FlyingZ B (X.env :: X.outer) a (Zc cls d) s3.heap → sI.heap.UpToSlots s3.heap → s3.os = sI.os → AllBare s3.gens →
        wpAny (model X.prog X.w) X.A (handleBy (.ref a) X.env hds') (SP X pins D) X.xe s3 := by
      intro hds' l' hk
      have suite : ∀ {io : Option Nat} {ts : Addr → TS} {s3 : Shared}, HandSPX.FlyingZ B (X.env :: X.outer) a (Zc cls d) s3.heap → sI.heap.UpToSlots s3.heap → s3.os = sI.os → AllBare s3.gens → L2.Inv X pins σ' (upd H' a (excHc a cls d)) s3 := by
        intro io ts s3 fl4 up4 os4 ag4
        obtain ⟨oe4, vs4, he4, hz4, hd4⟩ := fl4.there
        have nfr := notFr fl4.2.2.1 he4 hd4
        refine landedX J nb fl4.1 up4 os4 ag4 na ?_ (excHc_ok he4 hz4 ⟨_, hd4⟩)
        cases q : sI.heap.get? a with
        | none => rfl
        | some o =>
          have := nb a o q (by rw [hs]; exact nfr)
          rw [fl4.2.1] at this
          cases this
      induction hk with
      | nil =>
        intro w s3 fl3 up3 os3 ag3
        refine wpAny_handleBy_nil ?_
        obtain ⟨k1, k2, k3, oe, vs, T, oT, ts', he, hz, hd, h1, hr⟩ := id fl3
        unfold PySem.passOn
        refine wpAny_bind (wpAny_field he hd h1 ?_)
        rw [if_neg (show ¬ ((Value.ref T == Value.none) = true) from by simp)]
        have fin : wpAny (model X.prog X.w) X.A (setFlight (.ref a) X.env.frame) (fun _ s4 => wpAny (model X.prog X.w) X.A (throw (.ref a) : Sem Flow) (SP X pins D) X.xe s4) X.xe s3 := by
          rw [hf]
          refine HandSPX.setFlight_upZ fl3 fun h4 hh4 up4 => wpAny_throw (tk _ _ ?_)
          exact ⟨a, B, sI, pins, σ', H', cls, d, rfl, J, nb, up3.trans up4, .inr (.inr (by rw [hs]; exact hh4)), na, os3, ag3, w⟩
        first
          | exact wpAny_bind (wpAny_pure (wpAny_bind fin))
          | exact wpAny_bind fin
      | @plain te cs ts b₀ suite' pos' hds2 l2 ht hsu r ih =>
        intro w s3 fl3 up3 os3 ag3
        obtain ⟨b, hb1, hyes, hno⟩ := w
        have J3 : L2.Inv X pins σ' H' s3 := J.landed nb fl3.1 up3 os3 ag3
        obtain ⟨oe3, vs3, he3, hz3, hd3⟩ := fl3.there
        refine wpAny_handleBy_cons (codeAny_handlers_test ?_) (by intro q; cases q)
        refine ht a cls b pins σ' H' s3 _ _ (invY J3 a) (fun h k A Q E s k2 q => wpAny_typeOf_ref (k2 _ _ (k _ _ he3)) (by rw [hz3.1]; exact q)) hb1 fun h' tk k => ?_
        have fl4 := flying_grow fl3 k
        have up4 := up3.trans (upTo_grow k)
        cases b with
        | true =>
          refine codeAny_handlers_suite ?_
          refine HandSPX.lands_againZ (s := { s3 with heap := h', toks := tk }) fl4 fun h5 fl5 up5 => ?_
          have S := suite (io := none) (ts := ts) (s3 := { s3 with heap := h5, toks := tk }) fl5 (up4.trans up5) os3 ag3
          refine wpAny_mono ((hsu a).run pins _ _ _ _ (invY S a) (hyes rfl a na)) (fun f s6 hsp => ?_) (fun _ _ z => False.elim z)
          cases f with
          | next =>
            obtain ⟨σ6, H6, S6, q6⟩ := hsp
            exact ⟨_, _, invUnY S6 ok, q6⟩
          | brk =>
            obtain ⟨σ6, H6, S6, q6⟩ := hsp
            exact ⟨_, _, invUnY S6 ok, q6⟩
          | cont =>
            obtain ⟨σ6, H6, S6, q6⟩ := hsp
            exact ⟨_, _, invUnY S6 ok, q6⟩
          | ret u =>
            obtain ⟨v6, σ6, H6, S6, r6, q6⟩ := hsp
            exact ⟨_, _, _, invUnY S6 ok, r6, q6⟩
        | false =>
          show wpAny _ X.A (handleBy (.ref a) X.env hds2) _ _ _
          exact ih (hno rfl) { s3 with heap := h', toks := tk } fl4 up4 os3 ag3
      | @named te cs n i ts b₀ suite' pos' hds2 l2 ht hi hln hsu r ih =>
        intro w s3 fl3 up3 os3 ag3
        obtain ⟨b, hb1, hyes, hno⟩ := w
        have J3 : L2.Inv X pins σ' H' s3 := J.landed nb fl3.1 up3 os3 ag3
        obtain ⟨oe3, vs3, he3, hz3, hd3⟩ := fl3.there
        refine wpAny_handleBy_cons (codeAny_handlers_test ?_) (by intro q; cases q)
        refine ht a cls b pins σ' H' s3 _ _ (invY J3 a) (fun h k A Q E s k2 q => wpAny_typeOf_ref (k2 _ _ (k _ _ he3)) (by rw [hz3.1]; exact q)) hb1 fun h' tk k => ?_
        have fl4 := flying_grow fl3 k
        have up4 := up3.trans (upTo_grow k)
        cases b with
        | true =>
          refine codeAny_handlers_suite_as ?_
          refine HandSPX.lands_againZ (s := { s3 with heap := h', toks := tk }) fl4 fun h5 fl5 up5 => ?_
          have S := suite (io := some i) (ts := ts) (s3 := { s3 with heap := h5, toks := tk }) fl5 (up4.trans up5) os3 ag3
          refine store_ok (X := suiteY X a) (v := .ref a) (invY S a) hN hi (.inl hln) rfl (fun s5 S5 => ?_) (.inr hln)
          refine wpAny_mono ((hsu a).run pins s5 _ _ _ S5 (hyes rfl a na)) (fun f s6 hsp => ?_) (fun _ _ z => False.elim z)
          have end_ : ∀ {σ6 : L2.St} {H6 : Hp} {Q : Shared → Prop}, L2.Inv (suiteY X a) pins σ6 H6 s6 → (∀ s7, L2.Inv X pins (σ6.set i none) H6 s7 → Q s7) →
              wpAny (model X.prog X.w) X.A (do bindName X.env n .none; unbindBehindTheSuite X.env n pos') (fun _ s7 => Q s7) X.xe s6 := fun {σ6 H6 Q} S6 hq => gone_ok (invUnY S6 ok) hN hi hln hq
          cases f with
          | next =>
            obtain ⟨σ6, H6, S6, q6⟩ := hsp
            exact end_ S6 fun s7 J7 => ⟨_, _, J7, q6⟩
          | brk =>
            obtain ⟨σ6, H6, S6, q6⟩ := hsp
            exact end_ S6 fun s7 J7 => ⟨_, _, J7, q6⟩
          | cont =>
            obtain ⟨σ6, H6, S6, q6⟩ := hsp
            exact end_ S6 fun s7 J7 => ⟨_, _, J7, q6⟩
          | ret u =>
            obtain ⟨v6, σ6, H6, S6, r6, q6⟩ := hsp
            exact end_ S6 fun s7 J7 => ⟨_, _, _, J7, r6, q6⟩
        | false =>
          show wpAny _ X.A (handleBy (.ref a) X.env hds2) _ _ _
          exact ih (hno rfl) { s3 with heap := h', toks := tk } fl4 up4 os3 ag3
    exact go hh w { s' with heap := h3 } fl3 (up.trans up3) os ag
  · cases f with
    | next =>
      obtain ⟨σ', H', J', q⟩ := hsp
      exact wpAny_execs_nil ⟨σ', H', J'.ofTry ok, q⟩
    | brk =>
      obtain ⟨σ', H', J', q⟩ := hsp
      exact ⟨σ', H', J'.ofTry ok, q⟩
    | cont =>
      obtain ⟨σ', H', J', q⟩ := hsp
      exact ⟨σ', H', J'.ofTry ok, q⟩
    | ret u =>
      obtain ⟨v, σ', H', J', r, q⟩ := hsp
      exact ⟨v, σ', H', J'.ofTry ok, r, q⟩
end
end FP
/-! FP Y: try, its mirror; a caught exception's fields. -/
namespace FP
open PySem L2 PySem.Spec PyProof.Rows

theorem argsR_lookup {K : KW} {b : Hp} : ∀ {fs : List (Str × V)} {as : List (Str × D)} {n : Str} {d : D}, ArgsR K b fs as → as.lookup n = some d → (∃ v, fs.lookup n = some v ∧ Dp K b v d) ∧ ∃ q ∈ as, q.1 = n
  | _, _, n, d, .nil, h => by cases h
  | _, _, n, d, @Paired.cons _ _ _ (m, v) (m', d') fs as r q, h => by
    obtain ⟨e, hd⟩ := r
    have e : m = m' := e
    subst e
    rw [List.lookup_cons] at h ⊢
    cases hn : (n == m) with
    | true =>
      rw [hn] at h
      cases h
      exact ⟨⟨v, rfl, hd⟩, ⟨_, List.mem_cons_self, (beq_iff_eq.mp hn).symm⟩⟩
    | false =>
      rw [hn] at h
      obtain ⟨z, q', hq, e⟩ := argsR_lookup q h
      exact ⟨z, q', List.mem_cons_of_mem _ hq, e⟩
/-- a caught exception's field -/
def eAtt (i : Nat) (n : Str) : Env → R D := fun env => match env[i]? with
  | some (.ow (.exc _ as)) => (match as.lookup n with
    | some d => .ok d
    | none => .no)
  | _ => .no
section
variable {F : Fx}
theorem ie_att (i : Nat) {x n : Str} {p pos : Pos} (hN : F.X.N[i]? = some x := by rfl) (hv : Vis F.X.env.scope x := by first | exact Or.inl rfl | exact Or.inr (Or.inl rfl) | exact Or.inr (Or.inr rfl)) (hd : (x == ("__debug__" : Str)) = false := by decide)
    (hcd : (x == ("__classdict__" : Str)) = false := by decide) (hb : attributeBase (.Name x p) n F.X.env (eval (.Name x p) F.X.env) = eval (.Name x p) F.X.env := by rfl) : IE F (.Attribute (.Name x p) n pos) (eAtt i n) := by
  refine ⟨fun pins s σ H Q I h => ?_⟩
  obtain ⟨b, env, G, q⟩ := h
  unfold eAtt at q
  split at q
  · rename_i c as e
    split at q
    · rename_i d el
      obtain ⟨a, ea, ok, n0, m0⟩ := G.own e
      obtain ⟨C, dd, fs, h1, h2, ar, xf, nos⟩ := ok
      refine attr_of hb (thn ((pe_var hN hv hd hcd).run pins s σ H (fun x H1 => x = .ref a ∧ H1 = H) I ⟨.ref a, ea, rfl, rfl⟩) fun u s1 hh => ?_)
      obtain ⟨x1, H1, I1, rx, rfl, rfl⟩ := hh
      obtain rfl : u = Value.ref a := rx
      obtain ⟨⟨oe, vs, ho, hc, hdc, hdt⟩, _, _⟩ := I1.hok a _ h1
      obtain ⟨mA, hns, hr⟩ := I1.hok dd _ h2
      obtain ⟨od, hod, hl⟩ := lookIn_ns hns
      obtain ⟨⟨v, lv, rv⟩, q0, hq0, eq0⟩ := argsR_lookup ar el
      obtain ⟨u, hu, ru⟩ := RelO.some_of (v := v) (o := mA n) (by rw [← lv]; exact hr n)
      have J : PySem.W.InstAt s1.heap a oe C (some od) := ⟨ho, hc, by unfold PySem.W.notCls; rw [hdt] <;> rfl, by rw [hdc]; exact hod⟩
      exact HandSPX.exc_get I1.kIn J xf.ga xf.gg xf.exC (PySem.W.findObj_own xf.hdC (by have := nos q0 hq0; rw [eq0] at this; exact this) rfl (by rw [hl, hu])) (handed_of ru) ⟨v, H1, I1.tok _, ru, q b H1 (Ext.refl G.bh) v rv⟩
    · exact q.elim
  · exact q.elim
end

/-! ### the mirror -/
abbrev Tab : Type := List (Str × List Str)
abbrev MH : Type := List Str × Option Nat × (Env → SR)
def clr (io : Option Nat) (env : Env) : Env := match io with
  | some i => env.set i .no
  | none => env
def hEnd (io : Option Nat) : SR → SR
  | .nx env => .nx (clr io env)
  | .bk env => .bk (clr io env)
  | .ct env => .ct (clr io env)
  | .rt d => .rt d
  | _ => .no
def hIn (io : Option Nat) (c : Str) (as : List (Str × D)) (env : Env) : Env := match io with
  | some i => env.set i (.ow (.exc c as))
  | none => env
def sHs : List MH → Str → List (Str × D) → Env → SR
  | [], c, as, env => .ex c as env
  | (xs, io, su) :: r, c, as, env => if xs.contains c then hEnd io (su (hIn io c as env)) else sHs r c as env
def sTry (tab : Tab) (sb : Env → SR) (hs : List MH) : Env → SR := fun env => match sb env with
  | .ex c as env' => (match tab.lookup c with
    | some ns => if ns = as.map (·.1) then sHs hs c as env' else .no
    | none => .no)
  | r => r

/-! ### contexts -/
/-- where a try's body stands -/
abbrev Fx.tr (F : Fx) (W : WX) (pn : List (Addr × Obj)) (xe : Value → Shared → Prop) (tk : Takes (F.X.tr pn xe) W) (ow : PassesOwn (model F.X.prog F.X.w) F.X.A F.X.env xe) : Fx where
  X := F.X.tr pn xe
  W := W
  b0 := F.b0
  h0 := F.h0
  T := F.T
  k := F.k
  pre := F.pre
  tk := tk
  sui := F.sui
  calm := F.calm
  nd := F.nd
  room := F.room
  hand := F.hand
  owns := fun _ => ow
/-- .. for what is wished alone -/
abbrev Fx.trN (F : Fx) (W : WX) : Fx where
  X := F.X.tr [] (fun _ _ => True)
  W := W
  b0 := F.b0
  h0 := F.h0
  T := F.T
  k := F.k
  pre := F.pre
  tk := fun _ _ _ => trivial
  sui := true
  calm := fun z => by cases z
  nd := F.nd
  room := F.room
  hand := fun z => by cases z
  owns := fun z => by cases z
/-- where an except suite stands -/
abbrev Fx.suite (F : Fx) (a : Addr) : Fx where
  X := suiteY F.X a
  W := fun _ _ _ _ => False
  b0 := F.b0
  h0 := F.h0
  T := F.T
  k := F.k
  pre := F.pre
  tk := takes0
  sui := true
  calm := fun z => by cases z
  nd := F.nd
  room := ⟨F.room.dp, F.room.un⟩
  hand := fun z => by cases z
  owns := fun z => by cases z
/-- what the written part says of the classes of the table -/
structure ExK (K : PySem.W.Frag) (mg : Str → Option Value) (tab : Tab) : Prop where
  cl : ∀ c ns, tab.lookup c = some ns → ∃ C, mg c = some (.ref C) ∧ XfC K C ∧ ∀ n ∈ ns, PySem.W.findIn K (.ref C) n = some none
  tst : ∀ c x ns ms, tab.lookup c = some ns → tab.lookup x = some ms → ∀ C D, mg c = some (.ref C) → mg x = some (.ref D) → PySem.W.exmOne K (.ref C) (.ref D) = some (c == x)
section
variable {F : Fx} {tab : Tab}
inductive HsF (F : Fx) (tab : Tab) : List ExceptHandler → List MH → List HA → Prop
  | nil : HsF F tab [] [] []
  | plain {te : Expr} {cs : List Value} {xs : List Str} {su : Env → SR} {b₀ : Stmt} {suite : List Stmt} {pos' : Pos} {hds : List ExceptHandler} {ms : List MH} {l : List HA} (ht : Tst F.X te cs) (hm : ∀ c ns, tab.lookup c = some ns → ∀ C, F.X.mg c = some (.ref C) → PySem.W.exmAny F.X.K (.ref C) cs = some (xs.contains c))
      (hsu : ∀ a : Addr, ISs (F.suite a) (b₀ :: suite) su) (r : HsF F tab hds ms l) : HsF F tab (.ExceptHandler (some te) none (b₀ :: suite) pos' :: hds) ((xs, none, su) :: ms) ((cs, none, fun a => tS (F.suite a) su) :: l)
  | named {te : Expr} {cs : List Value} {xs : List Str} {n : Str} {i : Nat} {su : Env → SR} {b₀ : Stmt} {suite : List Stmt} {pos' : Pos} {hds : List ExceptHandler} {ms : List MH} {l : List HA} (ht : Tst F.X te cs) (hm : ∀ c ns, tab.lookup c = some ns → ∀ C, F.X.mg c = some (.ref C) → PySem.W.exmAny F.X.K (.ref C) cs = some (xs.contains c))
      (hi : F.X.N[i]? = some n) (hln : F.X.env.kindOf n = some .local) (hsu : ∀ a : Addr, ISs (F.suite a) (b₀ :: suite) su) (r : HsF F tab hds ms l) : HsF F tab (.ExceptHandler (some te) (some n) (b₀ :: suite) pos' :: hds) ((xs, some i, su) :: ms) ((cs, some i, fun a => tS (F.suite a) su) :: l)
theorem HsF.hds {hds : List ExceptHandler} {ms : List MH} {l : List HA} (h : HsF F tab hds ms l) : HdsA F.X hds l := by
  induction h with
  | nil => exact .nil
  | plain ht hm hsu r ih => exact .plain ht (fun a => hsu a) ih
  | named ht hm hi hln hsu r ih => exact .named ht hi hln (fun a => hsu a) ih
theorem setNo_ok {b h : Hp} {σ : L2.St} {env : Env} (io : Option Nat) (G : F.G b h σ env) : F.G b h (setNo io σ) (clr io env) := by
  cases io with
  | none => exact G
  | some i => exact Good.forget G i
theorem wA_of {Dn : Ends} {hds : List ExceptHandler} {ms : List MH} {l : List HA} (h : HsF F tab hds ms l) {b : Hp} {c : Str} {as : List (Str × D)} {env : Env} {ns : List Str} (ek : ExK F.X.K F.X.mg tab) (hc : tab.lookup c = some ns) (hn : ns = as.map (·.1)) (p : PoS F Dn b (sHs ms c as env))
    {b' h' : Hp} {σ' : L2.St} {dd C : Addr} {fs : List (Str × V)} (sb : Same b b') (G : F.G b' h' σ' env) (hm : F.X.mg c = some (.ref C)) (hd : h' dd = some (.xd fs)) (ha : ArgsR F.kw b' fs as) : wA F.X.K F.W Dn l (.ref C) (some dd) σ' h' := by
  induction h with
  | nil => exact p b' h' σ' dd C fs sb G hm hd ha
  | @plain te cs xs su b₀ suite pos' hds ms l ht hmm hsu r ih =>
    refine ⟨xs.contains c, hmm c ns hc C hm, fun hx a na => ?_, fun hx => ih ?_⟩
    · unfold sHs at p
      rw [if_pos hx] at p
      refine ⟨b', env, G.grow (Ext.newH G.bh na), ?_⟩
      revert p
      show PoS F Dn b (hEnd none (su env)) → PoS (F.suite a) _ b' (su env)
      cases su env with
      | nx e => exact fun p b1 h1 σ1 s1 G1 => p b1 h1 σ1 (sb.trans s1) G1
      | bk e => exact fun p b1 h1 σ1 s1 G1 => p b1 h1 σ1 (sb.trans s1) G1
      | ct e => exact fun p b1 h1 σ1 s1 G1 => p b1 h1 σ1 (sb.trans s1) G1
      | rt d => exact fun p => p
      | ex _ _ _ => exact fun p => p.elim
      | no => exact fun p => p
    · unfold sHs at p
      rw [if_neg (by rw [hx]; exact Bool.false_ne_true)] at p
      exact p
  | @named te cs xs n i su b₀ suite pos' hds ms l ht hmm hi hln hsu r ih =>
    refine ⟨xs.contains c, hmm c ns hc C hm, fun hx a na => ?_, fun hx => ih ?_⟩
    · unfold sHs at p
      rw [if_pos hx] at p
      obtain ⟨C', hC', xf, nos⟩ := ek.cl c ns hc
      rw [hm] at hC'
      cases hC'
      have G1 := G.grow (Ext.newH (o := excHc a (.ref C) (some dd)) G.bh na)
      have nda : dd ≠ a := fun z => by rw [z, na] at hd; cases hd
      have ok : OwnOk F.kw b' (upd h' a (excHc a (.ref C) (some dd))) a (.exc c as) :=
        ⟨C, dd, fs, upd_same, by rw [upd_ne nda]; exact hd, ha, xf, fun q hq => nos q.1 (by rw [hn]; exact List.mem_map_of_mem hq)⟩
      have G2 := Good.setOwn (i := i) G1 ok (none_sub G.bh na) (G.ext.up.free na) fun j o' _ e z => by
        obtain ⟨a', ea, ok', _⟩ := G.own e
        rw [ea] at z
        cases z
        obtain ⟨w, hw⟩ := ok'.there
        rw [na] at hw
        cases hw
      refine ⟨b', env.set i (.ow (.exc c as)), G2, ?_⟩
      revert p
      show PoS F Dn b (hEnd (some i) (su (env.set i (.ow (.exc c as))))) → PoS (F.suite a) _ b' (su (env.set i (.ow (.exc c as))))
      cases su (env.set i (.ow (.exc c as))) with
      | nx e => exact fun p b1 h1 σ1 s1 G1 => p b1 h1 _ (sb.trans s1) (setNo_ok (some i) G1)
      | bk e => exact fun p b1 h1 σ1 s1 G1 => p b1 h1 _ (sb.trans s1) (setNo_ok (some i) G1)
      | ct e => exact fun p b1 h1 σ1 s1 G1 => p b1 h1 _ (sb.trans s1) (setNo_ok (some i) G1)
      | rt d => exact fun p => p
      | ex _ _ _ => exact fun p => p.elim
      | no => exact fun p => p
    · unfold sHs at p
      rw [if_neg (by rw [hx]; exact Bool.false_ne_true)] at p
      exact p
theorem hs_nil : ∃ l, HsF F tab [] [] l := ⟨[], .nil⟩
theorem exm1 {x c : Str} {nsx ns : List Str} {C D : Addr} (ek : ExK F.X.K F.X.mg tab) (hx : tab.lookup x = some nsx) (hD : F.X.mg x = some (.ref D)) (hc : tab.lookup c = some ns) (hC : F.X.mg c = some (.ref C)) : PySem.W.exmAny F.X.K (.ref C) [.ref D] = some ([x].contains c) := by
  have e := ek.tst c x ns nsx hc hx C D hC hD
  show (match PySem.W.exmOne F.X.K (.ref C) (.ref D), PySem.W.exmAny F.X.K (.ref C) [] with
    | some b, some d => some (b || d)
    | _, _ => none) = _
  rw [e, List.contains_cons]
  rfl
theorem hs_named1 (i : Nat) {x n : Str} {np pos' : Pos} {nsx : List Str} {su : Env → SR} {b₀ : Stmt} {suite : List Stmt} {hds : List ExceptHandler} {ms : List MH} (ek : ExK F.X.K F.X.mg tab) (hx : tab.lookup x = some nsx) (hsu : ∀ a : Addr, ISs (F.suite a) (b₀ :: suite) su) (r : ∃ l, HsF F tab hds ms l)
    (hg : Gl F.X x := by rfl) (hdb : (x == ("__debug__" : Str)) = false := by decide) (hi : F.X.N[i]? = some n := by rfl) (hln : F.X.env.kindOf n = some .local := by rfl) : ∃ l, HsF F tab (.ExceptHandler (some (.Name x np)) (some n) (b₀ :: suite) pos' :: hds) (([x], some i, su) :: ms) l := by
  obtain ⟨l, r⟩ := r
  obtain ⟨D, hD, _, _⟩ := ek.cl x nsx hx
  exact ⟨_, .named (cs := [.ref D]) (tst_one ⟨hg, hdb, .inl hD⟩) (fun c ns hc C hC => exm1 ek hx hD hc hC) hi hln hsu r⟩
theorem hs_plain1 {x : Str} {np pos' : Pos} {nsx : List Str} {su : Env → SR} {b₀ : Stmt} {suite : List Stmt} {hds : List ExceptHandler} {ms : List MH} (ek : ExK F.X.K F.X.mg tab) (hx : tab.lookup x = some nsx) (hsu : ∀ a : Addr, ISs (F.suite a) (b₀ :: suite) su) (r : ∃ l, HsF F tab hds ms l)
    (hg : Gl F.X x := by rfl) (hdb : (x == ("__debug__" : Str)) = false := by decide) : ∃ l, HsF F tab (.ExceptHandler (some (.Name x np)) none (b₀ :: suite) pos' :: hds) (([x], none, su) :: ms) l := by
  obtain ⟨l, r⟩ := r
  obtain ⟨D, hD, _, _⟩ := ek.cl x nsx hx
  exact ⟨_, .plain (cs := [.ref D]) (tst_one ⟨hg, hdb, .inl hD⟩) (fun c ns hc C hC => exm1 ek hx hD hc hC) hsu r⟩
/-- a try -/
theorem is_try {body : List Stmt} {h₀ : ExceptHandler} {hds : List ExceptHandler} {ms : List MH} {pos : Pos} {sb : Env → SR} (ek : ExK F.X.K F.X.mg tab) (hh : ∃ l, HsF F tab (h₀ :: hds) ms l)
    (hb : ∀ (W : WX) (pn : List (Addr × Obj)) (xe : Value → Shared → Prop) (tk : Takes (F.X.tr pn xe) W) (ow : PassesOwn (model F.X.prog F.X.w) F.X.A F.X.env xe), ISs (F.tr W pn xe tk ow) body sb)
    (hs : F.X.stack = F.X.env :: F.X.outer := by rfl) (hf : F.X.env.frame = some F.X.env.locals := by rfl) : IS F (.Try body (h₀ :: hds) [] [] pos) (sTry tab sb ms) := by
  obtain ⟨l, hl⟩ := hh
  refine PS.imp (ps_tryA (tb := fun W => tS (F.trN W) sb) hs hf F.nd F.tk (fun W pn xe tk ow => hb W pn xe tk ow) hl.hds) fun Dn σ H ⟨b, env, G, p⟩ => ⟨b, env, G, ?_⟩
  revert p
  show PoS F Dn b (sTry tab sb ms env) → _
  unfold sTry
  cases sb env with
  | nx e => exact fun p => p
  | rt d => exact fun p => p
  | bk e => exact fun p => p
  | ct e => exact fun p => p
  | no => exact fun p => p
  | ex c as e =>
    intro p b' h' σ' dd C fs s1 G1 hm hd ha
    dsimp only at p
    split at p
    · rename_i ns hc
      split at p
      · rename_i hn
        exact wA_of hl ek hc hn p s1 G1 hm hd ha
      · exact p.elim
    · exact p.elim
end
end FP
/-! FP Z: what the written part says of own exceptions, looked at. -/
namespace FP
open PySem PySem.Spec PyProof.Rows PySem.W L2 FPX

def clsA (K : Frag) (c : Str) : Addr := match nsIn K mainGlobals c with
  | some (some (.ref C)) => C
  | _ => 0
def initA (K : Frag) (C : Addr) : Addr := match findIn K (.ref C) "__init__" with
  | some (some (.ref f)) => f
  | _ => 0
def codeA (K : Frag) (f : Addr) : Addr := match K.lookup f with
  | some ⟨_, _, .func fd, _⟩ => (match fd.code with
    | .ref c => c
    | _ => 0)
  | _ => 0
def cellA (K : Frag) (f : Addr) : Addr := match K.lookup f with
  | some ⟨_, _, .func fd, _⟩ => (match fd.closure with
    | [(_, c)] => c
    | _ => 0)
  | _ => 0
abbrev FnU : Type := Option (Str × Str × Arguments × FuncBody × Scope × Addr × List Str × Addr)
/-- the __init__ of the class that the module's name c holds -/
def fnU (K : Frag) (c : Str) : FnU := match K.lookup (initA K (clsA K c)) with
  | some ⟨_, _, .func fd, _⟩ => some (fd.name, fd.qualname, fd.params, fd.body, fd.scope, fd.globals, fd.closure.map (·.1), fd.builtins)
  | _ => none
/-- one exception class: its name, the __init__'s qualified name, its text, its fields -/
structure ExD where
  name : Str
  qual : Str
  st : Stmt
  ns : List Str
def ExD.val (x : ExD) : FnU := some ("__init__", x.qual, L2.defArgs x.st, .stmts (L2.defBody x.st), L2.defScope x.st, mainGlobals, ["__class__"], builtinsNs)
def cellB (K : Frag) (cc C : Addr) : Bool := match K.lookup cc with
  | some ⟨_, _, .cell (some (.ref D)), _⟩ => decide (D = C)
  | _ => false
def codeFB (K : Frag) (cda : Addr) (file : Str) : Bool := match K.lookup cda with
  | some ⟨_, _, .fields vs, _⟩ => (match (vs[2]? : Option Value) with
    | some (Value.str f _) => file == f
    | _ => false)
  | _ => false
def fnUB (K : Frag) (f : Addr) (qual : Str) : Bool := match K.lookup f with
  | some ⟨_, _, .func fd, _⟩ => (match fd.defaults, fd.code with
    | .none, .ref c => codeIn K (.ref c) qual
    | _, _ => false)
  | _ => false
def exdB (K : Frag) (file : Str) (x : ExD) : Bool :=
  [decide (nsIn K mainGlobals x.name = some (some (.ref (clsA K x.name)))), excInitIn K (clsA K x.name) xT "Exception.__new__", excOver K (clsA K x.name) xT, hasDictIn K (clsA K x.name),
   decide (findIn K (.ref (clsA K x.name)) "__setattr__" = some (some (.builtin "object.__setattr__"))), decide (findIn K (.ref (clsA K x.name)) "__init__" = some (some (.ref (initA K (clsA K x.name))))), isFn K (.ref (initA K (clsA K x.name))),
   decide (ks_superIn K (clsA K x.name) (clsA K x.name) "__init__" = some (some (.builtin "Exception.__init__"))), decide (mroIn K (clsA K x.name) (.ref (clsA K x.name)) = some true), decide (subIn K (.ref (clsA K x.name)) (.type "Exception") = some true),
   decide (subIn K (.ref (clsA K x.name)) (.type "BaseException") = some true), decide (typeIn K (.ref (clsA K x.name)) = some (.type "type")), keepIn K (.ref (clsA K x.name)), decide (nsIn K cStatics "thirdparty.any" = some none),
   cellB K (cellA K (initA K (clsA K x.name))) (clsA K x.name), codeFB K (codeA K (initA K (clsA K x.name))) file, fnUB K (initA K (clsA K x.name)) x.qual,
   xfB K (clsA K x.name), x.ns.all fun n => decide (findIn K (.ref (clsA K x.name)) n = some none) && decide (takerIn K (clsA K x.name) n = some none)].all id
theorem all_at {l : List Bool} (h : l.all id = true) (i : Nat) (b : Bool) (e : l[i]? = some b := by rfl) : b = true := List.all_eq_true.mp h b (List.mem_of_getElem? e)
theorem xcls_of {P : Program} {K : Frag} {x : ExD} (c : exdB K P.main.file x = true) (u : fnU K x.name = x.val) :
    XCls P K (clsA K x.name) (initA K (clsA K x.name)) (cellA K (initA K (clsA K x.name))) (codeA K (initA K (clsA K x.name))) x.qual x.st := by
  unfold exdB at c
  have c15 := all_at c 14 _
  have c16 := all_at c 15 _
  have c17 := all_at c 16 _
  refine ⟨all_at c 1 _, all_at c 2 _, all_at c 3 _, of_decide_eq_true (all_at c 4 _), of_decide_eq_true (all_at c 5 _), all_at c 6 _, of_decide_eq_true (all_at c 7 _), of_decide_eq_true (all_at c 8 _), of_decide_eq_true (all_at c 9 _), of_decide_eq_true (all_at c 10 _), of_decide_eq_true (all_at c 11 _), all_at c 12 _, of_decide_eq_true (all_at c 13 _), ?_, ?_, ?_⟩
  · unfold cellB at c15
    split at c15
    · rename_i oc od D osl h
      have e := of_decide_eq_true c15
      subst e
      exact ⟨_, _, _, h⟩
    · cases c15
  · unfold codeFB at c16
    split at c16
    · rename_i oc od vs osl h
      split at c16
      · rename_i f tf hv
        exact ⟨_, _, _, _, f, tf, h, hv, c16⟩
      · cases c16
    · cases c16
  · unfold fnU ExD.val at u
    revert u c17 
    unfold fnUB codeA cellA
    cases q : K.lookup (initA K (clsA K x.name)) with
    | none => intro u _; cases u
    | some o =>
      obtain ⟨oc, od, dt, osl⟩ := o
      cases dt with
      | func fd =>
        obtain ⟨n1, n2, n3, n4, n5, n6, n7, n8, n9, n10, n11, n12, n13, n14, n15⟩ := fd
        intro u c17
        simp only [Option.some.injEq, Prod.mk.injEq] at u
        obtain ⟨h1, h2, h3, h4, h5, h6, h7, h8⟩ := u
        subst h1 h2 h3 h4 h5 h6 h8
        dsimp only at c17
        split at c17
        · rename_i cd
          match n7, h7 with
          | [(y, cc)], h7 =>
            have e : y = ("__class__" : Str) := by simpa using h7
            subst e
            exact ⟨oc, od, n9, n10, n11, n12, n14, osl, rfl, c17⟩
        · cases c17
      | _ => intro u _; cases u
/-- what is known of it besides -/
theorem exd_more {K : Frag} {file : Str} {x : ExD} (c : exdB K file x = true) : nsIn K mainGlobals x.name = some (some (.ref (clsA K x.name))) ∧ XfC K (clsA K x.name) ∧ (∀ n ∈ x.ns, findIn K (.ref (clsA K x.name)) n = some none) ∧ ∀ n ∈ x.ns, takerIn K (clsA K x.name) n = some none := by
  unfold exdB at c
  have c19 := all_at c 18 _
  refine ⟨of_decide_eq_true (all_at c 0 _), xfB_ok (all_at c 17 _), fun n hn => ?_, fun n hn => ?_⟩
  · exact of_decide_eq_true (Bool.and_eq_true_iff.mp (List.all_eq_true.mp c19 n hn)).1
  · exact of_decide_eq_true (Bool.and_eq_true_iff.mp (List.all_eq_true.mp c19 n hn)).2
/-- made with two arguments -/
theorem xc2 {P : Program} {w : World} {K : Frag} {mg : Str → Option Value} {h : Heap} (X : K.In h) (G : h.Ns mainGlobals mg) {x : ExD} {a b z : Str} (c : exdB K P.main.file x = true) (u : fnU K x.name = x.val) (hn : x.ns = [a, b])
    (xt : ∀ C fI cc cda, XCls P K C fI cc cda x.qual x.st → takerIn K C a = some none → takerIn K C b = some none → XT2 P K C fI cc cda x.qual x.st a b z) : XC P w K mg x.name x.ns := by
  obtain ⟨m1, m2, m3, m4⟩ := exd_more c
  have T0 := xcls_of c u
  have T := xt _ _ _ _ T0 (m4 a (by rw [hn]; simp)) (m4 b (by rw [hn]; simp))
  refine ⟨_, mg_of X G m1, T0.kC, T0.exC, T0.tyC, m2, m3, fun A R s us hl Gd hlim hroom hq => ?_⟩
  rw [hn] at hl hq
  match us, hl with
  | [v, w'], _ =>
    refine made_by T0 Gd hlim hroom (by simp) (m := fun y => if y = b then some w' else if y = a then some v else none) (fun A' s' y t0 R' G' l' hy hny hr hq' => init2 T G' l' hy hny hr hq') fun h' tk e d M => hq h' tk e d _ M fun f => ?_
    show (if f = b then some w' else if f = a then some v else none) = List.lookup f [(a, v), (b, w')]
    rw [List.lookup_cons, List.lookup_cons]
    have nab := T.nab
    by_cases ha : f = a
    · subst ha
      rw [if_neg (by simpa using nab), if_pos rfl, beq_self_eq_true]
    · rw [show (f == a) = false by simpa using ha]
      by_cases hb : f = b
      · subst hb
        rw [if_pos rfl, beq_self_eq_true]
      · rw [if_neg hb, if_neg ha, show (f == b) = false by simpa using hb]; rfl
theorem xc1 {P : Program} {w : World} {K : Frag} {mg : Str → Option Value} {h : Heap} (X : K.In h) (G : h.Ns mainGlobals mg) {x : ExD} {a : Str} (c : exdB K P.main.file x = true) (u : fnU K x.name = x.val) (hn : x.ns = [a])
    (xt : ∀ C fI cc cda, XCls P K C fI cc cda x.qual x.st → takerIn K C a = some none → XT1 P K C fI cc cda x.qual x.st a) : XC P w K mg x.name x.ns := by
  obtain ⟨m1, m2, m3, m4⟩ := exd_more c
  have T0 := xcls_of c u
  have T := xt _ _ _ _ T0 (m4 a (by rw [hn]; simp))
  refine ⟨_, mg_of X G m1, T0.kC, T0.exC, T0.tyC, m2, m3, fun A R s us hl Gd hlim hroom hq => ?_⟩
  rw [hn] at hl hq
  match us, hl with
  | [v], _ =>
    refine made_by T0 Gd hlim hroom (by simp) (m := fun y => if y = a then some v else none) (fun A' s' y t0 R' G' l' hy hny hr hq' => init1 T G' l' hy hny hr hq') fun h' tk e d M => hq h' tk e d _ M fun f => ?_
    show (if f = a then some v else none) = List.lookup f [(a, v)]
    rw [List.lookup_cons]
    by_cases ha : f = a
    · subst ha
      rw [if_pos rfl, beq_self_eq_true]
    · rw [if_neg ha, show (f == a) = false by simpa using ha]; rfl
/-! ### the table of classes -/
def tabOf (xs : List ExD) : Tab := xs.map fun x => (x.name, x.ns)
def exmB (K : Frag) (xs : List ExD) : Bool := xs.all fun x => xs.all fun y => decide (exmOne K (.ref (clsA K x.name)) (.ref (clsA K y.name)) = some (x.name == y.name))
theorem tab_mem {xs : List ExD} {c : Str} {ns : List Str} (h : (tabOf xs).lookup c = some ns) : ∃ x ∈ xs, x.name = c ∧ x.ns = ns := by
  induction xs with
  | nil => cases h
  | cons x r ih =>
    unfold tabOf at h ih
    rw [List.map_cons, List.lookup_cons] at h
    cases q : (c == x.name) with
    | true =>
      rw [q] at h
      cases h
      exact ⟨x, List.mem_cons_self, (beq_iff_eq.mp q).symm, rfl⟩
    | false =>
      rw [q] at h
      obtain ⟨y, hy, e⟩ := ih h
      exact ⟨y, List.mem_cons_of_mem _ hy, e⟩
theorem exK_of {K : Frag} {mg : Str → Option Value} {h : Heap} {file : Str} (X : K.In h) (G : h.Ns mainGlobals mg) {xs : List ExD} (c : ∀ x ∈ xs, exdB K file x = true) (m : exmB K xs = true) : ExK K mg (tabOf xs) where
  cl := fun c0 ns hc => by
    obtain ⟨x, hx, rfl, rfl⟩ := tab_mem hc
    obtain ⟨m1, m2, m3, m4⟩ := exd_more (c x hx)
    exact ⟨_, mg_of X G m1, m2, m3⟩
  tst := fun c0 y0 ns ms hc hy C D hC hD => by
    obtain ⟨x, hx, rfl, rfl⟩ := tab_mem hc
    obtain ⟨y, hy', rfl, rfl⟩ := tab_mem hy
    rw [mg_of X G (exd_more (c x hx)).1] at hC
    rw [mg_of X G (exd_more (c y hy')).1] at hD
    cases hC
    cases hD
    exact of_decide_eq_true (List.all_eq_true.mp (List.all_eq_true.mp m x hx) y hy')
/-! ### the Hook -/
/-- the part that is looked at: what the module's names reach, the statics -/
def frY (g : Addr → Option Obj) (n : Nat) : Frag := He.frT g (He.asD g n ++ [cStatics])
def obX (n : Nat) (fa : List He.Fa) (fn : List He.DefD) (ts : List He.Tab) (tf : List He.Defn) (ex : Frag → Bool) (g : Addr → Option Obj) : He.AlX :=
  (He.obsT fa fn ts (frY g n), ex (frY g n) && He.tabsB g tf (frY g n))
theorem says_obX {n : Nat} {fa : List He.Fa} {fn : List He.DefD} {ts : List He.Tab} {tf : List He.Defn} {ex : Frag → Bool} {w : World} {h : Heap} (e : obX n fa fn ts tf ex h.get? = He.valX fn ts w) : He.SaysX fa fn ts tf ex w h (frY h.get? n) := by
  obtain ⟨e1, e2⟩ := Prod.mk.inj e
  obtain ⟨x1, x2⟩ := He.ba e2
  have tb : ∀ p ∈ tf, codeHdIn (frY h.get? n) (He.cT (frY h.get? n) p).1 (He.cT (frY h.get? n) p).2 = true ∧ (frY h.get? n).lookup (He.cT (frY h.get? n) p).2 = none ∧ h.get? (He.cT (frY h.get? n) p).2 = some { cls := .none, data := .fields #[] } := by
    intro p hp
    obtain ⟨y1, y2⟩ := He.ba (List.all_eq_true.mp x2 p hp)
    revert y2
    generalize hq : h.get? (He.cT (frY h.get? n) p).2 = o
    cases o with
    | none => exact fun y2 => Bool.noConfusion y2
    | some u => exact fun y2 => ⟨y1, He.frT_none hq y2, congrArg some (He.emptyTab_eq y2)⟩
  exact ⟨e1, x1, fun p hp => (tb p hp).1, fun p hp => (tb p hp).2.1, fun p hp => (tb p hp).2.2⟩
def hookY (n : Nat) (fa : List He.Fa) (fn : List He.DefD) (ts : List He.Tab) (tf : List He.Defn) (ex : Frag → Bool) (xs : List ExD) : Hook where
  α := He.AlX × List FnU
  obs := fun s => (obX n fa fn ts tf ex s.heap.get?, xs.map fun x => fnU (frY s.heap.get? n) x.name)
  val := fun w => (He.valX fn ts w, xs.map ExD.val)
  says := fun w h => ∃ K : Frag, K.In h ∧ He.SaysX fa fn ts tf ex w h K ∧ (xs.map fun x => fnU K x.name) = xs.map ExD.val
  of := fun _ s e => ⟨frY s.heap.get? n, He.frT_in, says_obX (congrArg Prod.fst e), (Prod.mk.inj e).2⟩
  keeps := fun _ _ _ ⟨K, hK, c, e⟩ k => ⟨K, Frag.In.keeps hK k, ⟨c.t, c.more, c.hd, c.out, fun p hp => k _ _ (c.empty p hp)⟩, e⟩
def obsY (n : Nat) (fa : List He.Fa) (fn : List He.DefD) (ts : List He.Tab) (tf : List He.Defn) (ex : Frag → Bool) (xs : List ExD) (g : Addr → Option Obj) : He.AlX × List FnU := (obX n fa fn ts tf ex g, xs.map fun x => fnU (frY g n) x.name)
theorem obsY_eq {n : Nat} {fa : List He.Fa} {fn : List He.DefD} {ts : List He.Tab} {tf : List He.Defn} {ex : Frag → Bool} {xs : List ExD} {g : Addr → Option Obj} {s : Shared} (h : ∀ a, g a = s.heap.get? a) : obsY n fa fn ts tf ex xs g = (hookY n fa fn ts tf ex xs).obs s := by
  have e : g = s.heap.get? := funext h
  rw [e] <;> rfl
theorem map_at {xs : List ExD} {K : Frag} (e : (xs.map fun x => fnU K x.name) = xs.map ExD.val) : ∀ x ∈ xs, fnU K x.name = x.val := by
  induction xs with
  | nil => intro x hx; cases hx
  | cons y r ih =>
    rw [List.map_cons, List.map_cons] at e
    injection e with e1 e2
    intro x hx
    rcases List.mem_cons.mp hx with rfl | hx
    · exact e1
    · exact ih e2 x hx
end FP
/-! FQ A: tuple(x), list(x), str(i), a op b op c, extend. -/
namespace FP
open PySem L2 PySem.Spec PyProof.Rows
section
variable {F : Fx} {a c e : Expr} {pos p : Pos} {fa fb fc : Env → R D}
/-! ### tuple(x) -/
def tupF : D → R D
  | .list l => .ok (.tuple l)
  | .tuple l => .ok (.tuple l)
  | _ => .no
def eTupOf (fa : Env → R D) : Env → R D := fun env => (fa env).bnd tupF
theorem ie_tupOf (hm : F.X.mg "tuple" = none) (ha : IB F a fa) (hg : Gl F.X "tuple" := by rfl) (na : starEach [a] F.X.env = (false, eval a F.X.env) :: starEach [] F.X.env := by rfl) : IE F (.Call (.Name "tuple" p) [a] [] pos) (eTupOf fa) :=
  PE.imp (pe_tupleOf hg hm ha na) fun σ H Q ⟨b, env, G, p⟩ => ⟨b, env, G, Po.bnd p fun d _ b1 h1 x1 p1 v r => by
    unfold tupF at p1
    split at p1
    · obtain ⟨q, vs, rfl, hs, rs⟩ := r.lst x1.bh
      refine .inl ⟨q, vs, rfl, hs, fun q' hq => ?_⟩
      exact p1 _ _ (Ext.new x1.bh hq) _ (.tup (.inl (.inl upd_same)) (dpAll_mono (upd_same_sub (none_sub x1.bh hq)) rs))
    · obtain ⟨q, vs, rfl, hs, rs⟩ := r.tup
      exact .inr ⟨q, vs, rfl, Same.sqT x1.bh hs, p1 b1 h1 (Ext.refl x1.bh) _ (.tup hs rs)⟩
    · exact p1.elim⟩
/-! ### list(x) -/
def listF : D → R Own
  | .list l => .ok (.lst l)
  | .tuple l => .ok (.lst l)
  | _ => .no
def eLstOf (fa : Env → R D) : Env → R Own := fun env => (fa env).bnd listF
theorem if_lstOf (hm : F.X.mg "list" = none) (ha : IB F a fa) (hg : Gl F.X "list" := by rfl) (na : starEach [a] F.X.env = (false, eval a F.X.env) :: starEach [] F.X.env := by rfl) : IF F (.Call (.Name "list" p) [a] [] pos) (eLstOf fa) :=
  PE.imp (pe_callTy call_list_of hg hm rfl (pa_cons ha pa_nil na) (he := na)) fun σ H Q ⟨b, env, G, p⟩ => ⟨b, env, G, Po.bnd p fun d _ b1 h1 x1 p1 v r => by
    unfold listF at p1
    split at p1
    · obtain ⟨q, vs, rfl, hs, rs⟩ := r.lst x1.bh
      exact ⟨q, vs, rfl, .inl hs, fun q' hq => p1 b1 h1 (Ext.refl x1.bh) q' _ hq (fun _ z => by cases z) ⟨vs, upd_same, rs⟩⟩
    · obtain ⟨q, vs, rfl, hs, rs⟩ := r.tup
      exact ⟨q, vs, rfl, .inr (Same.sqT x1.bh hs), fun q' hq => p1 b1 h1 (Ext.refl x1.bh) q' _ hq (fun _ z => by cases z) ⟨vs, upd_same, rs⟩⟩
    · exact p1.elim⟩
/-! ### str(i) -/
/-- the signs of a number, for computing -/
def numF : Nat → Nat → List Nat → List Nat
  | 0, _, acc => acc
  | k + 1, n, acc => if n < 10 then (48 + n) :: acc else numF k (n / 10) ((48 + n % 10) :: acc)
theorem numF_eq : ∀ (k n : Nat) (acc : List Nat), n < 10 ^ k → 0 < k → numF k n acc = TL.numL n ++ acc
  | 0, _, _, _, h => by omega
  | k + 1, n, acc, h, _ => by
    unfold numF
    by_cases hn : n < 10
    · rw [if_pos hn, TL.numL_lt hn]; rfl
    · rw [if_neg hn]
      have h1 : n / 10 < 10 ^ k := by
        rw [Nat.pow_succ] at h
        omega
      have h2 : 0 < k := by
        rcases Nat.eq_zero_or_pos k with z | z
        · subst z; simp at h1; omega
        · exact z
      rw [numF_eq k _ _ h1 h2, TL.numL_step (n := n) (by omega), List.append_assoc]
      rfl
def strF : D → R D
  | .int i => if 0 ≤ i ∧ i < 1000000 then .ok (.str (mkS (numF 6 i.toNat []))) else .no
  | _ => .no
theorem strF_num {i : Int} (h : 0 ≤ i ∧ i < 1000000) : (Str.ofString (toString i) : Str) = mkS (numF 6 i.toNat []) := by
  have e : i = ((i.toNat : Nat) : Int) := by omega
  refine tl_inj ?_
  rw [tl_mkS, numF_eq 6 _ _ (by omega) (by decide), List.append_nil]
  have := TL.tl_num i.toNat
  rw [← e] at this
  exact this
def eStrOf (fa : Env → R D) : Env → R D := fun env => (fa env).bnd strF
theorem ie_strOf (hm : F.X.mg "str" = none) (ha : IE F a fa) (hg : Gl F.X "str" := by rfl) (na : starEach [a] F.X.env = (false, eval a F.X.env) :: starEach [] F.X.env := by rfl) : IE F (.Call (.Name "str" p) [a] [] pos) (eStrOf fa) :=
  PE.imp (pe_callTy call_str_int hg hm rfl (pa_cons ha pa_nil na) (he := na)) fun σ H Q ⟨b, env, G, p⟩ => ⟨b, env, G, Po.bnd p fun d _ b1 h1 x1 p1 v r => by
    unfold strF at p1
    split at p1
    · split at p1
      · rename_i i _ hi
        cases r
        refine ⟨i, rfl, ?_, ?_⟩
        · have h1 : i.natAbs < 2 ^ 20 := by omega
          by_cases h0 : i.natAbs = 0
          · rw [h0]; decide
          · have := (Nat.log2_lt h0).mpr h1
            omega
        · have q := p1 b1 h1 (Ext.refl x1.bh) _ (.str _)
          rw [← strF_num hi] at q
          exact q
      · exact p1.elim
    · exact p1.elim⟩
/-! ### a op b op c -/
def eChn (g g' : D → D → R Bool) (fa fb fc : Env → R D) : Env → R Bool := fun env => (fa env).bnd fun x => (fb env).bnd fun y => (g x y).bnd fun k => if k then (fc env).bnd fun z => g' y z else .ok false
theorem chain_run {r r' : R2} {g g' : D → D → R Bool} (ho : CmpOk F.kw r g) (ho' : CmpOk F.kw r' g') {σ : L2.St} {H : Hp} {Q : VK} (h : tIT F (eChn g g' fa fb fc) σ H fun k h' => Q (.bl k) h') : tChain r r' (tIB F fa) (tIB F fb) (tIB F fc) σ H Q := by
  obtain ⟨b, env, G, p⟩ := h
  refine ⟨b, env, G, Po.bnd p fun d _ b1 h1 x1 p1 v1 r1 => ⟨b1, env, G.grow x1, Po.bnd p1 fun e _ b2 h2 x2 p2 v2 r2 => ?_⟩⟩
  refine ho.run b2 h2 v1 v2 d e _ x2.bh (r1.grow x1.bh x2) r2 ?_
  have n := ho.nex d e
  revert p2 n
  cases g d e with
  | ex c as => exact fun _ n => (n c as rfl).elim
  | no => exact fun p2 _ => p2.elim
  | ok k =>
    intro p2 _
    refine ⟨k, rfl, ?_⟩
    cases k with
    | false => exact iteF (p2 b2 h2 (Ext.refl x2.bh))
    | true =>
      refine iteT ⟨b2, env, (G.grow x1).grow x2, Po.bnd p2 fun z _ b3 h3 x3 p3 v3 r3 => ?_⟩
      refine ho'.run b3 h3 v2 v3 e z _ x3.bh (r2.grow x2.bh x3) r3 ?_
      have n' := ho'.nex e z
      revert p3 n'
      cases g' e z with
      | ex c as => exact fun _ n => (n c as rfl).elim
      | no => exact fun p3 _ => p3.elim
      | ok k => exact fun p3 _ => p3 b3 h3 (Ext.refl x3.bh)
theorem ie_chain {b : Expr} {op op' : CmpOp} {r r' : R2} {g g' : D → D → R Bool} (hr : OpR F.X (compareOp op) r) (ho : CmpOk F.kw r g) (hr' : OpR F.X (compareOp op') r') (ho' : CmpOk F.kw r' g') (ha : IB F a fa) (hb : IB F b fb) (hc : IB F c fc)
    (hm : lastMarks [op, op'] [b, c] = false := by with_unfolding_all rfl) : IE F (.Compare a [op, op'] [b, c] pos) (eOfB (eChn g g' fa fb fc)) :=
  PE.imp (pe_chain hr hr' ha hb hc hm) fun σ H Q ⟨b, env, G, p⟩ => chain_run ho ho' ⟨b, env, G, Po.bnd p fun c _ b1 h1 x1 p1 => p1 b1 h1 (Ext.refl x1.bh) _ (.bl c)⟩
theorem it_chain {b : Expr} {op op' : CmpOp} {r r' : R2} {g g' : D → D → R Bool} (hr : OpR F.X (compareOp op) r) (ho : CmpOk F.kw r g) (hr' : OpR F.X (compareOp op') r') (ho' : CmpOk F.kw r' g') (ha : IB F a fa) (hb : IB F b fb) (hc : IB F c fc)
    (hm : lastMarks [op, op'] [b, c] = false := by with_unfolding_all rfl) : IT F (.Compare a [op, op'] [b, c] pos) (eChn g g' fa fb fc) :=
  PT.imp (pt_chain hr hr' ha hb hc hm) fun σ H Q ⟨b, env, G, p⟩ => chain_run ho ho' ⟨b, env, G, p.imp fun c _ _ _ q => ⟨c, rfl, q⟩⟩
end
/-! ### x.extend(e) -/
theorem list_extendW (l b : Addr) (items items2 : Array Value) (n n2 : Nat) (c : String) (od : Option Addr) (sl : Array (Option Value)) (hc : c = "list" ∨ c = "tuple") (hs0 : ¬(!items.isEmpty && Builtin.List.listTooLong (items.size + items2.size)) = true) (hs1 : items.size ≤ sizeLine) (hs2 : items.size + items2.size ≤ sizeLine + 1) :
    Meets (Builtin.«list.extend» ⟨[.ref l, .ref b], []⟩) (fun _ R s => s.heap.get? l = some { cls := .type "list", dict := none, data := .seq items n, slots := #[] } ∧ s.heap.get? b = some { cls := .type c, dict := od, data := .seq items2 n2, slots := sl } ∧ R (.ok (.ret Value.none)) { s with heap := s.heap.update l (Obj.mapSeq fun x => x ++ items2), toks := s.toks }) :=
  .of_wp fun prog w A R s h => by
    obtain ⟨hp, g, d, tk, os⟩ := s; obtain ⟨hl, hb, h⟩ := h; have f1 := AutoSeq1.idx_int; have f2 := AutoSeq1.sub_tuple_tuple; have f3 := AutoSeq1.sub_list_list; have f4 := AutoSeq1.sub_tuple_list; have f5 := AutoSeq1.sub_list_tuple
    have hz' : (items ++ items2).size ≤ sizeLine + 1 := by rw [Array.size_append]; exact hs2
    rcases hc with rfl | rfl
    · wp_walk using (wpAny_updateSeq hl rfl (hz := hs1) (_hz' := hz')), wpAny_loadPart' hl, wpAny_loadPart' hb
      exact ⟨_, rfl, h⟩
    · wp_walk using (wpAny_updateSeq hl rfl (hz := hs1) (_hz' := hz')), wpAny_loadPart' hl, wpAny_loadPart' hb
      exact ⟨_, rfl, h⟩
def rExtS (K : PySem.W.Frag) : V → List V → Hp → VK → Prop := fun x vs H Q => ∃ l b xs zs, x = .ref l ∧ vs = [.ref b] ∧ H l = some (.lst xs) ∧ (SqL K H b zs ∨ SqT K H b zs) ∧ xs.length + zs.length ≤ sizeLine ∧ Q .non (upd H l (.lst (xs ++ zs)))
theorem mt_extS {X : Cx} : MtM X "list.extend" (rExtS X.K) := by
  intro pins s σ H x vs v us Q I rx rv h
  obtain ⟨l, b, xs, zs, rfl, rfl, hH, hB, hz, q⟩ := h
  cases rx
  obtain ⟨u, rfl, ru⟩ := rv.one
  cases ru
  obtain ⟨z, its, n, r, hl, e⟩ := I.lstM hH
  have fin : ∀ (its2 : List Value) (n2 : Nat) (c : String) (od : Option Addr) (sl : Array (Option Value)), (c = "list" ∨ c = "tuple") → Vals zs its2 → s.heap.get? b = some { cls := .type c, dict := od, data := .seq its2.toArray n2, slots := sl } → wpAny (model X.prog X.w) X.A (call (.builtin "list.extend") [.ref l, .ref b]) (EP X pins σ Q) X.xe s := fun its2 n2 c od sl hc r2 e2 => by
    have hl2 := r2.length
    have hsz : its.toArray.size + its2.toArray.size ≤ sizeLine := by rw [List.size_toArray, List.size_toArray]; omega
    have hlong : ¬ (!its.toArray.isEmpty && Builtin.List.listTooLong (its.toArray.size + its2.toArray.size)) = true := by
      rw [notLongL hsz, Bool.and_false]
      exact Bool.false_ne_true
    refine call_meets PySem.F.slot_list_extend ⟨_, e, rfl⟩ PySem.F.entry_list_extend (PySem.F.args_list_extend_2 _ _)
      (list_extendW l b its.toArray its2.toArray n n2 c od sl hc hlong (by rw [List.size_toArray]; omega) (by omega)) ⟨e, e2, ?_⟩
    refine ⟨.non, _, I.lset (its' := its ++ its2) hH e (by simp) (r.append r2) ?_, rfl, q⟩
    rw [List.length_append]
    omega
  rcases hB with hB | hB
  · obtain ⟨its2, r2, ⟨⟨c, od, dt, sl⟩, n2, ho, hc, hdn, hd⟩, _⟩ := I.list hB
    simp only at hc hd hdn
    subst hc hd
    exact fin its2 n2 "list" od sl (.inl rfl) r2 ho
  · obtain ⟨its2, r2, ⟨⟨c, od, dt, sl⟩, ho, hc, n2, hd⟩, _⟩ := I.tuple hB
    simp only at hc hd
    subst hc hd
    exact fin its2 n2 "tuple" od sl (.inr rfl) r2 ho
/-- the items that a list is made longer by -/
def itm : D → Option (List D)
  | .list l => some l
  | .tuple l => some l
  | _ => none
def sExt (i : Nat) (fa : Env → R D) : Env → SR := fun env => match env[i]? with
  | some (.ow (.lst l)) => (fa env).s env fun d => (match itm d with
    | some r => if l.length + r.length ≤ sizeLine then .nx (env.set i (.ow (.lst (l ++ r)))) else .no
    | none => .no)
  | _ => .no
section
variable {F : Fx} {e : Expr} {pos : Pos} {fa : Env → R D}
theorem is_extend (i : Nat) {x : Str} {p1 p2 p3 : Pos} (he : IE F e fa) (hi : F.X.N[i]? = some x := by rfl) (hv : Vis F.X.env.scope x := by first | exact Or.inl rfl | exact Or.inr (Or.inl rfl) | exact Or.inr (Or.inr rfl)) (hd : (x == ("__debug__" : Str)) = false := by decide)
    (hcd : (x == ("__classdict__" : Str)) = false := by decide)
    (hs : swapsWith (.Call (.Attribute (.Name x p1) "extend" p2) [e] [] p3) none pos.line F.X.env = pure false := by rfl)
    (hpe : ∀ {te : TE}, PE F.X e te → PE F.X (.Call (.Attribute (.Name x p1) "extend" p2) [e] [] p3) (tBM F.X.K "list" (rExtS F.X.K) (tVar i) (tCons te tNil)) := by intro te hte; exact pe_bm PySem.F.plainAttrs_list PySem.F.slot_list_extend PySem.F.type_list_extend mt_extS (pv _) (pa_cons hte pa_nil)) :
    IS F (.Expr (.Call (.Attribute (.Name x p1) "extend" p2) [e] [] p3) pos) (sExt i fa) :=
  PS.imp (ps_expr (hpe he) hs) fun Dn σ H ⟨b, env, G, p⟩ => by
    unfold sExt at p
    split at p
    · rename_i l e
      obtain ⟨a, ea, ⟨vs, hv, rs⟩, n, m⟩ := G.own e
      refine ⟨_, ea, .inl ⟨rfl, vs, SqL.of hv⟩, b, env, G, PoS.bnd G p fun d _ b1 h1 x1 G1 p1 w rw => ?_⟩
      have hv1 := x1.up.st a _ hv (fun _ z => by cases z)
      have rs1 := dpAll_mono (x1.bb G.bh) rs
      split at p1
      · rename_i r hr
        split at p1
        · rename_i hl
          obtain ⟨q, ws, rfl, hq, rq⟩ : ∃ q ws, w = .ref q ∧ (SqL F.X.K h1 q ws ∨ SqT F.X.K h1 q ws) ∧ DpAll F.kw b1 ws r := by
            cases d with
            | list l2 =>
              cases hr
              obtain ⟨q, ws, e1, e2, e3⟩ := Bp.lst x1.bh (.inl rw)
              exact ⟨q, ws, e1, .inl e2, e3⟩
            | tuple l2 =>
              cases hr
              obtain ⟨q, ws, e1, e2, e3⟩ := Bp.tup (h := h1) (.inl rw)
              exact ⟨q, ws, e1, .inr (Same.sqT x1.bh e2), e3⟩
            | _ => cases hr
          refine ⟨a, q, vs, ws, rfl, rfl, hv1, hq, by rw [dpAll_len rs, dpAll_len rq]; exact hl, ?_⟩
          exact p1 b1 _ _ (Same.refl _) (Good.mut (o := .lst l) G1 e ea ⟨vs ++ ws, upd_same, dpAll_app rs1 rq⟩ (fun ps z => by rw [hv1] at z; cases z))
        · exact p1.elim
      · exact p1.elim
    · exact p.elim
end
/-! ### f() -/
section
variable {F : Fx} {pos : Pos}
theorem ie_call0 {x : Str} {k : Nat} {m : List D → R D} {p : Pos} (f : FnF F x k 0 m) (hk : k ≤ F.k) (hg : Gl F.X x := by rfl) (hdb : (x == ("__debug__" : Str)) = false := by decide) (hsu : F.sui = false := by rfl) :
    IE F (.Call (.Name x p) [] [] pos) (eCall aNil m) := by
  obtain ⟨f, fd, ps, hm, kp, bi, ok⟩ := f.at_
  refine ⟨fun pins s σ H Q I h => ?_⟩
  obtain ⟨b, env, G, p0⟩ := h
  refine wpAny_Call_Name_kw (ld_glob I hg hm ?_ hdb)
  refine PySem.W.callWith_K0 I.kIn kp (run_fnS (us := []) (vs := []) (E := WE F.W) ok ((F.roomC hsu).mono hk) bi (passAt F.tk σ) I .nil ?_)
  refine ⟨rfl, b, [], G.pre, G.bh, .nil, ?_⟩
  revert p0
  show Po F b H σ (m []) _ → _
  cases m [] with
  | ok d => exact fun p1 b' h' v x r => p1 b' h' x v r
  | ex c as => exact fun p1 b' h' dd C fs x hc hd ha => p1 b' h' dd C fs x hc hd ha
  | no => exact fun p1 => p1
end
end FP
/-! FQ B: sum of a generator expression. -/
namespace FP
open PySem L2 PySem.Spec PyProof.Rows

/-- sum(..) of the items, from acc -/
def sumL (t : Tg) (g : Env → R Bool) (fe : Env → R D) (env : Env) : Int → List D → R D
  | acc, [] => .ok (.int acc)
  | acc, d :: ds => match t d env with
    | none => .no
    | some env1 => match g env1 with
      | .ok true => (match fe env1 with
        | .ok (.int i) => if (-(2 ^ 63) ≤ i ∧ i < 2 ^ 63) ∧ (-(2 ^ 63) ≤ acc + i ∧ acc + i < 2 ^ 63) then sumL t g fe env (acc + i) ds else .no
        | _ => .no)
      | .ok false => sumL t g fe env acc ds
      | _ => .no
section
variable {t : Tg} {g : Env → R Bool} {fe : Env → R D}
theorem sumL_nx {env : Env} : ∀ {r : List D} {acc : Int} {c : D}, sumL t g fe env acc r = .ok c → (nextY t g fe env r = .ok none ∧ c = .int acc) ∨ ∃ i r', nextY t g fe env r = .ok (some (.int i, r')) ∧ ((-(2 ^ 63) ≤ i ∧ i < 2 ^ 63) ∧ (-(2 ^ 63) ≤ acc + i ∧ acc + i < 2 ^ 63)) ∧ sumL t g fe env (acc + i) r' = .ok c
  | [], acc, c, h => by cases h; exact .inl ⟨rfl, rfl⟩
  | x :: r, acc, c, h => by
    unfold sumL at h
    unfold nextY
    cases et : t x env with
    | none => rw [et] at h; cases h
    | some env1 =>
      rw [et] at h
      dsimp only at h ⊢
      cases eg : g env1 with
      | ex _ _ => rw [eg] at h; cases h
      | no => rw [eg] at h; cases h
      | ok b =>
        rw [eg] at h
        cases b with
        | false => exact sumL_nx h
        | true =>
          dsimp only at h ⊢
          split at h
          · rename_i i ef
            rw [ef]
            split at h
            · rename_i hi
              exact .inr ⟨i, r, rfl, hi, h⟩
            · cases h
          · cases h
theorem sumL_nex {env : Env} : ∀ {r : List D} {acc : Int} {c : Str} {as : List (Str × D)}, sumL t g fe env acc r ≠ .ex c as
  | [], acc, c, as, h => by cases h
  | x :: r, acc, c, as, h => by
    unfold sumL at h
    split at h
    · cases h
    · split at h
      · split at h
        · split at h
          · exact sumL_nex h
          · cases h
        · cases h
      · exact sumL_nex h
      · cases h
end
section
variable {F : Fx} {fp : List Addr} {tn : Nat → Heap → Prop} {t : Tg} {g : Env → R Bool} {fe : Env → R D} {b1 h1 : Hp} {ds : List D} {a S : Addr} {ob : Obj}
theorem inv_change {X : Cx} {σ : L2.St} {H : Hp} {s : Shared} {o o' : Obj} {h' : Heap} {tk : Nat} (I : L2.Inv X [(a, ob), (S, o)] σ H s) (hSa : a ≠ S) (hpn : ∀ p ∈ X.pn, p.1 ≠ S) (hbig : X.s_0.heap.objs.size ≤ S)
    (k : ∀ b o, b ≠ S → s.heap.get? b = some o → h'.get? b = some o) (hS' : h'.get? S = some o') (nc : ∀ v, o'.data ≠ .cell v) : L2.Inv X [(a, ob), (S, o')] σ H { s with heap := h', toks := tk } := by
  have pa := I.pin (a, ob) (List.mem_append_right _ List.mem_cons_self)
  have pS' := I.pin (S, o) (List.mem_append_right _ (List.mem_cons_of_mem _ List.mem_cons_self))
  have I0 : L2.Inv X [(a, ob)] σ H s := I.pins_of fun p hp => by
    obtain rfl := List.mem_singleton.mp hp
    exact pa
  have hok : HOk X.prog X.w H h' := fun b u e => by
    have nS : ∀ c, c = b ∨ H c = some (.own b) → c ≠ S := fun c hc z => by
      subst z
      rcases hc with rfl | hc
      · rw [pS'.2.1] at e; cases e
      · rw [pS'.2.1] at hc; cases hc
    exact (I.hok b u e).stay (fun c v hc q => k c v (nS c hc) q) (fun _ q => q) fun _ _ q => q
  have J := I0.call (ch := [S]) (h' := h') (g' := s.gens) (t' := tk) (d' := s.drawn) (H' := H)
    ⟨fun b o e _ _ hx => k b o (fun z => hx (by rw [z]; exact List.mem_cons_self)) e, fun b o e _ _ hx => ⟨o.slots, k b o (fun z => hx (by rw [z]; exact List.mem_cons_self)) e⟩, fun _ _ _ n _ => n, fun b o e hx => ⟨o, k b o (fun z => hx (by rw [z]; exact List.mem_cons_self)) e⟩, fun _ _ e => e, fun _ _ _ e => e, fun b ps e => ⟨#[], by rw [e]; simp⟩⟩
    hok I.bare fun b hb => by
      obtain rfl := List.mem_singleton.mp hb
      refine ⟨.inr hbig, pS'.2.2.1, fun x c e z => ?_, fun p hp => ?_⟩
      · subst z
        obtain ⟨v, o2, e2, hd⟩ := I.cell x c e
        rw [pS'.1] at e2
        cases e2
        exact pS'.2.2.2.2 v hd
      · rcases List.mem_append.mp hp with hp | hp
        · exact hpn p hp
        · obtain rfl := List.mem_singleton.mp hp
          exact hSa
  refine J.pins_of fun p hp => ?_
  rcases List.mem_cons.mp hp with rfl | hp
  · exact J.pin _ (List.mem_append_right _ List.mem_cons_self)
  · obtain rfl := List.mem_singleton.mp hp
    exact ⟨hS', pS'.2.1, pS'.2.2.1, pS'.2.2.2.1, nc⟩
/-- the object at S is another one from now on -/
theorem GR.change {Fg : Fx} {prog : Program} {w : World} {Ag : Around} {gn : Nat} {σw : L2.St} {envw : Env} {nx : List D → R (Option (D × List D))} {r : List D} {m : Nat} {s : Shared} (G : GR Fg prog w Ag a ob S gn fp tn σw envw b1 h1 nx ds r m s) (hSf : S ∉ fp) (hSa : a ≠ S) (hpn : ∀ p ∈ Fg.X.pn, p.1 ≠ S) (hbig : Fg.X.s_0.heap.objs.size ≤ S)
    (keepT : ∀ (i : Nat) (h h' : Heap), tn i h → (∀ c ∈ fp, ∀ o, h.get? c = some o → h'.get? c = some o) → tn i h') {h' : Heap} {o' : Obj} {tk : Nat} (k : ∀ b o, b ≠ S → s.heap.get? b = some o → h'.get? b = some o) (hS' : h'.get? S = some o') (nc : ∀ v, o'.data ≠ .cell v) :
    GR Fg prog w Ag a ob S gn fp tn σw envw b1 h1 nx ds r m { s with heap := h', toks := tk } := by
  obtain ⟨⟨o, hS⟩, gs, b, h, hg, hat, hr, hrm, hm, go⟩ := G
  refine ⟨⟨o', hS'⟩, gs, b, h, hg, ?_, hr, hrm, hm, go⟩
  have I := hat.inv
  rw [pS_at hS] at I
  refine ⟨?_, hat.fpo, keepT _ _ _ hat.st fun c hc o e => k c o (fun z => hSf (z ▸ hc)) e, hat.good, hat.ext⟩
  show L2.Inv Fg.X (pS a ob S h') σw h { s with heap := h', toks := tk }
  rw [pS_at hS']
  exact inv_change I hSa hpn hbig k hS' nc
theorem sum_loop {Fg : Fx} {A : Around} {gn : Nat} {σw : L2.St} {envw : Env} {Rr : Result → Shared → Prop} {c : D} (hh : A.handled = none) (hd : A.depth < recursionLimit) (hob : ob.cls = .type "generator" ∧ ∃ nm qn, ob.data = .fields #[.int gn 0, nm, qn] ∧ ob.slots = #[])
    (hSf : S ∉ fp) (hSa : a ≠ S) (hpn : ∀ p ∈ Fg.X.pn, p.1 ≠ S) (hbig : Fg.X.s_0.heap.objs.size ≤ S) (keepT : ∀ (i : Nat) (h h' : Heap), tn i h → (∀ c ∈ fp, ∀ o, h.get? c = some o → h'.get? c = some o) → tn i h')
    (hR : ∀ hh b h s' i t', c = .int i → GEnd Fg (pS a ob S hh) σw envw b1 h1 b h s' → Rr (.ok (.ret (.int i t'))) s') : ∀ (n : Nat) (r : List D) (m : Nat) (s : Shared) (acc : Int) (tA : Tok) (cc : Nat), r.length < n → sumL t g fe envw acc r = .ok c →
      GR Fg F.X.prog F.X.w A.in1.in1 a ob S gn fp tn σw envw b1 h1 (nextY t g fe envw) ds r m s → s.heap.get? S = some { cls := .type "list", dict := none, data := .seq #[.int acc tA] cc, slots := #[] } →
      codeAny (model F.X.prog F.X.w) A (.builtin "sum.loop" ⟨[.ref a, .ref S, rawInt 0, rawInt 0], []⟩) Rr s
  | 0, _, _, _, _, _, _, hn, _, _, _ => absurd hn (Nat.not_lt_zero _)
  | n + 1, r, m, s, acc, tA, cc, hn, hc, G, hS => by
    refine codeAny_builtin PySem.F.entry_sum_loop ?_
    rw [Around.under_plainId PySem.F.plain_sum_loop _]
    show wpAny _ A.in1 (seqItems? (.ref S) >>= _) _ _ s
    refine wpAny_bind (wpAny_seqItems hS rfl ?_)
    show wpAny _ A.in1 (tryCatch (pyNext (.ref a)) _ >>= _) _ _ s
    rcases sumL_nx hc with ⟨e, rfl⟩ | ⟨i, r', e, ⟨⟨f1, f2⟩, f3, f4⟩, hc'⟩
    · refine wpAny_bind (wpAny_tryCatch (thnF (gen_next (F := F) (A := A.in1) hh hd hob G e (fun y r' q => nextY_lt q)) fun v s' ⟨hv, b, h, hE⟩ => ?_))
      subst hv
      exact wpAny_pure (hR _ b h s' acc tA rfl hE)
    · refine wpAny_bind (wpAny_tryCatch (thnF (gen_next (F := F) (A := A.in1) hh hd hob G e (fun y r' q => nextY_lt q)) fun v s' ⟨u, x, b, hv, ru, du, G', hlt, hk⟩ => ?_))
      subst hv
      cases du
      obtain ⟨ti, rfl⟩ := ru
      have hS' := hk _ hS
      have hcb : ((decide (-(2 ^ 63) ≤ i) && decide (i < 2 ^ 63)) && (decide (-(2 ^ 63) ≤ acc + i) && decide (acc + i < 2 ^ 63))) = true := by
        simp only [Bool.and_eq_true, decide_eq_true_eq]
        exact ⟨⟨f1, f2⟩, f3, f4⟩
      show wpAny _ A.in1 (if (_ : Bool) = true then (mkInt (acc + i) >>= _) else _) _ _ _
      split
      · refine wpAny_bind (wpAny_mkInt ?_)
        show wpAny _ A.in1 (updateSeq S (fun _ => #[.int (acc + i) s'.toks]) >>= _) _ _ _
        refine wpAny_bind ?_
        refine wpAny_updateSeq hS' rfl (wpAny_pure ⟨plainId_quiet PySem.F.plain_sum_loop _, sum_loop hh hd hob hSf hSa hpn hbig keepT hR n r' (m - 1) _ (acc + i) s'.toks _ (by omega) hc' (GR.change G' hSf hSa hpn hbig keepT (fun b o hb e => ?_) (Heap.get?_update_self _ hS' rfl) (fun v z => by cases z)) (Heap.get?_update_self _ hS' rfl)⟩)
        exact (Heap.get?_update_other _ _ (Ne.symm hb)).trans e
      · rename_i hneg
        exact absurd hcb hneg
end
def eSum (t : Tg) (g : Env → R Bool) (fe : Env → R D) (f : Env → R (List D)) (vs : List Nat) : Env → R D := fun env => (f env).bnd fun ds => sumL t g fe (wipeE env vs) 0 ds
section
variable {F : Fx} {tg elt iter : Expr} {ifs : List Expr} {scope : Scope} {pos : Pos} {k : Nat} {t : Tg} {ix : List Nat} {g : Env → R Bool} {fe : Env → R D} {f : Env → R (List D)}
theorem ie_sum {p gpos : Pos} (own : List (Str × Nat)) (P : Addr) (hm : F.X.mg "sum" = none) (hk : k + 1 ≤ F.k) (hi : II F tg iter f) (hP : P ∈ F.T) (TB : TabX F.X P) 
    (hg : ∀ (s : Shared) (H : Hp) (cl : List (Str × Addr)) (C : Addr) (code : Value) (bi : Addr) (A : Around) (fp : List Addr) (hr : Room k A), IG (F.gen s H (genEnv scope cl C code bi F.X.env) A fp k hr) tg t ix)
    (ht : ∀ (s : Shared) (H : Hp) (cl : List (Str × Addr)) (C : Addr) (code : Value) (bi : Addr) (A : Around) (fp : List Addr) (hr : Room k A), ITs (F.gen s H (genEnv scope cl C code bi F.X.env) A fp k hr) ifs g)
    (he : ∀ (s : Shared) (H : Hp) (cl : List (Str × Addr)) (C : Addr) (code : Value) (bi : Addr) (A : Around) (fp : List Addr) (hr : Room k A), IE (F.gen s H (genEnv scope cl C code bi F.X.env) A fp k hr) elt fe)
    (ok : blkC F.X.N F.X.env.scope scope own = true) (S_ : GSc scope) (hix : ∀ i ∈ ix, i ∈ own.map (·.2))
    (hgl : Gl F.X "sum" := by rfl) (hs : ∀ v, genFold iter F.X.env v = pure v := by intro _; rfl)
    (hst : starEach [.GeneratorExp elt [⟨tg, iter, ifs, 0⟩] scope gpos] F.X.env = (false, eval (.GeneratorExp elt [⟨tg, iter, ifs, 0⟩] scope gpos) F.X.env) :: starEach [] F.X.env := by rfl) (hsu : F.sui = false := by rfl) :
    IE F (.Call (.Name "sum" p) [.GeneratorExp elt [⟨tg, iter, ifs, 0⟩] scope gpos] [] pos) (eSum t g fe f (own.map (·.2))) := by
  refine ⟨fun pins s σ H Q I h => ?_⟩
  obtain ⟨b, env, G, hp⟩ := h
  refine wpAny_Call_Name_kw (ld_blt I hgl hm rfl ?_)
  refine PyProof.Rows.callWith_builtin1 ?_ hst (by rfl)
  rw [hst]
  show wpAny _ _ (spliced ((false, eval (.GeneratorExp elt [⟨tg, iter, ifs, 0⟩] scope gpos) F.X.env) :: backTo pos (starEach [] F.X.env))) _ _ s
  refine Calls.spliced_cons (gen_make I hsu hk hi (blkOk_by ok) S_ hP TB hix hg ht he hs ⟨b, env, G, Po.bnd hp fun ds _ b1 h1 x1 p1 Fg a ob gn fp tn b2 h2 s5 G2 eK x2 hob hobs hGR hback => ?_⟩)
  have hA := F.room.dp
  cases hc : sumL t g fe (wipeE env (own.map (·.2))) 0 ds with
  | ex c as => exact (sumL_nex hc).elim
  | no => rw [hc] at p1; exact p1.elim
  | ok c =>
    rw [hc] at p1
    have isG : s5.heap.IsGen a gn := by
      obtain ⟨hcl, nm, qn, hdd, hsl⟩ := hob
      exact ⟨ob, nm, qn, hobs, hcl, hdd, hsl⟩
    refine Calls.spliced_nil (call_function_tree PySem.F.kind_sum PySem.F.plain_sum PySem.F.entry_sum (PySem.F.args_sum1 _) ?_)
    unfold Builtin.«sum»
    simp only [List.length_cons, List.length_nil]
    rw [if_neg (by decide)]
    refine wpAny_bind (wpAny_of_eq (show Builtin.Builtins.bindParams "sum" ["start"] 0 { } = pure [none] from rfl) ?_)
    refine wpAny_bind (wpAny_pyIter_gen isG ?_)
    refine wpAny_bind (wpAny_mkInt ?_)
    refine wpAny_bind (wpAny_pure ?_)
    simp only [List.forIn_cons, List.forIn_nil]
    refine wpAny_bind (wpAny_bind (wpAny_bind (wpAny_isInstance (T := "int") (b := false) (typeIs_int _ _ _) PySem.sub_int_str ?_)))
    simp only [Bool.false_eq_true, if_false]
    refine wpAny_pure (wpAny_bind (wpAny_bind (wpAny_isInstance (T := "int") (b := false) (typeIs_int _ _ _) PySem.sub_int_bytes ?_)))
    simp only [Bool.false_eq_true, if_false]
    refine wpAny_pure (wpAny_bind (wpAny_bind (wpAny_isInstance (T := "int") (b := false) (typeIs_int _ _ _) PySem.sub_int_bytearray ?_)))
    simp only [Bool.false_eq_true, if_false]
    refine wpAny_pure (wpAny_pure ?_)
    refine wpAny_bind (wpAny_newObj_type ?_)
    obtain ⟨⟨naf, ⟨oa, hoa⟩, hpn, hbig, hfp, keepT⟩, gs, bb, hb, hgs, hat, go⟩ := hGR
    have hSa : a ≠ s5.heap.objs.size := Nat.ne_of_lt (Heap.lt_size hobs)
    have hSf : s5.heap.objs.size ∉ fp := fun z => Nat.lt_irrefl _ (hfp _ z)
    have I := hat.inv
    have kk : ∀ (o : Obj) b u, s5.heap.get? b = some u → (s5.heap.push o).get? b = some u := fun o b u e => Heap.get?_push_of_some _ e
    have nfs : s5.heap.objs.size ∉ Fg.X.fs := fun z => by
      obtain ⟨_, o', e', _⟩ := I.ok.funs.mem z
      exact Nat.lt_irrefl _ (Nat.lt_of_lt_of_le (Heap.lt_size e') hbig)
    have pa := I.pin (a, ob) (List.mem_append_right _ List.mem_cons_self)
    refine wpAny_pure ⟨plainId_quiet PySem.F.plain_sum_loop _, sum_loop (F := F) (S := s5.heap.objs.size) (F.hand hsu) (by omega) hob hSf hSa (fun p hp => Nat.ne_of_lt (hpn p hp)) hbig keepT (fun _ b' h' s' i t' ei hE => ?_) (ds.length + 1) ds (ds.length + 1) _ 0 _ 0 (Nat.lt_succ_self _) hc ⟨⟨_, Heap.get?_push_size _ rfl⟩, gs, bb, hb, hgs, ?_, by rw [Nat.sub_self]; rfl, Nat.lt_succ_self _, Nat.le_refl _, go _ hSf⟩ (Heap.get?_push_size _ rfl)⟩
    · obtain ⟨I', x'⟩ := hback b' h' s' hE.drop
      subst ei
      exact ⟨.int i, h', I', ⟨_, rfl⟩, p1 b' h' (x2.trans x') _ (.int i)⟩
    · rw [pS_at (Heap.get?_push_size _ rfl)]
      refine ⟨(L2.Inv.kept I (kk _)).pins_of fun p hp => ?_, hat.fpo, keepT _ _ _ hat.st fun c hc o e => kk _ c o e, hat.good, hat.ext⟩
      rcases List.mem_cons.mp hp with rfl | hp
      · exact ⟨kk _ _ _ pa.1, pa.2⟩
      · obtain rfl := List.mem_singleton.mp hp
        exact ⟨Heap.get?_push_size _ rfl, I.hok.fresh (Nat.le_refl _), Nat.ne_of_gt I.lt, nfs, fun v z => by cases z⟩
end
end FP
/-! FQ C: dicts: d[k], k in d, len(d), {k: v, ..}, d[k] = v. -/
namespace FP
open PySem L2 PySem.Spec PyProof.Rows

/-! ### as data -/
/-- may it be a key of the kind n -/
def fit (n : Bool) : D → Bool
  | .int _ => !n
  | .str _ => !n
  | .tuple ds => n && tupKey (.tuple ds)
  | _ => false
/-- the same key -/
def keq (a b : D) : Bool := deqF 9 a b
def dGet : List (D × D) → D → Option D
  | [], _ => none
  | p :: r, k => if keq p.1 k then some p.2 else dGet r k
def dHas (l : List (D × D)) (k : D) : Bool := l.any fun p => keq p.1 k
def dRep (k v : D) : List (D × D) → List (D × D)
  | [] => []
  | p :: r => (if keq p.1 k then (p.1, v) else p) :: dRep k v r
def dPut (l : List (D × D)) (k v : D) : List (D × D) := if dHas l k then dRep k v l else l ++ [(k, v)]
/-- the kind of the keys, read off the first -/
def dKind : List (D × D) → D → Bool
  | [], k => match k with
    | .tuple _ => true
    | _ => false
  | p :: _, _ => match p.1 with
    | .tuple _ => true
    | _ => false

/-! ### leaf keys -/
theorem seq_kV : ∀ {a b : Key} {x y : D} {K : KW} {H H' : Hp}, Dp K H (kV a) x → Dp K H' (kV b) y → keq x y = decide (a = b)
  | .inl i, .inl j, _, _, _, _, _, hx, hy => by
    cases hx; cases hy
    show decide (i = j) = decide ((Sum.inl i : Key) = Sum.inl j)
    by_cases e : i = j
    · subst e; simp
    · rw [decide_eq_false e, decide_eq_false (fun z => e (by injection z))]
  | .inr x, .inr y, _, _, _, _, _, hx, hy => by
    cases hx; cases hy
    show seq x y = _
    rw [seq_eq]
    by_cases e : x = y
    · subst e; simp
    · rw [beq_eq_false_iff_ne.mpr e, decide_eq_false (fun z => e (by injection z))]
  | .inl i, .inr y, _, _, _, _, _, hx, hy => by
    cases hx; cases hy
    exact (decide_eq_false (fun z => by cases z)).symm
  | .inr x, .inl j, _, _, _, _, _, hx, hy => by
    cases hx; cases hy
    exact (decide_eq_false (fun z => by cases z)).symm
section
variable {K : KW} {b H : Hp}
theorem leaf_get {k : Key} {kd : D} (hk : Dp K H (kV k) kd) : ∀ {ks : List (Key × V)} {l : List (D × D)}, DpPs K b (ks.map fun p => (kV p.1, p.2)) l → match dGet l kd with
    | some d => ∃ v, valV ks k = some v ∧ Dp K b v d
    | none => valV ks k = none
  | [], _, h => by cases h; rfl
  | p :: ks, _, h => by
    cases h with
    | @cons _ _ q qs h1 h2 hr =>
      have e := seq_kV h1 hk
      unfold dGet
      by_cases c : p.1 = k
      · rw [decide_eq_true c] at e
        rw [e, if_pos rfl]
        exact ⟨_, valV_pos c, h2⟩
      · rw [decide_eq_false c] at e
        rw [e, if_neg (by decide)]
        have := leaf_get hk hr
        rw [valV_neg c]
        exact this
theorem dHas_get : ∀ (l : List (D × D)) (k : D), dHas l k = (dGet l k).isSome
  | [], _ => rfl
  | p :: r, k => by
    show (keq p.1 k || dHas r k) = (if keq p.1 k then some p.2 else dGet r k).isSome
    by_cases c : keq p.1 k = true
    · rw [c]; rfl
    · rw [(Bool.not_eq_true _).mp c]; exact dHas_get r k
theorem leaf_isSome {k : Key} {kd : D} (hk : Dp K H (kV k) kd) {ks : List (Key × V)} {l : List (D × D)} (h : DpPs K b (ks.map fun p => (kV p.1, p.2)) l) : (valV ks k).isSome = dHas l kd := by
  have := leaf_get hk h
  rw [dHas_get]
  revert this
  cases dGet l kd with
  | some d => rintro ⟨v, e, _⟩; rw [e]; rfl
  | none => intro e; rw [e]; rfl
theorem leaf_rep {k : Key} {kd : D} {v : V} {vd : D} (hk : Dp K H (kV k) kd) (hv : Dp K b v vd) : ∀ {ks : List (Key × V)} {l : List (D × D)}, DpPs K b (ks.map fun p => (kV p.1, p.2)) l →
    DpPs K b ((ks.map fun kv => if kv.1 = k then (kv.1, v) else kv).map fun p => (kV p.1, p.2)) (dRep kd vd l)
  | [], _, h => by cases h; exact .nil
  | p :: ks, _, h => by
    cases h with
    | @cons _ _ q qs h1 h2 hr =>
      have e := seq_kV h1 hk
      unfold dRep
      by_cases c : p.1 = k
      · rw [decide_eq_true c] at e
        rw [e, if_pos rfl, List.map_cons, List.map_cons, if_pos c]
        exact .cons h1 hv (leaf_rep hk hv hr)
      · rw [decide_eq_false c] at e
        rw [e, if_neg (by decide), List.map_cons, List.map_cons, if_neg c]
        exact .cons h1 h2 (leaf_rep hk hv hr)
theorem dpPs_snoc {k v : V} {kd vd : D} (hk : Dp K b k kd) (hv : Dp K b v vd) : ∀ {ps : List (V × V)} {l : List (D × D)}, DpPs K b ps l → DpPs K b (ps ++ [(k, v)]) (l ++ [(kd, vd)])
  | _, _, .nil => .cons hk hv .nil
  | _, _, .cons h1 h2 hr => .cons h1 h2 (dpPs_snoc hk hv hr)
theorem dpPs_len : ∀ {ps : List (V × V)} {l : List (D × D)}, DpPs K b ps l → ps.length = l.length
  | _, _, .nil => rfl
  | _, _, .cons _ _ r => by rw [List.length_cons, List.length_cons, dpPs_len r]
theorem leaf_put {k : Key} {kd : D} {v : V} {vd : D} (hk : Dp K b (kV k) kd) (hv : Dp K b v vd) {ks : List (Key × V)} {l : List (D × D)} (h : DpPs K b (ks.map fun p => (kV p.1, p.2)) l) :
    DpPs K b ((putK ks k v).map fun p => (kV p.1, p.2)) (dPut l kd vd) := by
  unfold putK dPut
  rw [valV_any, leaf_isSome hk h]
  by_cases c : dHas l kd = true
  · rw [c]; exact leaf_rep hk hv h
  · rw [(Bool.not_eq_true _).mp c, if_neg (by decide), if_neg (by decide), List.map_append]
    exact dpPs_snoc hk hv h
/-- a leaf is a key's value -/
theorem fit_leaf {v : V} {d : D} (h : Dp K H v d) (f : fit false d = true) : ∃ k : Key, v = kV k := by
  cases h with
  | int i => exact ⟨.inl i, rfl⟩
  | str x => exact ⟨.inr x, rfl⟩
  | _ => cases f
end
end FP
/-! FQ D: dicts whose keys are tuples. -/
namespace FP
open PySem L2 PySem.Spec PyProof.Rows

mutual
theorem dp_nested {X : Cx} {pins : List (Addr × Obj)} {σ : L2.St} {H b : Hp} {s : Shared} (I : L2.Inv X pins σ H s) (sb : Same b H) : ∀ (d : D) (v : V) (u : Value), keyOk d = true → Dp ⟨X.K, X.w⟩ b v d → RelV v u → NestedIs s.heap (keyN d) u
  | .none, _, _, _, h, r => by cases h; cases r; exact .none
  | .bool c, _, _, _, h, r => by cases h; cases r; exact .bool rfl
  | .int i, _, _, _, h, r => by cases h; obtain ⟨t, rfl⟩ := r; exact .int _ _
  | .str x, _, _, _, h, r => by cases h; obtain ⟨t, rfl⟩ := r; exact .text _ _
  | .tuple ds, _, _, k, h, r => by
    cases h with
    | tup hs ha =>
      cases r
      obtain ⟨its, rv, ⟨o, ho, hc, n, hd⟩, _⟩ := I.tuple (Same.sqT sb hs)
      exact .tup ho hc hd (by simpa using dp_nesteds I sb ds _ its k ha rv)
  | .list _, _, _, k, _, _ => by cases k
  | .dict _, _, _, k, _, _ => by cases k
theorem dp_nesteds {X : Cx} {pins : List (Addr × Obj)} {σ : L2.St} {H b : Hp} {s : Shared} (I : L2.Inv X pins σ H s) (sb : Same b H) : ∀ (ds : List D) (vs : List V) (us : List Value), keyOks ds = true → DpAll ⟨X.K, X.w⟩ b vs ds → Vals vs us → NestedAll s.heap (keyNs ds) us
  | [], _, _, _, h, r => by cases h; cases r; exact .nil
  | d :: ds, _, _, k, h, r => by
    unfold keyOks at k
    rw [Bool.and_eq_true] at k
    cases h with
    | cons h1 h2 =>
      cases r with
      | cons r1 r2 => exact .cons (dp_nested I sb d _ _ k.1 h1 r1) (dp_nesteds I sb ds _ _ k.2 h2 r2)
end
theorem tupKey_ok {d : D} (h : tupKey d = true) : keyOk d = true ∧ (keyN d).depth ≤ 8 := by
  cases d with
  | tuple ds =>
    unfold tupKey at h
    rw [Bool.and_eq_true] at h
    exact ⟨h.1, Nat.le_of_ble_eq_true h.2⟩
  | _ => cases h
theorem tupKey_tup {d : D} (h : tupKey d = true) : ∃ ds, d = .tuple ds := by
  cases d with
  | tuple ds => exact ⟨ds, rfl⟩
  | _ => cases h
/-- the value of a key of tuples is such a key -/
theorem tup_is {X : Cx} {pins : List (Addr × Obj)} {σ : L2.St} {H b : Hp} {s : Shared} (I : L2.Inv X pins σ H s) (sb : Same b H) {d : D} {a : Addr} (k : tupKey d = true) (h : Dp ⟨X.K, X.w⟩ b (.ref a) d) : (nestedKind X.prog X.w).is s.heap (keyN d) a :=
  ⟨dp_nested I sb d _ _ (tupKey_ok k).1 h rfl, (tupKey_ok k).2⟩

/-! ### the same key -/
theorem beq_str (x y : Str) : (x == y) = decide (x = y) := by
  by_cases e : x = y
  · subst e; simp
  · rw [beq_eq_false_iff_ne.mpr e, decide_eq_false e]
theorem keq_nested : ∀ (n : Nat) (x y : D), (keyN x).depth ≤ n → keyOk x = true → keyOk y = true → deqF n x y = NestedKey.beq (keyN x) (keyN y) := by
  intro n
  induction n with
  | zero =>
    intro x y hd hx hy
    cases x with
    | tuple ds => simp [keyN, NestedKey.depth] at hd
    | list _ => cases hx
    | dict _ => cases hx
    | none => cases y <;> first | rfl | cases hy
    | bool c =>
      cases y with
      | bool d => cases c <;> cases d <;> rfl
      | int j => rfl
      | list _ => cases hy
      | dict _ => cases hy
      | _ => rfl
    | int i =>
      cases y with
      | bool d => rfl
      | int j => rfl
      | list _ => cases hy
      | dict _ => cases hy
      | _ => rfl
    | str z =>
      cases y with
      | str w => show seq z w = decide (z = w); rw [seq_eq, beq_str]
      | list _ => cases hy
      | dict _ => cases hy
      | _ => rfl
  | succ n ih =>
    have all : ∀ (xs ys : List D), NestedKey.depthAll (keyNs xs) ≤ n → keyOks xs = true → keyOks ys = true → allF (deqF n) xs ys = NestedKey.beqAll (keyNs xs) (keyNs ys) := by
      intro xs
      induction xs with
      | nil => intro ys _ _ _; cases ys <;> rfl
      | cons x xs ih2 =>
        intro ys hd hx hy
        cases ys with
        | nil => rfl
        | cons y ys =>
          unfold keyOks at hx hy
          rw [Bool.and_eq_true] at hx hy
          have hd' : max (keyN x).depth (NestedKey.depthAll (keyNs xs)) ≤ n := hd
          show (deqF n x y && allF (deqF n) xs ys) = (NestedKey.beq (keyN x) (keyN y) && NestedKey.beqAll (keyNs xs) (keyNs ys))
          rw [ih x y (by omega) hx.1 hy.1, ih2 ys (by omega) hx.2 hy.2]
    intro x y hd hx hy
    cases x with
    | tuple ds =>
      cases y with
      | tuple es => exact all ds es (by simpa [keyN, NestedKey.depth] using hd) hx hy
      | list _ => cases hy
      | dict _ => cases hy
      | _ => rfl
    | list _ => cases hx
    | dict _ => cases hx
    | none => cases y <;> first | rfl | cases hy
    | bool c =>
      cases y with
      | bool d => cases c <;> cases d <;> rfl
      | int j => rfl
      | list _ => cases hy
      | dict _ => cases hy
      | _ => rfl
    | int i =>
      cases y with
      | bool d => rfl
      | int j => rfl
      | list _ => cases hy
      | dict _ => cases hy
      | _ => rfl
    | str z =>
      cases y with
      | str w => show seq z w = decide (z = w); rw [seq_eq, beq_str]
      | list _ => cases hy
      | dict _ => cases hy
      | _ => rfl
theorem keq_tup {x y : D} (hx : tupKey x = true) (hy : tupKey y = true) : keq x y = decide (keyN x = keyN y) := by
  unfold keq
  rw [keq_nested 9 x y (Nat.le_succ_of_le (tupKey_ok hx).2) (tupKey_ok hx).1 (tupKey_ok hy).1, NestedKey.decide_eq]

/-! ### the entries -/
/-- entries as the kit tells them, as they are tracked, as data -/
inductive NRel (K : KW) (b : Hp) : List (NestedKey × Addr × Value) → List (Int × Addr × V) → List (D × D) → Prop
  | nil : NRel K b [] [] []
  | cons {y : NestedKey × Addr × Value} {x : Int × Addr × V} {q : D × D} {ys : List (NestedKey × Addr × Value)} {xs : List (Int × Addr × V)} {l : List (D × D)} (e1 : y.1 = keyN q.1) (e2 : y.2.1 = x.2.1) (e3 : RelV x.2.2 y.2.2) (e4 : x.1 = (keyN q.1).hash K.w)
      (t : tupKey q.1 = true) (k : Dp K b (.ref x.2.1) q.1) (v : Dp K b x.2.2 q.2) (r : NRel K b ys xs l) : NRel K b (y :: ys) (x :: xs) (q :: l)
section
variable {K : KW} {b : Hp}
theorem NRel.len : ∀ {ys : List (NestedKey × Addr × Value)} {xs : List (Int × Addr × V)} {l : List (D × D)}, NRel K b ys xs l → ys.length = l.length ∧ xs.length = l.length
  | _, _, _, .nil => ⟨rfl, rfl⟩
  | _, _, _, .cons _ _ _ _ _ _ _ r => ⟨congrArg Nat.succ r.len.1, congrArg Nat.succ r.len.2⟩
theorem NRel.keys : ∀ {ys : List (NestedKey × Addr × Value)} {xs : List (Int × Addr × V)} {l : List (D × D)}, NRel K b ys xs l → ys.map (·.1) = l.map fun p => keyN p.1
  | _, _, _, .nil => rfl
  | _, _, _, .cons e _ _ _ _ _ _ r => by rw [List.map_cons, List.map_cons, e, r.keys]
theorem NRel.dp : ∀ {ys : List (NestedKey × Addr × Value)} {xs : List (Int × Addr × V)} {l : List (D × D)}, NRel K b ys xs l → DpPs K b (xs.map fun x => (V.ref x.2.1, x.2.2)) l
  | _, _, _, .nil => .nil
  | _, _, _, .cons _ _ _ _ _ k v r => .cons k v r.dp
theorem NRel.hs : ∀ {ys : List (NestedKey × Addr × Value)} {xs : List (Int × Addr × V)} {l : List (D × D)}, NRel K b ys xs l → xs.map (·.1) = l.map (fun p => (keyN p.1).hash K.w) ∧ ∀ p ∈ l, tupKey p.1 = true
  | _, _, _, .nil => ⟨rfl, fun _ h => by cases h⟩
  | _, _, _, .cons _ _ _ e t _ _ r => ⟨by rw [List.map_cons, List.map_cons, e, r.hs.1], fun p h => by
      rcases List.mem_cons.mp h with rfl | h
      · exact t
      · exact r.hs.2 p h⟩
theorem NRel.get {kd : D} (hk : tupKey kd = true) : ∀ {ys : List (NestedKey × Addr × Value)} {xs : List (Int × Addr × V)} {l : List (D × D)}, NRel K b ys xs l → match dGet l kd with
    | some d => ∃ a u v, atKey ys (keyN kd) = some (a, u) ∧ RelV v u ∧ Dp K b v d
    | none => atKey ys (keyN kd) = none
  | _, _, _, .nil => rfl
  | _, _, _, .cons (y := y) (x := x) (q := q) (ys := ys) (l := l) e1 e2 e3 e4 t k v r => by
    have e := keq_tup t hk
    unfold dGet
    by_cases c : keyN q.1 = keyN kd
    · rw [decide_eq_true c] at e
      rw [e, if_pos rfl]
      refine ⟨y.2.1, y.2.2, x.2.2, ?_, e3, v⟩
      simp [atKey, e1, c]
    · rw [decide_eq_false c] at e
      rw [e, if_neg (by decide)]
      have ih := NRel.get hk r
      have ea : atKey (y :: ys) (keyN kd) = atKey ys (keyN kd) := by simp [atKey, e1, c]
      rw [ea]
      exact ih
theorem NRel.isSome {kd : D} (hk : tupKey kd = true) {ys : List (NestedKey × Addr × Value)} {xs : List (Int × Addr × V)} {l : List (D × D)} (r : NRel K b ys xs l) : (atKey ys (keyN kd)).isSome = dHas l kd := by
  have := r.get hk
  rw [dHas_get]
  revert this
  cases dGet l kd with
  | some d => rintro ⟨a, u, v, e, _⟩; rw [e]; rfl
  | none => intro e; rw [e]; rfl
/-- a value is stored under a key that is there -/
def repN (k : D) (w : World) (v : V) : List (Int × Addr × V) → List (D × D) → List (Int × Addr × V)
  | x :: xs, q :: l => (if keq q.1 k then (x.1, x.2.1, v) else x) :: repN k w v xs l
  | _, _ => []
theorem NRel.rep {kd vd : D} {v : V} {u : Value} (hk : tupKey kd = true) (hv : Dp K b v vd) (rv : RelV v u) : ∀ {ys : List (NestedKey × Addr × Value)} {xs : List (Int × Addr × V)} {l : List (D × D)}, NRel K b ys xs l → NRel K b (ys.map (putAt (keyN kd) u)) (repN kd K.w v xs l) (dRep kd vd l)
  | _, _, _, .nil => .nil
  | _, _, _, .cons (y := y) (x := x) (q := q) (ys := ys) (l := l) e1 e2 e3 e4 t k d r => by
    have e := keq_tup t hk
    unfold dRep repN
    rw [List.map_cons]
    by_cases c : keyN q.1 = keyN kd
    · rw [decide_eq_true c] at e
      rw [e, if_pos rfl, if_pos rfl, putAt, if_pos (e1.trans c)]
      exact .cons e1 e2 rv e4 t k hv (NRel.rep hk hv rv r)
    · rw [decide_eq_false c] at e
      rw [e, if_neg (by decide), if_neg (by decide), putAt, if_neg (fun z => c (e1.symm.trans z))]
      exact .cons e1 e2 e3 e4 t k d (NRel.rep hk hv rv r)
theorem NRel.snoc {kd vd : D} {v : V} {u : Value} {a : Addr} (hk : tupKey kd = true) (ha : Dp K b (.ref a) kd) (hv : Dp K b v vd) (rv : RelV v u) : ∀ {ys : List (NestedKey × Addr × Value)} {xs : List (Int × Addr × V)} {l : List (D × D)}, NRel K b ys xs l →
    NRel K b (ys ++ [(keyN kd, a, u)]) (xs ++ [((keyN kd).hash K.w, a, v)]) (l ++ [(kd, vd)])
  | _, _, _, .nil => .cons rfl rfl rv rfl hk ha hv .nil
  | _, _, _, .cons e1 e2 e3 e4 t k d r => .cons e1 e2 e3 e4 t k d (NRel.snoc hk ha hv rv r)
end
section
variable {X : Cx} {pins : List (Addr × Obj)} {σ : L2.St} {H b : Hp} {s : Shared} {a : Addr} {xs : List (Int × Addr × V)} {l : List (D × D)}
theorem nrel_of {w : World} {P : Program} {K : PySem.W.Frag} : ∀ {xs : List (Int × Addr × V)} {es : List DictEntry} {l : List (D × D)}, Paired (fun x e => e.hash = x.1 ∧ e.key = .ref x.2.1 ∧ RelV x.2.2 e.val) xs es → DpPs ⟨K, w⟩ b (xs.map fun x => (V.ref x.2.1, x.2.2)) l →
    xs.map (·.1) = l.map (fun p => (keyN p.1).hash w) → (∀ p ∈ l, tupKey p.1 = true) → ∃ ys, NRel ⟨K, w⟩ b ys xs l ∧ es = ys.map (entryOfKey (nestedKind P w))
  | _, _, _, .nil, h, _, _ => by cases h; exact ⟨[], .nil, rfl⟩
  | _, _, _, .cons (a := x) (b := e) q r, h, hh, ht => by
    rw [List.map_cons] at h
    cases h with
    | @cons _ _ qd l h1 h2 hr =>
      rw [List.map_cons, List.map_cons] at hh
      injection hh with hh1 hh2
      obtain ⟨ys, n, ee⟩ := nrel_of (P := P) r hr hh2 fun p hp => ht p (List.mem_cons_of_mem _ hp)
      refine ⟨(keyN qd.1, x.2.1, e.val) :: ys, .cons rfl rfl q.2.2 hh1 (ht _ List.mem_cons_self) h1 h2 n, ?_⟩
      rw [List.map_cons, ← ee]
      congr 1
      obtain ⟨hash, key, val⟩ := e
      obtain ⟨q1, q2, q3⟩ := q
      show DictEntry.mk hash key val = ⟨(keyN qd.1).hash w, .ref x.2.1, val⟩
      dsimp only at q1 q2
      rw [q1, q2, hh1]
/-- a tracked dict with tuple keys, as the kit tells it -/
theorem dcn_at (I : L2.Inv X pins σ H s) (sb : Same b H) (e : H a = some (dNH a xs)) (r : DpPs ⟨X.K, X.w⟩ b (xs.map fun x => (V.ref x.2.1, x.2.2)) l) (ok : KeysOk X.w (xs.map (·.1)) l) :
    ∃ ys, NRel ⟨X.K, X.w⟩ b ys xs l ∧ s.heap.DictOfH (nestedKind X.prog X.w) a ys ∧ l.length ≤ sizeLine ∧ (a == sysModules) = false := by
  obtain ⟨⟨hsz, hm, o, es, ep, ho, hx, hd, pe⟩, _, _⟩ := I.hok a _ e
  obtain ⟨ys, n, ee⟩ := nrel_of (P := X.prog) pe r ok.1 ok.2.1
  refine ⟨ys, n, ⟨o, es, ep, ho, hx, hd, ee, ?_, by rw [n.keys]; exact ok.2.2⟩, by rw [← n.len.2]; exact hsz, hm⟩
  have : ∀ {ys : List (NestedKey × Addr × Value)} {xs : List (Int × Addr × V)} {l : List (D × D)}, NRel ⟨X.K, X.w⟩ b ys xs l → ∀ y ∈ ys, (nestedKind X.prog X.w).is s.heap y.1 y.2.1 := by
    intro ys xs l n
    induction n with
    | nil => intro y h; cases h
    | cons e1 e2 e3 e4 t k v r ih =>
      intro y h
      rcases List.mem_cons.mp h with rfl | h
      · rw [e1, e2]; exact tup_is I sb t k
      · exact ih y h
  exact this n
/-- .. and back -/
theorem dcn_obj {P : Program} {w : World} {H' : Hp} {h' : Heap} {ys : List (NestedKey × Addr × Value)} {K : PySem.W.Frag} (n : NRel ⟨K, w⟩ b ys xs l) (hsz : l.length ≤ sizeLine) (hm : (a == sysModules) = false) (dd : h'.DictOfH (nestedKind P w) a ys) :
    ObjOk P w H' h' a (dNH a xs) ∧ KeysOk w (xs.map (·.1)) l := by
  obtain ⟨o, es, ep, ho, hx, hd, ee, his, nd⟩ := dd
  have pe : ∀ {ys : List (NestedKey × Addr × Value)} {xs : List (Int × Addr × V)} {l : List (D × D)}, NRel ⟨K, w⟩ b ys xs l → Paired (fun x e => e.hash = x.1 ∧ e.key = .ref x.2.1 ∧ RelV x.2.2 e.val) xs (ys.map (entryOfKey (nestedKind P w))) := by
    intro ys xs l n
    induction n with
    | nil => exact .nil
    | @cons y x q ys xs l e1 e2 e3 e4 t k v r ih =>
      refine .cons ⟨?_, ?_, e3⟩ ih
      · show y.1.hash w = x.1
        rw [e1, e4]
      · show Value.ref y.2.1 = _
        rw [e2]
  refine ⟨⟨⟨by rw [n.len.2]; exact hsz, hm, o, es, ep, ho, hx, hd, by rw [ee]; exact pe n⟩, ⟨o, ho⟩, ?_⟩, n.hs.1, n.hs.2, by rw [← n.keys]; exact nd⟩
  rintro h1 h2 ⟨z1, z2, o, es, ep, ho, r⟩ k
  exact ⟨z1, z2, o, es, ep, k o ho, r⟩
end
end FP
/-! FQ E: d[k], k in d, len(d), any(list), displays. -/
namespace FP
open PySem L2 PySem.Spec PyProof.Rows

/-- a dict that is read -/
theorem Bp.dct {K : KW} {b h : Hp} {v : V} {l : List (D × D)} (s : Same b h) (q : Bp K b h v (.dict l)) : ∃ a n, v = .ref a ∧ OwnOk K b h a (.dct n l) := by
  rcases q with q | ⟨_, _, _, _, _, _, e⟩ | ⟨a, n, l', e, r, e2⟩
  · cases q with
    | dcl e r => exact ⟨_, false, rfl, _, s _ _ e, r⟩
    | dcn e r k => exact ⟨_, true, rfl, _, s _ _ e, r, k⟩
  · cases e
  · cases e2; exact ⟨a, n, e, r⟩
theorem own_kind {K : KW} {b h : Hp} {a : Addr} {n : Bool} {p : D × D} {l : List (D × D)} {k : D} (q : OwnOk K b h a (.dct n (p :: l))) : dKind (p :: l) k = n := by
  cases n with
  | false =>
    obtain ⟨ks, e, r⟩ := q
    cases ks with
    | nil => cases r
    | cons x ks =>
      rw [List.map_cons] at r
      cases r with
      | cons h1 _ _ =>
        obtain ⟨x1, x2⟩ := x
        cases x1 <;> (cases p with | mk p1 p2 => cases h1; rfl)
  | true =>
    obtain ⟨xs, e, r, k⟩ := q
    obtain ⟨ds, hd⟩ := tupKey_tup (k.2.1 p List.mem_cons_self)
    show (match p.1 with | .tuple _ => true | _ => false) = true
    rw [hd]
theorem fit_tup {d : D} (f : fit true d = true) : tupKey d = true := by
  cases d with
  | tuple ds => simpa [fit] using f
  | _ => cases f
section
variable {X : Cx} {pins : List (Addr × Obj)} {σ : L2.St} {H b : Hp} {s : Shared} {a : Addr} {n : Bool} {l : List (D × D)}
theorem raw_at (I : L2.Inv X pins σ H s) (sb : Same b H) (q : OwnOk ⟨X.K, X.w⟩ b H a (.dct n l)) : ∃ es ep, s.heap.DictRaw a es ep ∧ es.size = l.length ∧ l.length ≤ sizeLine ∧ (a == sysModules) = false := by
  cases n with
  | false =>
    obtain ⟨ks, e, r⟩ := q
    obtain ⟨z, hd, vs, rel, dd⟩ := dk_of I.hok e
    obtain ⟨es, ep, hr, hs, _⟩ := dd.raw
    have hl : ks.length = l.length := by have := dpPs_len r; rwa [List.length_map] at this
    exact ⟨es, ep, hr, by rw [hs, ← rel.length, hl], by rw [← hl]; exact z, hd⟩
  | true =>
    obtain ⟨xs, e, r, k⟩ := q
    obtain ⟨ys, nr, dd, z, hd⟩ := dcn_at I sb e r k
    obtain ⟨es, ep, hr, hs, _⟩ := dd.raw
    exact ⟨es, ep, hr, by rw [hs, nr.len.1], z, hd⟩
/-- d[k], there -/
theorem getO {y : V} {u : Value} {kd vd : D} {A : Around} {E : Value → Shared → Prop} {Q : Value → Shared → Prop} (hu : A.units + 10 < cLine) (I : L2.Inv X pins σ H s) (sb : Same b H) (q : OwnOk ⟨X.K, X.w⟩ b H a (.dct n l)) (hk : Dp ⟨X.K, X.w⟩ H y kd) (f : fit n kd = true) (g : dGet l kd = some vd)
    (ry : RelV y u) (h : ∀ v w' s', L2.Inv X pins σ H s' → RelV v w' → Dp ⟨X.K, X.w⟩ b v vd → Q w' s') : wpAny (model X.prog X.w) A (getItem (.ref a) u) Q E s := by
  cases n with
  | false =>
    obtain ⟨ks, e, r⟩ := q
    obtain ⟨k, rfl⟩ := fit_leaf hk f
    have := leaf_get hk r
    rw [g] at this
    obtain ⟨v, hv, dv⟩ := this
    exact d_getItem (by omega) I (.inl ⟨ks, k, .inl e, rfl, hv.symm⟩) ry fun w' s' I' rw' => h v w' s' I' rw' dv
  | true =>
    obtain ⟨xs, e, r, k⟩ := q
    obtain ⟨ys, nr, dd, z, hd⟩ := dcn_at I sb e r k
    have ht := fit_tup f
    have := nr.get ht
    rw [g] at this
    obtain ⟨p, w', v, hp, rv, dv⟩ := this
    obtain ⟨ds, rfl⟩ := tupKey_tup ht
    cases hk with
    | @tup c zs _ hs hr =>
      cases ry
      exact wpAny_getItem_heap (by show A.units + 1 + 8 < cLine; omega) (tup_is I (Same.refl H) ht (.tup hs hr)) dd hp (h v _ _ (I.tok _) rv dv)
theorem emptyRaw {es : Array DictEntry} {ep : Nat} (r : s.heap.DictRaw a es ep) (hs : es.size = 0) : s.heap.DictOf (mixKind X.prog X.w) a [] ∧ s.heap.DictOfH (nestedKind X.prog X.w) a [] := by
  obtain ⟨o, ho, hc, hd⟩ := r
  have e : es = #[] := Array.eq_empty_of_size_eq_zero hs
  subst e
  obtain ⟨o', es', ep', h1, h2, h3, h4, h5, h6⟩ := Heap.DictOf.new (knd := mixKind X.prog X.w) s.heap
  rw [Heap.get?_push_size _ rfl] at h1
  cases h1
  cases h3
  exact ⟨⟨o, #[], ep, ho, hc, hd, h4, h5, h6⟩, ⟨o, #[], ep, ho, hc, hd, rfl, (fun _ hx => nomatch hx), List.nodup_nil⟩⟩
/-- k in d -/
theorem inO {y : V} {u : Value} {kd : D} {m : Bool} {A : Around} {E : Value → Shared → Prop} (hu : A.units + 10 < cLine) (I : L2.Inv X pins σ H s) (sb : Same b H) (q : OwnOk ⟨X.K, X.w⟩ b H a (.dct n l)) (hk : Dp ⟨X.K, X.w⟩ H y kd) (f : fit m kd = true) (g : m = n ∨ l = [])
    (ry : RelV y u) : (∀ Q : Value → Shared → Prop, (∀ s', L2.Inv X pins σ H s' → Q (.bool (dHas l kd)) s') → wpAny (model X.prog X.w) A (compareOp .In u (.ref a)) Q E s) ∧
      ∀ Q : Value → Shared → Prop, (∀ s', L2.Inv X pins σ H s' → Q (.bool (!dHas l kd)) s') → wpAny (model X.prog X.w) A (compareOp .NotIn u (.ref a)) Q E s := by
  obtain ⟨es, ep, hraw, hes, hl, hd⟩ := raw_at I sb q
  cases m with
  | false =>
    obtain ⟨k, rfl⟩ := fit_leaf hk f
    have key : ∃ vs, s.heap.DictOf (mixKind X.prog X.w) a vs ∧ (valueAt vs k).isSome = dHas l kd := by
      cases n with
      | false =>
        obtain ⟨ks, e, r⟩ := q
        obtain ⟨_, _, vs, rel, dd⟩ := dk_of I.hok e
        exact ⟨vs, dd, by rw [← (rel.val k).isSome_eq, leaf_isSome hk r]⟩
      | true =>
        rcases g with g | g
        · cases g
        · subst g
          exact ⟨[], (emptyRaw hraw hes).1, rfl⟩
    obtain ⟨vs, dd, e⟩ := key
    rw [← e]
    exact ⟨fun Q h => wpAny_in_of (kV_is ry) hd dd.mapOf (h _ (I.tok _)), fun Q h => wpAny_notIn_of (kV_is ry) hd dd.mapOf (h _ (I.tok _))⟩
  | true =>
    have ht := fit_tup f
    have key : ∃ ys, s.heap.DictOfH (nestedKind X.prog X.w) a ys ∧ (atKey ys (keyN kd)).isSome = dHas l kd := by
      cases n with
      | true =>
        obtain ⟨xs, e, r, k⟩ := q
        obtain ⟨ys, nr, dd, _, _⟩ := dcn_at I sb e r k
        exact ⟨ys, dd, nr.isSome ht⟩
      | false =>
        rcases g with g | g
        · cases g
        · subst g
          exact ⟨[], (emptyRaw hraw hes).2, rfl⟩
    obtain ⟨ys, dd, e⟩ := key
    rw [← e]
    obtain ⟨ds, rfl⟩ := tupKey_tup ht
    cases hk with
    | @tup c zs _ hs hr =>
      cases ry
      have is := tup_is I (Same.refl H) ht (.tup hs hr)
      refine ⟨fun Q h => wpAny_in_heap (by show A.units + 1 + 8 < cLine; omega) is hd dd (h _ (I.tok _)), fun Q h => ?_⟩
      show wpAny _ _ (do return .bool (!(← contains (.ref a) (.ref c)))) Q E s
      exact wpAny_bind (wpAny_contains_heap (by show A.units + 1 + 8 < cLine; omega) is hd dd (wpAny_pure (h _ (I.tok _))))
/-- len(d) -/
theorem lenO {A : Around} {E : Value → Shared → Prop} {Q : Value → Shared → Prop} (I : L2.Inv X pins σ H s) (sb : Same b H) (q : OwnOk ⟨X.K, X.w⟩ b H a (.dct n l)) (h : ∀ t s', L2.Inv X pins σ H s' → Q (.int l.length t) s') : wpAny (model X.prog X.w) A (call (.builtin "len") [.ref a]) Q E s := by
  obtain ⟨es, ep, hm, hes, hl, hd⟩ := raw_at I sb q
  rw [sizeLine_eq] at hl
  refine Calls.call_function_entry kind_len plain_len entry_len (args_len1 _) ?_
  unfold Builtin.«len»
  refine wpAny_bind (m := oneArg "len" _) (wpAny_pure ?_)
  refine wpAny_bind (m := callSpecial? (.ref a) (Str.ofString "__len__")) (wpAny_callSpecial?_slot (name := Str.ofString "__len__") hm.typeIs PySem.F.slot_dict_len
    (call_meetsIn PySem.F.slot_dict_len hm.typeIs PySem.F.entry_dict_len (PySem.F.args_dict_len_1 _) (meets_dict_len_raw a hd) ⟨es, ep, hm, ?_⟩))
  show wpAny _ _ _ _ _ { s with toks := s.toks + 1 }
  refine wpAny_bind (wpAny_holding (wpAny_pure ?_))
  refine wpAny_bind (wpAny_letGo ?_)
  rw [hes]
  show wpAny _ _ (if ((l.length : Nat) : Int) < 0 then _ else _) _ _ _
  rw [if_neg (by omega)]
  show wpAny _ _ (if ((l.length : Nat) : Int) ≥ 2 ^ 63 then _ else _) _ _ _
  rw [if_neg (by omega)]
  exact wpAny_bind (wpAny_mkInt (wpAny_pure ⟨_, rfl, h _ _ (I.tok _)⟩))
end

/-! ### the operations -/
def rIxD (K : KW) : R2 := fun x y H Q => ∃ a n l b kd vd, x = .ref a ∧ Same b H ∧ OwnOk K b H a (.dct n l) ∧ Dp K H y kd ∧ fit n kd = true ∧ dGet l kd = some vd ∧ ∀ v, Dp K b v vd → Q v H
def rInD (K : KW) (g : Bool → Bool) : R2 := fun x y H Q => ∃ a n m l b kd, y = .ref a ∧ Same b H ∧ OwnOk K b H a (.dct n l) ∧ Dp K H x kd ∧ fit m kd = true ∧ (m = n ∨ l = []) ∧ Q (.bl (g (dHas l kd))) H
theorem ix_dict {X : Cx} (hu : X.A.units + 10 < cLine) : IxR X (rIxD ⟨X.K, X.w⟩) := by
  intro value slice pins s σ H x y v u Q I rx ry ⟨a, n, l, b, kd, vd, ex, sb, q, hk, f, g, hq⟩ hs
  subst ex
  cases rx
  obtain ⟨es, ep, hraw, _, _, _⟩ := raw_at I sb q
  have hT := hraw.typeIs
  unfold subscriptTail
  refine wpAny_bind ?_
  rw [getitemInPython_of_ne hT.not_modules]
  refine wpAny_bind (wpAny_specialOf hT PySem.F.slot_dict_getitem.lookup ?_)
  have fin : wpAny (model X.prog X.w) X.A (subscripted slice false (.ref a) u) (fun r s₃ => wpAny (model X.prog X.w) X.A (letTemporaryGo value (.ref a) r >>= fun _ => pure r) (EP X pins σ Q) X.xe s₃) X.xe s := by
    rw [hs]
    exact wpAny_operating (getO hu I sb q hk f g ry fun v w' s' I' rv dv => wpAny_bind (wpAny_letTemporaryGo (wpAny_pure ⟨v, H, I', rv, hq v dv⟩)))
  first
    | exact wpAny_pure (wpAny_bind fin)
    | exact wpAny_bind (wpAny_pure (wpAny_bind fin))
    | exact wpAny_bind fin
theorem op_inD {X : Cx} (hu : X.A.units + 10 < cLine) : OpR X (compareOp .In) (rInD ⟨X.K, X.w⟩ id) := by
  intro pins s σ H x y v u Q I rx ry ⟨a, n, m, l, b, kd, ey, sb, q, hk, f, g, hq⟩
  subst ey
  cases ry
  exact (inO hu I sb q hk f g rx).1 _ fun s' I' => ⟨.bl _, H, I', rfl, hq⟩
theorem op_notInD {X : Cx} (hu : X.A.units + 10 < cLine) : OpR X (compareOp .NotIn) (rInD ⟨X.K, X.w⟩ not) := by
  intro pins s σ H x y v u Q I rx ry ⟨a, n, m, l, b, kd, ey, sb, q, hk, f, g, hq⟩
  subst ey
  cases ry
  exact (inO hu I sb q hk f g rx).2 _ fun s' I' => ⟨.bl _, H, I', rfl, hq⟩
def rLenD (K : KW) : List V → Hp → VK → Prop := fun xs H Q => ∃ a n l b, xs = [.ref a] ∧ Same b H ∧ OwnOk K b H a (.dct n l) ∧ Q (.int l.length) H
theorem cr_lenD {X : Cx} : CallR X (.builtin "len") (rLenD ⟨X.K, X.w⟩) := by
  intro pins s σ H xs us Q I r ⟨a, n, l, b, ex, sb, q, hq⟩
  subst ex
  rw [Vals.ref1 r]
  exact lenO I sb q fun t s' I' => ⟨.int l.length, H, I', ⟨t, rfl⟩, hq⟩

/-! ### mirrors -/
def dIx (l : List (D × D)) (k : D) : R D := if fit (dKind l k) k then (match dGet l k with
  | some v => .ok v
  | none => .no) else .no
/-- x[k], x a dict too -/
def pyIxD (x k : D) : R D := match x with
  | .dict l => dIx l k
  | _ => pyIx x k
theorem pyIxD_o {d e : D} (h : ∀ l, d ≠ .dict l) : pyIxD d e = pyIx d e := by cases d <;> first | rfl | exact (h _ rfl).elim
def rIxX (K : KW) : R2 := fun x y H Q => rIx K x y H Q ∨ rIxD K x y H Q
theorem ok_ixD {K : KW} : OpOk K (rIxX K) pyIxD where
  run := fun b h x y d e Q s rx ry p => by
    cases d with
    | dict l =>
      obtain ⟨a, n, rfl, q⟩ := rx.dct s
      have p' : PoV K b h (dIx l e) Q := p
      clear p
      unfold dIx at p'
      split at p'
      · rename_i f
        cases g : dGet l e with
        | none => rw [g] at p'; exact p'.elim
        | some vd =>
          rw [g] at p'
          have f' : fit n e = true := by
            cases l with
            | nil => cases g
            | cons p0 l => rw [own_kind q] at f; exact f
          exact .inr ⟨a, n, _, b, e, vd, rfl, s, q, ry.dp s, f', g, fun v dv => p' b h v (Ext.refl s) dv⟩
      · exact p'.elim
    | _ => exact .inl (ok_ix.run b h x y _ e Q s rx ry p)
  nex := fun d e c as z => by
    by_cases hd : ∃ l, d = .dict l
    · obtain ⟨l, rfl⟩ := hd
      have z : dIx l e = .ex c as := z
      unfold dIx at z
      split at z
      · cases g : dGet l e <;> rw [g] at z <;> cases z
      · cases z
    · rw [pyIxD_o fun l e => hd ⟨l, e⟩] at z
      exact (ok_ix (K := K)).nex d e c as z
def dIn (l : List (D × D)) (k : D) : R Bool := if fit (dKind l k) k then .ok (dHas l k) else .no
def pyInD (x c : D) : R Bool := match c with
  | .dict l => dIn l x
  | _ => pyIn x c
def pyNotInD (x c : D) : R Bool := match c with
  | .dict l => (dIn l x).bnd fun k => .ok (!k)
  | _ => pyNotIn x c
theorem pyInD_o {d e : D} (h : ∀ l, e ≠ .dict l) : pyInD d e = pyIn d e := by cases e <;> first | rfl | exact (h _ rfl).elim
theorem pyNotInD_o {d e : D} (h : ∀ l, e ≠ .dict l) : pyNotInD d e = pyNotIn d e := by cases e <;> first | rfl | exact (h _ rfl).elim
theorem dIn_run {K : KW} {g : Bool → Bool} {b h : Hp} {x y : V} {d : D} {l : List (D × D)} {Q : VK} (s : Same b h) (rx : Bp K b h x d) (ry : Bp K b h y (.dict l)) (f : fit (dKind l d) d = true) (q : Q (.bl (g (dHas l d))) h) : rInD K g x y h Q := by
  obtain ⟨a, n, rfl, ok⟩ := ry.dct s
  refine ⟨a, n, dKind l d, l, b, d, rfl, s, ok, rx.dp s, f, ?_, q⟩
  cases l with
  | nil => exact .inr rfl
  | cons p l => exact .inl (own_kind ok)
theorem dIn_nex (l : List (D × D)) (k : D) (c : Str) (as : List (Str × D)) : dIn l k ≠ .ex c as := fun z => by
  unfold dIn at z
  split at z <;> cases z
theorem ok_inD {K : KW} : CmpOk K (fun x y H Q => rInM K id x y H Q ∨ rInD K id x y H Q) pyInD where
  run := fun b h x y d e Q s rx ry p => by
    cases e with
    | dict l =>
      have p : PoB (dIn l d) Q h := p
      unfold dIn at p
      split at p
      · rename_i f; exact .inr (dIn_run (g := id) s rx ry f p)
      · exact p.elim
    | _ => exact .inl (ok_in.run b h x y d _ Q s rx ry p)
  nex := fun d e c as z => by
    by_cases hd : ∃ l, e = .dict l
    · obtain ⟨l, rfl⟩ := hd
      exact dIn_nex l d c as z
    · rw [pyInD_o fun l e => hd ⟨l, e⟩] at z
      exact (ok_in (K := K)).nex d e c as z
theorem ok_notInD {K : KW} : CmpOk K (fun x y H Q => rInM K not x y H Q ∨ rInD K not x y H Q) pyNotInD where
  run := fun b h x y d e Q s rx ry p => by
    cases e with
    | dict l =>
      have p : PoB ((dIn l d).bnd fun k => .ok (!k)) Q h := p
      unfold dIn at p
      split at p
      · rename_i f; exact .inr (dIn_run (g := not) s rx ry f p)
      · exact p.elim
    | _ => exact .inl (ok_notIn.run b h x y d _ Q s rx ry p)
  nex := fun d e c as z => by
    by_cases hd : ∃ l, e = .dict l
    · obtain ⟨l, rfl⟩ := hd
      have z : (dIn l d).bnd (fun k => .ok (!k)) = .ex c as := z
      cases h : dIn l d with
      | ok k => rw [h] at z; cases z
      | ex c' as' => exact dIn_nex l d c' as' h
      | no => rw [h] at z; cases z
    · rw [pyNotInD_o fun l e => hd ⟨l, e⟩] at z
      exact (ok_notIn (K := K)).nex d e c as z
def pyLenD : D → R D
  | .dict l => .ok (.int l.length)
  | d => pyLen d
section
variable {F : Fx} {e a b : Expr} {pos p2 : Pos} {fa fb : Env → R D}
theorem Fx.u10 (F : Fx) : F.X.A.units + 10 < cLine := by
  have := F.room.un
  omega
theorem ie_ixD (ha : IB F a fa) (hb : IB F b fb) (hs : PlainIx b := by exact fun _ _ => rfl) : IE F (.Subscript a b pos) (eBin pyIxD fa fb) :=
  PE.imp (pe_ix (ix_seq.or (ix_dict F.u10)) ha hb hs) fun _ _ _ h => op_run (F := F) (r := rIxX F.kw) ok_ixD h
theorem pyLenD_o {d : D} (h : ∀ l, d ≠ .dict l) : pyLenD d = pyLen d := by cases d <;> first | rfl | exact (h _ rfl).elim
theorem lenD_nex (d : D) (c : Str) (as : List (Str × D)) : pyLenD d ≠ .ex c as := fun z => by
  by_cases hd : ∃ l, d = .dict l
  · obtain ⟨l, rfl⟩ := hd
    cases z
  · rw [pyLenD_o fun l e => hd ⟨l, e⟩] at z
    exact len_nex d c as z
theorem ie_lenD {p : Pos} (hm : F.X.mg "len" = none) (ha : IB F a fa) (hg : Gl F.X "len" := by rfl) (hs : starEach [a] F.X.env = (false, eval a F.X.env) :: starEach [] F.X.env := by rfl) (hpl : (backTo pos (starEach [] F.X.env)).any (·.1) = false := by rfl) :
    IE F (.Call (.Name "len" p) [a] [] pos) (eUn pyLenD fa) :=
  PE.imp (pe_callB (call_len.or cr_lenD) hg hm PySem.boot_len (pa_oneB ha hs) (by decide) (by decide) hs hpl) fun σ H Q ⟨b, env, G, p⟩ => ⟨b, env, G, Po.bnd p fun d _ b1 h1 x1 p1 v r => by
    have p2 := p1.v (lenD_nex d)
    cases d with
    | dict l =>
      obtain ⟨a, n, rfl, q⟩ := r.dct x1.bh
      exact .inr ⟨a, n, l, b1, rfl, x1.bh, q, p2 b1 h1 _ (Ext.refl x1.bh) (.int _)⟩
    | _ => exact .inl (len_run x1.bh r p2)⟩
/-! ### any, all of a list -/
def toBls : List D → Option (List Bool)
  | [] => some []
  | .bool c :: r => (toBls r).map (c :: ·)
  | _ => none
def anyF (q : List Bool → Bool) : D → R D
  | .list l => match toBls l with
    | some bs => .ok (.bool (q bs))
    | none => .no
  | _ => .no
theorem toBls_ok {K : KW} {b : Hp} : ∀ {l : List D} {vs : List V} {bs : List Bool}, toBls l = some bs → DpAll K b vs l → vs = bs.map V.bl
  | [], _, _, e, h => by cases e; cases h; rfl
  | d :: l, _, _, e, h => by
    cases h with
    | cons h1 h2 =>
      cases d with
      | bool c =>
        obtain ⟨bs, e1, rfl⟩ := Option.map_eq_some_iff.mp (show (toBls l).map (c :: ·) = some _ from e)
        cases h1
        rw [toBls_ok e1 h2]
        rfl
      | _ => cases e
def eAnyL (fa : Env → R D) : Env → R D := fun env => (fa env).bnd (anyF fun bs => bs.any id)
def eAllL (fa : Env → R D) : Env → R D := fun env => (fa env).bnd (anyF fun bs => bs.all id)
theorem ie_anyL {p : Pos} (hm : F.X.mg "any" = none) (ha : IB F a fa) (hg : Gl F.X "any" := by rfl) (hs : starEach [a] F.X.env = (false, eval a F.X.env) :: starEach [] F.X.env := by rfl) (hpl : (backTo pos (starEach [] F.X.env)).any (·.1) = false := by rfl) (hsu : F.sui = false := by rfl) :
    IE F (.Call (.Name "any" p) [a] [] pos) (eAnyL fa) :=
  PE.imp (pe_callB (cr_any (F.calm hsu)) hg hm rfl (pa_oneB ha hs) (by decide) (by decide) hs hpl) fun σ H Q ⟨b, env, G, p⟩ => ⟨b, env, G, Po.bnd p fun d _ b1 h1 x1 p1 v r => by
    unfold anyF at p1
    split at p1
    · split at p1
      · rename_i l bs e
        obtain ⟨a, vs, rfl, hs, rs⟩ := r.lst x1.bh
        refine ⟨a, bs, rfl, ?_, p1 b1 h1 (Ext.refl x1.bh) _ (.bl _)⟩
        rw [← toBls_ok e rs]
        exact hs
      · exact p1.elim
    · exact p1.elim⟩
theorem ie_allL {p : Pos} (hm : F.X.mg "all" = none) (ha : IB F a fa) (hg : Gl F.X "all" := by rfl) (hs : starEach [a] F.X.env = (false, eval a F.X.env) :: starEach [] F.X.env := by rfl) (hpl : (backTo pos (starEach [] F.X.env)).any (·.1) = false := by rfl) (hsu : F.sui = false := by rfl) :
    IE F (.Call (.Name "all" p) [a] [] pos) (eAllL fa) :=
  PE.imp (pe_callB (cr_all (F.calm hsu)) hg hm rfl (pa_oneB ha hs) (by decide) (by decide) hs hpl) fun σ H Q ⟨b, env, G, p⟩ => ⟨b, env, G, Po.bnd p fun d _ b1 h1 x1 p1 v r => by
    unfold anyF at p1
    split at p1
    · split at p1
      · rename_i l bs e
        obtain ⟨a, vs, rfl, hs, rs⟩ := r.lst x1.bh
        refine ⟨a, bs, rfl, ?_, p1 b1 h1 (Ext.refl x1.bh) _ (.bl _)⟩
        rw [← toBls_ok e rs]
        exact hs
      · exact p1.elim
    · exact p1.elim⟩
end
end FP
/-! FQ F: {}, {k: v, ..}, d[k] = v. -/
namespace FP
open PySem L2 PySem.Spec PyProof.Rows

section
variable {F : Fx} {pos : Pos}
/-! ### {} -/
def eDnew (n : Bool) : Env → R Own := fun _ => .ok (.dct n [])
def tDNewN : TE := fun _ H Q => ∀ p, H p = none → Q (.ref p) (upd H p (dNH p []))
theorem pe_dnewN {X : Cx} : PE X (.Dict [] [] pos) tDNewN := ⟨fun pins s σ H Q I h =>
  wpAny_Dict_empty ⟨.ref s.heap.objs.size, _, I.laid (a := s.heap.objs.size) (o := dNH s.heap.objs.size []) (t' := s.toks) (fun _ _ q => Heap.get?_push_of_some _ q) (Nat.le_refl _)
    (dcn_obj (b := fun _ => none) (K := X.K) (w := X.w) (l := []) .nil (Nat.zero_le _) (beq_eq_false_iff_ne.mpr (Ne.symm (Nat.ne_of_lt I.big))) (Heap.DictOfH.new s.heap)).1, rfl, h _ (I.hok.fresh (Nat.le_refl _))⟩⟩
theorem if_dnew (n : Bool) : IF F (.Dict [] [] pos) (eDnew n) := by
  cases n with
  | false => exact PE.imp pe_dnewK fun σ H Q ⟨b, env, G, p⟩ q hq => p b H (Ext.refl G.bh) q _ hq (fun _ z => by cases z) ⟨[], upd_same, .nil⟩
  | true => exact PE.imp pe_dnewN fun σ H Q ⟨b, env, G, p⟩ q hq => p b H (Ext.refl G.bh) q _ hq (fun _ z => by cases z) ⟨[], upd_same, .nil, rfl, (fun _ h => nomatch h), List.nodup_nil⟩

/-! ### {k: v, ..} -/
def evPs : List ((Env → R D) × (Env → R D)) → Env → R (List (D × D))
  | [], _ => .ok []
  | (fk, fv) :: r, env => (fk env).bnd fun k => (fv env).bnd fun v => (evPs r env).bnd fun ps => .ok ((k, v) :: ps)
abbrev trF (F : Fx) (fps : List ((Env → R D) × (Env → R D))) : List (TE × TE) := fps.map fun p => (tI F p.1, tI F p.2)
abbrev IPs (F : Fx) (pos : Pos) (ks : List (Option Expr)) (vs : List Expr) (fps : List ((Env → R D) × (Env → R D))) : Prop := PPs F.X pos ks vs (trF F fps)
theorem ips_nil : IPs F pos [] [] [] := pps_nil
theorem ips_cons {k v : Expr} {ks : List (Option Expr)} {vs : List Expr} {fk fv : Env → R D} {fps : List ((Env → R D) × (Env → R D))} (hk : IE F k fk) (hv : IE F v fv) (hr : IPs F pos ks vs fps) : IPs F pos (some k :: ks) (v :: vs) ((fk, fv) :: fps) := pps_cons hk hv hr
theorem pairs_run {σ : L2.St} : ∀ {fps : List ((Env → R D) × (Env → R D))} {b h : Hp} {env : Env} {P : List (V × V) → Hp → Prop}, F.G b h σ env → (Po F b h σ (evPs fps env) fun ps b' h' => ∀ vps, vps.length = fps.length → DpPs F.kw b' vps ps → P vps h') → tPairs (trF F fps) σ h P
  | [], b, h, env, P, G, p => p b h (Ext.refl G.bh) [] rfl .nil
  | (fk, fv) :: r, b, h, env, P, G, p => by
    refine ⟨b, env, G, Po.bnd p fun k _ b1 h1 x1 p1 vk rk => ⟨b1, env, G.grow x1, Po.bnd p1 fun v _ b2 h2 x2 p2 vv rv => ?_⟩⟩
    refine pairs_run (fps := r) ((G.grow x1).grow x2) (Po.bnd p2 fun ps _ b3 h3 x3 p3 vps hl rp => ?_)
    exact p3 b3 h3 (Ext.refl x3.bh) _ (by rw [List.length_cons, List.length_cons, hl]) (.cons (dp_mono ((x2.trans x3).bb x1.bh) rk) (dp_mono (x3.bb x2.bh) rv) rp)
def mergeD : List (D × D) → List (D × D) → List (D × D)
  | acc, [] => acc
  | acc, p :: r => mergeD (dPut acc p.1 p.2) r
theorem leaf_merge {K : KW} {b : Hp} : ∀ {kvs acc : List (Key × V)} {ps l : List (D × D)}, DpPs K b (kvs.map fun p => (kV p.1, p.2)) ps → DpPs K b (acc.map fun p => (kV p.1, p.2)) l → DpPs K b ((mergeK acc kvs).map fun p => (kV p.1, p.2)) (mergeD l ps)
  | [], _, _, _, h, h2 => by cases h; exact h2
  | p :: kvs, acc, [], l, h, h2 => nomatch h
  | p :: kvs, acc, q :: ps, l, h, h2 => by
    rw [List.map_cons] at h
    cases h with
    | cons h3 h4 hr => exact leaf_merge (kvs := kvs) (ps := ps) hr (leaf_put h3 h4 h2)
theorem leaf_pairs {K : KW} {b : Hp} : ∀ {vps : List (V × V)} {ps : List (D × D)}, DpPs K b vps ps → (ps.all fun p => fit false p.1) = true → ∃ kvs : List (Key × V), vps = kvs.map fun p => (kV p.1, p.2)
  | _, _, .nil, _ => ⟨[], rfl⟩
  | _, _, .cons (p := p) (ps := ps) h1 h2 hr, f => by
    rw [List.all_cons, Bool.and_eq_true] at f
    obtain ⟨kvs, rfl⟩ := leaf_pairs hr f.2
    obtain ⟨k, e⟩ := fit_leaf h1 f.1
    exact ⟨(k, p.2) :: kvs, by rw [List.map_cons, ← e]⟩
/-- the new thing at p is forgotten -/
def hwo (h : Hp) (p : Addr) : Hp := fun c => if c = p then none else h c
theorem hwo_upd {h : Hp} {p : Addr} {u : HO} : upd (hwo h p) p u = upd h p u := by
  funext c
  unfold upd hwo
  by_cases e : c = p
  · rw [if_pos e, if_pos e]
  · rw [if_neg e, if_neg e, if_neg e]
theorem Ext.wo {b h b' h' : Hp} {p : Addr} (x : Ext b h b' h') (hp : h p = none) (hb : b' p = none) : Ext b h b' (hwo h' p) := by
  have ne : ∀ {c : Addr} {o : HO}, h c = some o → hwo h' p c = h' c := fun {c o} e => if_neg (fun z => by subst z; rw [hp] at e; cases e)
  refine ⟨⟨fun c o e n => by rw [ne e]; exact x.up.st c o e n, fun c ps e => by rw [ne e]; exact x.up.tb c ps e⟩, fun c o e => ?_, x.fz⟩
  have : hwo h' p c = h' c := if_neg (fun z => by subst z; rw [hb] at e; cases e)
  rw [this]; exact x.bh c o e
def eDisp (fps : List ((Env → R D) × (Env → R D))) : Env → R Own := fun env => (evPs fps env).bnd fun ps => if ps.all fun p => fit false p.1 then .ok (.dct false (mergeD [] ps)) else .no
theorem if_disp {keys : List (Option Expr)} {values : List Expr} {fps : List ((Env → R D) × (Env → R D))} (h : IPs F pos keys values fps) (hall : keys.all (·.isSome) = true := by rfl) (hl : keys.length = values.length := by rfl) (h0 : keys ≠ [] := by intro z; cases z)
    (h15 : keys.length ≤ 15 := by decide) (hf : fps.length ≤ 15 := by decide) : IF F (.Dict keys values pos) (eDisp fps) :=
  PE.imp (pe_disp h hall hl h0 h15) fun σ H Q ⟨b, env, G, p⟩ q hq => by
    have x0 : Ext b H b (upd H q (.dK [])) := Ext.newH G.bh hq
    unfold eDisp at p
    cases hev : evPs fps env with
    | no => rw [hev] at p; exact p.elim
    | ex c as =>
      rw [hev] at p
      refine pairs_run (G.grow x0) ?_
      rw [hev]
      exact fun b' h' dd C fs x => p b' h' dd C fs (x0.trans x)
    | ok ps =>
      rw [hev] at p
      refine pairs_run (G.grow x0) ?_
      rw [hev]
      intro b1 h1 x1 vps hlen rp
      have e1 : h1 q = some (.dK []) := x1.up.st q _ upd_same (fun _ z => by cases z)
      have nb : b1 q = none := by
        rw [x1.fz q _ upd_same]
        exact none_sub G.bh hq
      refine ⟨e1, ?_⟩
      have p' : Po F b H σ (if ps.all fun p => fit false p.1 then R.ok (Own.dct false (mergeD [] ps)) else .no) fun o b' h' => ∀ p u, h' p = none → (∀ ps, u ≠ .tbl ps) → OwnOk F.kw b' (upd h' p u) p o → Q (.ref p) (upd h' p u) := p
      clear p
      split at p'
      · rename_i f
        obtain ⟨kvs, rfl⟩ := leaf_pairs rp f
        rw [List.length_map] at hlen
        refine ⟨kvs, rfl, by omega, ?_⟩
        have := p' b1 (hwo h1 q) ((x0.trans x1).wo hq nb) q (.dK (mergeK [] kvs)) (if_pos rfl) (fun _ z => by cases z)
        rw [hwo_upd] at this
        exact this ⟨_, upd_same, leaf_merge rp .nil⟩
      · exact p'.elim

/-! ### d[k] = v -/
/-- d, one's own dict, gets v at k -/
def sDPt (i : Nat) (fk fv : Env → R D) : Env → SR := fun env => match env[i]? with
  | some (.ow (.dct n l)) => (fv env).s env fun v => (fk env).s env fun k => if fit n k && Nat.ble l.length 1000000 then .nx (env.set i (.ow (.dct n (dPut l k v)))) else .no
  | _ => .no
theorem dRep_len (k v : D) : ∀ l : List (D × D), (dRep k v l).length = l.length
  | [] => rfl
  | p :: l => by rw [dRep, List.length_cons, List.length_cons, dRep_len k v l]
theorem dPut_len (k v : D) (l : List (D × D)) : (dPut l k v).length ≤ l.length + 1 := by
  unfold dPut
  split
  · rw [dRep_len]; omega
  · simp
/-- the value at a store -/
theorem setO {X : Cx} {pins : List (Addr × Obj)} {σ : L2.St} {H b : Hp} {s : Shared} {a : Addr} {n : Bool} {l : List (D × D)} {y v : V} {u r : Value} {kd vd : D} {A : Around} {E : Value → Shared → Prop} {Q : Unit → Shared → Prop} (hu : A.units + 10 < cLine) (I : L2.Inv X pins σ H s) (sb : Same b H)
    (q : OwnOk ⟨X.K, X.w⟩ b H a (.dct n l)) (hk : Dp ⟨X.K, X.w⟩ b y kd) (hv : Dp ⟨X.K, X.w⟩ b v vd) (f : fit n kd = true) (hl : l.length ≤ 1000000) (ry : RelV y u) (rv : RelV v r)
    (h : ∀ ob s', L2.Inv X pins σ (upd H a ob) s' → (∀ ps, H a ≠ some (.tbl ps)) → OwnOk ⟨X.K, X.w⟩ b (upd H a ob) a (.dct n (dPut l kd vd)) → Q () s') : wpAny (model X.prog X.w) A (setItem (.ref a) u r) Q E s := by
  have hsz : l.length < sizeLine := by rw [sizeLine_eq]; omega
  cases n with
  | false =>
    obtain ⟨ks, e, rs⟩ := q
    have hlen : ks.length = l.length := by have := dpPs_len rs; rwa [List.length_map] at this
    obtain ⟨k, rfl⟩ := fit_leaf hk f
    exact d_setItem (by omega) I (.inl ⟨ks, k, e, rfl, by omega, rfl⟩) ry rv fun s' I' => h _ s' I' (fun ps z => by rw [e] at z; cases z) ⟨_, upd_same, leaf_put hk hv rs⟩
  | true =>
    obtain ⟨xs, e, rs, ko⟩ := q
    obtain ⟨ys, nr, dd, z, hd⟩ := dcn_at I sb e rs ko
    have ht := fit_tup f
    obtain ⟨ds, rfl⟩ := tupKey_tup ht
    cases hk with
    | @tup c zs _ hs hr =>
      cases ry
      refine wpAny_setItem_heap (by show A.units + 1 + 8 < cLine; omega) (tup_is I sb ht (.tup hs hr)) dd (fun h' dd' hs' => ?_) (by rw [nr.len.1]; omega)
      have put : ∃ xs', NRel ⟨X.K, X.w⟩ b (storedH ys (keyN (.tuple ds)) c r) xs' (dPut l (.tuple ds) vd) := by
        unfold storedH dPut
        rw [nr.isSome ht]
        by_cases cc : dHas l (.tuple ds) = true
        · rw [if_pos cc, if_pos cc]; exact ⟨_, nr.rep ht hv rv⟩
        · rw [if_neg cc, if_neg cc]; exact ⟨_, nr.snoc ht (.tup hs hr) hv rv⟩
      obtain ⟨xs', nr'⟩ := put
      have hl' := dPut_len (.tuple ds) vd l
      obtain ⟨ob, ko'⟩ := dcn_obj (P := X.prog) (H' := upd H a (dNH a xs')) nr' (by omega) hd dd'
      have he : ∃ q, h'.get? a = some q := let ⟨q, _, _, hq, _⟩ := dd'; ⟨q, hq⟩
      exact h (dNH a xs') _ (d_write I (by rw [e]; exact True.intro) hs' he ob) (fun ps z => by rw [e] at z; cases z) ⟨xs', upd_same, nr'.dp, ko'⟩
def tSet (K : KW) (tv td ty : TE) : TS := fun D σ H => tv σ H fun v H1 => td σ H1 fun x H2 => ty σ H2 fun y H3 => ∃ a n l b kd vd, x = .ref a ∧ Same b H3 ∧ OwnOk K b H3 a (.dct n l) ∧ Dp K b y kd ∧ Dp K b v vd ∧ fit n kd = true ∧ l.length ≤ 1000000 ∧
  ∀ ob, (∀ ps, H3 a ≠ some (.tbl ps)) → OwnOk K b (upd H3 a ob) a (.dct n (dPut l kd vd)) → D.nx σ (upd H3 a ob)
theorem ps_dputO {X : Cx} {o i value : Expr} {pos' : Pos} {tv td ty : TE} (hu : X.A.units + 10 < cLine) (ho : PE X o td) (hi : PE X i ty) (hv : PE X value tv) (hs : swapsWith value (some (.Subscript o i pos')) pos.line X.env = pure false) :
    PS X (.Assign [.Subscript o i pos'] value pos) (tSet ⟨X.K, X.w⟩ tv td ty) := by
  refine ⟨fun pins s σ H D I h => ?_⟩
  refine wpAny_Assign_Subscript (thn (hv.run pins s σ H _ I h) fun r s1 ⟨v, H1, I1, rv, q1⟩ => thn (ho.run pins s1 σ H1 _ I1 q1) fun u s2 ⟨x, H2, I2, rx, q2⟩ => thn (hi.run pins s2 σ H2 _ I2 q2) fun iv s3 ⟨y, H3, I3, ry, a, n, l, b, kd, vd, ex, sb, q, hk, hvd, f, hl, fin⟩ => ?_) hs
  subst ex
  obtain rfl : u = Value.ref a := rx
  exact setO hu I3 sb q hk hvd f hl ry rv fun ob s' I' nt ok => ⟨σ, _, I', fin ob nt ok⟩
theorem is_dput (i : Nat) {x : Str} {k v : Expr} {fk fv : Env → R D} {p1 p2 : Pos} (hk : IE F k fk) (hv : IE F v fv) (hi : F.X.N[i]? = some x := by rfl) (hvs : Vis F.X.env.scope x := by first | exact Or.inl rfl | exact Or.inr (Or.inl rfl) | exact Or.inr (Or.inr rfl)) (hd : (x == ("__debug__" : Str)) = false := by decide)
    (hcd : (x == ("__classdict__" : Str)) = false := by decide) (hs : swapsWith v (some (.Subscript (.Name x p1) k p2)) pos.line F.X.env = pure false := by rfl) : IS F (.Assign [.Subscript (.Name x p1) k p2] v pos) (sDPt i fk fv) :=
  PS.imp (ps_dputO F.u10 (pe_var hi hvs hd hcd) hk hv hs) fun Dn σ H ⟨b, env, G, p⟩ => by
    unfold sDPt at p
    split at p
    · rename_i n l e
      obtain ⟨a, ea, ok, nb, m⟩ := G.own e
      refine ⟨b, env, G, PoS.bnd G p fun vd _ b1 h1 x1 G1 p1 w rw => ⟨_, ea, b1, env, G1, PoS.bnd G1 p1 fun kd _ b2 h2 x2 G2 p2 y ry => ?_⟩⟩
      have ok2 := (ok.up (x1.bb G.bh) x1.up).up (x2.bb x1.bh) x2.up
      split at p2
      · rename_i hf
        rw [Bool.and_eq_true] at hf
        refine ⟨a, n, l, b2, kd, vd, rfl, x2.bh, ok2, ry, dp_mono (x2.bb x1.bh) rw, hf.1, Nat.le_of_ble_eq_true hf.2, fun ob nt ok3 => ?_⟩
        exact p2 b2 _ _ (Same.refl _) (Good.mut G2 e ea ok3 nt)
      · exact p2.elim
    · exact p.elim
end
end FP
/-! FQ G: max, min of two; a dict of the module that holds defs. -/
namespace FP
open PySem L2 PySem.Spec PyProof.Rows
section
variable {F : Fx} {a b e : Expr} {es : List Expr} {pos p p1 : Pos} {fa fb fk : Env → R D} {fr : Env → R (List D)}
def maxF : List D → R D
  | [.int i, .int j] => .ok (.int (if i < j then j else i))
  | _ => .no
def minF : List D → R D
  | [.int i, .int j] => .ok (.int (if j < i then j else i))
  | _ => .no
def eMx (q : List D → R D) (fr : Env → R (List D)) : Env → R D := fun env => (fr env).bnd q
theorem two_ints {K : KW} {b : Hp} {vs : List V} {i j : Int} (h : DpAll K b vs [.int i, .int j]) : vs = [.int i, .int j] := by
  cases h with
  | cons h1 h2 =>
    cases h2 with
    | cons h3 h4 => cases h1; cases h3; cases h4; rfl
theorem ie_max (hm : F.X.mg "max" = none) (ha : IA F 2 [a, b] fr) (hg : Gl F.X "max" := by rfl) (hs : starEach [a, b] F.X.env = (false, eval a F.X.env) :: starEach [b] F.X.env := by rfl) (hpl : (backTo pos (starEach [b] F.X.env)).any (·.1) = false := by rfl) (hsu : F.sui = false := by rfl) :
    IE F (.Call (.Name "max" p) [a, b] [] pos) (eMx maxF fr) :=
  PE.imp (pe_callB (call_max2 (F.calm hsu)) hg hm rfl ha (by decide) (by decide) hs hpl) fun σ H Q ⟨b, env, G, p⟩ => ⟨b, env, G, Po.bnd p fun ds _ b1 h1 x1 p1 vs hl rs => by
    unfold maxF at p1
    split at p1
    · rename_i i j _
      exact ⟨i, j, two_ints rs, p1 b1 h1 (Ext.refl x1.bh) _ (.int _)⟩
    · exact p1.elim⟩
theorem ie_min (hm : F.X.mg "min" = none) (ha : IA F 2 [a, b] fr) (hg : Gl F.X "min" := by rfl) (hs : starEach [a, b] F.X.env = (false, eval a F.X.env) :: starEach [b] F.X.env := by rfl) (hpl : (backTo pos (starEach [b] F.X.env)).any (·.1) = false := by rfl) (hsu : F.sui = false := by rfl) :
    IE F (.Call (.Name "min" p) [a, b] [] pos) (eMx minF fr) :=
  PE.imp (pe_callB (call_min2 (F.calm hsu)) hg hm rfl ha (by decide) (by decide) hs hpl) fun σ H Q ⟨b, env, G, p⟩ => ⟨b, env, G, Po.bnd p fun ds _ b1 h1 x1 p1 vs hl rs => by
    unfold minF at p1
    split at p1
    · rename_i i j _
      exact ⟨i, j, two_ints rs, p1 b1 h1 (Ext.refl x1.bh) _ (.int _)⟩
    · exact p1.elim⟩
/-! ### a dict of defs -/
/-- the module's dict x: its keys, the defs at them -/
structure DisG (K : PySem.W.Frag) (w : World) (mg : Str → Option Value) (x : Str) (fs : List (Str × Str)) : Prop where
  at_ : ∃ d es n, mg x = some (.ref d) ∧ KDict K w d es n ∧ ∀ z : Str, PySem.W.nsIn K d z = some ((fs.lookup z).bind mg)
  fn : ∀ q ∈ fs, ∃ f, mg q.2 = some (.ref f)
theorem lookup_some {α : Type} {z : Str} {f : α} : ∀ {fs : List (Str × α)}, fs.lookup z = some f → (z, f) ∈ fs
  | [], h => by cases h
  | (y, g) :: r, h => by
    rw [List.lookup_cons] at h
    cases q : (z == y) with
    | true => rw [q] at h; cases h; rw [beq_iff_eq.mp q]; exact List.mem_cons_self
    | false => rw [q] at h; exact List.mem_cons_of_mem _ (lookup_some h)
/-- k in x -/
def eInK (ks : List (Str × Str)) (fk : Env → R D) : Env → R Bool := fun env => (fk env).bnd fun k => match k with
  | .str z => .ok (ks.any fun q => seq q.1 z)
  | _ => .no
theorem any_lookup {z : Str} : ∀ ks : List (Str × Str), (ks.any fun q => seq q.1 z) = (ks.lookup z).isSome
  | [] => rfl
  | (y, g) :: r => by
    rw [List.any_cons, List.lookup_cons, seq_eq, any_lookup r]
    by_cases e : y = z
    · subst e; simp
    · rw [beq_eq_false_iff_ne.mpr e, beq_eq_false_iff_ne.mpr (fun q => e q.symm)]; rfl
theorem kd_glob {x : Str} {d : Addr} (hm : F.X.mg x = some (.ref d)) (hg : Gl F.X x := by rfl) (hdb : (x == ("__debug__" : Str)) = false := by decide) : PE F.X (.Name x p) (tC (.ref d)) := pe_glob (v := V.ref d) hg hm rfl hdb
theorem it_inK {x : Str} {fs : List (Str × Str)} (D : DisG F.X.K F.X.w F.X.mg x fs) (hk : IE F e fk) (hg : Gl F.X x := by rfl) (hdb : (x == ("__debug__" : Str)) = false := by decide) (hb : behindInMarks .In (.Name x p) = false := by rfl) :
    IT F (.Compare e [.In] [.Name x p] pos) (eInK fs fk) := by
  obtain ⟨d, es, n, hm, kd, hz⟩ := D.at_
  refine PT.imp (pt_cmpR (op_in_kd kd) hk (kd_glob (p := p) hm hg hdb) hb) fun σ H Q ⟨b, env, G, p⟩ => ⟨b, env, G, Po.bnd p fun k _ b1 h1 x1 p1 v r => ?_⟩
  cases k with
  | str z =>
    cases r
    refine ⟨z, _, rfl, rfl, hz z, ?_⟩
    have p2 := p1 b1 h1 (Ext.refl x1.bh)
    rw [any_lookup] at p2
    have e : ((fs.lookup z).bind F.X.mg).isSome = (fs.lookup z).isSome := by
      cases q : fs.lookup z with
      | none => rfl
      | some f =>
        obtain ⟨g, hgf⟩ := D.fn _ (lookup_some q)
        show (F.X.mg f).isSome = true
        rw [hgf]; rfl
    rw [e]
    exact ⟨_, rfl, p2⟩
  | _ => exact p1.elim
/-- the defs of the dict, each with what it computes -/
inductive DTab (F : Fx) (n k : Nat) : List (Str × Str) → List (Str × (List D → R D)) → Prop where
  | nil : DTab F n k [] []
  | cons {z f : Str} {m : List D → R D} {j : Nat} {fs : List (Str × Str)} {ms : List (Str × (List D → R D))} (h : FnF F f j n m) (hj : j ≤ k) (r : DTab F n k fs ms) : DTab F n k ((z, f) :: fs) ((z, m) :: ms)
def lookS (z : Str) : List (Str × (List D → R D)) → Option (List D → R D)
  | [] => none
  | (y, m) :: r => if seq y z then some m else lookS z r
theorem DTab.get {n k : Nat} {z : Str} : ∀ {fs : List (Str × Str)} {ms : List (Str × (List D → R D))} {m : List D → R D}, DTab F n k fs ms → lookS z ms = some m → ∃ f j, fs.lookup z = some f ∧ FnF F f j n m ∧ j ≤ k
  | _, _, _, .nil, e => by cases e
  | _, _, m, .cons (z := y) (f := f) (j := j) h hj r, e => by
    unfold lookS at e
    rw [List.lookup_cons]
    by_cases c : y = z
    · subst c
      rw [seq_eq, beq_self_eq_true, if_pos rfl] at e
      cases e
      exact ⟨f, j, by simp, h, hj⟩
    · rw [seq_eq, beq_eq_false_iff_ne.mpr c, if_neg (by decide)] at e
      rw [beq_eq_false_iff_ne.mpr (fun q => c q.symm)]
      exact r.get e
def eCallK (ms : List (Str × (List D → R D))) (fk : Env → R D) (fr : Env → R (List D)) : Env → R D := fun env => (fk env).bnd fun k => match k with
  | .str z => (match lookS z ms with
    | some m => (fr env).bnd m
    | none => .no)
  | _ => .no
theorem ix_kd {X : Cx} {d : Addr} {es : Array DictEntry} {n : Nat} (D : KDict X.K X.w d es n) : IxR X (fun x y H Q => ∃ (z : Str) (u0 : Value) (v0 : V), x = .ref d ∧ y = .str z ∧ PySem.W.nsIn X.K d z = some (some u0) ∧ RelV v0 u0 ∧ Q v0 H) := by
  intro value slice pins s σ H x y v u Q I rx ry h hs
  obtain ⟨z, u0, v0, rfl, rfl, e, r, q⟩ := h
  obtain rfl : v = Value.ref d := rx
  have hT := kd_type D I
  unfold subscriptTail
  refine wpAny_bind ?_
  rw [getitemInPython_of_ne hT.not_modules]
  refine wpAny_bind (wpAny_specialOf hT PySem.F.slot_dict_getitem.lookup ?_)
  have fin : wpAny (model X.prog X.w) X.A (subscripted slice false (.ref d) u) (fun r s₃ => wpAny (model X.prog X.w) X.A (letTemporaryGo value (.ref d) r >>= fun _ => pure r) (EP X pins σ Q) X.xe s₃) X.xe s := by
    rw [hs]
    refine wpAny_operating (wpAny_mono (op_item_kd D pins s σ H (.ref d) (.str z) (.ref d) u (fun v h => v = v0 ∧ Q v0 h) I rfl ry ⟨z, u0, v0, rfl, rfl, e, r, rfl, q⟩) (fun r' s' h' => ?_) fun _ _ e => e)
    obtain ⟨v', H', I', rv', rfl, hq⟩ := h'
    exact wpAny_bind (wpAny_letTemporaryGo (wpAny_pure ⟨_, H', I', rv', hq⟩))
  first
    | exact wpAny_pure (wpAny_bind fin)
    | exact wpAny_bind (wpAny_pure (wpAny_bind fin))
    | exact wpAny_bind fin
/-- x[k](..) -/
theorem ie_callK {x : Str} {fs : List (Str × Str)} {ms : List (Str × (List D → R D))} {n k : Nat} {e0 : Expr} (D : DisG F.X.K F.X.w F.X.mg x fs) (T : DTab F n k fs ms) (hk0 : k ≤ F.k) (hk : IE F e0 fk) (ha : IA F n (e :: es) fr) (hg : Gl F.X x := by rfl) (hdb : (x == ("__debug__" : Str)) = false := by decide) (hix : PlainIx e0 := by exact fun _ _ => rfl)
    (he : starEach (e :: es) F.X.env = (false, eval e F.X.env) :: starEach es F.X.env := by rfl) (hpl : (backTo pos (starEach es F.X.env)).any (·.1) = false := by rfl)
    (ht : eval (.Call (.Subscript (.Name x p) e0 p1) (e :: es) [] pos) F.X.env = (do callWith pos (← eval (.Subscript (.Name x p) e0 p1) F.X.env) [] (backTo pos (starEach (e :: es) F.X.env)) (backToKw pos (keywordEach [] F.X.env))) := by rfl) (hsu : F.sui = false := by rfl) :
    IE F (.Call (.Subscript (.Name x p) e0 p1) (e :: es) [] pos) (eCallK ms fk fr) := by
  obtain ⟨d, es', n', hm, kd, hz⟩ := D.at_
  have hf : PE F.X (.Subscript (.Name x p) e0 p1) (tOp (fun x y H Q => ∃ (z : Str) (u0 : Value) (v0 : V), x = .ref d ∧ y = .str z ∧ PySem.W.nsIn F.X.K d z = some (some u0) ∧ RelV v0 u0 ∧ Q v0 H) (tC (.ref d)) (tI F fk)) := pe_ix (ix_kd kd) (kd_glob hm hg hdb) hk hix
  refine ⟨fun pins s σ H Q I ⟨b, env, G, p⟩ => ?_⟩
  unfold eCallK at p
  refine Call_ ?_ ht
  have step : tOp (fun x y H Q => ∃ (z : Str) (u0 : Value) (v0 : V), x = .ref d ∧ y = .str z ∧ PySem.W.nsIn F.X.K d z = some (some u0) ∧ RelV v0 u0 ∧ Q v0 H) (tC (.ref d)) (tI F fk) σ H fun v H1 => ∃ b1 z m, Ext b H b1 H1 ∧ lookS z ms = some m ∧ (∃ f, (fs.lookup z).bind F.X.mg = some (.ref f) ∧ v = .ref f) ∧
      Po F b1 H1 σ ((fr env).bnd m) fun d b' h' => ∀ v, Dp F.kw b' v d → Q v h' := by
    refine ⟨b, env, G, Po.bnd p fun kd' _ b1 h1 x1 p1 v r => ?_⟩
    cases kd' with
    | str z =>
      cases r
      dsimp only at p1
      cases hl : lookS z ms with
      | none => rw [hl] at p1; exact p1.elim
      | some m =>
        rw [hl] at p1
        obtain ⟨f, j, e1, fn, hj⟩ := T.get hl
        obtain ⟨fa, fd, ps, hmf, _⟩ := fn.at_
        have e2 : (fs.lookup z).bind F.X.mg = some (.ref fa) := by rw [e1]; exact hmf
        refine ⟨z, .ref fa, .ref fa, rfl, rfl, by rw [hz z, e2], rfl, b1, z, m, x1, hl, ⟨fa, e2, rfl⟩, p1⟩
    | _ => exact p1.elim
  refine thn (hf.run pins s σ H _ I step) fun fv s1 ⟨v, H1, I1, rv, b1, z, m, x1, hl, ⟨fa, e2, ev⟩, p1⟩ => ?_
  subst ev
  obtain rfl : fv = Value.ref fa := rv
  obtain ⟨f, j, e1, fn, hj⟩ := T.get hl
  obtain ⟨fa', fd, ps, hmf, kp, bi, ok⟩ := fn.at_
  rw [e1] at e2
  have e3 : F.X.mg f = some (.ref fa) := e2
  rw [hmf] at e3
  cases e3
  have G1 := G.grow x1
  have ok := ok.mono (Nat.le_trans hj hk0)
  refine PySem.W.callWith_K (h₀ := F.X.base) I1.ok.mod.kin kp (thn (ha.run pos pins s1 σ H1 (fun vs H2 => ∃ b2 ds, Ext b1 H1 b2 H2 ∧ vs.length = n ∧ DpAll F.kw b2 vs ds ∧ Po F b2 H2 σ (m ds) fun d b' h' => ∀ v, Dp F.kw b' v d → Q v h') I1 ⟨b1, env, G1, ?_⟩) fun us s2 ⟨vs, H2, I2, r, q⟩ => ⟨I2.kIn, ?_⟩) he hpl
  · exact Po.bnd p1 fun ds _ b2 h2 x2 p2 vs hl rs => ⟨b2, ds, x2, hl, rs, p2⟩
  · obtain ⟨b2, ds, x2, hl2, rs, p2⟩ := q
    refine run_fnS ok (F.roomC hsu) bi (passAt F.tk σ) I2 r ?_
    refine ⟨hl2, b2, ds, (G1.grow x2).pre, x2.bh, rs, ?_⟩
    revert p2
    cases m ds with
    | ok d => exact fun p2 b' h' v x r => p2 b' h' x v r
    | ex c as => exact fun p2 b' h' dd C fs x hc hd ha => p2 b' h' dd C fs x hc hd ha
    | no => exact fun p2 => p2
end
end FP
/-! FQ H: what is looked at for a dict of defs. -/
namespace FP
open PySem L2 PySem.Spec PyProof.Rows
def gA (x : Str) (K : PySem.W.Frag) : Addr := match PySem.W.nsIn K mainGlobals x with
  | some (some (.ref d)) => d
  | _ => 0
def entB (K : PySem.W.Frag) : List DictEntry → List (Str × Str) → Bool
  | [], [] => true
  | e :: es, (k, f) :: fs => (match e.key with
    | .str z _ => seq z k
    | _ => false) && (decide (PySem.W.nsIn K mainGlobals f = some (some e.val)) && ((match e.val with
    | .ref _ => true
    | _ => false) && entB K es fs))
  | _, _ => false
def disB (K : PySem.W.Frag) (x : Str) (fs : List (Str × Str)) : Bool := decide (PySem.W.nsIn K mainGlobals x = some (some (.ref (gA x K)))) && (match K.lookup (gA x K) with
  | some ⟨_, _, .dict es _, _⟩ => entB K es.toList fs
  | _ => false)
section
variable {K : PySem.W.Frag} {h : Heap} {mg : Str → Option Value} {w : World}
theorem ent_find (X : K.In h) (G : h.Ns mainGlobals mg) (z : Str) : ∀ {es : List DictEntry} {fs : List (Str × Str)}, entB K es fs = true → (es.any fun e => e.refKey) = false ∧ (es.find? fun e => e.key.isStr z).map (·.val) = (fs.lookup z).bind mg ∧ ∀ q ∈ fs, ∃ f, mg q.2 = some (.ref f)
  | [], [], _ => ⟨rfl, rfl, fun _ hq => nomatch hq⟩
  | [], _ :: _, c => nomatch c
  | _ :: _, [], c => nomatch c
  | e :: es, (k, f) :: fs, c => by
    unfold entB at c
    obtain ⟨c1, c2⟩ := He.ba c
    obtain ⟨c3, c4⟩ := He.ba c2
    obtain ⟨c5, c6⟩ := He.ba c4
    obtain ⟨i1, i2, i3⟩ := ent_find X G z c6
    obtain ⟨hash, key, val⟩ := e
    dsimp only at c1 c3 c5
    have hm := PySem.W.mg_of X G (of_decide_eq_true c3)
    cases key with
    | str y t =>
      have c1' : seq y k = true := c1
      rw [seq_eq] at c1'
      have hyk := beq_iff_eq.mp c1'
      subst hyk
      cases val with
      | ref v =>
        refine ⟨?_, ?_, fun q hq => ?_⟩
        · rw [List.any_cons, i1]; rfl
        · rw [List.find?_cons, List.lookup_cons]
          by_cases hz : y = z
          · subst hz
            have : (DictEntry.mk hash (.str y t) (.ref v)).key.isStr y = true := by show (y == y) = true; simp
            rw [this, beq_self_eq_true]
            exact hm.symm
          · have : (DictEntry.mk hash (.str y t) (.ref v)).key.isStr z = false := by show (y == z) = false; exact beq_eq_false_iff_ne.mpr hz
            rw [this, beq_eq_false_iff_ne.mpr (fun q => hz q.symm)]
            exact i2
        · rcases List.mem_cons.mp hq with rfl | hq
          · exact ⟨v, hm⟩
          · exact i3 q hq
      | _ => cases c5
    | _ => cases c1
theorem disG_of (X : K.In h) (G : h.Ns mainGlobals mg) {x : Str} {fs : List (Str × Str)} (t : ∃ es n, KDict K w (gA x K) es n) (c : disB K x fs = true) : DisG K w mg x fs := by
  obtain ⟨es, n, kd⟩ := t
  obtain ⟨c1, c2⟩ := He.ba c
  rw [kd.at_] at c2
  dsimp only at c2
  have hm := PySem.W.mg_of X G (of_decide_eq_true c1)
  refine ⟨⟨gA x K, es, n, hm, kd, fun z => ?_⟩, (ent_find X G ("" : Str) c2).2.2⟩
  obtain ⟨i1, i2, _⟩ := ent_find X G z c2
  unfold PySem.W.nsIn
  rw [kd.at_]
  dsimp only
  cases q : es.toList.find? (fun e => e.key.isStr z) with
  | some e => rw [q] at i2; exact congrArg some i2
  | none =>
    rw [q] at i2
    dsimp only
    rw [i1]
    exact congrArg some i2
end
end FP
/-! FQ I: xs.count(y), xs.index(y), xs[a:b:c]. -/
namespace FP
open PySem L2 PySem.Spec PyProof.Rows
/-! ### count, index -/
def rCntD (K : PySem.W.Frag) : V → List V → Hp → VK → Prop := fun x xs H Q => ∃ p vs ds y d, x = .ref p ∧ xs = [y] ∧ SqL K H p vs ∧ L2.DpAll K H vs ds ∧ L2.Dp K H y d ∧ d.depth ≤ 64 ∧ Q (.int (ds.countP (fun z => PyData.eqv z d) : Nat)) H
def rIdxD (K : PySem.W.Frag) : V → List V → Hp → VK → Prop := fun x xs H Q => ∃ p vs ds y d j, x = .ref p ∧ xs = [y] ∧ SqL K H p vs ∧ L2.DpAll K H vs ds ∧ L2.Dp K H y d ∧ d.depth ≤ 64 ∧ ds.findIdx? (fun z => PyData.eqv z d) = some j ∧ Q (.int (j : Nat)) H
section
variable {X : Cx} {pins : List (Addr × Obj)} {σ : L2.St} {H : Hp} {s : Shared}
/-- the items' answers, all at once -/
theorem items_ans (I : L2.Inv X pins σ H s) {y : V} {u : Value} {d : D} {xs : List V} {its : List Value} {ds : List D} (hu : X.A.units + 65 < cLine) (hd : L2.Dp X.K H y d) (hl : d.depth ≤ 64) (ru : RelV y u) (r : Vals xs its) (hr : L2.DpAll X.K H xs ds) :
    (∀ z, z ∈ its.toArray → SeqAt.EqAt X.A.in1 s z u (ansOf its ds d z)) ∧ ∀ {j : Nat} {u : Value} {z : D}, its[j]? = some u → ds[j]? = some z → ansOf its ds d u = PyData.eqv z d := by
  have f : ∀ {j : Nat} {u : Value} {z : D}, its[j]? = some u → ds[j]? = some z → ansOf its ds d u = PyData.eqv z d := ans_items I r hr
  have hlen : its.length = ds.length := by rw [← r.length]; exact dpAll_lenK hr
  refine ⟨fun z hz => ?_, f⟩
  obtain ⟨j, hj, e⟩ := List.getElem_of_mem (show z ∈ its by simpa using hz)
  have e1 : its[j]? = some z := by rw [List.getElem?_eq_getElem hj, e]
  have e2 : ds[j]? = some (ds[j]'(by omega)) := List.getElem?_eq_getElem _
  rw [f e1 e2]
  obtain ⟨xv, f1, q1⟩ := get_vals r e1
  exact (eqAtD I _ _ d X.A.in1 xv y z u (Nat.le_refl _) (dpAll_getK hr e2 f1) hd q1 ru (by show X.A.units + 1 + _ < cLine; omega)).1
theorem count_ans {its : List Value} {ds : List D} {a : Value → Bool} {b : D → Bool} (hl : its.length = ds.length) (f : ∀ {j : Nat} {u : Value} {z : D}, its[j]? = some u → ds[j]? = some z → a u = b z) : its.countP a = ds.countP b := by
  induction its generalizing ds with
  | nil => cases ds with
    | nil => rfl
    | cons _ _ => cases hl
  | cons u us ih =>
    cases ds with
    | nil => cases hl
    | cons z ds =>
      rw [List.countP_cons, List.countP_cons, f (j := 0) rfl rfl, ih (Nat.succ.inj hl) fun {j} {u} {z} e1 e2 => f (j := j + 1) (by simpa using e1) (by simpa using e2)]
theorem mt_countD (hu : X.A.units + 65 < cLine) : MtR X "list.count" (rCntD X.K) := by
  intro pins s σ H x xs v us Q I rx rxs ⟨p, vs, ds, y, d, ex, exs, hs, hr, hd, hl, q⟩
  subst ex exs
  cases rx
  obtain ⟨u, rfl, ru⟩ := rxs.one
  obtain ⟨its, rv, ⟨⟨cls, dd, data, sl⟩, n, ho, hc, hdn, hdt⟩, hlen⟩ := I.list hs
  simp only at hc hdt
  subst hc hdt
  obtain ⟨a1, a2⟩ := items_ans I hu hd hl ru rv hr
  refine call_meets PySem.F.slot_list_count ⟨_, ho, rfl⟩ PySem.F.entry_list_count (PySem.F.args_list_count_2 _ _)
    (SeqAt.list_countAt p its.toArray n dd sl u (ansOf its ds d)) ⟨ho, a1, ?_⟩
  have ec : its.toArray.toList.countP (ansOf its ds d) = ds.countP (fun z => PyData.eqv z d) := count_ans (by rw [← rv.length]; exact dpAll_lenK hr) a2
  refine ⟨.int (ds.countP (fun z => PyData.eqv z d) : Nat), H, I.tok _, ⟨s.toks, ?_⟩, q⟩
  rw [← ec]
theorem mt_indexD (hu : X.A.units + 65 < cLine) : MtR X "list.index" (rIdxD X.K) := by
  intro pins s σ H x xs v us Q I rx rxs ⟨p, vs, ds, y, d, j, ex, exs, hs, hr, hd, hl, hj, q⟩
  subst ex exs
  cases rx
  obtain ⟨u, rfl, ru⟩ := rxs.one
  obtain ⟨its, rv, ⟨⟨cls, dd, data, sl⟩, n, ho, hc, hdn, hdt⟩, hlen⟩ := I.list hs
  simp only at hc hdt
  subst hc hdt
  obtain ⟨a1, a2⟩ := items_ans I hu hd hl ru rv hr
  have hlen2 : its.length = ds.length := by rw [← rv.length]; exact dpAll_lenK hr
  obtain ⟨hjl, ht, hn⟩ := List.findIdx?_eq_some_iff_getElem.mp hj
  have hsz : its.length ≤ sizeLine := by rw [← rv.length]; exact hlen
  rw [sizeLine_eq] at hsz
  refine call_meets PySem.F.slot_list_index ⟨_, ho, rfl⟩ PySem.F.entry_list_index (PySem.F.args_list_index_2 _ _)
    (SeqAt.list_indexAt p its.toArray n dd sl u (ansOf its ds d) j (by rw [List.size_toArray]; omega) (by omega) ?_ ?_) ⟨ho, a1, ?_⟩
  · have e1 : its[j]? = some (its[j]'(by omega)) := List.getElem?_eq_getElem _
    have := a2 e1 (List.getElem?_eq_getElem hjl)
    have e2 : its.toArray[j]'(by rw [List.size_toArray]; omega) = its[j]'(by omega) := by simp
    rw [e2, this]; exact ht
  · intro m hm hmj
    have hm' : m < its.length := by simpa using hm
    have e1 : its[m]? = some (its[m]'hm') := List.getElem?_eq_getElem _
    have := a2 e1 (List.getElem?_eq_getElem (show m < ds.length by omega))
    have e2 : its.toArray[m]'hm = its[m]'hm' := by simp
    rw [e2, this]
    exact (Bool.not_eq_true _).mp (hn m hmj)
  · exact ⟨.int (j : Nat), H, I.tok _, ⟨s.toks, rfl⟩, q⟩
end
def cntF : D → D → R D
  | .list l, y => if depLe 64 y && l.all (depLe 64) then .ok (.int (l.countP (fun z => deqF 64 z y) : Nat)) else .no
  | _, _ => .no
def idxF : D → D → R D
  | .list l, y => if depLe 64 y && l.all (depLe 64) then (match l.findIdx? (fun z => deqF 64 z y) with
    | some j => .ok (.int (j : Nat))
    | none => .no) else .no
  | _, _ => .no
/-- x.m(y), x a list -/
def eL1 (g : D → D → R D) (fa fb : Env → R D) : Env → R D := fun env => (fa env).bnd fun d => match d with
  | .list _ => (fb env).bnd fun y => g d y
  | _ => .no
section
variable {F : Fx} {a e : Expr} {pos apos : Pos} {fa fb : Env → R D}
theorem u65 (F : Fx) : F.X.A.units + 65 < cLine := by have := F.room.un; omega
theorem eL1_run {g : D → D → R D} {r : V → List V → Hp → VK → Prop} (hg : ∀ {b h : Hp} {σ : L2.St} {q : Addr} {vs : List V} {l : List D} {w : V} {y : D} {Q : VK}, Same b h → SqL F.X.K h q vs → DpAll F.kw b vs l → Bp F.kw b h w y → (Po F b h σ (g (.list l) y) fun d b' h' => ∀ v, Dp F.kw b' v d → Q v h') → r (.ref q) [w] h Q)
    {σ : L2.St} {H : Hp} {Q : VK} (h : tI F (eL1 g fa fb) σ H Q) : tBM F.X.K "list" r (tIB F fa) (tCons (tIB F fb) tNil) σ H Q := by
  obtain ⟨b, env, G, p⟩ := h
  refine ⟨b, env, G, Po.bnd p fun d _ b1 h1 x1 p1 v r => ?_⟩
  cases d with
  | list l =>
    obtain ⟨q, vs, rfl, hs, rs⟩ := r.lst x1.bh
    refine ⟨.inl ⟨rfl, vs, hs⟩, b1, env, G.grow x1, Po.bnd p1 fun y _ b2 h2 x2 p2 w rw => ?_⟩
    obtain ⟨q', vs', eq, hs2, rs2⟩ := (r.grow x1.bh x2).lst x2.bh
    cases eq
    exact hg x2.bh hs2 rs2 rw p2
  | _ => exact p1.elim
theorem ie_count (ha : IB F a fa) (hb : IB F e fb) (hpe : ∀ {to te : TE}, PE F.X a to → PE F.X e te → PE F.X (.Call (.Attribute a "count" apos) [e] [] pos) (tBM F.X.K "list" (rCntD F.X.K) to (tCons te tNil)) := by
      intro to te hto hte; exact pe_bm PySem.F.plainAttrs_list PySem.F.slot_list_count PySem.F.type_list_count (mt_countD (u65 _)) hto (pa_cons hte pa_nil)) :
    IE F (.Call (.Attribute a "count" apos) [e] [] pos) (eL1 cntF fa fb) :=
  PE.imp (hpe ha hb) fun σ H Q h => eL1_run (fun {b h σ q vs l w y Q} sb hs rs rw p => by
    have p' : Po F b h σ (if depLe 64 y && l.all (depLe 64) then R.ok (PyData.int (l.countP (fun z => deqF 64 z y) : Nat)) else .no) fun d b' h' => ∀ v, Dp F.kw b' v d → Q v h' := p
    split at p'
    · rename_i hc
      rw [Bool.and_eq_true] at hc
      have h1 := depLe_ok _ _ hc.1
      refine ⟨q, vs, l, w, y, rfl, rfl, hs, dpAllK_of (K := F.kw) 64 hc.2 (dpAll_mono sb rs), dp_toK (K := F.kw) 64 y hc.1 (rw.dp sb), h1, ?_⟩
      have e : l.countP (fun z => PyData.eqv z y) = l.countP (fun z => deqF 64 z y) := congrArg (fun f => l.countP f) (funext fun z => (deqF_eq 64 z y (by omega)).symm)
      rw [e]
      exact p' b h (Ext.refl sb) _ (.int _)
    · exact p'.elim) h
theorem ie_index (ha : IB F a fa) (hb : IB F e fb) (hpe : ∀ {to te : TE}, PE F.X a to → PE F.X e te → PE F.X (.Call (.Attribute a "index" apos) [e] [] pos) (tBM F.X.K "list" (rIdxD F.X.K) to (tCons te tNil)) := by
      intro to te hto hte; exact pe_bm PySem.F.plainAttrs_list PySem.F.slot_list_index PySem.F.type_list_index (mt_indexD (u65 _)) hto (pa_cons hte pa_nil)) :
    IE F (.Call (.Attribute a "index" apos) [e] [] pos) (eL1 idxF fa fb) :=
  PE.imp (hpe ha hb) fun σ H Q h => eL1_run (fun {b h σ q vs l w y Q} sb hs rs rw p => by
    have p' : Po F b h σ (if depLe 64 y && l.all (depLe 64) then (match l.findIdx? (fun z => deqF 64 z y) with
      | some j => R.ok (PyData.int (j : Nat))
      | none => .no) else .no) fun d b' h' => ∀ v, Dp F.kw b' v d → Q v h' := p
    split at p'
    · rename_i hc
      rw [Bool.and_eq_true] at hc
      have h1 := depLe_ok _ _ hc.1
      have e : (fun z => deqF 64 z y) = fun z => PyData.eqv z y := funext fun z => deqF_eq 64 z y (by omega)
      rw [e] at p'
      split at p'
      · rename_i j hj
        exact ⟨q, vs, l, w, y, j, rfl, rfl, hs, dpAllK_of (K := F.kw) 64 hc.2 (dpAll_mono sb rs), dp_toK (K := F.kw) 64 y hc.1 (rw.dp sb), h1, hj, p' b h (Ext.refl sb) _ (.int _)⟩
      · exact p'.elim
    · exact p'.elim) h

/-! ### xs[a:b:c] -/
def pickL {α : Type} (l : List α) (lo hi st : Option Int) : List α := (sliceRange (sliceBounds lo hi st l.length).1 (sliceBounds lo hi st l.length).2.1 (sliceBounds lo hi st l.length).2.2).filterMap (l[·]?)
theorem pick_le {α : Type} (l : List α) (lo hi st : Option Int) : (pickL l lo hi st).length ≤ l.length := by
  have e := slicePick_size_le (List.replicate l.length Value.none).toArray lo hi st
  unfold slicePick at e
  rw [List.size_toArray, List.size_toArray, List.length_replicate] at e
  unfold pickL
  refine Nat.le_trans (Nat.le_of_eq ?_) e
  rw [List.length_filterMap_eq_countP, List.length_filterMap_eq_countP]
  congr 1
  funext i
  by_cases h : i < l.length
  · simp [h]
  · simp [h]
theorem vals_pick {xs : List V} {us : List Value} (r : Vals xs us) : ∀ ix : List Nat, Vals (ix.filterMap (xs[·]?)) (ix.filterMap (us[·]?))
  | [] => .nil
  | i :: ix => by
    rw [List.filterMap_cons, List.filterMap_cons]
    cases h : xs[i]? with
    | none => rw [r.none_of h]; exact vals_pick r ix
    | some x =>
      obtain ⟨u, e, q⟩ := r.get h
      rw [e]
      exact .cons q (vals_pick r ix)
theorem dpAll_pick {K : KW} {b : Hp} {xs : List V} {ds : List D} (r : DpAll K b xs ds) : ∀ ix : List Nat, DpAll K b (ix.filterMap (xs[·]?)) (ix.filterMap (ds[·]?))
  | [] => .nil
  | i :: ix => by
    rw [List.filterMap_cons, List.filterMap_cons]
    have hl := dpAll_len r
    by_cases h : i < ds.length
    · rw [List.getElem?_eq_getElem h, List.getElem?_eq_getElem (show i < xs.length by omega)]
      exact .cons (dpAll_get r (List.getElem?_eq_getElem h) (List.getElem?_eq_getElem (by omega))) (dpAll_pick r ix)
    · rw [List.getElem?_eq_none (show xs.length ≤ i by omega), List.getElem?_eq_none (show ds.length ≤ i by omega)]
      exact dpAll_pick r ix
def tSlS (K : PySem.W.Frag) (te : TE) (wl wu ws : TO) : TE := fun σ H Q => te σ H fun x H1 => wl σ H1 fun l H2 => wu σ H2 fun u H3 => ws σ H3 fun o H4 => o ≠ some 0 ∧ ∃ a xs, x = .ref a ∧ SqL K H4 a xs ∧ ∀ p, H4 p = none → Q (.ref p) (upd H4 p (.lst (pickL xs l u o)))
theorem pe_slS {X : Cx} {e st : Expr} {lo hi : Option Expr} {te : TE} {wl wu ws : TO} {p3 pos : Pos} (he : PE X e te) (hl : PO X lo wl) (hu : PO X hi wu) (hst : PO X (some st) ws) : PE X (.Subscript e (.Slice lo hi (some st) p3) pos) (tSlS X.K te wl wu ws) := by
  refine ⟨fun pins s σ H Q I h => ?_⟩
  refine Subscript_ (thn (he.run pins s σ H _ I h) fun v s1 ⟨x, H1, I1, r1, q1⟩ => ?_)
  refine wpAny_Slice (thn (hl.run pins s1 σ H1 _ I1 q1) fun vl s2 ⟨l, H2, I2, pl, q2⟩ => ?_)
  refine thn (hu.run pins s2 σ H2 _ I2 q2) fun vu s3 ⟨u, H3, I3, pu, q3⟩ => ?_
  refine thn (hst.run pins s3 σ H3 _ I3 q3) fun vs s4 ⟨o, H4, I4, ps, ne, a, xs, ex, hx, q⟩ => ?_
  subst ex
  obtain rfl : v = Value.ref a := r1
  have I5 : L2.Inv X pins σ H4 { s4 with heap := s4.heap.push { cls := .type "slice", data := .fields #[vl, vu, vs] } } := I4.kept (t' := s4.toks) fun b ob q => Heap.get?_push_of_some _ q
  obtain ⟨its, r, ht, hz⟩ := I5.list hx
  have hlen := r.length
  show wpAny (model X.prog X.w) X.A (subscriptTail e (.Slice lo hi (some st) p3) (.ref a) (.ref s4.heap.objs.size)) (EP X pins σ Q) X.xe { s4 with heap := s4.heap.push { cls := .type "slice", data := .fields #[vl, vu, vs] } }
  refine tail_any (ops := [.ref a, .ref s4.heap.objs.size]) ht.isList.typeIs (PySem.slot_list_getitem.lookup) ?_ (by with_unfolding_all rfl)
  refine wpAny_getItem_list_slice ht.isList (Heap.IsSliceOf.new _ vl vu vs) pl pu ps ne ?_ (by rw [List.size_toArray]; omega)
  have ep : slicePick its.toArray l u o = (pickL its l u o).toArray := by
    unfold slicePick pickL
    simp
  rw [ep]
  refine ⟨.ref _, _, I5.laid (t' := s4.toks) (o := .lst (pickL xs l u o)) (fun b ob q => Heap.get?_push_of_some _ q) (Nat.le_refl _) ?_, rfl, q _ (I5.hok.fresh (Nat.le_refl _))⟩
  refine ⟨Nat.le_trans (pick_le _ _ _ _) hz, _, 0, ?_, Heap.get?_push_size _ rfl⟩
  unfold pickL
  rw [hlen]
  exact vals_pick r _
def eSlS (fa : Env → R D) (fl fh fs : Env → R (Option Int)) : Env → R Own := fun env => (fa env).bnd fun d => (fl env).bnd fun lo => (fh env).bnd fun hi => (fs env).bnd fun st => match d with
  | .list l => if st = some 0 then .no else .ok (.lst (pickL l lo hi st))
  | _ => .no
theorem if_slS {lo hi : Option Expr} {st : Expr} {p3 : Pos} {fl fh fs : Env → R (Option Int)} (ha : IB F a fa) (hl : IO F lo fl) (hh : IO F hi fh) (hs : IO F (some st) fs) : IF F (.Subscript a (.Slice lo hi (some st) p3) pos) (eSlS fa fl fh fs) :=
  PE.imp (pe_slS ha hl hh hs) fun σ H Q ⟨b, env, G, p⟩ => ⟨b, env, G, Po.bnd p fun d _ b1 h1 x1 p1 v r => ⟨b1, env, G.grow x1, Po.bnd p1 fun lo _ b2 h2 x2 p2 => ⟨b2, env, (G.grow x1).grow x2, Po.bnd p2 fun hi _ b3 h3 x3 p3 =>
    ⟨b3, env, ((G.grow x1).grow x2).grow x3, Po.bnd p3 fun st _ b4 h4 x4 p4 => by
      cases d with
      | list l =>
        dsimp only at p4
        split at p4
        · exact p4.elim
        · rename_i ne
          obtain ⟨q, vs, rfl, hs, rs⟩ := (((r.grow x1.bh x2).grow x2.bh x3).grow x3.bh x4).lst x4.bh
          refine ⟨ne, q, vs, rfl, hs, fun q' hq => p4 b4 h4 (Ext.refl x4.bh) q' _ hq (fun _ z => by cases z) ⟨_, upd_same, ?_⟩⟩
          unfold pickL
          rw [dpAll_len rs]
          exact dpAll_pick rs _
      | _ => exact p4.elim⟩⟩⟩⟩
end
end FP
/-! FQ J: a try whose body raises nothing. -/
namespace FP
open PySem L2 PySem.Spec PyProof.Rows
theorem ps_tryN {X : Cx} {body : List Stmt} {h₀ : ExceptHandler} {hds : List ExceptHandler} {pos : Pos} {tb : TS}
    (hb : ∀ (pn : List (Addr × Obj)) (xe : Value → Shared → Prop), PassesOwn (model X.prog X.w) X.A X.env xe → PSs (X.tr pn xe) body tb) : PS X (.Try body (h₀ :: hds) [] [] pos) tb := by
  refine ⟨fun pins s σ H D I h => ?_⟩
  have ok := I.ok
  refine wpAny_Try_except ?_
  refine wpAny_mono ((hb (X.pn ++ pins) (fun e s₁ => wpAny (model X.prog X.w) X.A (noteFrame e X.env) (fun _ s₂ => wpAny (model X.prog X.w) X.A (setFlight e none) (fun _ s₃ =>
    wpAny (model X.prog X.w) X.A (handleBy e X.env (h₀ :: hds)) (SP X pins D) X.xe s₃) X.xe s₂) X.xe s₁) PassesOwn.looking).run [] s σ H D (I.toTry _) h) (fun f s1 hsp => ?_) (fun e s1 he => he)
  cases f with
  | next =>
    obtain ⟨σ', H', J', q⟩ := hsp
    exact wpAny_execs_nil ⟨σ', H', J'.ofTry ok, q⟩
  | brk =>
    obtain ⟨σ', H', J', q⟩ := hsp
    exact ⟨σ', H', J'.ofTry ok, q⟩
  | cont =>
    obtain ⟨σ', H', J', q⟩ := hsp
    exact ⟨σ', H', J'.ofTry ok, q⟩
  | ret u =>
    obtain ⟨v, σ', H', J', r, q⟩ := hsp
    exact ⟨v, σ', H', J'.ofTry ok, r, q⟩
def sTryN (sb : Env → SR) : Env → SR := fun env => match sb env with
  | .ex _ _ _ => .no
  | r => r
/-- a try: nothing is said where its body raises -/
theorem is_tryN {F : Fx} {body : List Stmt} {h₀ : ExceptHandler} {hds : List ExceptHandler} {pos : Pos} {sb : Env → SR}
    (hb : ∀ (W : WX) (pn : List (Addr × Obj)) (xe : Value → Shared → Prop) (tk : Takes (F.X.tr pn xe) W) (ow : PassesOwn (model F.X.prog F.X.w) F.X.A F.X.env xe), ISs (F.tr W pn xe tk ow) body sb) : IS F (.Try body (h₀ :: hds) [] [] pos) (sTryN sb) := by
  refine PS.imp (ps_tryN (tb := tS (F.trN fun _ _ _ _ => False) sb) fun pn xe ow => hb (fun _ _ _ _ => False) pn xe (fun u s' ⟨_, _, _, _, _, _, _, _, _, _, _, _, _, _, _, _, z⟩ => z.elim) ow) fun Dn σ H ⟨b, env, G, p⟩ => ⟨b, env, G, ?_⟩
  revert p
  show PoS F Dn b (sTryN sb env) → _
  unfold sTryN
  cases sb env with
  | nx e => exact fun p => p
  | rt d => exact fun p => p
  | bk e => exact fun p => p
  | ct e => exact fun p => p
  | no => exact fun p => p
  | ex c as e => exact fun p => p.elim
end FP
/-! FQ K: where a token is out: s.replace(y, z) of written texts. -/
namespace FP
open PySem PySem.Spec PyProof.Rows L2 CwR
section
variable {X : Cx}
theorem PET.imp {e : Expr} {t t' : TE} (h : PET X e t) (q : ∀ σ H Q, t' σ H Q → t σ H Q) : PET X e t' := fun pins s σ H Q h0 I z => h pins s σ H Q h0 I (q σ H Q z)
theorem PST.imp {st : Stmt} {t t' : TS} (h : PST X st t) (q : ∀ D σ H, t' D σ H → t D σ H) : PST X st t' := fun pins s σ H D h0 I z => h pins s σ H D h0 I (q D σ H z)
theorem PSsT.imp {st : List Stmt} {t t' : TS} (h : PSsT X st t) (q : ∀ D σ H, t' D σ H → t D σ H) : PSsT X st t' := fun pins s σ H D h0 I z => h pins s σ H D h0 I (q D σ H z)
theorem PIT.imp {tg e : Expr} {t t' : TI} (h : PIT X tg e t) (q : ∀ σ H R, t' σ H R → t σ H R) : PIT X tg e t' := fun pins s σ H R h0 I z => h pins s σ H R h0 I (q σ H R z)
theorem PAT.imp {es : List Expr} {t t' : TA} (h : PAT X es t) (q : ∀ σ H Q, t' σ H Q → t σ H Q) : PAT X es t' := fun pos pins s σ H Q h0 I z => h pos pins s σ H Q h0 I (q σ H Q z)
/-- behind it a token is out -/
def PSd (X : Cx) (st : Stmt) (t : TS) : Prop :=
  ∀ (pins : List (Addr × Obj)) (s : Shared) (σ : L2.St) (H : Hp) (D : Ends), L2.Inv X pins σ H s → t D σ H → wpAny (model X.prog X.w) X.A (exec st X.env) (fun f s' => 1 ≤ s'.toks ∧ SP X pins D f s') X.xe s
theorem PSd.imp {st : Stmt} {t t' : TS} (h : PSd X st t) (q : ∀ D σ H, t' D σ H → t D σ H) : PSd X st t' := fun pins s σ H D I z => h pins s σ H D I (q D σ H z)
theorem pss_d {st : Stmt} {rest : List Stmt} {t u : TS} (h1 : PSd X st t) (h2 : PSsT X rest u) : PSs X (st :: rest) (tSeq t u) := by
  refine ⟨fun pins s σ H D I h => ?_⟩
  refine wpAny_execs_cons (wpAny_mono (h1 pins s σ H { D with nx := u D } I h) (fun f s1 q => ?_) fun _ _ x => x)
  obtain ⟨hk, q⟩ := q
  cases f with
  | next =>
    obtain ⟨σ', H', I', q⟩ := q
    exact h2 pins s1 σ' H' D hk I' q
  | ret v => exact q
  | brk => exact q
  | cont => exact q
/-- x = a[c], c a written number -/
theorem psd_setIx {i : Nat} {x : Str} {a : Expr} {c : Int} {j : Nat} {ta : TE} {r : R2} {cp pos' pos ip : Pos} (hr : IxR X r) (ha : PE X a ta) (hN : X.N.Nodup) (hi : X.N[i]? = some x) (hx : Loc X.env.scope x) (hps : PlainIx (.Constant (.int c) j cp))
    (hs : swapsWith (.Subscript a (.Constant (.int c) j cp) ip) (some (.Name x pos')) pos.line X.env = pure false) (hf : X.fn x = true ∨ X.env.scope.names.lookup x = some .local) :
    PSd X (.Assign [.Name x pos'] (.Subscript a (.Constant (.int c) j cp) ip) pos) (tAsg (tOp r ta (tC (.int c))) (gName i)) := by
  intro pins s σ H D I h
  refine wpAny_Assign_Name (Subscript_ (thn (ha.run pins s σ H _ I h) fun v s1 ⟨y, H1, I1, r1, q1⟩ => ?_)) hs
  refine wpAny_Constant_int ?_
  refine wpAny_mono (PySem.wpAny_toks_of (n := 1) (show 1 ≤ s1.toks + 1 by omega) (hr a _ pins { s1 with toks := s1.toks + 1 } σ H1 y (.int c) v (.int c s1.toks) _ (I1.tok _) r1 ⟨_, rfl⟩ q1 (hps _ _))) (fun w s2 ⟨hk, z, H2, I2, r2, q2⟩ => ?_) fun _ _ z => z.2
  refine wpAny_mono (PySem.wpAny_toks_of hk (store_ok (Q := fun _ s3 => L2.Inv X pins (σ.set i (some z)) H2 s3) I2 hN hi hx r2 (fun _ I3 => I3) hf)) (fun _ s3 q3 => ?_) fun _ _ z => z.2
  exact ⟨q3.1, _, H2, q3.2, q2⟩
theorem pst_set {i : Nat} {x : Str} {e : Expr} {te : TE} {pos' pos : Pos} (hN : X.N.Nodup) (hi : X.N[i]? = some x) (hx : Loc X.env.scope x) (he : PET X e te) (hs : swapsWith e (some (.Name x pos')) pos.line X.env = pure false) (hf : X.fn x = true ∨ X.env.scope.names.lookup x = some .local) :
    PST X (.Assign [.Name x pos'] e pos) (tAsg te (gName i)) := by
  intro pins s σ H D h0 I h
  refine wpAny_Assign_Name (thn (he pins s σ H _ h0 I h) fun v s1 ⟨y, H1, I1, r1, q1⟩ => ?_) hs
  exact store_ok I1 hN hi hx r1 (fun s2 I2 => ⟨_, H1, I2, q1⟩) hf
/-- what is walked, one token out -/
theorem pit_seq {tg l : Expr} {tl : TE} (hl : PET X l tl) : PIT X tg l (iSeq X.K tl) := by
  intro pins s σ H R h0 I h
  refine thn (hl pins s σ H _ h0 I h) fun v s1 ⟨x, H1, I1, r1, q1⟩ => ?_
  rcases q1 with ⟨a, e, ⟨xs, hq⟩, q⟩ | ⟨a, e, ⟨xs, hq⟩, q⟩ | ⟨z, e, q⟩
  · subst e
    cases r1
    obtain ⟨us, rv, pl, _⟩ := I1.list hq
    refine wpAny_pyIter_list pl.isList ⟨s1.heap.objs.size, [s1.heap.objs.size], _, _, H1, rfl, I1.kept (t' := s1.toks) fun b o e => Heap.get?_push_of_some _ e, turn_list a _, ⟨_, Heap.get?_push_size _ rfl, rfl, rfl⟩, fun b hb => ?_, q⟩
    obtain rfl : b = s1.heap.objs.size := List.mem_singleton.mp hb
    exact I1.fpOk (Nat.le_refl _) (I1.hok.fresh (Nat.le_refl _))
  · subst e
    cases r1
    obtain ⟨us, rv, pl, _⟩ := I1.tuple hq
    refine wpAny_pyIter_tuple (show s1.heap.IsTuple a us.toArray from pl) ⟨s1.heap.objs.size, [s1.heap.objs.size], _, _, H1, rfl, I1.kept (t' := s1.toks) fun b o e => Heap.get?_push_of_some _ e, turn_tuple a _, ⟨_, Heap.get?_push_size _ rfl, rfl, rfl⟩, fun b hb => ?_, q⟩
    obtain rfl : b = s1.heap.objs.size := List.mem_singleton.mp hb
    exact I1.fpOk (Nat.le_refl _) (I1.hok.fresh (Nat.le_refl _))
  · subst e
    obtain ⟨t, rfl⟩ := r1
    cases ha : z.cps.all (· < 128)
    · exact wpAny_pyIter_wide ha (pi_one (tk := s1.toks) I1 _ (turn_str _ z t "str_iterator" (.inr rfl)) ⟨_, Heap.get?_push_size _ rfl, rfl, rfl⟩ q)
    · exact wpAny_pyIter_ascii ha (pi_one (tk := s1.toks) I1 _ (turn_str _ z t "str_ascii_iterator" (.inl rfl)) ⟨_, Heap.get?_push_size _ rfl, rfl, rfl⟩ q)
theorem thnT {α : Type} {t : Sem α} {Q Q' : α → Shared → Prop} {M : Model} {A : Around} {E : Value → Shared → Prop} {s : Shared} (h0 : 1 ≤ s.toks) (h : wpAny M A t Q E s) (hQ : ∀ a s', 1 ≤ s'.toks → Q a s' → Q' a s') : wpAny M A t Q' E s :=
  wpAny_mono (PySem.wpAny_toks_of h0 h) (fun a s' q => hQ a s' q.1 q.2) fun _ _ z => z.2
/-- for, one token out ahead of each turn -/
theorem pst_forT {tg iter : Expr} {body : List Stmt} {wi : TI} {g : TG} {tb : TS} {pos : Pos} (hp : PassesOwn (model X.prog X.w) X.A X.env X.xe) (hc : X.calm = true) (hi : PIT X tg iter wi) (hg : PG X tg g) (hb : PSsT X body tb)
    (hs : ∀ x, foldedSetIterable iter X.env x = pure x := by intro _; rfl) : PST X (.For tg iter body [] pos) (tFor wi g tb) := by
  intro pins s σ H D h0 I h
  refine wpAny_For (thnT h0 (hi pins s σ H _ h0 I h) fun v s1 k1 h1 => thnT k1 h1 fun itv s2 k2 h2 => ?_) hs
  obtain ⟨it, fp, tn, J, H2, e, I2, T, st2, f2, W, ⟨m0, w0⟩, turn⟩ := h2
  subst e
  have stat : ∀ {H' : Hp}, (∀ b ∈ fp, H' b = none) → ∀ b ∈ fp, FpOk X pins H' b := fun hn b hb => ⟨hn b hb, (f2 b hb).2⟩
  refine codeAny_forLoop_any (fun n s' => 1 ≤ s'.toks ∧ ∃ i σ' H', L2.Inv X pins σ' H' s' ∧ tn i s'.heap ∧ (∀ b ∈ fp, H' b = none) ∧ W i n σ' H') ?_ m0 ⟨k2, 0, σ, H2, I2, st2, fun b hb => (f2 b hb).1, w0⟩
  rintro n s3 ⟨k3, i, σ3, H3, I3, st3, fr3, w3⟩
  rcases turn i n σ3 H3 w3 with ⟨stop, qn⟩ | ⟨go, N, hN, step⟩
  · refine wpAny_passesOwn hp (thn (T.done X rfl rfl rfl hc i pins s3 σ3 H3 X.xe I3 (stat fr3) st3 stop) fun r s4 ⟨hr, I4⟩ => ?_)
    subst hr
    exact wpAny_execs_nil ⟨σ3, H3, I4, qn⟩
  · refine wpAny_passesOwn hp (thnT k3 (T.item X rfl rfl rfl hc i pins s3 σ3 H3 X.xe I3 (stat fr3) st3 go) fun r s4 k4 ⟨u, hr, h4⟩ => ?_)
    subst hr
    refine wpAny_passesOwn hp (thnT k4 h4 fun _ s5 k5 ⟨x, H5, I5, r5, y5, st5, fr5⟩ => ?_)
    have I5' := I5.pinned (stat fr5) (T.obj _ _ st5)
    refine wpAny_passesOwn hp (thnT k5 (hg.run _ s5 σ3 H5 x u _ I5' r5 (step x H5 y5)) fun _ s6 k6 ⟨σ6, H6, I6, q6⟩ => ?_)
    refine wpAny_passesOwn hp (thnT k6 (hb _ s6 σ6 H6 _ k6 I6 q6) fun f s7 k7 q7 => ?_)
    have again : ∀ {σ7 : L2.St} {H7 : Hp}, L2.Inv X (pins ++ pinsAt fp s5.heap) σ7 H7 s7 → N σ7 H7 → ∃ m, m < n ∧ 1 ≤ s7.toks ∧ ∃ i σ' H', L2.Inv X pins σ' H' s7 ∧ tn i s7.heap ∧ (∀ b ∈ fp, H' b = none) ∧ W i m σ' H' := fun {σ7 H7} I7 n7 => by
      obtain ⟨m', hm, w7⟩ := hN σ7 H7 n7
      refine ⟨m', hm, k7, i + 1, σ7, H7, I7.unpinned, T.keep _ _ _ st5 fun b hb o e => (I7.pin (b, o) (List.mem_append_right _ (List.mem_append_right _ (mem_pinsAt hb e)))).1, fun b hb => ?_, w7⟩
      obtain ⟨o, e, d⟩ := T.obj _ _ st5 b hb
      exact (I7.pin (b, o) (List.mem_append_right _ (List.mem_append_right _ (mem_pinsAt hb e)))).2.1
    cases f with
    | next => obtain ⟨σ7, H7, I7, n7⟩ := q7; exact again I7 n7
    | cont => obtain ⟨σ7, H7, I7, n7⟩ := q7; exact again I7 n7
    | brk => obtain ⟨σ7, H7, I7, q7⟩ := q7; exact ⟨σ7, H7, I7.unpinned, q7⟩
    | ret v => obtain ⟨x7, σ7, H7, I7, r7, q7⟩ := q7; exact ⟨x7, σ7, H7, I7.unpinned, r7, q7⟩
end

/-! ### with mirrors -/
structure IEt (F : Fx) (e : Expr) (f : Env → R D) : Prop where
  run : PET F.X e (tI F f)
structure IAt (F : Fx) (n : Nat) (es : List Expr) (f : Env → R (List D)) : Prop where
  run : PAT F.X es (tIA F n f)
structure ISt (F : Fx) (st : Stmt) (sv : Env → SR) : Prop where
  run : PST F.X st (tS F sv)
structure ISsT (F : Fx) (st : List Stmt) (sv : Env → SR) : Prop where
  run : PSsT F.X st (tS F sv)
structure ISd (F : Fx) (st : Stmt) (sv : Env → SR) : Prop where
  run : PSd F.X st (tS F sv)
structure IIt (F : Fx) (tg e : Expr) (f : Env → R (List D)) : Prop where
  run : PIT F.X tg e (tII F f)
section
variable {F : Fx} {e a : Expr} {es : List Expr} {st : Stmt} {rest : List Stmt} {s1 s2 : Env → SR} {fa : Env → R D} {fr : Env → R (List D)} {pos p' : Pos} {n i : Nat}
theorem iet_of (h : IE F e fa) : IEt F e fa := ⟨CwR.PET.of h⟩
theorem ist_of (h : IS F st s1) : ISt F st s1 := ⟨PST.of h⟩
theorem isst_of (h : ISs F rest s1) : ISsT F rest s1 := ⟨PSsT.of h⟩
theorem seq_run {F : Fx} {s1 s2 : Env → SR} {Dn : Ends} {σ : L2.St} {H : Hp} (h : tS F (sSeq s1 s2) Dn σ H) : tSeq (tS F s1) (tS F s2) Dn σ H := by
  obtain ⟨b, env, G, p⟩ := h
  refine ⟨b, env, G, ?_⟩
  unfold sSeq at p
  revert p
  cases s1 env with
  | nx env' => exact fun p b' h' σ' q G' => ⟨b', env', G', PoS.mono p q⟩
  | rt d => exact fun p => p
  | bk env' => exact fun p => p
  | ct env' => exact fun p => p
  | ex c as env' => exact fun p => p
  | no => exact fun p => p
theorem isst_cons (h1 : ISt F st s1) (h2 : ISsT F rest s2) : ISsT F (st :: rest) (sSeq s1 s2) := ⟨PSsT.imp (psst_cons h1.run h2.run) fun _ _ _ h => seq_run h⟩
theorem iss_d (h1 : ISd F st s1) (h2 : ISsT F rest s2) : ISs F (st :: rest) (sSeq s1 s2) := PSs.imp (pss_d h1.run h2.run) fun _ _ _ h => seq_run h
/-- x = a[c] -/
theorem isd_setIx (i : Nat) {x : Str} {c : Int} {j : Nat} {cp ip : Pos} (ha : IB F a fa) (hi : F.X.N[i]? = some x := by rfl) (hx : Loc F.X.env.scope x := by first | exact Or.inl rfl | exact Or.inr rfl)
    (hs : swapsWith (.Subscript a (.Constant (.int c) j cp) ip) (some (.Name x p')) pos.line F.X.env = pure false := by rfl) (hf : F.X.fn x = true ∨ F.X.env.scope.names.lookup x = some .local := by first | exact .inl rfl | exact .inr rfl) (hps : PlainIx (.Constant (.int c) j cp) := by exact fun _ _ => rfl) :
    ISd F (.Assign [.Name x p'] (.Subscript a (.Constant (.int c) j cp) ip) pos) (sSet i (eBin pyIx fa (eC (.int c)))) :=
  ⟨PSd.imp (psd_setIx ix_seq ha F.nd hi hx hps hs hf) fun Dn σ H ⟨b, env, G, p⟩ => by
    have q : tI F (eBin pyIx fa (eC (.int c))) σ H fun v H' => Dn.nx (σ.set i (some v)) H' := ⟨b, env, G, PoS.bnd G p fun d _ b1 h1 x1 G1 p1 v r => p1 b1 h1 _ (Same.refl _) (G1.set r)⟩
    obtain ⟨b2, env2, G2, p2⟩ := q
    refine ⟨b2, env2, G2, Po.bnd p2 fun d _ b1 h1 x1 p1 v1 r1 => ?_⟩
    refine ok_ix.run b1 h1 v1 (.int c) d (.int c) _ x1.bh r1 (.inl (.int c)) ?_
    exact Po.v (F := F) (σ := σ) ((ok_ix (K := F.kw)).nex d _) p1⟩
theorem ist_set (i : Nat) {x : Str} (he : IEt F e fa) (hi : F.X.N[i]? = some x := by rfl) (hx : Loc F.X.env.scope x := by first | exact Or.inl rfl | exact Or.inr rfl) (hs : swapsWith e (some (.Name x p')) pos.line F.X.env = pure false := by rfl)
    (hf : F.X.fn x = true ∨ F.X.env.scope.names.lookup x = some .local := by first | exact .inl rfl | exact .inr rfl) : ISt F (.Assign [.Name x p'] e pos) (sSet i fa) :=
  ⟨PST.imp (pst_set F.nd hi hx he.run hs hf) fun Dn σ H ⟨b, env, G, p⟩ => ⟨b, env, G, PoS.bnd G p fun d _ b1 h1 x1 G1 p1 v r => p1 b1 h1 _ (Same.refl _) (G1.set r)⟩⟩
theorem iat_nil : IAt F 0 [] aNil := ⟨PAT.imp pat_nil fun σ H Q ⟨b, env, G, p⟩ => p b H (Ext.refl G.bh) [] rfl .nil⟩
theorem iat_cons (ha : IEt F a fa) (hr : IAt F n es fr) (hs : starEach (a :: es) F.X.env = (false, eval a F.X.env) :: starEach es F.X.env := by rfl) : IAt F (n + 1) (a :: es) (aCons fa fr) :=
  ⟨PAT.imp (pat_cons ha.run hr.run hs) fun σ H Q ⟨b, env, G, p⟩ => ⟨b, env, G, Po.bnd p fun d _ b1 h1 x1 p1 v r => ⟨b1, env, G.grow x1, Po.bnd p1 fun ds _ b2 h2 x2 p2 vs hl rs =>
    p2 b2 h2 (Ext.refl x2.bh) (v :: vs) (by rw [List.length_cons, hl]) (.cons (dp_mono (x2.bb x1.bh) r) rs)⟩⟩⟩
theorem iet_lst (h : IAt F n es fr) (hn : n ≤ sizeLine := by decide) : IEt F (.List es pos) (eNew (eLst fr)) :=
  ⟨PET.imp (pet_lst h.run) fun σ H Q ⟨b, env, G, p⟩ => ⟨b, env, G, by
    have p' : Po F b H σ ((fr env).bnd fun xs => .ok (.list xs)) fun d b' h' => ∀ v, Dp F.kw b' v d → Q v h' := by
      have e : eNew (eLst fr) env = (fr env).bnd fun xs => .ok (.list xs) := by
        unfold eNew eLst
        cases fr env <;> rfl
      rw [← e]; exact p
    exact Po.bnd p' fun ds _ b1 h1 x1 p1 vs hl rs => ⟨by rw [hl]; exact hn, fun q hq => p1 _ _ (Ext.new (o := .lst vs) x1.bh hq) _ (.lst (.inl (.inl upd_same)) (dpAll_mono (upd_same_sub (none_sub x1.bh hq)) rs))⟩⟩⟩
theorem iit_seq {tg : Expr} (he : IEt F e fa) : IIt F tg e (fun env => (fa env).bnd items) :=
  ⟨PIT.imp (pit_seq he.run) fun σ H R ⟨b, env, G, p⟩ => ⟨b, env, G, Po.bnd p fun d _ b1 h1 x1 p1 v r => by
    cases d with
    | list l => cases r with | @lst a vs _ hs hr => exact .inl ⟨a, rfl, ⟨vs, Same.sqL x1.bh hs⟩, p1 b1 h1 (Ext.refl x1.bh) _ (wk_list hs hr)⟩
    | tuple l => cases r with | @tup a vs _ hs hr => exact .inr (.inl ⟨a, rfl, ⟨vs, Same.sqT x1.bh hs⟩, p1 b1 h1 (Ext.refl x1.bh) _ (wk_tup hs hr)⟩)
    | str z => cases r; exact .inr (.inr ⟨z, rfl, p1 b1 h1 (Ext.refl x1.bh) _ wk_str⟩)
    | _ => exact p1.elim⟩⟩
/-! ### replace -/
def repF (y z : Str) : D → R D
  | .str x => if Nat.ble (x.length + (x.length + 1) * z.length) 16777216 && Nat.ble 1 y.length then .ok (.str (mkS (PySem.StrLaws.replL (tl y) (tl z) (tl x)))) else .no
  | _ => .no
theorem iet_repl {y z : Str} {j k : Nat} {c0 c1 apos : Pos} (ha : IEt F a fa) (hyz : (y == z) = false := by decide)
    (hst : starEach [.Constant (.str y) j c0, .Constant (.str z) k c1] F.X.env = [(false, eval (.Constant (.str y) j c0) F.X.env), (false, eval (.Constant (.str z) k c1) F.X.env)] := by rfl)
    (hbase : attributeBase a "replace" F.X.env (eval a F.X.env) = eval a F.X.env := by rfl) (hline : (apos.endLine == pos.line) = true := by rfl) :
    IEt F (.Call (.Attribute a "replace" apos) [.Constant (.str y) j c0, .Constant (.str z) k c1] [] pos) (eUn (repF y z) fa) :=
  ⟨PET.imp (pet_replT ha.run hyz hst hbase hline) fun σ H Q ⟨b, env, G, p⟩ => ⟨b, env, G, Po.bnd p fun d _ b1 h1 x1 p1 v r => by
    cases d with
    | str x =>
      cases r
      have p1' : Po F b1 h1 σ (if Nat.ble (x.length + (x.length + 1) * z.length) 16777216 && Nat.ble 1 y.length then R.ok (PyData.str (mkS (PySem.StrLaws.replL (tl y) (tl z) (tl x)))) else .no) fun d b' h' => ∀ v, Dp F.kw b' v d → Q v h' := p1
      split at p1'
      · rename_i hc
        rw [Bool.and_eq_true] at hc
        refine ⟨x, rfl, Nat.le_of_ble_eq_true hc.1, ?_⟩
        have e : Txt.replace x y z = mkS (PySem.StrLaws.replL (tl y) (tl z) (tl x)) := tl_inj (by rw [tl_mkS]; exact PySem.StrLaws.replace_list (Nat.le_of_ble_eq_true hc.2))
        rw [e]
        exact p1' b1 h1 (Ext.refl x1.bh) _ (.str _)
      · exact p1'.elim
    | _ => exact p1.elim⟩⟩
/-! ### for -/
variable {tg iter : Expr} {f : Env → R (List D)} {t : Tg} {body : List Stmt} {sb : Env → SR} {ix : List Nat}
theorem ist_forI (hi : IIt F tg iter f) (hg : IG F tg t ix) (hb : ISs F body sb) (hs : ∀ x, foldedSetIterable iter F.X.env x = pure x := by intro _; rfl) (hsu : F.sui = false := by rfl) : ISt F (.For tg iter body [] pos) (sForE f t sb) :=
  ⟨PST.imp (pst_for (F.owns hsu) (F.calm hsu) hi.run hg hb hs) fun Dn σ H h => for_run h⟩
theorem ist_forB (hi : II F tg iter f) (hg : IG F tg t ix) (hb : ISsT F body sb) (hs : ∀ x, foldedSetIterable iter F.X.env x = pure x := by intro _; rfl) (hsu : F.sui = false := by rfl) : ISt F (.For tg iter body [] pos) (sForE f t sb) :=
  ⟨PST.imp (pst_forT (F.owns hsu) (F.calm hsu) (fun pins s σ H R _ I h => hi.run pins s σ H R I h) hg hb.run hs) fun Dn σ H h => for_run h⟩
end
end FP
/-! FQ L: a, b, c = x, y, z. -/
namespace FP
open PySem L2 PySem.Spec PyProof.Rows
def setAll : List Nat → List V → L2.St → L2.St
  | i :: is, v :: vs, σ => setAll is vs (σ.set i (some v))
  | _, _, σ => σ
def setAllE : List Nat → List Mv → Env → Env
  | i :: is, m :: ms, env => setAllE is ms (env.set i m.sl)
  | _, _, env => env
section
variable {F : Fx} {pos : Pos}
theorem ownAs_vl {v : V} {d : D} {vs : List V} {ms : List Mv} : ownAs (v :: vs) (.vl d :: ms) = ownAs vs ms := by cases v <;> rfl
theorem setMs {b h hs : Hp} (up : Up F.h0 hs) : ∀ (ixs : List Nat) {vs : List V} {ms : List Mv} {σ : L2.St} {env : Env}, F.G b h σ env → (∀ (j : Nat) (o' : Own) (c : Addr), env[j]? = some (.ow o') → σ[j]? = some (some (.ref c)) → c ∉ ownAs vs ms) → MsOk F.kw hs b h vs ms →
    F.G b h (setAll ixs vs σ) (setAllE ixs ms env)
  | [], _, _, σ, env, G, _, _ => by unfold setAll setAllE; exact G
  | i :: is, vs0, ms0, σ, env, G, P, ok => by
    cases ok with
    | nil => unfold setAll setAllE; exact G
    | @vl v d vs ms r t =>
      unfold setAll setAllE
      refine setMs up is (Good.setM (hs := hs) (m := .vl _) G r) (fun j o' c e1 e2 => ?_) t
      by_cases hij : i = j
      · subst hij
        have hil : i < env.length := by
          have := (List.getElem?_eq_some_iff.mp e1).1
          rwa [List.length_set] at this
        rw [List.getElem?_set_self hil] at e1
        cases e1
      · have := P j o' c (get_set_other hij e1) (get_set_other hij e2)
        rwa [ownAs_vl] at this
    | @ow a o vs ms r n m u t =>
      unfold setAll setAllE
      refine setMs up is (Good.setM (hs := hs) (m := .ow _) G ⟨a, rfl, r, n, up.free m, fun k o' hk e z => P k o' a e z List.mem_cons_self⟩) (fun j o' c e1 e2 => ?_) t
      by_cases hij : i = j
      · subst hij
        have hil : i < σ.length := by
          have := (List.getElem?_eq_some_iff.mp e2).1
          rwa [List.length_set] at this
        rw [List.getElem?_set_self hil] at e2
        cases e2
        exact u
      · exact fun hc => P j o' c (get_set_other hij e1) (get_set_other hij e2) (List.mem_cons_of_mem _ hc)
theorem own_free {hs : Hp} {K : KW} {b h : Hp} {vs : List V} {ms : List Mv} (ok : MsOk K hs b h vs ms) : ∀ c ∈ ownAs vs ms, hs c = none := by
  induction ok with
  | nil => intro c hc; cases hc
  | vl r t ih => intro c hc; rw [ownAs_vl] at hc; exact ih c hc
  | ow r n m u t ih =>
    intro c hc
    rcases List.mem_cons.mp hc with rfl | hc
    · exact m
    · exact ih c hc
def sPar3 (i j l : Nat) (fm : Env → R (List Mv)) : Env → SR := fun env => (fm env).s env fun ms => .nx (setAllE [i, j, l] ms env)
theorem is_par3 (i j l : Nat) {x y z : Str} {a c e : Expr} {px py pz pt : Pos} {kt k2 : Nat} {pt2 : Pos} {fm : Env → R (List Mv)} (ha : IM F 3 [a, c, e] fm) (hi : F.X.N[i]? = some x := by rfl) (hj : F.X.N[j]? = some y := by rfl) (hl : F.X.N[l]? = some z := by rfl)
    (hij : i ≠ j := by decide) (hil : i ≠ l := by decide) (hjl : j ≠ l := by decide)
    (hx : F.X.env.scope.names.lookup x = some .local := by rfl) (hy : F.X.env.scope.names.lookup y = some .local := by rfl) (hz : F.X.env.scope.names.lookup z = some .local := by rfl)
    (hw : swappedStores [.Tuple [.Name x px, .Name y py, .Name z pz] kt pt] (.Tuple [a, c, e] k2 pt2) F.X.env = pure (some [x, y, z]) := by rfl)
    (hs : swapsWithSole [.Tuple [.Name x px, .Name y py, .Name z pz] kt pt] (.Tuple [a, c, e] k2 pt2) pos.line F.X.env = pure false := by rfl) (hsu : F.sui = false := by rfl) :
    IS F (.Assign [.Tuple [.Name x px, .Name y py, .Name z pz] kt pt] (.Tuple [a, c, e] k2 pt2) pos) (sPar3 i j l fm) :=
  PS.imp (ps_par3 (F.calm hsu) F.nd hi hj hl hij hil hjl hx hy hz ha hw hs) fun Dn σ H ⟨b, env, G, p⟩ => ⟨b, env, G, PoS.bnd G p fun ms _ b1 h1 x1 G1 p1 vs hl ok => by
    match vs, hl with
    | [u, v, w], _ =>
      refine ⟨u, v, w, rfl, ?_⟩
      refine p1 b1 h1 _ (Same.refl _) (setMs G.ext.up [i, j, l] G1 (fun k o' q e1 e2 hq => ?_) ok)
      obtain ⟨a', ea, ok', _⟩ := G.own e1
      rw [ea] at e2
      cases e2
      obtain ⟨w', hw'⟩ := ok'.there
      rw [own_free ok q hq] at hw'
      cases hw'⟩
end
end FP
/-! FQ M: a def whose last parameter has a written default. -/
namespace FP
open PySem L2 PySem.Spec PyProof.Rows
/-- the def that a module's name holds, called without what has a default -/
structure FnDf (P : Program) (w : World) (K : PySem.W.Frag) (mg : Str → Option Value) (base : Heap) (T : List Addr) (x : Str) (k n : Nat) (m : List D → R D) : Prop where
  at_ : ∃ (f : Addr) (fd : FuncData) (ps : List Str) (ds : List Value) (dvs : List V) (dd : List D) (mf : List D → R D), mg x = some (.ref f) ∧ PySem.W.keepIn K (.ref f) = true ∧ Binds K fd ps ds ∧ Vals dvs ds ∧ (∀ b, DpAll ⟨K, w⟩ b dvs dd) ∧
    FnOk P w K mg base (L2.CX P w) k f fd ps (spF ⟨K, w⟩ mg T (n + dd.length) mf) ∧ ∀ ds, m ds = mf (ds ++ dd)
abbrev FnFd (F : Fx) (x : Str) (k n : Nat) (m : List D → R D) : Prop := FnDf F.X.prog F.X.w F.X.K F.X.mg F.X.base F.T x k n m
section
variable {P : Program} {w : World} {K : PySem.W.Frag} {mg : Str → Option Value} {base : Heap} {T : List Addr}
theorem fn_df {at_ : Str × Option Str} {x qual : Str} {params : Arguments} {body : List Stmt} {sc : Scope} {a : Addr} {d0 : D} {fd : FuncData} {N ps : List Str} {k n : Nat} {sv : Env → SR} (Fu : FunD K x qual params body sc [.ref a] [] (He.fAd K at_) fd) (S : FnScope N ps sc) (hm : mg x = some (.ref (He.fAd K at_)))
    (hd : rdV K (.ref a) d0 = true) (hn : n + 1 = ps.length)
    (bi : ∀ (T : Addr) (kV doc pm : Value) (an : Option Addr) (cdv ct : Value) (us its : List Value), us.length = n → its.length = 1 →
      ∃ k, bindArgs (PySem.W.fnOf x qual params body sc (.ref T) kV doc pm an cdv ct) ⟨us, []⟩ = seqItems? (.ref T) >>= k ∧ k (some its.toArray) = pure (ps.zip (us ++ its.drop 0)))
    (hb : ∀ (A : Around) (outer : List PySem.Env) (s : Shared) (H b : Hp) (E : XK) (hr : Room k (A.deeper (envOfC qual sc s.heap.objs.size (He.fAd K at_) (.ref (He.codeOf K at_))))) (pre : ∀ P ∈ T, GxR.TabG H P ∧ b P = none),
      ISs (bodyF P w K mg base T N ps qual sc S k (He.fAd K at_) (.ref (He.codeOf K at_)) A outer s H b E hr pre) body sv) : FnDf P w K mg base T x (k + 1) n (fun ds => (sv (env0 N.length (ds ++ [d0]))).r) := by
  obtain ⟨ds, hv, hbi⟩ := Fu.binds1 (ps := ps) n 0 (by simp) (by simpa using hn) bi
  obtain ⟨v, rv, dd⟩ := rdV_ok (K := ⟨K, w⟩) hd
  have ev : v = .ref a := by
    cases v with
    | ref c => cases rv; rfl
    | int i => obtain ⟨t, e⟩ := rv; cases e
    | str i => obtain ⟨t, e⟩ := rv; cases e
    | byt i => obtain ⟨t, e⟩ := rv; cases e
    | flt i => obtain ⟨t, e⟩ := rv; cases e
    | _ => cases rv
  subst ev
  have ok := fnok_T (w := w) Fu S hb
  rw [← hn] at ok
  exact ⟨_, fd, ps, ds, [.ref a], [d0], _, hm, Fu.kp, hbi, hv, fun b => .cons (dd b) .nil, ok, fun ds => rfl⟩
end
section
variable {F : Fx} {e : Expr} {es : List Expr} {pos : Pos} {fr : Env → R (List D)}
theorem dpAll_append {K : KW} {b : Hp} {vs ws : List V} {ds es : List D} (h : DpAll K b vs ds) (h' : DpAll K b ws es) : DpAll K b (vs ++ ws) (ds ++ es) := dpAll_app h h'
theorem ie_callDf {x : Str} {k n : Nat} {m : List D → R D} {p : Pos} (f : FnFd F x k n m) (hk : k ≤ F.k) (ha : IA F n (e :: es) fr) (hg : Gl F.X x := by rfl) (hdb : (x == ("__debug__" : Str)) = false := by decide)
    (he : starEach (e :: es) F.X.env = (false, eval e F.X.env) :: starEach es F.X.env := by rfl) (hpl : (backTo pos (starEach es F.X.env)).any (·.1) = false := by rfl) (hsu : F.sui = false := by rfl) : IE F (.Call (.Name x p) (e :: es) [] pos) (fun env => (fr env).bnd m) := by
  obtain ⟨f, fd, ps, dsv, dvs, dd, mf, hm, kp, bi, hd, hdd, ok, hmf⟩ := f.at_
  refine PE.imp (pe_callSD ok ((F.roomC hsu).mono hk) hg hm kp bi hd (fun σ => passAt F.tk σ) ha hdb he hpl) fun σ H Q ⟨b, env, G, p⟩ => ⟨b, env, G, Po.bnd p fun ds _ b1 h1 x1 p1 vs hl rs => ?_⟩
  have hl2 := dpAll_len (hdd b1)
  refine ⟨by rw [List.length_append, hl, hl2], b1, ds ++ dd, (G.grow x1).pre, x1.bh, dpAll_append rs (hdd b1), ?_⟩
  rw [hmf ds] at p1
  revert p1
  cases mf (ds ++ dd) with
  | ok d => exact fun p1 b' h' v x r => p1 b' h' x v r
  | ex c as => exact fun p1 b' h' dd C fs x hc hd ha => p1 b' h' dd C fs x hc hd ha
  | no => exact fun p1 => p1
end
end FP
namespace Law_k03
open FP PySem PySem.Spec PyProof.Rows L2
/-! ### the text -/
def top (i : Nat) : Stmt := PySem.Challenge.pw_sameterms_k03_texts_of_terms.main.body.getD i (.Pass ⟨0, 0, 0, 0⟩)
abbrev st_is_name : Stmt := top 23
abbrev N_is_name : List Str := ["text", "sign"]
abbrev P_is_name : List Str := ["text"]
theorem sc_is_name : FnScope N_is_name P_is_name (defScope st_is_name) := ⟨rfl, rfl, rfl, by decide +kernel, rfl, by decide +kernel, by decide +kernel⟩
abbrev st_tokens_of : Stmt := top 24
abbrev N_tokens_of : List Str := ["line", "found", "at", "end", "marks", "mark"]
abbrev P_tokens_of : List Str := ["line"]
theorem sc_tokens_of : FnScope N_tokens_of P_tokens_of (defScope st_tokens_of) := ⟨rfl, rfl, rfl, by decide +kernel, rfl, by decide +kernel, by decide +kernel⟩
abbrev st_nesting : Stmt := top 25
abbrev N_nesting : List Str := ["tokens", "deep", "most", "token"]
abbrev P_nesting : List Str := ["tokens"]
theorem sc_nesting : FnScope N_nesting P_nesting (defScope st_nesting) := ⟨rfl, rfl, rfl, by decide +kernel, rfl, by decide +kernel, by decide +kernel⟩
abbrev st_lines_of : Stmt := top 26
abbrev N_lines_of : List Str := ["text", "rows"]
abbrev P_lines_of : List Str := ["text"]
theorem sc_lines_of : FnScope N_lines_of P_lines_of (defScope st_lines_of) := ⟨rfl, rfl, rfl, by decide +kernel, rfl, by decide +kernel, by decide +kernel⟩
abbrev st_empty_signature : Stmt := top 28
abbrev N_empty_signature : List Str := []
abbrev P_empty_signature : List Str := []
theorem sc_empty_signature : FnScope N_empty_signature P_empty_signature (defScope st_empty_signature) := ⟨rfl, rfl, rfl, by decide +kernel, rfl, by decide +kernel, by decide +kernel⟩
abbrev st_sort_names : Stmt := top 29
abbrev N_sort_names : List Str := ["signature", "row"]
abbrev P_sort_names : List Str := ["signature"]
theorem sc_sort_names : FnScope N_sort_names P_sort_names (defScope st_sort_names) := ⟨rfl, rfl, rfl, by decide +kernel, rfl, by decide +kernel, by decide +kernel⟩
abbrev st_function_names : Stmt := top 30
abbrev N_function_names : List Str := ["signature", "row"]
abbrev P_function_names : List Str := ["signature"]
theorem sc_function_names : FnScope N_function_names P_function_names (defScope st_function_names) := ⟨rfl, rfl, rfl, by decide +kernel, rfl, by decide +kernel, by decide +kernel⟩
abbrev st_sort_row : Stmt := top 31
abbrev N_sort_row : List Str := ["signature", "name", "row"]
abbrev P_sort_row : List Str := ["signature", "name"]
theorem sc_sort_row : FnScope N_sort_row P_sort_row (defScope st_sort_row) := ⟨rfl, rfl, rfl, by decide +kernel, rfl, by decide +kernel, by decide +kernel⟩
abbrev st_function_row : Stmt := top 32
abbrev N_function_row : List Str := ["signature", "name", "row"]
abbrev P_function_row : List Str := ["signature", "name"]
theorem sc_function_row : FnScope N_function_row P_function_row (defScope st_function_row) := ⟨rfl, rfl, rfl, by decide +kernel, rfl, by decide +kernel, by decide +kernel⟩
abbrev st_kind_of : Stmt := top 33
abbrev N_kind_of : List Str := ["signature", "name"]
abbrev P_kind_of : List Str := ["signature", "name"]
theorem sc_kind_of : FnScope N_kind_of P_kind_of (defScope st_kind_of) := ⟨rfl, rfl, rfl, by decide +kernel, rfl, by decide +kernel, by decide +kernel⟩
abbrev st__check_new : Stmt := top 34
abbrev N__check_new : List Str := ["signature", "name"]
abbrev P__check_new : List Str := ["signature", "name"]
theorem sc__check_new : FnScope N__check_new P__check_new (defScope st__check_new) := ⟨rfl, rfl, rfl, by decide +kernel, rfl, by decide +kernel, by decide +kernel⟩
abbrev st__with_sort : Stmt := top 35
abbrev N__with_sort : List Str := ["signature", "row", "functions", "new"]
abbrev P__with_sort : List Str := ["signature", "row", "functions"]
theorem sc__with_sort : FnScope N__with_sort P__with_sort (defScope st__with_sort) := ⟨rfl, rfl, rfl, by decide +kernel, rfl, by decide +kernel, by decide +kernel⟩
abbrev st_add_plain : Stmt := top 36
abbrev N_add_plain : List Str := ["signature", "name"]
abbrev P_add_plain : List Str := ["signature", "name"]
theorem sc_add_plain : FnScope N_add_plain P_add_plain (defScope st_add_plain) := ⟨rfl, rfl, rfl, by decide +kernel, rfl, by decide +kernel, by decide +kernel⟩
abbrev st_add_finite : Stmt := top 37
abbrev N_add_finite : List Str := ["signature", "name", "constants", "wide", "constant"]
abbrev P_add_finite : List Str := ["signature", "name", "constants"]
theorem sc_add_finite : FnScope N_add_finite P_add_finite (defScope st_add_finite) := ⟨rfl, rfl, rfl, by decide +kernel, rfl, by decide +kernel, by decide +kernel⟩
abbrev st_part_count : Stmt := top 38
abbrev N_part_count : List Str := ["signature", "name", "row", "_", "sort"]
abbrev P_part_count : List Str := ["signature", "name"]
theorem sc_part_count : FnScope N_part_count P_part_count (defScope st_part_count) := ⟨rfl, rfl, rfl, by decide +kernel, rfl, by decide +kernel, by decide +kernel⟩
abbrev st_add_record : Stmt := top 39
abbrev N_add_record : List Str := ["signature", "name", "maker", "fields", "wide", "part", "field", "_", "sort", "rows"]
abbrev P_add_record : List Str := ["signature", "name", "maker", "fields"]
theorem sc_add_record : FnScope N_add_record P_add_record (defScope st_add_record) := ⟨rfl, rfl, rfl, by decide +kernel, rfl, by decide +kernel, by decide +kernel⟩
abbrev st_has_arrays : Stmt := top 40
abbrev N_has_arrays : List Str := ["signature", "name", "row", "_", "sort"]
abbrev P_has_arrays : List Str := ["signature", "name"]
theorem sc_has_arrays : FnScope N_has_arrays P_has_arrays (defScope st_has_arrays) := ⟨rfl, rfl, rfl, by decide +kernel, rfl, by decide +kernel, by decide +kernel⟩
abbrev st_closed_count : Stmt := top 41
abbrev N_closed_count : List Str := ["signature", "name", "row", "many", "_", "sort"]
abbrev P_closed_count : List Str := ["signature", "name"]
theorem sc_closed_count : FnScope N_closed_count P_closed_count (defScope st_closed_count) := ⟨rfl, rfl, rfl, by decide +kernel, rfl, by decide +kernel, by decide +kernel⟩
abbrev st_add_array : Stmt := top 42
abbrev N_add_array : List Str := ["signature", "name", "index", "value", "sort", "rows"]
abbrev P_add_array : List Str := ["signature", "name", "index", "value"]
theorem sc_add_array : FnScope N_add_array P_add_array (defScope st_add_array) := ⟨rfl, rfl, rfl, by decide +kernel, rfl, by decide +kernel, by decide +kernel⟩
abbrev st_add_function : Stmt := top 43
abbrev N_add_function : List Str := ["signature", "name", "places", "sort", "part"]
abbrev P_add_function : List Str := ["signature", "name", "places", "sort"]
theorem sc_add_function : FnScope N_add_function P_add_function (defScope st_add_function) := ⟨rfl, rfl, rfl, by decide +kernel, rfl, by decide +kernel, by decide +kernel⟩
abbrev st_size_of : Stmt := top 45
abbrev N_size_of : List Str := ["term", "part"]
abbrev P_size_of : List Str := ["term"]
theorem sc_size_of : FnScope N_size_of P_size_of (defScope st_size_of) := ⟨rfl, rfl, rfl, by decide +kernel, rfl, by decide +kernel, by decide +kernel⟩
abbrev st_check_term : Stmt := top 46
abbrev N_check_term : List Str := ["signature", "term", "sorts", "part", "known", "row"]
abbrev P_check_term : List Str := ["signature", "term"]
theorem sc_check_term : FnScope N_check_term P_check_term (defScope st_check_term) := ⟨rfl, rfl, rfl, by decide +kernel, rfl, by decide +kernel, by decide +kernel⟩
abbrev st_sort_of : Stmt := top 47
abbrev N_sort_of : List Str := ["signature", "term"]
abbrev P_sort_of : List Str := ["signature", "term"]
theorem sc_sort_of : FnScope N_sort_of P_sort_of (defScope st_sort_of) := ⟨rfl, rfl, rfl, by decide +kernel, rfl, by decide +kernel, by decide +kernel⟩
abbrev st_term_text : Stmt := top 49
abbrev N_term_text : List Str := ["term", "word", "part"]
abbrev P_term_text : List Str := ["term"]
theorem sc_term_text : FnScope N_term_text P_term_text (defScope st_term_text) := ⟨rfl, rfl, rfl, by decide +kernel, rfl, by decide +kernel, by decide +kernel⟩
abbrev st__read_parts : Stmt := top 50
abbrev N__read_parts : List Str := ["signature", "tokens", "at", "words", "parts", "read"]
abbrev P__read_parts : List Str := ["signature", "tokens", "at", "words"]
theorem sc__read_parts : FnScope N__read_parts P__read_parts (defScope st__read_parts) := ⟨rfl, rfl, rfl, by decide +kernel, rfl, by decide +kernel, by decide +kernel⟩
abbrev st_read_term : Stmt := top 51
abbrev N_read_term : List Str := ["signature", "tokens", "at", "words", "name", "parts", "read", "term", "sort"]
abbrev P_read_term : List Str := ["signature", "tokens", "at", "words"]
theorem sc_read_term : FnScope N_read_term P_read_term (defScope st_read_term) := ⟨rfl, rfl, rfl, by decide +kernel, rfl, by decide +kernel, by decide +kernel⟩
abbrev st_is_term : Stmt := top 53
abbrev N_is_term : List Str := ["signature", "term"]
abbrev P_is_term : List Str := ["signature", "term"]
theorem sc_is_term : FnScope N_is_term P_is_term (defScope st_is_term) := ⟨rfl, rfl, rfl, by decide +kernel, rfl, by decide +kernel, by decide +kernel⟩
abbrev st_parse_term : Stmt := top 52
abbrev N_parse_term : List Str := ["signature", "tokens", "words", "read"]
abbrev P_parse_term : List Str := ["signature", "tokens", "words"]
theorem sc_parse_term : FnScope N_parse_term P_parse_term (defScope st_parse_term) := ⟨rfl, rfl, rfl, by decide +kernel, rfl, by decide +kernel, by decide +kernel⟩
abbrev st_check_equation : Stmt := top 55
abbrev N_check_equation : List Str := ["signature", "one", "other", "sort"]
abbrev P_check_equation : List Str := ["signature", "one", "other"]
theorem sc_check_equation : FnScope N_check_equation P_check_equation (defScope st_check_equation) := ⟨rfl, rfl, rfl, by decide +kernel, rfl, by decide +kernel, by decide +kernel⟩
abbrev st_check_size : Stmt := top 58
abbrev N_check_size : List Str := ["term"]
abbrev P_check_size : List Str := ["term"]
theorem sc_check_size : FnScope N_check_size P_check_size (defScope st_check_size) := ⟨rfl, rfl, rfl, by decide +kernel, rfl, by decide +kernel, by decide +kernel⟩
abbrev st_check_formula : Stmt := top 59
abbrev N_check_formula : List Str := ["signature", "formula", "part"]
abbrev P_check_formula : List Str := ["signature", "formula"]
theorem sc_check_formula : FnScope N_check_formula P_check_formula (defScope st_check_formula) := ⟨rfl, rfl, rfl, by decide +kernel, rfl, by decide +kernel, by decide +kernel⟩
abbrev st__read_equation : Stmt := top 60
abbrev N__read_equation : List Str := ["signature", "tokens", "at", "left", "right", "pair"]
abbrev P__read_equation : List Str := ["signature", "tokens", "at"]
theorem sc__read_equation : FnScope N__read_equation P__read_equation (defScope st__read_equation) := ⟨rfl, rfl, rfl, by decide +kernel, rfl, by decide +kernel, by decide +kernel⟩
abbrev st__read_part : Stmt := top 61
abbrev N__read_part : List Str := ["signature", "tokens", "at", "read"]
abbrev P__read_part : List Str := ["signature", "tokens", "at"]
theorem sc__read_part : FnScope N__read_part P__read_part (defScope st__read_part) := ⟨rfl, rfl, rfl, by decide +kernel, rfl, by decide +kernel, by decide +kernel⟩
abbrev st__read_from : Stmt := top 62
abbrev N__read_from : List Str := ["signature", "tokens", "at", "level", "kind", "mark", "read", "rest"]
abbrev P__read_from : List Str := ["signature", "tokens", "at", "level"]
theorem sc__read_from : FnScope N__read_from P__read_from (defScope st__read_from) := ⟨rfl, rfl, rfl, by decide +kernel, rfl, by decide +kernel, by decide +kernel⟩
abbrev st_parse_formula : Stmt := top 63
abbrev N_parse_formula : List Str := ["signature", "tokens", "many", "read"]
abbrev P_parse_formula : List Str := ["signature", "tokens"]
theorem sc_parse_formula : FnScope N_parse_formula P_parse_formula (defScope st_parse_formula) := ⟨rfl, rfl, rfl, by decide +kernel, rfl, by decide +kernel, by decide +kernel⟩
abbrev st__read_names : Stmt := top 65
abbrev N__read_names : List Str := ["tokens", "mark", "token"]
abbrev P__read_names : List Str := ["tokens", "mark"]
theorem sc__read_names : FnScope N__read_names P__read_names (defScope st__read_names) := ⟨rfl, rfl, rfl, by decide +kernel, rfl, by decide +kernel, by decide +kernel⟩
abbrev st__read_sort : Stmt := top 66
abbrev N__read_sort : List Str := ["signature", "tokens", "names"]
abbrev P__read_sort : List Str := ["signature", "tokens"]
theorem sc__read_sort : FnScope N__read_sort P__read_sort (defScope st__read_sort) := ⟨rfl, rfl, rfl, by decide +kernel, rfl, by decide +kernel, by decide +kernel⟩
abbrev st__read_record : Stmt := top 67
abbrev N__read_record : List Str := ["signature", "tokens", "inner", "fields"]
abbrev P__read_record : List Str := ["signature", "tokens"]
theorem sc__read_record : FnScope N__read_record P__read_record (defScope st__read_record) := ⟨rfl, rfl, rfl, by decide +kernel, rfl, by decide +kernel, by decide +kernel⟩
abbrev st__read_array : Stmt := top 68
abbrev N__read_array : List Str := ["signature", "tokens", "token"]
abbrev P__read_array : List Str := ["signature", "tokens"]
theorem sc__read_array : FnScope N__read_array P__read_array (defScope st__read_array) := ⟨rfl, rfl, rfl, by decide +kernel, rfl, by decide +kernel, by decide +kernel⟩
abbrev st__read_function : Stmt := top 69
abbrev N__read_function : List Str := ["signature", "tokens", "places"]
abbrev P__read_function : List Str := ["signature", "tokens"]
theorem sc__read_function : FnScope N__read_function P__read_function (defScope st__read_function) := ⟨rfl, rfl, rfl, by decide +kernel, rfl, by decide +kernel, by decide +kernel⟩
abbrev st__with_line : Stmt := top 72
abbrev N__with_line : List Str := ["signature", "claims", "tokens", "number", "wide", "formula"]
abbrev P__with_line : List Str := ["signature", "claims", "tokens", "number"]
theorem sc__with_line : FnScope N__with_line P__with_line (defScope st__with_line) := ⟨rfl, rfl, rfl, by decide +kernel, rfl, by decide +kernel, by decide +kernel⟩
abbrev st_parse_problem : Stmt := top 71
abbrev N_parse_problem : List Str := ["text", "signature", "claims", "rows", "at", "tokens", "e"]
abbrev P_parse_problem : List Str := ["text"]
theorem sc_parse_problem : FnScope N_parse_problem P_parse_problem (defScope st_parse_problem) := ⟨rfl, rfl, rfl, by decide +kernel, rfl, by decide +kernel, by decide +kernel⟩
abbrev st__law_strictly : Stmt := top 74
abbrev N__law_strictly : List Str := ["expected", "actual", "place"]
abbrev P__law_strictly : List Str := ["expected", "actual"]
theorem sc__law_strictly : FnScope N__law_strictly P__law_strictly (defScope st__law_strictly) := ⟨rfl, rfl, rfl, by decide +kernel, rfl, by decide +kernel, by decide +kernel⟩
abbrev st__law_cell : Stmt := top 75
abbrev N__law_cell : List Str := ["script", "k"]
abbrev P__law_cell : List Str := ["script", "k"]
theorem sc__law_cell : FnScope N__law_cell P__law_cell (defScope st__law_cell) := ⟨rfl, rfl, rfl, by decide +kernel, rfl, by decide +kernel, by decide +kernel⟩
abbrev st__law_draw : Stmt := top 76
abbrev N__law_draw : List Str := ["script", "k", "sizes", "cell", "drawn", "size", "mixed", "j"]
abbrev P__law_draw : List Str := ["script", "k", "sizes"]
theorem sc__law_draw : FnScope N__law_draw P__law_draw (defScope st__law_draw) := ⟨rfl, rfl, rfl, by decide +kernel, rfl, by decide +kernel, by decide +kernel⟩
abbrev st_law : Stmt := top 77
abbrev N_law : List Str := ["script", "signature", "arrays", "indexes", "values", "at", "digits", "array", "index", "value", "term", "text", "wide", "shown", "wrong"]
abbrev P_law : List Str := ["script"]
theorem sc_law : FnScope N_law P_law (defScope st_law) := ⟨rfl, rfl, rfl, by decide +kernel, rfl, by decide +kernel, by decide +kernel⟩
def d_BINDS : D := (.tuple [(.tuple [(.str "iff"), (.str "<->")]), (.tuple [(.str "then"), (.str "->")]), (.tuple [(.str "or"), (.str "or")]), (.tuple [(.str "and"), (.str "and")])])
def d_CLAIMS : D := (.int 60)
def d_CONSTANTS : D := (.int 6)
def d_DEEP : D := (.int 60)
def d_FIELDS : D := (.int 4)
def d_FIRST : D := (.str "abcdefghijklmnopqrstuvwxyzABCDEFGHIJKLMNOPQRSTUVWXYZ_")
def d_FUNCTIONS : D := (.int 30)
def d_INDEXES : D := (.int 256)
def d_LONG : D := (.int 100)
def d_MARKS : D := (.tuple [(.str "<->"), (.str "->"), (.str "("), (.str ")"), (.str "["), (.str "]"), (.str ","), (.str "="), (.str "#"), (.str "|"), (.str ":"), (.str ".")])
def d_NAME : D := (.int 12)
def d_PLACES : D := (.int 3)
def d_SIGNS : D := (.str "abcdefghijklmnopqrstuvwxyzABCDEFGHIJKLMNOPQRSTUVWXYZ_0123456789")
def d_SIZE : D := (.int 60)
def d_SORTS : D := (.int 10)
def d_WIDE : D := (.int 64)
def d_WORDS : D := (.tuple [(.str "sort"), (.str "record"), (.str "array"), (.str "fun"), (.str "claim"), (.str "not"), (.str "and"), (.str "or"), (.str "let"), (.str "def"), (.str "all"), (.str "some")])
def fs_READERS : List (Str × Str) := [("sort", "_read_sort"), ("record", "_read_record"), ("array", "_read_array"), ("fun", "_read_function")]
def inner : Stmt → Stmt
  | .ClassDef _ _ _ (s :: _) _ _ _ _ _ _ _ => s
  | s => s
abbrev cst_SignError : Stmt := inner (top 2)
theorem xt_SignError {P : Program} {K : PySem.W.Frag} (ht : (P.main.scope.names.lookup ("super" : Str)).isSome = false) (C fI cc cda : Addr) (T : FPX.XCls P K C fI cc cda "SignError.__init__" cst_SignError) (ta : PySem.W.takerIn K C "what" = some none) (tb : PySem.W.takerIn K C "name" = some none) :
    FPX.XT2 P K C fI cc cda "SignError.__init__" cst_SignError "what" "name" "what" :=
  ⟨T, ⟨_, _, _, _, _, _, _, _, _, _, _, _, _, _, rfl, ⟨_, fun _ => rfl⟩, fun _ => rfl, fun _ => rfl⟩, ⟨_, _, rfl⟩, fun _ _ _ _ _ _ _ _ _ => rfl, rfl, rfl, rfl, by decide +kernel, rfl, rfl, rfl, rfl, rfl, by decide, by decide, by decide, by decide, by decide, .inl rfl, ta, tb, ht⟩
def xd_SignError : ExD := ⟨"SignError", "SignError.__init__", cst_SignError, ["what", "name"]⟩
abbrev cst_SortError : Stmt := inner (top 3)
theorem xt_SortError {P : Program} {K : PySem.W.Frag} (ht : (P.main.scope.names.lookup ("super" : Str)).isSome = false) (C fI cc cda : Addr) (T : FPX.XCls P K C fI cc cda "SortError.__init__" cst_SortError) (ta : PySem.W.takerIn K C "what" = some none) (tb : PySem.W.takerIn K C "name" = some none) :
    FPX.XT2 P K C fI cc cda "SortError.__init__" cst_SortError "what" "name" "what" :=
  ⟨T, ⟨_, _, _, _, _, _, _, _, _, _, _, _, _, _, rfl, ⟨_, fun _ => rfl⟩, fun _ => rfl, fun _ => rfl⟩, ⟨_, _, rfl⟩, fun _ _ _ _ _ _ _ _ _ => rfl, rfl, rfl, rfl, by decide +kernel, rfl, rfl, rfl, rfl, rfl, by decide, by decide, by decide, by decide, by decide, .inl rfl, ta, tb, ht⟩
def xd_SortError : ExD := ⟨"SortError", "SortError.__init__", cst_SortError, ["what", "name"]⟩
abbrev cst_TextError : Stmt := inner (top 4)
theorem xt_TextError {P : Program} {K : PySem.W.Frag} (ht : (P.main.scope.names.lookup ("super" : Str)).isSome = false) (C fI cc cda : Addr) (T : FPX.XCls P K C fI cc cda "TextError.__init__" cst_TextError) (ta : PySem.W.takerIn K C "line" = some none) (tb : PySem.W.takerIn K C "what" = some none) :
    FPX.XT2 P K C fI cc cda "TextError.__init__" cst_TextError "line" "what" "what" :=
  ⟨T, ⟨_, _, _, _, _, _, _, _, _, _, _, _, _, _, rfl, ⟨_, fun _ => rfl⟩, fun _ => rfl, fun _ => rfl⟩, ⟨_, _, rfl⟩, fun _ _ _ _ _ _ _ _ _ => rfl, rfl, rfl, rfl, by decide +kernel, rfl, rfl, rfl, rfl, rfl, by decide, by decide, by decide, by decide, by decide, .inr rfl, ta, tb, ht⟩
def xd_TextError : ExD := ⟨"TextError", "TextError.__init__", cst_TextError, ["line", "what"]⟩
abbrev cst_TooMany : Stmt := inner (top 5)
theorem xt_TooMany {P : Program} {K : PySem.W.Frag} (ht : (P.main.scope.names.lookup ("super" : Str)).isSome = false) (C fI cc cda : Addr) (T : FPX.XCls P K C fI cc cda "TooMany.__init__" cst_TooMany) (ta : PySem.W.takerIn K C "what" = some none) :
    FPX.XT1 P K C fI cc cda "TooMany.__init__" cst_TooMany "what" :=
  ⟨T, ⟨_, _, _, _, _, _, _, _, _, _, rfl, ⟨_, fun _ => rfl⟩, fun _ => rfl⟩, ⟨_, _, rfl⟩, fun _ _ _ _ _ _ _ _ => rfl, rfl, rfl, rfl, by decide +kernel, rfl, rfl, rfl, rfl, by decide, by decide, ta, ht⟩
def xd_TooMany : ExD := ⟨"TooMany", "TooMany.__init__", cst_TooMany, ["what"]⟩
def tab : FP.Tab := [("SignError", ["what", "name"]), ("SortError", ["what", "name"]), ("TextError", ["line", "what"]), ("TooMany", ["what"])]
def xds : List ExD := [xd_SignError, xd_SortError, xd_TextError, xd_TooMany]
/-! ### what they compute -/
def sv_is_name : FP.Env → SR := (sSeq (sIf (tOrR (eBin pyEq (eO 0) (eC (.str ""))) (tOrR (eBin pyGt (eUn pyLen (eO 0)) (eC d_NAME)) (eBin pyIn (eO 0) (eC d_WORDS)))) (sRet (eC (.bool false))) sNil) (sRet (eAnd (eOfB (eBin pyIn (eBin pyIx (eO 0) (eC (.int 0))) (eC d_FIRST))) (eGen (allL (gNm 1) tYesR (eOfB (eBin pyIn (eO 1) (eC d_SIGNS)))) (iItems (eV 0)) [1]))))
def f_is_name : List D → R D := fun ds => (sv_is_name (env0 2 ds)).r
def sv_tokens_of : FP.Env → SR := (sSeq (sSetO 1 (eLst aNil)) (sSeq (sSet 2 (eC (.int 0))) (sSeq (sWhile (eBin pyLt (eO 2) (eUn pyLen (eO 0))) (sIf (eBin pyEq (eBin pyIx (eO 0) (eO 2)) (eC (.str " "))) (sAug 2 pyIAdd (eC (.int 1))) (sIf (eBin pyIn (eBin pyIx (eO 0) (eO 2)) (eC d_SIGNS)) (sSeq (sSet 3 (eV 2)) (sSeq (sWhile (tAndR (eBin pyLt (eO 3) (eUn pyLen (eO 0))) (eBin pyIn (eBin pyIx (eO 0) (eO 3)) (eC d_SIGNS))) (sAug 3 pyIAdd (eC (.int 1))) 1000) (sSeq (sApp 1 (eSl (eO 0) (oSome (eV 2)) (oSome (eV 3)))) (sSet 2 (eV 3))))) (sSeq (sSetO 4 (eComp (iItems (eC d_MARKS)) (gNm 5) (eBin pyEq (eSl (eO 0) (oSome (eV 2)) (oSome (eBin pyAdd (eO 2) (eUn pyLen (eO 5))))) (eO 5)) (eV 5) [5])) (sFz 4 (sSeq (sIf (eBin pyEq (eUn pyLen (eO 4)) (eC (.int 0))) (sRet (eC .none)) sNil) (sSeq (sApp 1 (eBin pyIx (eO 4) (eC (.int 0)))) (sAug 2 pyIAdd (eUn pyLen (eBin pyIx (eO 4) (eC (.int 0))))))))))) 1000) (sFz 1 (sRet (eV 1))))))
def f_tokens_of : List D → R D := fun ds => (sv_tokens_of (env0 6 ds)).r
def sv_nesting : FP.Env → SR := (sSeq (sAsg (eTup (aCons (eC (.int 0)) (aCons (eC (.int 0)) aNil))) (gTp 2 (gsCons (gNm 1) (gsCons (gNm 2) gsNil)))) (sSeq (sForE (iItems (eV 0)) (gNm 3) (sSeq (sIf (eBin pyEq (eO 3) (eC (.str "("))) (sSeq (sAug 1 pyIAdd (eC (.int 1))) (sSet 2 (eMx maxF (aCons (eV 2) (aCons (eV 1) aNil))))) sNil) (sIf (eBin pyEq (eO 3) (eC (.str ")"))) (sSet 1 (eMx maxF (aCons (eBin pySub (eO 1) (eC (.int 1))) (aCons (eC (.int 0)) aNil)))) sNil))) (sRet (eV 2))))
def f_nesting : List D → R D := fun ds => (sv_nesting (env0 4 ds)).r
def sv_lines_of : FP.Env → SR := (sSeq (sIf (eBin pyEq (eO 0) (eC (.str ""))) (sRet (eNew (eLst aNil))) sNil) (sSeq (sSet 1 (eNew (eM1 splitF (eO 0) (eC (.str "\n"))))) (sSeq (sIf (eBin pyEq (eBin pyIx (eO 1) (eUn pyNeg (eC (.int 1)))) (eC (.str ""))) (sSet 1 (eSl (eO 1) oNone (oSome (eUn pyNeg (eC (.int 1)))))) sNil) (sRet (eV 1)))))
def f_lines_of : List D → R D := fun ds => (sv_lines_of (env0 2 ds)).r
def sv_empty_signature : FP.Env → SR := (sRet (eTup (aCons (eTup aNil) (aCons (eTup aNil) aNil))))
def f_empty_signature : List D → R D := fun ds => (sv_empty_signature (env0 0 ds)).r
def sv_sort_names : FP.Env → SR := (sRet (eNew (eComp (iItems (eBin pyIx (eO 0) (eC (.int 0)))) (gNm 1) tYesR (eBin pyIx (eO 1) (eC (.int 0))) [1])))
def f_sort_names : List D → R D := fun ds => (sv_sort_names (env0 2 ds)).r
def sv_function_names : FP.Env → SR := (sRet (eNew (eComp (iItems (eBin pyIx (eO 0) (eC (.int 1)))) (gNm 1) (eBin pyNotIn (eC (.str ".")) (eBin pyIx (eO 1) (eC (.int 0)))) (eBin pyIx (eO 1) (eC (.int 0))) [1])))
def f_function_names : List D → R D := fun ds => (sv_function_names (env0 2 ds)).r
def sv_sort_row : FP.Env → SR := (sSeq (sForE (iItems (eBin pyIx (eO 0) (eC (.int 0)))) (gNm 2) (sIf (eBin pyEq (eBin pyIx (eO 2) (eC (.int 0))) (eO 1)) (sRet (eV 2)) sNil)) (sRaise "SignError" ["what", "name"] (aCons (eC (.str "unknown sort")) (aCons (eV 1) aNil))))
def f_sort_row : List D → R D := fun ds => (sv_sort_row (env0 3 ds)).r
def sv_function_row : FP.Env → SR := (sSeq (sForE (iItems (eBin pyIx (eO 0) (eC (.int 1)))) (gNm 2) (sIf (eBin pyEq (eBin pyIx (eO 2) (eC (.int 0))) (eO 1)) (sRet (eV 2)) sNil)) (sRaise "SignError" ["what", "name"] (aCons (eC (.str "unknown function")) (aCons (eV 1) aNil))))
def f_function_row : List D → R D := fun ds => (sv_function_row (env0 3 ds)).r
def sv_kind_of : FP.Env → SR := (sRet (eBin pyIx (eCall (aCons (eV 0) (aCons (eV 1) aNil)) f_sort_row) (eC (.int 1))))
def f_kind_of : List D → R D := fun ds => (sv_kind_of (env0 2 ds)).r
def sv__check_new : FP.Env → SR := (sSeq (sIf (tNotR (eB (eCall (aCons (eV 1) aNil) f_is_name))) (sRaise "SignError" ["what", "name"] (aCons (eC (.str "not a name")) (aCons (eV 1) aNil))) sNil) (sIf (tOrR (eBin pyIn (eO 1) (eCall (aCons (eV 0) aNil) f_sort_names)) (eBin pyIn (eO 1) (eCall (aCons (eV 0) aNil) f_function_names))) (sRaise "SignError" ["what", "name"] (aCons (eC (.str "named twice")) (aCons (eV 1) aNil))) sNil))
def f__check_new : List D → R D := fun ds => (sv__check_new (env0 2 ds)).r
def sv__with_sort : FP.Env → SR := (sSeq (sIf (eBin pyGe (eUn pyLen (eBin pyIx (eO 0) (eC (.int 0)))) (eC d_SORTS)) (sRaise "TooMany" ["what"] (aCons (eC (.str "sorts")) aNil)) sNil) (sSeq (sIf (eBin pyGt (eBin pyAdd (eUn pyLen (eCall (aCons (eV 0) aNil) f_function_names)) (eUn pyLen (eNew (eComp (iItems (eV 2)) (gNm 3) (eBin pyNotIn (eC (.str ".")) (eBin pyIx (eO 3) (eC (.int 0)))) (eV 3) [3])))) (eC d_FUNCTIONS)) (sRaise "TooMany" ["what"] (aCons (eC (.str "functions")) aNil)) sNil) (sRet (eTup (aCons (eBin pyAdd (eBin pyIx (eO 0) (eC (.int 0))) (eTup (aCons (eV 1) aNil))) (aCons (eBin pyAdd (eBin pyIx (eO 0) (eC (.int 1))) (eTupOf (eO 2))) aNil))))))
def f__with_sort : List D → R D := fun ds => (sv__with_sort (env0 4 ds)).r
def sv_add_plain : FP.Env → SR := (sSeq (sDrop (eCall (aCons (eV 0) (aCons (eV 1) aNil)) f__check_new)) (sRet (eCall (aCons (eV 0) (aCons (eTup (aCons (eV 1) (aCons (eC (.str "plain")) (aCons (eTup aNil) aNil)))) (aCons (eNew (eLst aNil)) aNil))) f__with_sort)))
def f_add_plain : List D → R D := fun ds => (sv_add_plain (env0 2 ds)).r
def sv_add_finite : FP.Env → SR := (sSeq (sDrop (eCall (aCons (eV 0) (aCons (eV 1) aNil)) f__check_new)) (sSeq (sIf (tOrR (eBin pyLt (eUn pyLen (eO 2)) (eC (.int 1))) (eBin pyGt (eUn pyLen (eO 2)) (eC d_CONSTANTS))) (sRaise "SignError" ["what", "name"] (aCons (eC (.str "number of constants")) (aCons (eV 1) aNil))) sNil) (sSeq (sSet 3 (eTup (aCons (eBin pyAdd (eBin pyIx (eO 0) (eC (.int 0))) (eTup (aCons (eTup (aCons (eV 1) (aCons (eC (.str "plain")) (aCons (eTup aNil) aNil)))) aNil))) (aCons (eBin pyIx (eO 0) (eC (.int 1))) aNil)))) (sSeq (sForE (iItems (eV 2)) (gNm 4) (sSeq (sDrop (eCall (aCons (eV 3) (aCons (eV 4) aNil)) f__check_new)) (sSet 3 (eTup (aCons (eBin pyIx (eO 3) (eC (.int 0))) (aCons (eBin pyAdd (eBin pyIx (eO 3) (eC (.int 1))) (eTup (aCons (eTup (aCons (eV 4) (aCons (eTup aNil) (aCons (eV 1) aNil)))) aNil))) aNil)))))) (sRet (eCall (aCons (eV 0) (aCons (eTup (aCons (eV 1) (aCons (eC (.str "finite")) (aCons (eTupOf (eO 2)) aNil)))) (aCons (eNew (eComp (iItems (eV 2)) (gNm 4) tYesR (eTup (aCons (eV 4) (aCons (eTup aNil) (aCons (eV 1) aNil)))) [4])) aNil))) f__with_sort))))))
def f_add_finite : List D → R D := fun ds => (sv_add_finite (env0 5 ds)).r
def sv_part_count (f_part_count : List D → R D) : FP.Env → SR := (sSeq (sSet 2 (eCall (aCons (eV 0) (aCons (eV 1) aNil)) f_sort_row)) (sRet (eIf (eBin pyEq (eBin pyIx (eO 2) (eC (.int 1))) (eC (.str "record"))) (eSum (gTp 2 (gsCons (gNm 3) (gsCons (gNm 4) gsNil))) tYesR (eCall (aCons (eV 0) (aCons (eV 4) aNil)) f_part_count) (iItems (eBin pyIx (eBin pyIx (eO 2) (eC (.int 2))) (eC (.int 1)))) [3, 4]) (eC (.int 1)))))
def fr_part_count : Nat → List D → R D
  | 0 => fun _ => .no
  | n + 1 => fun ds => (sv_part_count (fr_part_count n) (env0 5 ds)).r
def nrec_part_count : Nat := 30
def f_part_count : List D → R D := fr_part_count nrec_part_count
def sv_add_record : FP.Env → SR := (sSeq (sDrop (eCall (aCons (eV 0) (aCons (eV 1) aNil)) f__check_new)) (sSeq (sIf (tOrR (eBin pyLt (eUn pyLen (eO 3)) (eC (.int 1))) (eBin pyGt (eUn pyLen (eO 3)) (eC d_FIELDS))) (sRaise "SignError" ["what", "name"] (aCons (eC (.str "number of fields")) (aCons (eV 1) aNil))) sNil) (sSeq (sSet 4 (eTup (aCons (eBin pyAdd (eBin pyIx (eO 0) (eC (.int 0))) (eTup (aCons (eTup (aCons (eV 1) (aCons (eC (.str "plain")) (aCons (eTup aNil) aNil)))) aNil))) (aCons (eBin pyIx (eO 0) (eC (.int 1))) aNil)))) (sSeq (sForE (iItems (eBin pyAdd (eNew (eLst (aCons (eV 2) aNil))) (eNew (eComp (iItems (eV 3)) (gTp 2 (gsCons (gNm 6) (gsCons (gNm 7) gsNil))) tYesR (eV 6) [6, 7])))) (gNm 5) (sSeq (sDrop (eCall (aCons (eV 4) (aCons (eV 5) aNil)) f__check_new)) (sSet 4 (eTup (aCons (eBin pyIx (eO 4) (eC (.int 0))) (aCons (eBin pyAdd (eBin pyIx (eO 4) (eC (.int 1))) (eTup (aCons (eTup (aCons (eV 5) (aCons (eTup aNil) (aCons (eV 1) aNil)))) aNil))) aNil)))))) (sSeq (sForE (iItems (eV 3)) (gTp 2 (gsCons (gNm 7) (gsCons (gNm 8) gsNil))) (sDrop (eCall (aCons (eV 0) (aCons (eV 8) aNil)) f_sort_row))) (sSeq (sIf (eBin pyGt (eSum (gTp 2 (gsCons (gNm 7) (gsCons (gNm 8) gsNil))) tYesR (eCall (aCons (eV 0) (aCons (eV 8) aNil)) f_part_count) (iItems (eV 3)) [7, 8]) (eC d_WIDE)) (sRaise "SignError" ["what", "name"] (aCons (eC (.str "too wide")) (aCons (eV 1) aNil))) sNil) (sSeq (sSet 9 (eBin pyAdd (eNew (eLst (aCons (eTup (aCons (eV 2) (aCons (eTupOf (eNew (eComp (iItems (eV 3)) (gTp 2 (gsCons (gNm 7) (gsCons (gNm 8) gsNil))) tYesR (eV 8) [7, 8]))) (aCons (eV 1) aNil)))) aNil))) (eNew (eComp (iItems (eV 3)) (gTp 2 (gsCons (gNm 6) (gsCons (gNm 8) gsNil))) tYesR (eTup (aCons (eV 6) (aCons (eTup (aCons (eV 1) aNil)) (aCons (eV 8) aNil)))) [6, 8])))) (sRet (eCall (aCons (eV 0) (aCons (eTup (aCons (eV 1) (aCons (eC (.str "record")) (aCons (eTup (aCons (eV 2) (aCons (eTupOf (eNew (eComp (iItems (eV 3)) (gNm 6) tYesR (eTupOf (eO 6)) [6]))) aNil))) aNil)))) (aCons (eV 9) aNil))) f__with_sort)))))))))
def f_add_record : List D → R D := fun ds => (sv_add_record (env0 10 ds)).r
def sv_has_arrays (f_has_arrays : List D → R D) : FP.Env → SR := (sSeq (sSet 2 (eCall (aCons (eV 0) (aCons (eV 1) aNil)) f_sort_row)) (sSeq (sIf (eBin pyEq (eBin pyIx (eO 2) (eC (.int 1))) (eC (.str "array"))) (sRet (eC (.bool true))) sNil) (sRet (eAnd (eOfB (eBin pyEq (eBin pyIx (eO 2) (eC (.int 1))) (eC (.str "record")))) (eGen (anyL (gTp 2 (gsCons (gNm 3) (gsCons (gNm 4) gsNil))) tYesR (eCall (aCons (eV 0) (aCons (eV 4) aNil)) f_has_arrays)) (iItems (eBin pyIx (eBin pyIx (eO 2) (eC (.int 2))) (eC (.int 1)))) [3, 4])))))
def fr_has_arrays : Nat → List D → R D
  | 0 => fun _ => .no
  | n + 1 => fun ds => (sv_has_arrays (fr_has_arrays n) (env0 5 ds)).r
def nrec_has_arrays : Nat := 30
def f_has_arrays : List D → R D := fr_has_arrays nrec_has_arrays
def sv_closed_count (f_closed_count : List D → R D) : FP.Env → SR := (sSeq (sSet 2 (eCall (aCons (eV 0) (aCons (eV 1) aNil)) f_sort_row)) (sSeq (sIf (eBin pyEq (eBin pyIx (eO 2) (eC (.int 1))) (eC (.str "finite"))) (sRet (eUn pyLen (eBin pyIx (eO 2) (eC (.int 2))))) sNil) (sSeq (sIf (eBin pyNe (eBin pyIx (eO 2) (eC (.int 1))) (eC (.str "record"))) (sRet (eC (.int 0))) sNil) (sSeq (sSet 3 (eC (.int 1))) (sSeq (sForE (iItems (eBin pyIx (eBin pyIx (eO 2) (eC (.int 2))) (eC (.int 1)))) (gTp 2 (gsCons (gNm 4) (gsCons (gNm 5) gsNil))) (sSet 3 (eBin pyMul (eO 3) (eCall (aCons (eV 0) (aCons (eV 5) aNil)) f_closed_count)))) (sRet (eV 3)))))))
def fr_closed_count : Nat → List D → R D
  | 0 => fun _ => .no
  | n + 1 => fun ds => (sv_closed_count (fr_closed_count n) (env0 6 ds)).r
def nrec_closed_count : Nat := 30
def f_closed_count : List D → R D := fr_closed_count nrec_closed_count
def sv_add_array : FP.Env → SR := (sSeq (sDrop (eCall (aCons (eV 0) (aCons (eV 1) aNil)) f__check_new)) (sSeq (sForE (iItems (eTup (aCons (eV 2) (aCons (eV 3) aNil)))) (gNm 4) (sIf (eB (eCall (aCons (eV 0) (aCons (eV 4) aNil)) f_has_arrays)) (sRaise "SignError" ["what", "name"] (aCons (eC (.str "array in an array")) (aCons (eV 1) aNil))) sNil)) (sSeq (sIf (tAndR (eBin pyNe (eCall (aCons (eV 0) (aCons (eV 2) aNil)) f_kind_of) (eC (.str "plain"))) (tNotR (eChn pyLt pyLe (eC (.int 0)) (eCall (aCons (eV 0) (aCons (eV 2) aNil)) f_closed_count) (eC d_INDEXES)))) (sRaise "SignError" ["what", "name"] (aCons (eC (.str "index sort")) (aCons (eV 1) aNil))) sNil) (sSeq (sSetO 5 (eLst (aCons (eTup (aCons (eBin pyAdd (eO 1) (eC (.str ".get"))) (aCons (eTup (aCons (eV 1) (aCons (eV 2) aNil))) (aCons (eV 3) aNil)))) (aCons (eTup (aCons (eBin pyAdd (eO 1) (eC (.str ".put"))) (aCons (eTup (aCons (eV 1) (aCons (eV 2) (aCons (eV 3) aNil)))) (aCons (eV 1) aNil)))) aNil)))) (sSeq (sApp 5 (eTup (aCons (eBin pyAdd (eO 1) (eC (.str ".apart"))) (aCons (eTup (aCons (eV 1) (aCons (eV 1) aNil))) (aCons (eV 2) aNil))))) (sFz 5 (sRet (eCall (aCons (eV 0) (aCons (eTup (aCons (eV 1) (aCons (eC (.str "array")) (aCons (eTup (aCons (eV 2) (aCons (eV 3) aNil))) aNil)))) (aCons (eV 5) aNil))) f__with_sort))))))))
def f_add_array : List D → R D := fun ds => (sv_add_array (env0 6 ds)).r
def sv_add_function : FP.Env → SR := (sSeq (sDrop (eCall (aCons (eV 0) (aCons (eV 1) aNil)) f__check_new)) (sSeq (sIf (eBin pyGt (eUn pyLen (eO 2)) (eC d_PLACES)) (sRaise "SignError" ["what", "name"] (aCons (eC (.str "number of places")) (aCons (eV 1) aNil))) sNil) (sSeq (sForE (iItems (eBin pyAdd (eNew (eLstOf (eO 2))) (eNew (eLst (aCons (eV 3) aNil))))) (gNm 4) (sDrop (eCall (aCons (eV 0) (aCons (eV 4) aNil)) f_sort_row))) (sSeq (sIf (eBin pyGe (eUn pyLen (eCall (aCons (eV 0) aNil) f_function_names)) (eC d_FUNCTIONS)) (sRaise "TooMany" ["what"] (aCons (eC (.str "functions")) aNil)) sNil) (sRet (eTup (aCons (eBin pyIx (eO 0) (eC (.int 0))) (aCons (eBin pyAdd (eBin pyIx (eO 0) (eC (.int 1))) (eTup (aCons (eTup (aCons (eV 1) (aCons (eTupOf (eO 2)) (aCons (eV 3) aNil)))) aNil))) aNil))))))))
def f_add_function : List D → R D := fun ds => (sv_add_function (env0 5 ds)).r
def sv_size_of (f_size_of : List D → R D) : FP.Env → SR := (sRet (eBin pyAdd (eC (.int 1)) (eSum (gNm 1) tYesR (eCall (aCons (eV 1) aNil) f_size_of) (iItems (eSl (eO 0) (oSome (eC (.int 1))) oNone)) [1])))
def fr_size_of : Nat → List D → R D
  | 0 => fun _ => .no
  | n + 1 => fun ds => (sv_size_of (fr_size_of n) (env0 2 ds)).r
def nrec_size_of : Nat := 30
def f_size_of : List D → R D := fr_size_of nrec_size_of
def sv_check_term (f_check_term : List D → R D) : FP.Env → SR := (sSeq (sSetO 2 (eComp (iItems (eSl (eO 1) (oSome (eC (.int 1))) oNone)) (gNm 3) tYesR (eCall (aCons (eV 0) (aCons (eV 3) aNil)) f_check_term) [3])) (sFz 2 (sSeq (sSetO 4 (eComp (iItems (eBin pyIx (eO 0) (eC (.int 1)))) (gNm 5) (eBin pyEq (eBin pyIx (eO 5) (eC (.int 0))) (eBin pyIx (eO 1) (eC (.int 0)))) (eV 5) [5])) (sFz 4 (sSeq (sIf (eBin pyEq (eUn pyLen (eO 4)) (eC (.int 0))) (sRaise "SortError" ["what", "name"] (aCons (eC (.str "unknown function")) (aCons (eBin pyIx (eO 1) (eC (.int 0))) aNil))) sNil) (sSeq (sIf (eBin pyNe (eUn pyLen (eO 2)) (eUn pyLen (eBin pyIx (eBin pyIx (eO 4) (eC (.int 0))) (eC (.int 1))))) (sRaise "SortError" ["what", "name"] (aCons (eC (.str "number of places")) (aCons (eBin pyIx (eO 1) (eC (.int 0))) aNil))) sNil) (sSeq (sIf (eBin pyNe (eTupOf (eO 2)) (eBin pyIx (eBin pyIx (eO 4) (eC (.int 0))) (eC (.int 1)))) (sRaise "SortError" ["what", "name"] (aCons (eC (.str "sort of a place")) (aCons (eBin pyIx (eO 1) (eC (.int 0))) aNil))) sNil) (sRet (eBin pyIx (eBin pyIx (eO 4) (eC (.int 0))) (eC (.int 2)))))))))))
def fr_check_term : Nat → List D → R D
  | 0 => fun _ => .no
  | n + 1 => fun ds => (sv_check_term (fr_check_term n) (env0 6 ds)).r
def nrec_check_term : Nat := 30
def f_check_term : List D → R D := fr_check_term nrec_check_term
def sv_sort_of : FP.Env → SR := (sRet (eBin pyIx (eCall (aCons (eV 0) (aCons (eBin pyIx (eO 1) (eC (.int 0))) aNil)) f_function_row) (eC (.int 2))))
def f_sort_of : List D → R D := fun ds => (sv_sort_of (env0 2 ds)).r
def sv_term_text (f_term_text : List D → R D) : FP.Env → SR := (sSeq (sIf (eBin pyIn (eC (.str ".")) (eBin pyIx (eO 0) (eC (.int 0)))) (sSeq (sSet 1 (eBin pyIx (eNew (eM1 splitF (eBin pyIx (eO 0) (eC (.int 0))) (eC (.str ".")))) (eC (.int 1)))) (sRet (eBin pyAdd (eBin pyAdd (eBin pyAdd (eBin pyAdd (eBin pyAdd (eCall (aCons (eBin pyIx (eO 0) (eC (.int 1))) aNil) f_term_text) (eC (.str "."))) (eO 1)) (eC (.str "("))) (eM1 joinF (eC (.str ", ")) (eNew (eComp (iItems (eSl (eO 0) (oSome (eC (.int 2))) oNone)) (gNm 2) tYesR (eCall (aCons (eV 2) aNil) f_term_text) [2])))) (eC (.str ")"))))) sNil) (sSeq (sIf (eBin pyEq (eUn pyLen (eO 0)) (eC (.int 1))) (sRet (eBin pyIx (eO 0) (eC (.int 0)))) sNil) (sRet (eBin pyAdd (eBin pyAdd (eBin pyAdd (eBin pyIx (eO 0) (eC (.int 0))) (eC (.str "("))) (eM1 joinF (eC (.str ", ")) (eNew (eComp (iItems (eSl (eO 0) (oSome (eC (.int 1))) oNone)) (gNm 2) tYesR (eCall (aCons (eV 2) aNil) f_term_text) [2])))) (eC (.str ")"))))))
def fr_term_text : Nat → List D → R D
  | 0 => fun _ => .no
  | n + 1 => fun ds => (sv_term_text (fr_term_text n) (env0 3 ds)).r
def nrec_term_text : Nat := 30
def f_term_text : List D → R D := fr_term_text nrec_term_text
def sv__read_parts (f__read_parts f_read_term : List D → R D) : FP.Env → SR := (sSeq (sSetO 4 (eLst aNil)) (sSeq (sIf (tOrR (eBin pyGe (eO 2) (eUn pyLen (eO 1))) (eBin pyNe (eBin pyIx (eO 1) (eO 2)) (eC (.str "(")))) (sRet (eC .none)) sNil) (sSeq (sWhile (eBin pyNe (eBin pyIx (eO 1) (eO 2)) (eC (.str ")"))) (sSeq (sSet 5 (eCall (aCons (eV 0) (aCons (eV 1) (aCons (eBin pyAdd (eO 2) (eC (.int 1))) (aCons (eV 3) aNil)))) f_read_term)) (sSeq (sIf (tOrR (tIsN (eO 5)) (tOrR (eBin pyGe (eBin pyIx (eO 5) (eC (.int 1))) (eUn pyLen (eO 1))) (eBin pyNotIn (eBin pyIx (eO 1) (eBin pyIx (eO 5) (eC (.int 1)))) (eTup (aCons (eC (.str ",")) (aCons (eC (.str ")")) aNil)))))) (sRet (eC .none)) sNil) (sSeq (sApp 4 (eBin pyIx (eO 5) (eC (.int 0)))) (sSet 2 (eBin pyIx (eO 5) (eC (.int 1))))))) 1000) (sFz 4 (sRet (eTup (aCons (eV 4) (aCons (eBin pyAdd (eO 2) (eC (.int 1))) aNil))))))))
def sv_read_term (f__read_parts f_read_term : List D → R D) : FP.Env → SR := (sSeq (sIf (tOrR (eBin pyGe (eO 2) (eUn pyLen (eO 1))) (tOrR (tNotR (eB (eCall (aCons (eBin pyIx (eO 1) (eO 2)) aNil) f_is_name))) (eBin pyNotIn (eBin pyIx (eO 1) (eO 2)) (eCall (aCons (eV 0) aNil) f_function_names)))) (sRet (eC .none)) sNil) (sSeq (sPar 4 2 (mCons (eBin pyIx (eO 1) (eO 2)) (mCons (eBin pyAdd (eO 2) (eC (.int 1))) mNil))) (sSeq (sSet 5 (eNew (eLst aNil))) (sSeq (sIf (eBin pyGt (eUn pyLen (eBin pyIx (eCall (aCons (eV 0) (aCons (eV 4) aNil)) f_function_row) (eC (.int 1)))) (eC (.int 0))) (sSeq (sSet 6 (eCall (aCons (eV 0) (aCons (eV 1) (aCons (eV 2) (aCons (eV 3) aNil)))) f__read_parts)) (sSeq (sIf (tIsN (eO 6)) (sRet (eC .none)) sNil) (sAsg (eV 6) (gTp 2 (gsCons (gNm 5) (gsCons (gNm 2) gsNil)))))) sNil) (sSeq (sSet 7 (eBin pyAdd (eTup (aCons (eV 4) aNil)) (eTupOf (eO 5)))) (sSeq (sWhile (tAndR (eBin pyLt (eBin pyAdd (eO 2) (eC (.int 1))) (eUn pyLen (eO 1))) (eBin pyEq (eBin pyIx (eO 1) (eO 2)) (eC (.str ".")))) (sSeq (sSet 8 (eCall (aCons (eV 0) (aCons (eV 7) aNil)) f_sort_of)) (sSeq (sIf (tOrR (eBin pyNe (eCall (aCons (eV 0) (aCons (eV 8) aNil)) f_kind_of) (eC (.str "array"))) (eBin pyNotIn (eBin pyIx (eO 1) (eBin pyAdd (eO 2) (eC (.int 1)))) (eO 3))) (sRet (eC .none)) sNil) (sSeq (sSet 6 (eCall (aCons (eV 0) (aCons (eV 1) (aCons (eBin pyAdd (eO 2) (eC (.int 2))) (aCons (eV 3) aNil)))) f__read_parts)) (sSeq (sIf (tIsN (eO 6)) (sRet (eC .none)) sNil) (sPar 7 2 (mCons (eBin pyAdd (eTup (aCons (eBin pyAdd (eBin pyAdd (eO 8) (eC (.str "."))) (eBin pyIx (eO 1) (eBin pyAdd (eO 2) (eC (.int 1))))) (aCons (eV 7) aNil))) (eTupOf (eBin pyIx (eO 6) (eC (.int 0))))) (mCons (eBin pyIx (eO 6) (eC (.int 1))) mNil))))))) 1000) (sRet (eTup (aCons (eV 7) (aCons (eV 2) aNil))))))))))
def fg__read_parts : Nat → (List D → R D) × (List D → R D)
  | 0 => (fun _ => .no, fun _ => .no)
  | n + 1 => (fun ds => (sv__read_parts (fg__read_parts n).1 (fg__read_parts n).2 (env0 6 ds)).r, fun ds => (sv_read_term (fg__read_parts n).1 (fg__read_parts n).2 (env0 9 ds)).r)
def fr__read_parts (n : Nat) : List D → R D := (fg__read_parts n).1
def fr_read_term (n : Nat) : List D → R D := (fg__read_parts n).2
def nrec__read_parts : Nat := 30
def f__read_parts : List D → R D := fr__read_parts nrec__read_parts
def f_read_term : List D → R D := fr_read_term nrec__read_parts
def sv_is_term : FP.Env → SR := (sSeq (sTry tab (sDrop (eCall (aCons (eV 0) (aCons (eV 1) aNil)) f_check_term)) ((["SortError"], none, (sRet (eC (.bool false)))) :: [])) (sRet (eC (.bool true))))
def f_is_term : List D → R D := fun ds => (sv_is_term (env0 2 ds)).r
def sv_parse_term : FP.Env → SR := (sSeq (sSet 3 (eCall (aCons (eV 0) (aCons (eV 1) (aCons (eC (.int 0)) (aCons (eV 2) aNil)))) f_read_term)) (sSeq (sIf (tOrR (tIsN (eO 3)) (eBin pyNe (eBin pyIx (eO 3) (eC (.int 1))) (eUn pyLen (eO 1)))) (sRet (eC .none)) sNil) (sRet (eIf (eB (eCall (aCons (eV 0) (aCons (eBin pyIx (eO 3) (eC (.int 0))) aNil)) f_is_term)) (eBin pyIx (eO 3) (eC (.int 0))) (eC .none)))))
def f_parse_term : List D → R D := fun ds => (sv_parse_term (env0 4 (ds ++ [(.tuple [(.str "get"), (.str "put")])]))).r
def sv_check_equation : FP.Env → SR := (sSeq (sSet 3 (eCall (aCons (eV 0) (aCons (eV 1) aNil)) f_check_term)) (sSeq (sIf (eBin pyNe (eCall (aCons (eV 0) (aCons (eV 2) aNil)) f_check_term) (eO 3)) (sRaise "SortError" ["what", "name"] (aCons (eC (.str "unlike sorts")) (aCons (eBin pyIx (eO 2) (eC (.int 0))) aNil))) sNil) (sRet (eV 3))))
def f_check_equation : List D → R D := fun ds => (sv_check_equation (env0 4 ds)).r
def sv_check_size : FP.Env → SR := (sIf (eBin pyGt (eCall (aCons (eV 0) aNil) f_size_of) (eC d_SIZE)) (sRaise "SortError" ["what", "name"] (aCons (eC (.str "too great")) (aCons (eBin pyIx (eO 0) (eC (.int 0))) aNil))) sNil)
def f_check_size : List D → R D := fun ds => (sv_check_size (env0 1 ds)).r
def sv_check_formula (f_check_formula : List D → R D) : FP.Env → SR := (sIf (eBin pyEq (eBin pyIx (eO 1) (eC (.int 0))) (eC (.str "is"))) (sSeq (sDrop (eCall (aCons (eV 0) (aCons (eBin pyIx (eO 1) (eC (.int 1))) (aCons (eBin pyIx (eO 1) (eC (.int 2))) aNil))) f_check_equation)) (sSeq (sDrop (eCall (aCons (eBin pyIx (eO 1) (eC (.int 1))) aNil) f_check_size)) (sDrop (eCall (aCons (eBin pyIx (eO 1) (eC (.int 2))) aNil) f_check_size)))) (sForE (iItems (eSl (eO 1) (oSome (eC (.int 1))) oNone)) (gNm 2) (sDrop (eCall (aCons (eV 0) (aCons (eV 2) aNil)) f_check_formula))))
def fr_check_formula : Nat → List D → R D
  | 0 => fun _ => .no
  | n + 1 => fun ds => (sv_check_formula (fr_check_formula n) (env0 3 ds)).r
def nrec_check_formula : Nat := 30
def f_check_formula : List D → R D := fr_check_formula nrec_check_formula
def sv__read_equation : FP.Env → SR := (sSeq (sSet 3 (eCall (aCons (eV 0) (aCons (eV 1) (aCons (eV 2) (aCons (eTup (aCons (eC (.str "get")) (aCons (eC (.str "put")) aNil))) aNil)))) f_read_term)) (sSeq (sIf (tOrR (tIsN (eO 3)) (tOrR (eBin pyGe (eBin pyIx (eO 3) (eC (.int 1))) (eUn pyLen (eO 1))) (eBin pyNotIn (eBin pyIx (eO 1) (eBin pyIx (eO 3) (eC (.int 1)))) (eTup (aCons (eC (.str "=")) (aCons (eC (.str "#")) aNil)))))) (sRet (eC .none)) sNil) (sSeq (sSet 4 (eCall (aCons (eV 0) (aCons (eV 1) (aCons (eBin pyAdd (eBin pyIx (eO 3) (eC (.int 1))) (eC (.int 1))) (aCons (eTup (aCons (eC (.str "get")) (aCons (eC (.str "put")) aNil))) aNil)))) f_read_term)) (sSeq (sIf (tIsN (eO 4)) (sRet (eC .none)) sNil) (sSeq (sSet 5 (eTup (aCons (eC (.str "is")) (aCons (eBin pyIx (eO 3) (eC (.int 0))) (aCons (eBin pyIx (eO 4) (eC (.int 0))) aNil))))) (sRet (eTup (aCons (eIf (eBin pyEq (eBin pyIx (eO 1) (eBin pyIx (eO 3) (eC (.int 1)))) (eC (.str "="))) (eV 5) (eTup (aCons (eC (.str "not")) (aCons (eV 5) aNil)))) (aCons (eBin pyIx (eO 4) (eC (.int 1))) aNil)))))))))
def f__read_equation : List D → R D := fun ds => (sv__read_equation (env0 6 ds)).r
def sv__read_part (f__read_part f__read_from : List D → R D) : FP.Env → SR := (sSeq (sIf (tAndR (eBin pyLt (eO 2) (eUn pyLen (eO 1))) (eBin pyEq (eBin pyIx (eO 1) (eO 2)) (eC (.str "not")))) (sSeq (sSet 3 (eCall (aCons (eV 0) (aCons (eV 1) (aCons (eBin pyAdd (eO 2) (eC (.int 1))) aNil))) f__read_part)) (sRet (eIf (tIsN (eO 3)) (eC .none) (eTup (aCons (eTup (aCons (eC (.str "not")) (aCons (eBin pyIx (eO 3) (eC (.int 0))) aNil))) (aCons (eBin pyIx (eO 3) (eC (.int 1))) aNil)))))) sNil) (sSeq (sIf (tAndR (eBin pyLt (eO 2) (eUn pyLen (eO 1))) (eBin pyEq (eBin pyIx (eO 1) (eO 2)) (eC (.str "(")))) (sSeq (sSet 3 (eCall (aCons (eV 0) (aCons (eV 1) (aCons (eBin pyAdd (eO 2) (eC (.int 1))) (aCons (eC (.int 0)) aNil)))) f__read_from)) (sSeq (sIf (tOrR (tIsN (eO 3)) (tOrR (eBin pyGe (eBin pyIx (eO 3) (eC (.int 1))) (eUn pyLen (eO 1))) (eBin pyNe (eBin pyIx (eO 1) (eBin pyIx (eO 3) (eC (.int 1)))) (eC (.str ")"))))) (sRet (eC .none)) sNil) (sRet (eTup (aCons (eBin pyIx (eO 3) (eC (.int 0))) (aCons (eBin pyAdd (eBin pyIx (eO 3) (eC (.int 1))) (eC (.int 1))) aNil)))))) sNil) (sRet (eCall (aCons (eV 0) (aCons (eV 1) (aCons (eV 2) aNil))) f__read_equation))))
def sv__read_from (f__read_part f__read_from : List D → R D) : FP.Env → SR := (sSeq (sIf (eBin pyEq (eO 3) (eUn pyLen (eC d_BINDS))) (sRet (eCall (aCons (eV 0) (aCons (eV 1) (aCons (eV 2) aNil))) f__read_part)) sNil) (sSeq (sAsg (eBin pyIx (eC d_BINDS) (eO 3)) (gTp 2 (gsCons (gNm 4) (gsCons (gNm 5) gsNil)))) (sSeq (sSet 6 (eCall (aCons (eV 0) (aCons (eV 1) (aCons (eV 2) (aCons (eBin pyAdd (eO 3) (eC (.int 1))) aNil)))) f__read_from)) (sSeq (sIf (tOrR (tIsN (eO 6)) (tOrR (eBin pyGe (eBin pyIx (eO 6) (eC (.int 1))) (eUn pyLen (eO 1))) (eBin pyNe (eBin pyIx (eO 1) (eBin pyIx (eO 6) (eC (.int 1)))) (eO 5)))) (sRet (eV 6)) sNil) (sSeq (sSet 7 (eCall (aCons (eV 0) (aCons (eV 1) (aCons (eBin pyAdd (eBin pyIx (eO 6) (eC (.int 1))) (eC (.int 1))) (aCons (eV 3) aNil)))) f__read_from)) (sRet (eIf (tIsN (eO 7)) (eC .none) (eTup (aCons (eTup (aCons (eV 4) (aCons (eBin pyIx (eO 6) (eC (.int 0))) (aCons (eBin pyIx (eO 7) (eC (.int 0))) aNil)))) (aCons (eBin pyIx (eO 7) (eC (.int 1))) aNil))))))))))
def fg__read_part : Nat → (List D → R D) × (List D → R D)
  | 0 => (fun _ => .no, fun _ => .no)
  | n + 1 => (fun ds => (sv__read_part (fg__read_part n).1 (fg__read_part n).2 (env0 4 ds)).r, fun ds => (sv__read_from (fg__read_part n).1 (fg__read_part n).2 (env0 8 ds)).r)
def fr__read_part (n : Nat) : List D → R D := (fg__read_part n).1
def fr__read_from (n : Nat) : List D → R D := (fg__read_part n).2
def nrec__read_part : Nat := 30
def f__read_part : List D → R D := fr__read_part nrec__read_part
def f__read_from : List D → R D := fr__read_from nrec__read_part
def sv_parse_formula : FP.Env → SR := (sSeq (sSet 2 (eBin pyAdd (eL1 cntF (eO 1) (eC (.str "="))) (eL1 cntF (eO 1) (eC (.str "#"))))) (sSeq (sIf (tOrR (eBin pyGt (eCall (aCons (eV 1) aNil) f_nesting) (eC d_DEEP)) (tOrR (eBin pyGt (eL1 cntF (eO 1) (eC (.str "not"))) (eC d_DEEP)) (eBin pyGt (eO 2) (eC d_LONG)))) (sRet (eC .none)) sNil) (sSeq (sSet 3 (eCall (aCons (eV 0) (aCons (eV 1) (aCons (eC (.int 0)) (aCons (eC (.int 0)) aNil)))) f__read_from)) (sRet (eIf (tOrR (tIsN (eO 3)) (eBin pyNe (eBin pyIx (eO 3) (eC (.int 1))) (eUn pyLen (eO 1)))) (eC .none) (eBin pyIx (eO 3) (eC (.int 0))))))))
def f_parse_formula : List D → R D := fun ds => (sv_parse_formula (env0 4 ds)).r
def sv__read_names : FP.Env → SR := (sSeq (sIf (tOrR (eBin pyEq (eBin pyMod (eUn pyLen (eO 0)) (eC (.int 2))) (eC (.int 0))) (eB (eGen (anyL (gNm 2) tYesR (eOfB (eBin pyNe (eO 2) (eO 1)))) (iItems (eNew (eSlS (eO 0) (oSome (eC (.int 1))) oNone (oSome (eC (.int 2)))))) [2]))) (sRet (eC .none)) sNil) (sRet (eIf (eB (eGen (allL (gNm 2) tYesR (eCall (aCons (eV 2) aNil) f_is_name)) (iItems (eNew (eSlS (eO 0) (oSome (eC (.int 0))) oNone (oSome (eC (.int 2)))))) [2])) (eNew (eLstOf (eNew (eSlS (eO 0) (oSome (eC (.int 0))) oNone (oSome (eC (.int 2))))))) (eC .none))))
def f__read_names : List D → R D := fun ds => (sv__read_names (env0 3 ds)).r
def sv__read_sort : FP.Env → SR := (sSeq (sIf (tAndR (eBin pyEq (eUn pyLen (eO 1)) (eC (.int 2))) (eB (eCall (aCons (eBin pyIx (eO 1) (eC (.int 1))) aNil) f_is_name))) (sRet (eCall (aCons (eV 0) (aCons (eBin pyIx (eO 1) (eC (.int 1))) aNil)) f_add_plain)) sNil) (sSeq (sIf (tAndR (eBin pyGt (eUn pyLen (eO 1)) (eC (.int 3))) (tAndR (eB (eCall (aCons (eBin pyIx (eO 1) (eC (.int 1))) aNil) f_is_name)) (eBin pyEq (eBin pyIx (eO 1) (eC (.int 2))) (eC (.str "="))))) (sSeq (sSet 2 (eCall (aCons (eSl (eO 1) (oSome (eC (.int 3))) oNone) (aCons (eC (.str "|")) aNil)) f__read_names)) (sRet (eIf (tIsN (eO 2)) (eC .none) (eCall (aCons (eV 0) (aCons (eBin pyIx (eO 1) (eC (.int 1))) (aCons (eV 2) aNil))) f_add_finite)))) sNil) (sRet (eC .none))))
def f__read_sort : List D → R D := fun ds => (sv__read_sort (env0 3 ds)).r
def sv__read_record : FP.Env → SR := (sSeq (sIf (tOrR (eBin pyLt (eUn pyLen (eO 1)) (eC (.int 9))) (tOrR (eBin pyNe (eBin pyIx (eO 1) (eC (.int 2))) (eC (.str "="))) (tOrR (eBin pyNe (eBin pyIx (eO 1) (eC (.int 4))) (eC (.str "("))) (eBin pyNe (eBin pyIx (eO 1) (eUn pyNeg (eC (.int 1)))) (eC (.str ")")))))) (sRet (eC .none)) sNil) (sSeq (sIf (tOrR (tNotR (eB (eCall (aCons (eBin pyIx (eO 1) (eC (.int 1))) aNil) f_is_name))) (tNotR (eB (eCall (aCons (eBin pyIx (eO 1) (eC (.int 3))) aNil) f_is_name)))) (sRet (eC .none)) sNil) (sSeq (sSet 2 (eSl (eO 1) (oSome (eC (.int 5))) (oSome (eUn pyNeg (eC (.int 1)))))) (sSeq (sSetO 3 (eLst aNil)) (sSeq (sWhile (eBin pyGt (eUn pyLen (eO 2)) (eC (.int 0))) (sSeq (sIf (tOrR (eBin pyLt (eUn pyLen (eO 2)) (eC (.int 3))) (tOrR (eBin pyNe (eBin pyIx (eO 2) (eC (.int 1))) (eC (.str ":"))) (tOrR (tNotR (eB (eCall (aCons (eBin pyIx (eO 2) (eC (.int 0))) aNil) f_is_name))) (tNotR (eB (eCall (aCons (eBin pyIx (eO 2) (eC (.int 2))) aNil) f_is_name)))))) (sRet (eC .none)) sNil) (sSeq (sApp 3 (eTup (aCons (eBin pyIx (eO 2) (eC (.int 0))) (aCons (eBin pyIx (eO 2) (eC (.int 2))) aNil)))) (sSeq (sIf (tAndR (eBin pyGt (eUn pyLen (eO 2)) (eC (.int 3))) (tOrR (eBin pyNe (eBin pyIx (eO 2) (eC (.int 3))) (eC (.str ","))) (eBin pyEq (eUn pyLen (eO 2)) (eC (.int 4))))) (sRet (eC .none)) sNil) (sSet 2 (eSl (eO 2) (oSome (eC (.int 4))) oNone))))) 1000) (sFz 3 (sRet (eCall (aCons (eV 0) (aCons (eBin pyIx (eO 1) (eC (.int 1))) (aCons (eBin pyIx (eO 1) (eC (.int 3))) (aCons (eV 3) aNil)))) f_add_record))))))))
def f__read_record : List D → R D := fun ds => (sv__read_record (env0 4 ds)).r
def sv__read_array : FP.Env → SR := (sSeq (sIf (tOrR (eBin pyNe (eUn pyLen (eO 1)) (eC (.int 6))) (tOrR (eBin pyNe (eBin pyIx (eO 1) (eC (.int 2))) (eC (.str "="))) (eBin pyNe (eBin pyIx (eO 1) (eC (.int 4))) (eC (.str "->"))))) (sRet (eC .none)) sNil) (sSeq (sIf (tNotR (eB (eGen (allL (gNm 2) tYesR (eCall (aCons (eV 2) aNil) f_is_name)) (iItems (eTup (aCons (eBin pyIx (eO 1) (eC (.int 1))) (aCons (eBin pyIx (eO 1) (eC (.int 3))) (aCons (eBin pyIx (eO 1) (eC (.int 5))) aNil))))) [2]))) (sRet (eC .none)) sNil) (sRet (eCall (aCons (eV 0) (aCons (eBin pyIx (eO 1) (eC (.int 1))) (aCons (eBin pyIx (eO 1) (eC (.int 3))) (aCons (eBin pyIx (eO 1) (eC (.int 5))) aNil)))) f_add_array))))
def f__read_array : List D → R D := fun ds => (sv__read_array (env0 3 ds)).r
def sv__read_function : FP.Env → SR := (sSeq (sIf (tAndR (eBin pyEq (eUn pyLen (eO 1)) (eC (.int 3))) (tAndR (eB (eCall (aCons (eBin pyIx (eO 1) (eC (.int 1))) aNil) f_is_name)) (eB (eCall (aCons (eBin pyIx (eO 1) (eC (.int 2))) aNil) f_is_name)))) (sRet (eCall (aCons (eV 0) (aCons (eBin pyIx (eO 1) (eC (.int 1))) (aCons (eNew (eLst aNil)) (aCons (eBin pyIx (eO 1) (eC (.int 2))) aNil)))) f_add_function)) sNil) (sSeq (sIf (tAndR (eBin pyGt (eUn pyLen (eO 1)) (eC (.int 5))) (tAndR (eB (eCall (aCons (eBin pyIx (eO 1) (eC (.int 1))) aNil) f_is_name)) (tAndR (eBin pyEq (eBin pyIx (eO 1) (eC (.int 2))) (eC (.str "("))) (tAndR (eBin pyEq (eBin pyIx (eO 1) (eUn pyNeg (eC (.int 2)))) (eC (.str ")"))) (eB (eCall (aCons (eBin pyIx (eO 1) (eUn pyNeg (eC (.int 1)))) aNil) f_is_name)))))) (sSeq (sSet 2 (eCall (aCons (eSl (eO 1) (oSome (eC (.int 3))) (oSome (eUn pyNeg (eC (.int 2))))) (aCons (eC (.str ",")) aNil)) f__read_names)) (sRet (eIf (tIsN (eO 2)) (eC .none) (eCall (aCons (eV 0) (aCons (eBin pyIx (eO 1) (eC (.int 1))) (aCons (eV 2) (aCons (eBin pyIx (eO 1) (eUn pyNeg (eC (.int 1)))) aNil)))) f_add_function)))) sNil) (sRet (eC .none))))
def f__read_function : List D → R D := fun ds => (sv__read_function (env0 3 ds)).r
def sv__with_line : FP.Env → SR := (sSeq (sIf (eInK fs_READERS (eBin pyIx (eO 2) (eC (.int 0)))) (sSeq (sSet 4 (eCallK [("sort", f__read_sort), ("record", f__read_record), ("array", f__read_array), ("fun", f__read_function)] (eBin pyIx (eO 2) (eC (.int 0))) (aCons (eV 0) (aCons (eV 2) aNil)))) (sSeq (sIf (tIsN (eO 4)) (sRaise "TextError" ["line", "what"] (aCons (eV 3) (aCons (eC (.str "not understood")) aNil))) sNil) (sRet (eTup (aCons (eV 4) (aCons (eV 1) aNil)))))) sNil) (sSeq (sSet 5 (eIf (eBin pyEq (eBin pyIx (eO 2) (eC (.int 0))) (eC (.str "claim"))) (eCall (aCons (eV 0) (aCons (eSl (eO 2) (oSome (eC (.int 1))) oNone) aNil)) f_parse_formula) (eC .none))) (sSeq (sIf (tIsN (eO 5)) (sRaise "TextError" ["line", "what"] (aCons (eV 3) (aCons (eC (.str "not understood")) aNil))) sNil) (sSeq (sDrop (eCall (aCons (eV 0) (aCons (eV 5) aNil)) f_check_formula)) (sSeq (sIf (eBin pyGe (eUn pyLen (eO 1)) (eC d_CLAIMS)) (sRaise "TooMany" ["what"] (aCons (eC (.str "claims")) aNil)) sNil) (sRet (eTup (aCons (eV 0) (aCons (eBin pyAdd (eO 1) (eNew (eLst (aCons (eV 5) aNil)))) aNil)))))))))
def f__with_line : List D → R D := fun ds => (sv__with_line (env0 6 ds)).r
def sv_parse_problem : FP.Env → SR := (sSeq (sPar 1 2 (mCons (eCall aNil f_empty_signature) (mCons (eNew (eLst aNil)) mNil))) (sSeq (sSet 3 (eCall (aCons (eV 0) aNil) f_lines_of)) (sSeq (sForE (iRng1 (eUn pyLen (eO 3))) (gNm 4) (sSeq (sSet 5 (eCall (aCons (eBin pyIx (eO 3) (eO 4)) aNil) f_tokens_of)) (sSeq (sIf (tIsN (eO 5)) (sRaise "TextError" ["line", "what"] (aCons (eBin pyAdd (eO 4) (eC (.int 1))) (aCons (eC (.str "not understood")) aNil))) sNil) (sIf (eBin pyGt (eUn pyLen (eO 5)) (eC (.int 0))) (sTryN (sAsg (eCall (aCons (eV 1) (aCons (eV 2) (aCons (eV 5) (aCons (eBin pyAdd (eO 4) (eC (.int 1))) aNil)))) f__with_line) (gTp 2 (gsCons (gNm 1) (gsCons (gNm 2) gsNil))))) sNil)))) (sRet (eTup (aCons (eV 1) (aCons (eV 2) aNil)))))))
def f_parse_problem : List D → R D := fun ds => (sv_parse_problem (env0 7 ds)).r
def sv__law_strictly (f__law_strictly : List D → R D) : FP.Env → SR := (sSeq (sIf (tIsN (eO 0)) (sRet (eIsN (eO 1))) sNil) (sSeq (sIf (eB (eIsi .bool (eO 0))) (sRet (eAnd (eIsi .int (eO 1)) (eOfB (eBin pyEq (eO 1) (eO 0))))) sNil) (sSeq (sIf (eB (eIsi .int (eO 0))) (sRet (eAnd (eIsi .int (eO 1)) (eAnd (eNot (eIsi .bool (eO 1))) (eOfB (eBin pyEq (eO 1) (eO 0)))))) sNil) (sSeq (sIf (eB (eIsi .str (eO 0))) (sRet (eAnd (eIsi .str (eO 1)) (eOfB (eBin pyEq (eO 1) (eO 0))))) sNil) (sSeq (sIf (tOrR (eBin pyNe (eIsi .tuple (eO 0)) (eIsi .tuple (eO 1))) (eBin pyNe (eIsi .list (eO 0)) (eIsi .list (eO 1)))) (sRet (eC (.bool false))) sNil) (sSeq (sIf (tOrR (eB (eIsi .tuple (eO 0))) (eB (eIsi .list (eO 0)))) (sSeq (sIf (eBin pyNe (eUn pyLen (eO 1)) (eUn pyLen (eO 0))) (sRet (eC (.bool false))) sNil) (sSeq (sForE (iRng1 (eUn pyLen (eO 0))) (gNm 2) (sIf (tNotR (eB (eCall (aCons (eBin pyIx (eO 0) (eO 2)) (aCons (eBin pyIx (eO 1) (eO 2)) aNil)) f__law_strictly))) (sRet (eC (.bool false))) sNil)) (sRet (eC (.bool true))))) sNil) (sRet (eOfB (eBin pyEq (eO 1) (eO 0))))))))))
def fr__law_strictly : Nat → List D → R D
  | 0 => fun _ => .no
  | n + 1 => fun ds => (sv__law_strictly (fr__law_strictly n) (env0 3 ds)).r
def nrec__law_strictly : Nat := 30
def f__law_strictly : List D → R D := fr__law_strictly nrec__law_strictly
def sv__law_cell : FP.Env → SR := (sSeq (sIf (eBin pyLt (eO 1) (eUn pyLen (eO 0))) (sRet (eBin pyIx (eO 0) (eO 1))) sNil) (sRet (eC (.int 0))))
def f__law_cell : List D → R D := fun ds => (sv__law_cell (env0 2 ds)).r
def sv__law_draw : FP.Env → SR := (sSeq (sSet 3 (eCall (aCons (eV 0) (aCons (eV 1) aNil)) f__law_cell)) (sSeq (sIf (eBin pyLt (eO 3) (eC (.int 0))) (sSet 3 (eUn pyNeg (eO 3))) sNil) (sSeq (sSetO 4 (eLst aNil)) (sSeq (sIf (eBin pyGe (eO 3) (eBin pyPow (eC (.int 10)) (eC (.int 18)))) (sSeq (sSet 3 (eBin pySub (eO 3) (eBin pyPow (eC (.int 10)) (eC (.int 18))))) (sSeq (sForE (iItems (eV 2)) (gNm 5) (sSeq (sApp 4 (eBin pyMod (eO 3) (eO 5))) (sSet 3 (eBin pyFdiv (eO 3) (eO 5))))) (sFz 4 (sRet (eV 4))))) sNil) (sSeq (sSet 6 (eBin pyMod (eBin pyAdd (eBin pyAdd (eO 3) (eC (.int 1))) (eBin pyMul (eC (.int 31)) (eO 1))) (eC (.int 2147483647)))) (sSeq (sForE (iRng1 (eUn pyLen (eO 2))) (gNm 7) (sSeq (sSet 6 (eBin pyMod (eBin pyAdd (eBin pyAdd (eBin pyMul (eO 6) (eC (.int 48271))) (eC (.int 11))) (eO 7)) (eC (.int 2147483647)))) (sSeq (sSet 6 (eBin pyMod (eBin pyAdd (eBin pyMul (eO 6) (eC (.int 69621))) (eC (.int 3))) (eC (.int 2147483647)))) (sApp 4 (eBin pyMod (eBin pyFdiv (eO 6) (eC (.int 7))) (eBin pyIx (eO 2) (eO 7))))))) (sFz 4 (sRet (eV 4)))))))))
def f__law_draw : List D → R D := fun ds => (sv__law_draw (env0 8 ds)).r
def sv_law_0 : FP.Env → SR := (sSet 1 (eBin pyIx (eCall (aCons (eC (.str "sort i\nsort v\narray m = i -> v\nfun x m\nfun j i\nfun k(v) i\nfun o v\nfun h(i, m) v\n")) aNil) f_parse_problem) (eC (.int 0))))
def sv_law_r : FP.Env → SR := (sSeq (sPar3 2 3 4 (mConsO (eLst (aCons (eTup (aCons (eTup (aCons (eC (.str "x")) aNil)) (aCons (eC (.str "x")) aNil))) aNil)) (mConsO (eLst (aCons (eTup (aCons (eTup (aCons (eC (.str "j")) aNil)) (aCons (eC (.str "j")) aNil))) aNil)) (mConsO (eLst (aCons (eTup (aCons (eTup (aCons (eC (.str "o")) aNil)) (aCons (eC (.str "o")) aNil))) aNil)) mNil)))) (sSeq (sForE (iRng1 (eC (.int 7))) (gNm 5) (sSeq (sSet 6 (eCall (aCons (eV 0) (aCons (eV 5) (aCons (eNew (eLst (aCons (eC (.int 4)) (aCons (eC (.int 9)) (aCons (eC (.int 9)) (aCons (eC (.int 9)) aNil)))))) aNil))) f__law_draw)) (sSeq (sSet 7 (eBin pyIx (eO 2) (eBin pyMod (eBin pyIx (eO 6) (eC (.int 1))) (eUn pyLen (eO 2))))) (sSeq (sSet 8 (eBin pyIx (eO 3) (eBin pyMod (eBin pyIx (eO 6) (eC (.int 2))) (eUn pyLen (eO 3))))) (sSeq (sSet 9 (eBin pyIx (eO 4) (eBin pyMod (eBin pyIx (eO 6) (eC (.int 3))) (eUn pyLen (eO 4))))) (sIf (eBin pyLt (eBin pyAdd (eBin pyAdd (eUn pyLen (eBin pyIx (eO 7) (eC (.int 1)))) (eUn pyLen (eBin pyIx (eO 8) (eC (.int 1))))) (eUn pyLen (eBin pyIx (eO 9) (eC (.int 1))))) (eC (.int 60))) (sSeq (sIf (eBin pyEq (eBin pyIx (eO 6) (eC (.int 0))) (eC (.int 0))) (sApp 2 (eTup (aCons (eTup (aCons (eC (.str "m.put")) (aCons (eBin pyIx (eO 7) (eC (.int 0))) (aCons (eBin pyIx (eO 8) (eC (.int 0))) (aCons (eBin pyIx (eO 9) (eC (.int 0))) aNil))))) (aCons (eBin pyAdd (eBin pyAdd (eBin pyAdd (eBin pyAdd (eBin pyAdd (eBin pyIx (eO 7) (eC (.int 1))) (eC (.str ".put("))) (eBin pyIx (eO 8) (eC (.int 1)))) (eC (.str ", "))) (eBin pyIx (eO 9) (eC (.int 1)))) (eC (.str ")"))) aNil)))) sNil) (sSeq (sIf (eBin pyEq (eBin pyIx (eO 6) (eC (.int 0))) (eC (.int 1))) (sApp 4 (eTup (aCons (eTup (aCons (eC (.str "m.get")) (aCons (eBin pyIx (eO 7) (eC (.int 0))) (aCons (eBin pyIx (eO 8) (eC (.int 0))) aNil)))) (aCons (eBin pyAdd (eBin pyAdd (eBin pyAdd (eBin pyIx (eO 7) (eC (.int 1))) (eC (.str ".get("))) (eBin pyIx (eO 8) (eC (.int 1)))) (eC (.str ")"))) aNil)))) sNil) (sSeq (sIf (eBin pyEq (eBin pyIx (eO 6) (eC (.int 0))) (eC (.int 2))) (sApp 3 (eTup (aCons (eTup (aCons (eC (.str "k")) (aCons (eBin pyIx (eO 9) (eC (.int 0))) aNil))) (aCons (eBin pyAdd (eBin pyAdd (eC (.str "k(")) (eBin pyIx (eO 9) (eC (.int 1)))) (eC (.str ")"))) aNil)))) sNil) (sIf (eBin pyEq (eBin pyIx (eO 6) (eC (.int 0))) (eC (.int 3))) (sApp 4 (eTup (aCons (eTup (aCons (eC (.str "h")) (aCons (eBin pyIx (eO 8) (eC (.int 0))) (aCons (eBin pyIx (eO 7) (eC (.int 0))) aNil)))) (aCons (eBin pyAdd (eBin pyAdd (eBin pyAdd (eBin pyAdd (eC (.str "h(")) (eBin pyIx (eO 8) (eC (.int 1)))) (eC (.str ", "))) (eBin pyIx (eO 7) (eC (.int 1)))) (eC (.str ")"))) aNil)))) sNil)))) sNil)))))) (sSeq (sForE (iItems (eBin pyAdd (eBin pyAdd (eO 2) (eO 3)) (eO 4))) (gTp 2 (gsCons (gNm 10) (gsCons (gNm 11) gsNil))) (sSeq (sIf (tOrR (eBin pyNe (eCall (aCons (eV 10) aNil) f_term_text) (eO 11)) (tNotR (eB (eCall (aCons (eV 1) (aCons (eV 10) aNil)) f_is_term)))) (sRet (eC (.bool false))) sNil) (sSeq (sSet 12 (eUn (repF "." " .") (eUn (repF "(" " ( ") (eUn (repF "," " , ") (eV 11))))) (sSeq (sForE (iItems (eNew (eLst (aCons (eV 11) (aCons (eV 12) (aCons (eUn (repF " " "") (eV 11)) aNil)))))) (gNm 13) (sIf (tNotR (eB (eCall (aCons (eV 10) (aCons (eCall (aCons (eV 1) (aCons (eCall (aCons (eV 13) aNil) f_tokens_of) aNil)) f_parse_term) aNil)) f__law_strictly))) (sRet (eC (.bool false))) sNil)) (sForE (iItems (eNew (eLst (aCons (eBin pyAdd (eO 11) (eC (.str ")"))) (aCons (eBin pyAdd (eO 11) (eC (.str " x"))) (aCons (eBin pyAdd (eBin pyAdd (eC (.str "(")) (eO 11)) (eC (.str ")"))) (aCons (eBin pyAdd (eO 11) (eC (.str ".get(o)"))) (aCons (eBin pyAdd (eBin pyAdd (eC (.str "k(")) (eO 11)) (eC (.str ","))) (aCons (eBin pyAdd (eBin pyAdd (eC (.str "q")) (eO 11)) (eC (.str "q"))) aNil))))))))) (gNm 14) (sIf (tNotNn (eCall (aCons (eV 1) (aCons (eCall (aCons (eV 14) aNil) f_tokens_of) aNil)) f_parse_term)) (sRet (eC (.bool false))) sNil)))))) (sSeq (sSet 14 (eNew (eLst (aCons (eTup (aCons (eC (.str "h")) (aCons (eTup (aCons (eC (.str "j")) aNil)) (aCons (eTup (aCons (eC (.str "j")) aNil)) aNil)))) (aCons (eTup (aCons (eC (.str "k")) (aCons (eTup (aCons (eC (.str "j")) aNil)) aNil))) (aCons (eTup (aCons (eC (.str "m.get")) (aCons (eTup (aCons (eC (.str "x")) aNil)) (aCons (eTup (aCons (eC (.str "o")) aNil)) aNil)))) (aCons (eTup (aCons (eC (.str "z")) aNil)) (aCons (eTup (aCons (eC (.str "k")) aNil)) aNil)))))))) (sSeq (sIf (eB (eAnyL (eNew (eComp (iItems (eV 14)) (gNm 10) tYesR (eCall (aCons (eV 1) (aCons (eV 10) aNil)) f_is_term) [10])))) (sRet (eC (.bool false))) sNil) (sRet (eAnd (eIsN (eCall (aCons (eV 1) (aCons (eCall (aCons (eC (.str "h(j, j)")) aNil) f_tokens_of) aNil)) f_parse_term)) (eIsN (eCall (aCons (eV 1) (aCons (eCall (aCons (eC (.str "x.apart(x)")) aNil) f_tokens_of) aNil)) f_parse_term)))))))))
def sv_law : FP.Env → SR := sSeq sv_law_0 sv_law_r
def f_law : List D → R D := fun ds => (sv_law (env0 15 ds)).r
/-! ### what the top leaves -/
structure Wd (P : Program) (w : World) (K : PySem.W.Frag) (mg : Str → Option Value) (base : Heap) (T : List Addr) : Prop where
  ek : ExK K mg tab
  xc_SignError : XC P w K mg "SignError" ["what", "name"]
  xc_SortError : XC P w K mg "SortError" ["what", "name"]
  xc_TextError : XC P w K mg "TextError" ["line", "what"]
  xc_TooMany : XC P w K mg "TooMany" ["what"]
  n_all : mg "all" = none
  n_any : mg "any" = none
  n_bool : mg "bool" = none
  n_int : mg "int" = none
  n_isinstance : mg "isinstance" = none
  n_len : mg "len" = none
  n_list : mg "list" = none
  n_max : mg "max" = none
  n_range : mg "range" = none
  n_str : mg "str" = none
  n_sum : mg "sum" = none
  n_super : mg "super" = none
  n_tuple : mg "tuple" = none
  g_BINDS : Glob ⟨K, w⟩ mg "BINDS" d_BINDS
  g_CLAIMS : Glob ⟨K, w⟩ mg "CLAIMS" d_CLAIMS
  g_CONSTANTS : Glob ⟨K, w⟩ mg "CONSTANTS" d_CONSTANTS
  g_DEEP : Glob ⟨K, w⟩ mg "DEEP" d_DEEP
  g_FIELDS : Glob ⟨K, w⟩ mg "FIELDS" d_FIELDS
  g_FIRST : Glob ⟨K, w⟩ mg "FIRST" d_FIRST
  g_FUNCTIONS : Glob ⟨K, w⟩ mg "FUNCTIONS" d_FUNCTIONS
  g_INDEXES : Glob ⟨K, w⟩ mg "INDEXES" d_INDEXES
  g_LONG : Glob ⟨K, w⟩ mg "LONG" d_LONG
  g_MARKS : Glob ⟨K, w⟩ mg "MARKS" d_MARKS
  g_NAME : Glob ⟨K, w⟩ mg "NAME" d_NAME
  g_PLACES : Glob ⟨K, w⟩ mg "PLACES" d_PLACES
  g_SIGNS : Glob ⟨K, w⟩ mg "SIGNS" d_SIGNS
  g_SIZE : Glob ⟨K, w⟩ mg "SIZE" d_SIZE
  g_SORTS : Glob ⟨K, w⟩ mg "SORTS" d_SORTS
  g_WIDE : Glob ⟨K, w⟩ mg "WIDE" d_WIDE
  g_WORDS : Glob ⟨K, w⟩ mg "WORDS" d_WORDS
  fu_is_name : ∃ fd, FunD K "is_name" "is_name" (defArgs st_is_name) (defBody st_is_name) (defScope st_is_name) [] [] (He.fAd K ("is_name", none)) fd
  gl_is_name : mg "is_name" = some (.ref (He.fAd K ("is_name", none)))
  fu_tokens_of : ∃ fd, FunD K "tokens_of" "tokens_of" (defArgs st_tokens_of) (defBody st_tokens_of) (defScope st_tokens_of) [] [] (He.fAd K ("tokens_of", none)) fd
  gl_tokens_of : mg "tokens_of" = some (.ref (He.fAd K ("tokens_of", none)))
  fu_nesting : ∃ fd, FunD K "nesting" "nesting" (defArgs st_nesting) (defBody st_nesting) (defScope st_nesting) [] [] (He.fAd K ("nesting", none)) fd
  gl_nesting : mg "nesting" = some (.ref (He.fAd K ("nesting", none)))
  fu_lines_of : ∃ fd, FunD K "lines_of" "lines_of" (defArgs st_lines_of) (defBody st_lines_of) (defScope st_lines_of) [] [] (He.fAd K ("lines_of", none)) fd
  gl_lines_of : mg "lines_of" = some (.ref (He.fAd K ("lines_of", none)))
  fu_empty_signature : ∃ fd, FunD K "empty_signature" "empty_signature" (defArgs st_empty_signature) (defBody st_empty_signature) (defScope st_empty_signature) [] [] (He.fAd K ("empty_signature", none)) fd
  gl_empty_signature : mg "empty_signature" = some (.ref (He.fAd K ("empty_signature", none)))
  fu_sort_names : ∃ fd, FunD K "sort_names" "sort_names" (defArgs st_sort_names) (defBody st_sort_names) (defScope st_sort_names) [] [] (He.fAd K ("sort_names", none)) fd
  gl_sort_names : mg "sort_names" = some (.ref (He.fAd K ("sort_names", none)))
  fu_function_names : ∃ fd, FunD K "function_names" "function_names" (defArgs st_function_names) (defBody st_function_names) (defScope st_function_names) [] [] (He.fAd K ("function_names", none)) fd
  gl_function_names : mg "function_names" = some (.ref (He.fAd K ("function_names", none)))
  fu_sort_row : ∃ fd, FunD K "sort_row" "sort_row" (defArgs st_sort_row) (defBody st_sort_row) (defScope st_sort_row) [] [] (He.fAd K ("sort_row", none)) fd
  gl_sort_row : mg "sort_row" = some (.ref (He.fAd K ("sort_row", none)))
  fu_function_row : ∃ fd, FunD K "function_row" "function_row" (defArgs st_function_row) (defBody st_function_row) (defScope st_function_row) [] [] (He.fAd K ("function_row", none)) fd
  gl_function_row : mg "function_row" = some (.ref (He.fAd K ("function_row", none)))
  fu_kind_of : ∃ fd, FunD K "kind_of" "kind_of" (defArgs st_kind_of) (defBody st_kind_of) (defScope st_kind_of) [] [] (He.fAd K ("kind_of", none)) fd
  gl_kind_of : mg "kind_of" = some (.ref (He.fAd K ("kind_of", none)))
  fu__check_new : ∃ fd, FunD K "_check_new" "_check_new" (defArgs st__check_new) (defBody st__check_new) (defScope st__check_new) [] [] (He.fAd K ("_check_new", none)) fd
  gl__check_new : mg "_check_new" = some (.ref (He.fAd K ("_check_new", none)))
  fu__with_sort : ∃ fd, FunD K "_with_sort" "_with_sort" (defArgs st__with_sort) (defBody st__with_sort) (defScope st__with_sort) [] [] (He.fAd K ("_with_sort", none)) fd
  gl__with_sort : mg "_with_sort" = some (.ref (He.fAd K ("_with_sort", none)))
  fu_add_plain : ∃ fd, FunD K "add_plain" "add_plain" (defArgs st_add_plain) (defBody st_add_plain) (defScope st_add_plain) [] [] (He.fAd K ("add_plain", none)) fd
  gl_add_plain : mg "add_plain" = some (.ref (He.fAd K ("add_plain", none)))
  fu_add_finite : ∃ fd, FunD K "add_finite" "add_finite" (defArgs st_add_finite) (defBody st_add_finite) (defScope st_add_finite) [] [] (He.fAd K ("add_finite", none)) fd
  gl_add_finite : mg "add_finite" = some (.ref (He.fAd K ("add_finite", none)))
  fu_part_count : ∃ fd, FunD K "part_count" "part_count" (defArgs st_part_count) (defBody st_part_count) (defScope st_part_count) [] [] (He.fAd K ("part_count", none)) fd
  gl_part_count : mg "part_count" = some (.ref (He.fAd K ("part_count", none)))
  fu_add_record : ∃ fd, FunD K "add_record" "add_record" (defArgs st_add_record) (defBody st_add_record) (defScope st_add_record) [] [] (He.fAd K ("add_record", none)) fd
  gl_add_record : mg "add_record" = some (.ref (He.fAd K ("add_record", none)))
  fu_has_arrays : ∃ fd, FunD K "has_arrays" "has_arrays" (defArgs st_has_arrays) (defBody st_has_arrays) (defScope st_has_arrays) [] [] (He.fAd K ("has_arrays", none)) fd
  gl_has_arrays : mg "has_arrays" = some (.ref (He.fAd K ("has_arrays", none)))
  fu_closed_count : ∃ fd, FunD K "closed_count" "closed_count" (defArgs st_closed_count) (defBody st_closed_count) (defScope st_closed_count) [] [] (He.fAd K ("closed_count", none)) fd
  gl_closed_count : mg "closed_count" = some (.ref (He.fAd K ("closed_count", none)))
  fu_add_array : ∃ fd, FunD K "add_array" "add_array" (defArgs st_add_array) (defBody st_add_array) (defScope st_add_array) [] [] (He.fAd K ("add_array", none)) fd
  gl_add_array : mg "add_array" = some (.ref (He.fAd K ("add_array", none)))
  fu_add_function : ∃ fd, FunD K "add_function" "add_function" (defArgs st_add_function) (defBody st_add_function) (defScope st_add_function) [] [] (He.fAd K ("add_function", none)) fd
  gl_add_function : mg "add_function" = some (.ref (He.fAd K ("add_function", none)))
  fu_size_of : ∃ fd, FunD K "size_of" "size_of" (defArgs st_size_of) (defBody st_size_of) (defScope st_size_of) [] [] (He.fAd K ("size_of", none)) fd
  gl_size_of : mg "size_of" = some (.ref (He.fAd K ("size_of", none)))
  fu_check_term : ∃ fd, FunD K "check_term" "check_term" (defArgs st_check_term) (defBody st_check_term) (defScope st_check_term) [] [] (He.fAd K ("check_term", none)) fd
  gl_check_term : mg "check_term" = some (.ref (He.fAd K ("check_term", none)))
  fu_sort_of : ∃ fd, FunD K "sort_of" "sort_of" (defArgs st_sort_of) (defBody st_sort_of) (defScope st_sort_of) [] [] (He.fAd K ("sort_of", none)) fd
  gl_sort_of : mg "sort_of" = some (.ref (He.fAd K ("sort_of", none)))
  fu_term_text : ∃ fd, FunD K "term_text" "term_text" (defArgs st_term_text) (defBody st_term_text) (defScope st_term_text) [] [] (He.fAd K ("term_text", none)) fd
  gl_term_text : mg "term_text" = some (.ref (He.fAd K ("term_text", none)))
  fu__read_parts : ∃ fd, FunD K "_read_parts" "_read_parts" (defArgs st__read_parts) (defBody st__read_parts) (defScope st__read_parts) [] [] (He.fAd K ("_read_parts", none)) fd
  gl__read_parts : mg "_read_parts" = some (.ref (He.fAd K ("_read_parts", none)))
  fu_read_term : ∃ fd, FunD K "read_term" "read_term" (defArgs st_read_term) (defBody st_read_term) (defScope st_read_term) [] [] (He.fAd K ("read_term", none)) fd
  gl_read_term : mg "read_term" = some (.ref (He.fAd K ("read_term", none)))
  fu_is_term : ∃ fd, FunD K "is_term" "is_term" (defArgs st_is_term) (defBody st_is_term) (defScope st_is_term) [] [] (He.fAd K ("is_term", none)) fd
  gl_is_term : mg "is_term" = some (.ref (He.fAd K ("is_term", none)))
  fu_parse_term : ∃ fd, FunD K "parse_term" "parse_term" (defArgs st_parse_term) (defBody st_parse_term) (defScope st_parse_term) [V.ref (He.dflAt ("parse_term", none) 0 K)] [] (He.fAd K ("parse_term", none)) fd
  df_parse_term : rdV K (.ref (He.dflAt ("parse_term", none) 0 K)) (.tuple [(.str "get"), (.str "put")]) = true
  gl_parse_term : mg "parse_term" = some (.ref (He.fAd K ("parse_term", none)))
  fu_check_equation : ∃ fd, FunD K "check_equation" "check_equation" (defArgs st_check_equation) (defBody st_check_equation) (defScope st_check_equation) [] [] (He.fAd K ("check_equation", none)) fd
  gl_check_equation : mg "check_equation" = some (.ref (He.fAd K ("check_equation", none)))
  fu_check_size : ∃ fd, FunD K "check_size" "check_size" (defArgs st_check_size) (defBody st_check_size) (defScope st_check_size) [] [] (He.fAd K ("check_size", none)) fd
  gl_check_size : mg "check_size" = some (.ref (He.fAd K ("check_size", none)))
  fu_check_formula : ∃ fd, FunD K "check_formula" "check_formula" (defArgs st_check_formula) (defBody st_check_formula) (defScope st_check_formula) [] [] (He.fAd K ("check_formula", none)) fd
  gl_check_formula : mg "check_formula" = some (.ref (He.fAd K ("check_formula", none)))
  fu__read_equation : ∃ fd, FunD K "_read_equation" "_read_equation" (defArgs st__read_equation) (defBody st__read_equation) (defScope st__read_equation) [] [] (He.fAd K ("_read_equation", none)) fd
  gl__read_equation : mg "_read_equation" = some (.ref (He.fAd K ("_read_equation", none)))
  fu__read_part : ∃ fd, FunD K "_read_part" "_read_part" (defArgs st__read_part) (defBody st__read_part) (defScope st__read_part) [] [] (He.fAd K ("_read_part", none)) fd
  gl__read_part : mg "_read_part" = some (.ref (He.fAd K ("_read_part", none)))
  fu__read_from : ∃ fd, FunD K "_read_from" "_read_from" (defArgs st__read_from) (defBody st__read_from) (defScope st__read_from) [] [] (He.fAd K ("_read_from", none)) fd
  gl__read_from : mg "_read_from" = some (.ref (He.fAd K ("_read_from", none)))
  fu_parse_formula : ∃ fd, FunD K "parse_formula" "parse_formula" (defArgs st_parse_formula) (defBody st_parse_formula) (defScope st_parse_formula) [] [] (He.fAd K ("parse_formula", none)) fd
  gl_parse_formula : mg "parse_formula" = some (.ref (He.fAd K ("parse_formula", none)))
  fu__read_names : ∃ fd, FunD K "_read_names" "_read_names" (defArgs st__read_names) (defBody st__read_names) (defScope st__read_names) [] [] (He.fAd K ("_read_names", none)) fd
  gl__read_names : mg "_read_names" = some (.ref (He.fAd K ("_read_names", none)))
  fu__read_sort : ∃ fd, FunD K "_read_sort" "_read_sort" (defArgs st__read_sort) (defBody st__read_sort) (defScope st__read_sort) [] [] (He.fAd K ("_read_sort", none)) fd
  gl__read_sort : mg "_read_sort" = some (.ref (He.fAd K ("_read_sort", none)))
  fu__read_record : ∃ fd, FunD K "_read_record" "_read_record" (defArgs st__read_record) (defBody st__read_record) (defScope st__read_record) [] [] (He.fAd K ("_read_record", none)) fd
  gl__read_record : mg "_read_record" = some (.ref (He.fAd K ("_read_record", none)))
  fu__read_array : ∃ fd, FunD K "_read_array" "_read_array" (defArgs st__read_array) (defBody st__read_array) (defScope st__read_array) [] [] (He.fAd K ("_read_array", none)) fd
  gl__read_array : mg "_read_array" = some (.ref (He.fAd K ("_read_array", none)))
  fu__read_function : ∃ fd, FunD K "_read_function" "_read_function" (defArgs st__read_function) (defBody st__read_function) (defScope st__read_function) [] [] (He.fAd K ("_read_function", none)) fd
  gl__read_function : mg "_read_function" = some (.ref (He.fAd K ("_read_function", none)))
  fu__with_line : ∃ fd, FunD K "_with_line" "_with_line" (defArgs st__with_line) (defBody st__with_line) (defScope st__with_line) [] [] (He.fAd K ("_with_line", none)) fd
  gl__with_line : mg "_with_line" = some (.ref (He.fAd K ("_with_line", none)))
  fu_parse_problem : ∃ fd, FunD K "parse_problem" "parse_problem" (defArgs st_parse_problem) (defBody st_parse_problem) (defScope st_parse_problem) [] [] (He.fAd K ("parse_problem", none)) fd
  gl_parse_problem : mg "parse_problem" = some (.ref (He.fAd K ("parse_problem", none)))
  fu__law_strictly : ∃ fd, FunD K "_law_strictly" "_law_strictly" (defArgs st__law_strictly) (defBody st__law_strictly) (defScope st__law_strictly) [] [] (He.fAd K ("_law_strictly", none)) fd
  gl__law_strictly : mg "_law_strictly" = some (.ref (He.fAd K ("_law_strictly", none)))
  fu__law_cell : ∃ fd, FunD K "_law_cell" "_law_cell" (defArgs st__law_cell) (defBody st__law_cell) (defScope st__law_cell) [] [] (He.fAd K ("_law_cell", none)) fd
  gl__law_cell : mg "_law_cell" = some (.ref (He.fAd K ("_law_cell", none)))
  fu__law_draw : ∃ fd, FunD K "_law_draw" "_law_draw" (defArgs st__law_draw) (defBody st__law_draw) (defScope st__law_draw) [] [] (He.fAd K ("_law_draw", none)) fd
  gl__law_draw : mg "_law_draw" = some (.ref (He.fAd K ("_law_draw", none)))
  fu_law : ∃ fd, FunD K "law" "law" (defArgs st_law) (defBody st_law) (defScope st_law) [] [] (He.fAd K ("law", none)) fd
  gl_law : mg "law" = some (.ref (He.fAd K ("law", none)))
  inT_is_name : He.tabOf K (He.codeOf K ("is_name", none)) ∈ T
  tb_is_name : LamX.TabB base mg (He.codeOf K ("is_name", none)) (He.tabOf K (He.codeOf K ("is_name", none)))
  inT_part_count : He.tabOf K (He.codeOf K ("part_count", none)) ∈ T
  tb_part_count : LamX.TabB base mg (He.codeOf K ("part_count", none)) (He.tabOf K (He.codeOf K ("part_count", none)))
  inT_add_record : He.tabOf K (He.codeOf K ("add_record", none)) ∈ T
  tb_add_record : LamX.TabB base mg (He.codeOf K ("add_record", none)) (He.tabOf K (He.codeOf K ("add_record", none)))
  inT_has_arrays : He.tabOf K (He.codeOf K ("has_arrays", none)) ∈ T
  tb_has_arrays : LamX.TabB base mg (He.codeOf K ("has_arrays", none)) (He.tabOf K (He.codeOf K ("has_arrays", none)))
  inT_size_of : He.tabOf K (He.codeOf K ("size_of", none)) ∈ T
  tb_size_of : LamX.TabB base mg (He.codeOf K ("size_of", none)) (He.tabOf K (He.codeOf K ("size_of", none)))
  inT__read_names : He.tabOf K (He.codeOf K ("_read_names", none)) ∈ T
  tb__read_names : LamX.TabB base mg (He.codeOf K ("_read_names", none)) (He.tabOf K (He.codeOf K ("_read_names", none)))
  inT__read_array : He.tabOf K (He.codeOf K ("_read_array", none)) ∈ T
  tb__read_array : LamX.TabB base mg (He.codeOf K ("_read_array", none)) (He.tabOf K (He.codeOf K ("_read_array", none)))
  ds_READERS : DisG K w mg "READERS" fs_READERS
section
variable {P : Program} {w : World} {K : PySem.W.Frag} {mg : Str → Option Value} {base : Heap} {T : List Addr}
theorem fn_is_name (W : Wd P w K mg base T) : Fn P w K mg base T "is_name" 2 1 f_is_name := by
  obtain ⟨fd, Fu⟩ := W.fu_is_name
  refine fn_okT (k := 1) (N := N_is_name) (ps := P_is_name) (sv := sv_is_name) Fu sc_is_name W.gl_is_name (fun _ _ _ _ _ _ us hl => match us, hl with | [_], _ => rfl) fun A outer s H b E hr pre => ?_
  show ISs _ _ sv_is_name
  unfold sv_is_name
  exact (is_cons (is_if (it_w (iw_or (it_cmp (op_eqM hu64) ok_eq (ib_var 0) (ib_of ie_str) rfl) (iw_or (it_cmp op_gt ok_cmpI (ib_of (ie_len W.n_len (ib_var 0))) (ib_of (ie_glob W.g_NAME)) rfl) (iw_or1 (it_cmp (op_inM hu65) ok_in (ib_var 0) (ib_of (ie_glob W.g_WORDS)) rfl))))) (is_one (is_ret ie_bl)) is_nil) (is_one (is_ret (ie_and (ie_cmp (op_inM hu65) ok_in (ib_of (ie_ix (ib_var 0) (ib_of ie_int))) (ib_of (ie_glob W.g_FIRST)) rfl) (ie_one (ie_all [("sign", 1)] (He.tabOf K (He.codeOf K ("is_name", none))) W.n_all (k := 0) (Nat.le_of_ble_eq_true rfl) (ii_seq (ie_var 0)) (W.inT_is_name) ⟨_, rfl, W.tb_is_name⟩ (fun _ _ _ _ _ _ _ _ _ => (ig_name 1)) (fun _ _ _ _ _ _ _ _ _ => its_nil) (fun _ _ _ _ _ _ _ _ _ => (ie_cmp (op_inM hu65) ok_in (ib_var 1) (ib_of (ie_glob W.g_SIGNS)) rfl)) (by rfl) ⟨rfl, rfl, by decide, rfl⟩ (by decide)))))))
theorem fn_tokens_of (W : Wd P w K mg base T) : Fn P w K mg base T "tokens_of" 1 1 f_tokens_of := by
  obtain ⟨fd, Fu⟩ := W.fu_tokens_of
  refine fn_okT (k := 0) (N := N_tokens_of) (ps := P_tokens_of) (sv := sv_tokens_of) Fu sc_tokens_of W.gl_tokens_of (fun _ _ _ _ _ _ us hl => match us, hl with | [_], _ => rfl) fun A outer s H b E hr pre => ?_
  show ISs _ _ sv_tokens_of
  unfold sv_tokens_of
  exact (is_cons (is_setO 1 (if_lst ia_nil)) (is_cons (is_set 2 ie_int) (is_cons (is_while 1000 (it_cmp op_lt ok_cmpI (ib_var 2) (ib_of (ie_len W.n_len (ib_var 0))) rfl) (is_one (is_if (it_cmp (op_eqM hu64) ok_eq (ib_of (ie_ix (ib_var 0) (ib_var 2))) (ib_of ie_str) rfl) (is_one (is_aug 2 op_iaddA ok_iadd (ib_of ie_int))) (is_one (is_if (it_cmp (op_inM hu65) ok_in (ib_of (ie_ix (ib_var 0) (ib_var 2))) (ib_of (ie_glob W.g_SIGNS)) rfl) (is_cons (is_set 3 (ie_var 2)) (is_cons (is_while 1000 (it_w (iw_and (it_cmp op_lt ok_cmpI (ib_var 3) (ib_of (ie_len W.n_len (ib_var 0))) rfl) (iw_and1 (it_cmp (op_inM hu65) ok_in (ib_of (ie_ix (ib_var 0) (ib_var 3))) (ib_of (ie_glob W.g_SIGNS)) rfl)))) (is_one (is_aug 3 op_iaddA ok_iadd (ib_of ie_int)))) (is_cons (is_append 1 (ie_sl (ib_var 0) (io_some (ie_var 2)) (io_some (ie_var 3)))) (is_one (is_set 2 (ie_var 3)))))) (is_cons (is_setLc 4 [("mark", 5)] (ii_seq (ie_glob W.g_MARKS)) (by rfl) (by decide) (fun _ _ _ _ _ => (ig_name 5)) (fun _ _ _ _ _ => (its_one (it_cmp (op_eqM hu64) ok_eq (ib_of (ie_sl (ib_var 0) (io_some (ie_var 2)) (io_some (ie_op op_addA ok_add (ib_var 2) (ib_of (ie_len W.n_len (ib_var 5))))))) (ib_var 5) rfl))) (fun _ _ _ _ _ => (ie_var 5))) (iss_fz 4 (is_cons (is_if (it_cmp (op_eqM hu64) ok_eq (ib_of (ie_len W.n_len (ib_var 4))) (ib_of ie_int) rfl) (is_one (is_ret ie_non)) is_nil) (is_cons (is_append 1 (ie_ix (ib_var 4) (ib_of ie_int))) (is_one (is_aug 2 op_iaddA ok_iadd (ib_of (ie_len W.n_len (ib_of (ie_ix (ib_var 4) (ib_of ie_int)))))))))))))))) (is_one (is_fz 1 (is_ret (ie_var 1)))))))
theorem fn_nesting (W : Wd P w K mg base T) : Fn P w K mg base T "nesting" 1 1 f_nesting := by
  obtain ⟨fd, Fu⟩ := W.fu_nesting
  refine fn_okT (k := 0) (N := N_nesting) (ps := P_nesting) (sv := sv_nesting) Fu sc_nesting W.gl_nesting (fun _ _ _ _ _ _ us hl => match us, hl with | [_], _ => rfl) fun A outer s H b E hr pre => ?_
  show ISs _ _ sv_nesting
  unfold sv_nesting
  exact (is_cons (is_asg (ie_tup (ia_cons ie_int (ia_cons ie_int ia_nil))) (ig_tup 2 (igs_cons (ig_name 1) (igs_cons (ig_name 2) igs_nil)))) (is_cons (is_for (ii_seq (ie_var 0)) (ig_name 3) (is_cons (is_if (it_cmp (op_eqM hu64) ok_eq (ib_var 3) (ib_of ie_str) rfl) (is_cons (is_aug 1 op_iaddA ok_iadd (ib_of ie_int)) (is_one (is_set 2 (ie_max W.n_max (ia_cons (ie_var 2) (ia_cons (ie_var 1) ia_nil)))))) is_nil) (is_one (is_if (it_cmp (op_eqM hu64) ok_eq (ib_var 3) (ib_of ie_str) rfl) (is_one (is_set 1 (ie_max W.n_max (ia_cons (ie_op op_subA ok_sub (ib_var 1) (ib_of ie_int)) (ia_cons ie_int ia_nil))))) is_nil)))) (is_one (is_ret (ie_var 2)))))
theorem fn_lines_of (W : Wd P w K mg base T) : Fn P w K mg base T "lines_of" 1 1 f_lines_of := by
  obtain ⟨fd, Fu⟩ := W.fu_lines_of
  refine fn_okT (k := 0) (N := N_lines_of) (ps := P_lines_of) (sv := sv_lines_of) Fu sc_lines_of W.gl_lines_of (fun _ _ _ _ _ _ us hl => match us, hl with | [_], _ => rfl) fun A outer s H b E hr pre => ?_
  show ISs _ _ sv_lines_of
  unfold sv_lines_of
  exact (is_cons (is_if (it_cmp (op_eqM hu64) ok_eq (ib_var 0) (ib_of ie_str) rfl) (is_one (is_ret (ie_new (if_lst ia_nil)))) is_nil) (is_cons (is_set 1 (ie_new (if_split (ib_var 0) (ib_of ie_str)))) (is_cons (is_if (it_cmp (op_eqM hu64) ok_eq (ib_of (ie_ix (ib_var 1) (ib_of (ie_un un_neg ok_neg (ib_of ie_int))))) (ib_of ie_str) rfl) (is_one (is_set 1 (ie_sl (ib_var 1) io_none (io_some (ie_un un_neg ok_neg (ib_of ie_int)))))) is_nil) (is_one (is_ret (ie_var 1))))))
theorem fn_empty_signature (W : Wd P w K mg base T) : Fn P w K mg base T "empty_signature" 1 0 f_empty_signature := by
  obtain ⟨fd, Fu⟩ := W.fu_empty_signature
  refine fn_okT (k := 0) (N := N_empty_signature) (ps := P_empty_signature) (sv := sv_empty_signature) Fu sc_empty_signature W.gl_empty_signature (fun _ _ _ _ _ _ us hl => match us, hl with | [], _ => rfl) fun A outer s H b E hr pre => ?_
  show ISs _ _ sv_empty_signature
  unfold sv_empty_signature
  exact (is_one (is_ret (ie_tup (ia_cons (ie_tup ia_nil) (ia_cons (ie_tup ia_nil) ia_nil)))))
theorem fn_sort_names (W : Wd P w K mg base T) : Fn P w K mg base T "sort_names" 1 1 f_sort_names := by
  obtain ⟨fd, Fu⟩ := W.fu_sort_names
  refine fn_okT (k := 0) (N := N_sort_names) (ps := P_sort_names) (sv := sv_sort_names) Fu sc_sort_names W.gl_sort_names (fun _ _ _ _ _ _ us hl => match us, hl with | [_], _ => rfl) fun A outer s H b E hr pre => ?_
  show ISs _ _ sv_sort_names
  unfold sv_sort_names
  exact (is_one (is_ret (ie_new (if_comp [("row", 1)] (ii_seq (ie_ix (ib_var 0) (ib_of ie_int))) (by rfl) (by decide) (fun _ _ _ _ _ => (ig_name 1)) (fun _ _ _ _ _ => its_nil) (fun _ _ _ _ _ => (ie_ix (ib_var 1) (ib_of ie_int)))))))
theorem fn_function_names (W : Wd P w K mg base T) : Fn P w K mg base T "function_names" 1 1 f_function_names := by
  obtain ⟨fd, Fu⟩ := W.fu_function_names
  refine fn_okT (k := 0) (N := N_function_names) (ps := P_function_names) (sv := sv_function_names) Fu sc_function_names W.gl_function_names (fun _ _ _ _ _ _ us hl => match us, hl with | [_], _ => rfl) fun A outer s H b E hr pre => ?_
  show ISs _ _ sv_function_names
  unfold sv_function_names
  exact (is_one (is_ret (ie_new (if_comp [("row", 1)] (ii_seq (ie_ix (ib_var 0) (ib_of ie_int))) (by rfl) (by decide) (fun _ _ _ _ _ => (ig_name 1)) (fun _ _ _ _ _ => (its_one (it_cmp (op_notInM hu65) ok_notIn (ib_of ie_str) (ib_of (ie_ix (ib_var 1) (ib_of ie_int))) rfl))) (fun _ _ _ _ _ => (ie_ix (ib_var 1) (ib_of ie_int)))))))
theorem fn_sort_row (W : Wd P w K mg base T) : Fn P w K mg base T "sort_row" 3 2 f_sort_row := by
  obtain ⟨fd, Fu⟩ := W.fu_sort_row
  refine fn_okT (k := 2) (N := N_sort_row) (ps := P_sort_row) (sv := sv_sort_row) Fu sc_sort_row W.gl_sort_row (fun _ _ _ _ _ _ us hl => match us, hl with | [_, _], _ => rfl) fun A outer s H b E hr pre => ?_
  show ISs _ _ sv_sort_row
  unfold sv_sort_row
  exact (is_cons (is_for (ii_seq (ie_ix (ib_var 0) (ib_of ie_int))) (ig_name 2) (is_one (is_if (it_cmp (op_eqM hu64) ok_eq (ib_of (ie_ix (ib_var 2) (ib_of ie_int))) (ib_var 1) rfl) (is_one (is_ret (ie_var 2))) is_nil))) (is_one (is_raise W.xc_SignError W.n_super (Nat.le_of_ble_eq_true rfl) (ia_cons ie_str (ia_cons (ie_var 1) ia_nil)))))
theorem fn_function_row (W : Wd P w K mg base T) : Fn P w K mg base T "function_row" 3 2 f_function_row := by
  obtain ⟨fd, Fu⟩ := W.fu_function_row
  refine fn_okT (k := 2) (N := N_function_row) (ps := P_function_row) (sv := sv_function_row) Fu sc_function_row W.gl_function_row (fun _ _ _ _ _ _ us hl => match us, hl with | [_, _], _ => rfl) fun A outer s H b E hr pre => ?_
  show ISs _ _ sv_function_row
  unfold sv_function_row
  exact (is_cons (is_for (ii_seq (ie_ix (ib_var 0) (ib_of ie_int))) (ig_name 2) (is_one (is_if (it_cmp (op_eqM hu64) ok_eq (ib_of (ie_ix (ib_var 2) (ib_of ie_int))) (ib_var 1) rfl) (is_one (is_ret (ie_var 2))) is_nil))) (is_one (is_raise W.xc_SignError W.n_super (Nat.le_of_ble_eq_true rfl) (ia_cons ie_str (ia_cons (ie_var 1) ia_nil)))))
theorem fn_kind_of (W : Wd P w K mg base T) : Fn P w K mg base T "kind_of" 4 2 f_kind_of := by
  obtain ⟨fd, Fu⟩ := W.fu_kind_of
  refine fn_okT (k := 3) (N := N_kind_of) (ps := P_kind_of) (sv := sv_kind_of) Fu sc_kind_of W.gl_kind_of (fun _ _ _ _ _ _ us hl => match us, hl with | [_, _], _ => rfl) fun A outer s H b E hr pre => ?_
  show ISs _ _ sv_kind_of
  unfold sv_kind_of
  exact (is_one (is_ret (ie_ix (ib_of (ie_call (fn_sort_row W) (Nat.le_of_ble_eq_true rfl) (ia_cons (ie_var 0) (ia_cons (ie_var 1) ia_nil)))) (ib_of ie_int))))
theorem fn__check_new (W : Wd P w K mg base T) : Fn P w K mg base T "_check_new" 3 2 f__check_new := by
  obtain ⟨fd, Fu⟩ := W.fu__check_new
  refine fn_okT (k := 2) (N := N__check_new) (ps := P__check_new) (sv := sv__check_new) Fu sc__check_new W.gl__check_new (fun _ _ _ _ _ _ us hl => match us, hl with | [_, _], _ => rfl) fun A outer s H b E hr pre => ?_
  show ISs _ _ sv__check_new
  unfold sv__check_new
  exact (is_cons (is_if (it_not (it_val (ie_call (fn_is_name W) (Nat.le_of_ble_eq_true rfl) (ia_cons (ie_var 1) ia_nil)))) (is_one (is_raise W.xc_SignError W.n_super (Nat.le_of_ble_eq_true rfl) (ia_cons ie_str (ia_cons (ie_var 1) ia_nil)))) is_nil) (is_one (is_if (it_w (iw_or (it_cmp (op_inM hu65) ok_in (ib_var 1) (ib_of (ie_call (fn_sort_names W) (Nat.le_of_ble_eq_true rfl) (ia_cons (ie_var 0) ia_nil))) rfl) (iw_or1 (it_cmp (op_inM hu65) ok_in (ib_var 1) (ib_of (ie_call (fn_function_names W) (Nat.le_of_ble_eq_true rfl) (ia_cons (ie_var 0) ia_nil))) rfl)))) (is_one (is_raise W.xc_SignError W.n_super (Nat.le_of_ble_eq_true rfl) (ia_cons ie_str (ia_cons (ie_var 1) ia_nil)))) is_nil)))
theorem fn__with_sort (W : Wd P w K mg base T) : Fn P w K mg base T "_with_sort" 3 3 f__with_sort := by
  obtain ⟨fd, Fu⟩ := W.fu__with_sort
  refine fn_okT (k := 2) (N := N__with_sort) (ps := P__with_sort) (sv := sv__with_sort) Fu sc__with_sort W.gl__with_sort (fun _ _ _ _ _ _ us hl => match us, hl with | [_, _, _], _ => rfl) fun A outer s H b E hr pre => ?_
  show ISs _ _ sv__with_sort
  unfold sv__with_sort
  exact (is_cons (is_if (it_cmp op_ge ok_cmpI (ib_of (ie_len W.n_len (ib_of (ie_ix (ib_var 0) (ib_of ie_int))))) (ib_of (ie_glob W.g_SORTS)) rfl) (is_one (is_raise W.xc_TooMany W.n_super (Nat.le_of_ble_eq_true rfl) (ia_cons ie_str ia_nil))) is_nil) (is_cons (is_if (it_cmp op_gt ok_cmpI (ib_of (ie_op op_addA ok_add (ib_of (ie_len W.n_len (ib_of (ie_call (fn_function_names W) (Nat.le_of_ble_eq_true rfl) (ia_cons (ie_var 0) ia_nil))))) (ib_of (ie_len W.n_len (ib_of (ie_new (if_comp [("new", 3)] (ii_seq (ie_var 2)) (by rfl) (by decide) (fun _ _ _ _ _ => (ig_name 3)) (fun _ _ _ _ _ => (its_one (it_cmp (op_notInM hu65) ok_notIn (ib_of ie_str) (ib_of (ie_ix (ib_var 3) (ib_of ie_int))) rfl))) (fun _ _ _ _ _ => (ie_var 3))))))))) (ib_of (ie_glob W.g_FUNCTIONS)) rfl) (is_one (is_raise W.xc_TooMany W.n_super (Nat.le_of_ble_eq_true rfl) (ia_cons ie_str ia_nil))) is_nil) (is_one (is_ret (ie_tup (ia_cons (ie_op op_addA ok_add (ib_of (ie_ix (ib_var 0) (ib_of ie_int))) (ib_of (ie_tup (ia_cons (ie_var 1) ia_nil)))) (ia_cons (ie_op op_addA ok_add (ib_of (ie_ix (ib_var 0) (ib_of ie_int))) (ib_of (ie_tupOf W.n_tuple (ib_var 2)))) ia_nil)))))))
theorem fn_add_plain (W : Wd P w K mg base T) : Fn P w K mg base T "add_plain" 4 2 f_add_plain := by
  obtain ⟨fd, Fu⟩ := W.fu_add_plain
  refine fn_okT (k := 3) (N := N_add_plain) (ps := P_add_plain) (sv := sv_add_plain) Fu sc_add_plain W.gl_add_plain (fun _ _ _ _ _ _ us hl => match us, hl with | [_, _], _ => rfl) fun A outer s H b E hr pre => ?_
  show ISs _ _ sv_add_plain
  unfold sv_add_plain
  exact (is_cons (is_expr (ie_call (fn__check_new W) (Nat.le_of_ble_eq_true rfl) (ia_cons (ie_var 0) (ia_cons (ie_var 1) ia_nil)))) (is_one (is_ret (ie_call (fn__with_sort W) (Nat.le_of_ble_eq_true rfl) (ia_cons (ie_var 0) (ia_cons (ie_tup (ia_cons (ie_var 1) (ia_cons ie_str (ia_cons (ie_tup ia_nil) ia_nil)))) (ia_cons (ie_new (if_lst ia_nil)) ia_nil)))))))
theorem fn_add_finite (W : Wd P w K mg base T) : Fn P w K mg base T "add_finite" 4 3 f_add_finite := by
  obtain ⟨fd, Fu⟩ := W.fu_add_finite
  refine fn_okT (k := 3) (N := N_add_finite) (ps := P_add_finite) (sv := sv_add_finite) Fu sc_add_finite W.gl_add_finite (fun _ _ _ _ _ _ us hl => match us, hl with | [_, _, _], _ => rfl) fun A outer s H b E hr pre => ?_
  show ISs _ _ sv_add_finite
  unfold sv_add_finite
  exact (is_cons (is_expr (ie_call (fn__check_new W) (Nat.le_of_ble_eq_true rfl) (ia_cons (ie_var 0) (ia_cons (ie_var 1) ia_nil)))) (is_cons (is_if (it_w (iw_or (it_cmp op_lt ok_cmpI (ib_of (ie_len W.n_len (ib_var 2))) (ib_of ie_int) rfl) (iw_or1 (it_cmp op_gt ok_cmpI (ib_of (ie_len W.n_len (ib_var 2))) (ib_of (ie_glob W.g_CONSTANTS)) rfl)))) (is_one (is_raise W.xc_SignError W.n_super (Nat.le_of_ble_eq_true rfl) (ia_cons ie_str (ia_cons (ie_var 1) ia_nil)))) is_nil) (is_cons (is_set 3 (ie_tup (ia_cons (ie_op op_addA ok_add (ib_of (ie_ix (ib_var 0) (ib_of ie_int))) (ib_of (ie_tup (ia_cons (ie_tup (ia_cons (ie_var 1) (ia_cons ie_str (ia_cons (ie_tup ia_nil) ia_nil)))) ia_nil)))) (ia_cons (ie_ix (ib_var 0) (ib_of ie_int)) ia_nil)))) (is_cons (is_for (ii_seq (ie_var 2)) (ig_name 4) (is_cons (is_expr (ie_call (fn__check_new W) (Nat.le_of_ble_eq_true rfl) (ia_cons (ie_var 3) (ia_cons (ie_var 4) ia_nil)))) (is_one (is_set 3 (ie_tup (ia_cons (ie_ix (ib_var 3) (ib_of ie_int)) (ia_cons (ie_op op_addA ok_add (ib_of (ie_ix (ib_var 3) (ib_of ie_int))) (ib_of (ie_tup (ia_cons (ie_tup (ia_cons (ie_var 4) (ia_cons (ie_tup ia_nil) (ia_cons (ie_var 1) ia_nil)))) ia_nil)))) ia_nil))))))) (is_one (is_ret (ie_call (fn__with_sort W) (Nat.le_of_ble_eq_true rfl) (ia_cons (ie_var 0) (ia_cons (ie_tup (ia_cons (ie_var 1) (ia_cons ie_str (ia_cons (ie_tupOf W.n_tuple (ib_var 2)) ia_nil)))) (ia_cons (ie_new (if_comp [("constant", 4)] (ii_seq (ie_var 2)) (by rfl) (by decide) (fun _ _ _ _ _ => (ig_name 4)) (fun _ _ _ _ _ => its_nil) (fun _ _ _ _ _ => (ie_tup (ia_cons (ie_var 4) (ia_cons (ie_tup ia_nil) (ia_cons (ie_var 1) ia_nil))))))) ia_nil))))))))))
theorem fn_part_count (W : Wd P w K mg base T) : ∀ n : Nat, Fn P w K mg base T "part_count" (4 + 2 * n) 2 (fr_part_count n)
  | 0 => (by
    obtain ⟨fd, Fu⟩ := W.fu_part_count
    exact (fn_no Fu W.gl_part_count (ps := ["signature", "name"]) (fun _ _ _ _ _ _ us hl => match us, hl with | [_, _], _ => rfl)).mono (Nat.zero_le _))
  | n + 1 => by
    have ih := fn_part_count W n
    · obtain ⟨fd, Fu⟩ := W.fu_part_count
      refine fn_okT (k := (4 + 2 * n + 1)) (N := N_part_count) (ps := P_part_count) (sv := sv_part_count (fr_part_count n)) Fu sc_part_count W.gl_part_count (fun _ _ _ _ _ _ us hl => match us, hl with | [_, _], _ => rfl) fun A outer s H b E hr pre => ?_
      show ISs _ _ (sv_part_count (fr_part_count n))
      unfold sv_part_count
      exact (is_cons (is_set 2 (ie_call (fn_sort_row W) (by show 3 ≤ (4 + 2 * n + 1); omega) (ia_cons (ie_var 0) (ia_cons (ie_var 1) ia_nil)))) (is_one (is_ret (ie_if (it_cmp (op_eqM hu64) ok_eq (ib_of (ie_ix (ib_var 2) (ib_of ie_int))) (ib_of ie_str) rfl) (ie_sum [("_", 3), ("sort", 4)] (He.tabOf K (He.codeOf K ("part_count", none))) W.n_sum (k := (4 + 2 * n)) (by show (4 + 2 * n) + 1 ≤ (4 + 2 * n + 1); omega) (ii_seq (ie_ix (ib_of (ie_ix (ib_var 2) (ib_of ie_int))) (ib_of ie_int))) (W.inT_part_count) ⟨_, rfl, W.tb_part_count⟩ (fun _ _ _ _ _ _ _ _ _ => (ig_tup 2 (igs_cons (ig_name 3) (igs_cons (ig_name 4) igs_nil)))) (fun _ _ _ _ _ _ _ _ _ => its_nil) (fun _ _ _ _ _ _ _ _ _ => (ie_call ih (by show 4 + 2 * n ≤ (4 + 2 * n); omega) (ia_cons (ie_var 0) (ia_cons (ie_var 4) ia_nil)))) (by rfl) ⟨rfl, rfl, by decide, rfl⟩ (by decide)) ie_int))))
theorem fn_add_record (W : Wd P w K mg base T) : Fn P w K mg base T "add_record" 66 4 f_add_record := by
  obtain ⟨fd, Fu⟩ := W.fu_add_record
  refine fn_okT (k := 65) (N := N_add_record) (ps := P_add_record) (sv := sv_add_record) Fu sc_add_record W.gl_add_record (fun _ _ _ _ _ _ us hl => match us, hl with | [_, _, _, _], _ => rfl) fun A outer s H b E hr pre => ?_
  show ISs _ _ sv_add_record
  unfold sv_add_record
  exact (is_cons (is_expr (ie_call (fn__check_new W) (Nat.le_of_ble_eq_true rfl) (ia_cons (ie_var 0) (ia_cons (ie_var 1) ia_nil)))) (is_cons (is_if (it_w (iw_or (it_cmp op_lt ok_cmpI (ib_of (ie_len W.n_len (ib_var 3))) (ib_of ie_int) rfl) (iw_or1 (it_cmp op_gt ok_cmpI (ib_of (ie_len W.n_len (ib_var 3))) (ib_of (ie_glob W.g_FIELDS)) rfl)))) (is_one (is_raise W.xc_SignError W.n_super (Nat.le_of_ble_eq_true rfl) (ia_cons ie_str (ia_cons (ie_var 1) ia_nil)))) is_nil) (is_cons (is_set 4 (ie_tup (ia_cons (ie_op op_addA ok_add (ib_of (ie_ix (ib_var 0) (ib_of ie_int))) (ib_of (ie_tup (ia_cons (ie_tup (ia_cons (ie_var 1) (ia_cons ie_str (ia_cons (ie_tup ia_nil) ia_nil)))) ia_nil)))) (ia_cons (ie_ix (ib_var 0) (ib_of ie_int)) ia_nil)))) (is_cons (is_for (ii_seq (ie_op op_addA ok_add (ib_of (ie_new (if_lst (ia_cons (ie_var 2) ia_nil)))) (ib_of (ie_new (if_comp [("field", 6), ("_", 7)] (ii_seq (ie_var 3)) (by rfl) (by decide) (fun _ _ _ _ _ => (ig_tup 2 (igs_cons (ig_name 6) (igs_cons (ig_name 7) igs_nil)))) (fun _ _ _ _ _ => its_nil) (fun _ _ _ _ _ => (ie_var 6))))))) (ig_name 5) (is_cons (is_expr (ie_call (fn__check_new W) (Nat.le_of_ble_eq_true rfl) (ia_cons (ie_var 4) (ia_cons (ie_var 5) ia_nil)))) (is_one (is_set 4 (ie_tup (ia_cons (ie_ix (ib_var 4) (ib_of ie_int)) (ia_cons (ie_op op_addA ok_add (ib_of (ie_ix (ib_var 4) (ib_of ie_int))) (ib_of (ie_tup (ia_cons (ie_tup (ia_cons (ie_var 5) (ia_cons (ie_tup ia_nil) (ia_cons (ie_var 1) ia_nil)))) ia_nil)))) ia_nil))))))) (is_cons (is_for (ii_seq (ie_var 3)) (ig_tup 2 (igs_cons (ig_name 7) (igs_cons (ig_name 8) igs_nil))) (is_one (is_expr (ie_call (fn_sort_row W) (Nat.le_of_ble_eq_true rfl) (ia_cons (ie_var 0) (ia_cons (ie_var 8) ia_nil)))))) (is_cons (is_if (it_cmp op_gt ok_cmpI (ib_of (ie_sum [("_", 7), ("sort", 8)] (He.tabOf K (He.codeOf K ("add_record", none))) W.n_sum (k := 64) (Nat.le_of_ble_eq_true rfl) (ii_seq (ie_var 3)) (W.inT_add_record) ⟨_, rfl, W.tb_add_record⟩ (fun _ _ _ _ _ _ _ _ _ => (ig_tup 2 (igs_cons (ig_name 7) (igs_cons (ig_name 8) igs_nil)))) (fun _ _ _ _ _ _ _ _ _ => its_nil) (fun _ _ _ _ _ _ _ _ _ => (ie_call (fn_part_count W nrec_part_count) (Nat.le_of_ble_eq_true rfl) (ia_cons (ie_var 0) (ia_cons (ie_var 8) ia_nil)))) (by rfl) ⟨rfl, rfl, by decide, rfl⟩ (by decide))) (ib_of (ie_glob W.g_WIDE)) rfl) (is_one (is_raise W.xc_SignError W.n_super (Nat.le_of_ble_eq_true rfl) (ia_cons ie_str (ia_cons (ie_var 1) ia_nil)))) is_nil) (is_cons (is_set 9 (ie_op op_addA ok_add (ib_of (ie_new (if_lst (ia_cons (ie_tup (ia_cons (ie_var 2) (ia_cons (ie_tupOf W.n_tuple (ib_of (ie_new (if_comp [("_", 7), ("sort", 8)] (ii_seq (ie_var 3)) (by rfl) (by decide) (fun _ _ _ _ _ => (ig_tup 2 (igs_cons (ig_name 7) (igs_cons (ig_name 8) igs_nil)))) (fun _ _ _ _ _ => its_nil) (fun _ _ _ _ _ => (ie_var 8)))))) (ia_cons (ie_var 1) ia_nil)))) ia_nil)))) (ib_of (ie_new (if_comp [("field", 6), ("sort", 8)] (ii_seq (ie_var 3)) (by rfl) (by decide) (fun _ _ _ _ _ => (ig_tup 2 (igs_cons (ig_name 6) (igs_cons (ig_name 8) igs_nil)))) (fun _ _ _ _ _ => its_nil) (fun _ _ _ _ _ => (ie_tup (ia_cons (ie_var 6) (ia_cons (ie_tup (ia_cons (ie_var 1) ia_nil)) (ia_cons (ie_var 8) ia_nil)))))))))) (is_one (is_ret (ie_call (fn__with_sort W) (Nat.le_of_ble_eq_true rfl) (ia_cons (ie_var 0) (ia_cons (ie_tup (ia_cons (ie_var 1) (ia_cons ie_str (ia_cons (ie_tup (ia_cons (ie_var 2) (ia_cons (ie_tupOf W.n_tuple (ib_of (ie_new (if_comp [("field", 6)] (ii_seq (ie_var 3)) (by rfl) (by decide) (fun _ _ _ _ _ => (ig_name 6)) (fun _ _ _ _ _ => its_nil) (fun _ _ _ _ _ => (ie_tupOf W.n_tuple (ib_var 6))))))) ia_nil))) ia_nil)))) (ia_cons (ie_var 9) ia_nil)))))))))))))
theorem fn_has_arrays (W : Wd P w K mg base T) : ∀ n : Nat, Fn P w K mg base T "has_arrays" (4 + 2 * n) 2 (fr_has_arrays n)
  | 0 => (by
    obtain ⟨fd, Fu⟩ := W.fu_has_arrays
    exact (fn_no Fu W.gl_has_arrays (ps := ["signature", "name"]) (fun _ _ _ _ _ _ us hl => match us, hl with | [_, _], _ => rfl)).mono (Nat.zero_le _))
  | n + 1 => by
    have ih := fn_has_arrays W n
    · obtain ⟨fd, Fu⟩ := W.fu_has_arrays
      refine fn_okT (k := (4 + 2 * n + 1)) (N := N_has_arrays) (ps := P_has_arrays) (sv := sv_has_arrays (fr_has_arrays n)) Fu sc_has_arrays W.gl_has_arrays (fun _ _ _ _ _ _ us hl => match us, hl with | [_, _], _ => rfl) fun A outer s H b E hr pre => ?_
      show ISs _ _ (sv_has_arrays (fr_has_arrays n))
      unfold sv_has_arrays
      exact (is_cons (is_set 2 (ie_call (fn_sort_row W) (by show 3 ≤ (4 + 2 * n + 1); omega) (ia_cons (ie_var 0) (ia_cons (ie_var 1) ia_nil)))) (is_cons (is_if (it_cmp (op_eqM hu64) ok_eq (ib_of (ie_ix (ib_var 2) (ib_of ie_int))) (ib_of ie_str) rfl) (is_one (is_ret ie_bl)) is_nil) (is_one (is_ret (ie_and (ie_cmp (op_eqM hu64) ok_eq (ib_of (ie_ix (ib_var 2) (ib_of ie_int))) (ib_of ie_str) rfl) (ie_one (ie_any [("_", 3), ("sort", 4)] (He.tabOf K (He.codeOf K ("has_arrays", none))) W.n_any (k := (4 + 2 * n)) (by show (4 + 2 * n) + 1 ≤ (4 + 2 * n + 1); omega) (ii_seq (ie_ix (ib_of (ie_ix (ib_var 2) (ib_of ie_int))) (ib_of ie_int))) (W.inT_has_arrays) ⟨_, rfl, W.tb_has_arrays⟩ (fun _ _ _ _ _ _ _ _ _ => (ig_tup 2 (igs_cons (ig_name 3) (igs_cons (ig_name 4) igs_nil)))) (fun _ _ _ _ _ _ _ _ _ => its_nil) (fun _ _ _ _ _ _ _ _ _ => (ie_call ih (by show 4 + 2 * n ≤ (4 + 2 * n); omega) (ia_cons (ie_var 0) (ia_cons (ie_var 4) ia_nil)))) (by rfl) ⟨rfl, rfl, by decide, rfl⟩ (by decide))))))))
theorem fn_closed_count (W : Wd P w K mg base T) : ∀ n : Nat, Fn P w K mg base T "closed_count" (3 + 1 * n) 2 (fr_closed_count n)
  | 0 => (by
    obtain ⟨fd, Fu⟩ := W.fu_closed_count
    exact (fn_no Fu W.gl_closed_count (ps := ["signature", "name"]) (fun _ _ _ _ _ _ us hl => match us, hl with | [_, _], _ => rfl)).mono (Nat.zero_le _))
  | n + 1 => by
    have ih := fn_closed_count W n
    · obtain ⟨fd, Fu⟩ := W.fu_closed_count
      refine fn_okT (k := (3 + 1 * n)) (N := N_closed_count) (ps := P_closed_count) (sv := sv_closed_count (fr_closed_count n)) Fu sc_closed_count W.gl_closed_count (fun _ _ _ _ _ _ us hl => match us, hl with | [_, _], _ => rfl) fun A outer s H b E hr pre => ?_
      show ISs _ _ (sv_closed_count (fr_closed_count n))
      unfold sv_closed_count
      exact (is_cons (is_set 2 (ie_call (fn_sort_row W) (by show 3 ≤ (3 + 1 * n); omega) (ia_cons (ie_var 0) (ia_cons (ie_var 1) ia_nil)))) (is_cons (is_if (it_cmp (op_eqM hu64) ok_eq (ib_of (ie_ix (ib_var 2) (ib_of ie_int))) (ib_of ie_str) rfl) (is_one (is_ret (ie_len W.n_len (ib_of (ie_ix (ib_var 2) (ib_of ie_int)))))) is_nil) (is_cons (is_if (it_cmp (op_neM hu64) ok_ne (ib_of (ie_ix (ib_var 2) (ib_of ie_int))) (ib_of ie_str) rfl) (is_one (is_ret ie_int)) is_nil) (is_cons (is_set 3 ie_int) (is_cons (is_for (ii_seq (ie_ix (ib_of (ie_ix (ib_var 2) (ib_of ie_int))) (ib_of ie_int))) (ig_tup 2 (igs_cons (ig_name 4) (igs_cons (ig_name 5) igs_nil))) (is_one (is_set 3 (ie_op op_mulA ok_mul (ib_var 3) (ib_of (ie_call ih (by show 3 + 1 * n ≤ (3 + 1 * n); omega) (ia_cons (ie_var 0) (ia_cons (ie_var 5) ia_nil)))))))) (is_one (is_ret (ie_var 3))))))))
theorem fn_add_array (W : Wd P w K mg base T) : Fn P w K mg base T "add_array" 65 4 f_add_array := by
  obtain ⟨fd, Fu⟩ := W.fu_add_array
  refine fn_okT (k := 64) (N := N_add_array) (ps := P_add_array) (sv := sv_add_array) Fu sc_add_array W.gl_add_array (fun _ _ _ _ _ _ us hl => match us, hl with | [_, _, _, _], _ => rfl) fun A outer s H b E hr pre => ?_
  show ISs _ _ sv_add_array
  unfold sv_add_array
  exact (is_cons (is_expr (ie_call (fn__check_new W) (Nat.le_of_ble_eq_true rfl) (ia_cons (ie_var 0) (ia_cons (ie_var 1) ia_nil)))) (is_cons (is_for (ii_seq (ie_tup (ia_cons (ie_var 2) (ia_cons (ie_var 3) ia_nil)))) (ig_name 4) (is_one (is_if (it_val (ie_call (fn_has_arrays W nrec_has_arrays) (Nat.le_of_ble_eq_true rfl) (ia_cons (ie_var 0) (ia_cons (ie_var 4) ia_nil)))) (is_one (is_raise W.xc_SignError W.n_super (Nat.le_of_ble_eq_true rfl) (ia_cons ie_str (ia_cons (ie_var 1) ia_nil)))) is_nil))) (is_cons (is_if (it_w (iw_and (it_cmp (op_neM hu64) ok_ne (ib_of (ie_call (fn_kind_of W) (Nat.le_of_ble_eq_true rfl) (ia_cons (ie_var 0) (ia_cons (ie_var 2) ia_nil)))) (ib_of ie_str) rfl) (iw_and1 (it_not (it_chain op_lt ok_cmpI op_le ok_cmpI (ib_of ie_int) (ib_of (ie_call (fn_closed_count W nrec_closed_count) (Nat.le_of_ble_eq_true rfl) (ia_cons (ie_var 0) (ia_cons (ie_var 2) ia_nil)))) (ib_of (ie_glob W.g_INDEXES))))))) (is_one (is_raise W.xc_SignError W.n_super (Nat.le_of_ble_eq_true rfl) (ia_cons ie_str (ia_cons (ie_var 1) ia_nil)))) is_nil) (is_cons (is_setO 5 (if_lst (ia_cons (ie_tup (ia_cons (ie_op op_addA ok_add (ib_var 1) (ib_of ie_str)) (ia_cons (ie_tup (ia_cons (ie_var 1) (ia_cons (ie_var 2) ia_nil))) (ia_cons (ie_var 3) ia_nil)))) (ia_cons (ie_tup (ia_cons (ie_op op_addA ok_add (ib_var 1) (ib_of ie_str)) (ia_cons (ie_tup (ia_cons (ie_var 1) (ia_cons (ie_var 2) (ia_cons (ie_var 3) ia_nil)))) (ia_cons (ie_var 1) ia_nil)))) ia_nil)))) (is_cons (is_append 5 (ie_tup (ia_cons (ie_op op_addA ok_add (ib_var 1) (ib_of ie_str)) (ia_cons (ie_tup (ia_cons (ie_var 1) (ia_cons (ie_var 1) ia_nil))) (ia_cons (ie_var 2) ia_nil))))) (is_one (is_fz 5 (is_ret (ie_call (fn__with_sort W) (Nat.le_of_ble_eq_true rfl) (ia_cons (ie_var 0) (ia_cons (ie_tup (ia_cons (ie_var 1) (ia_cons ie_str (ia_cons (ie_tup (ia_cons (ie_var 2) (ia_cons (ie_var 3) ia_nil))) ia_nil)))) (ia_cons (ie_var 5) ia_nil))))))))))))
theorem fn_add_function (W : Wd P w K mg base T) : Fn P w K mg base T "add_function" 4 4 f_add_function := by
  obtain ⟨fd, Fu⟩ := W.fu_add_function
  refine fn_okT (k := 3) (N := N_add_function) (ps := P_add_function) (sv := sv_add_function) Fu sc_add_function W.gl_add_function (fun _ _ _ _ _ _ us hl => match us, hl with | [_, _, _, _], _ => rfl) fun A outer s H b E hr pre => ?_
  show ISs _ _ sv_add_function
  unfold sv_add_function
  exact (is_cons (is_expr (ie_call (fn__check_new W) (Nat.le_of_ble_eq_true rfl) (ia_cons (ie_var 0) (ia_cons (ie_var 1) ia_nil)))) (is_cons (is_if (it_cmp op_gt ok_cmpI (ib_of (ie_len W.n_len (ib_var 2))) (ib_of (ie_glob W.g_PLACES)) rfl) (is_one (is_raise W.xc_SignError W.n_super (Nat.le_of_ble_eq_true rfl) (ia_cons ie_str (ia_cons (ie_var 1) ia_nil)))) is_nil) (is_cons (is_for (ii_seq (ie_op op_addA ok_add (ib_of (ie_new (if_lstOf W.n_list (ib_var 2)))) (ib_of (ie_new (if_lst (ia_cons (ie_var 3) ia_nil)))))) (ig_name 4) (is_one (is_expr (ie_call (fn_sort_row W) (Nat.le_of_ble_eq_true rfl) (ia_cons (ie_var 0) (ia_cons (ie_var 4) ia_nil)))))) (is_cons (is_if (it_cmp op_ge ok_cmpI (ib_of (ie_len W.n_len (ib_of (ie_call (fn_function_names W) (Nat.le_of_ble_eq_true rfl) (ia_cons (ie_var 0) ia_nil))))) (ib_of (ie_glob W.g_FUNCTIONS)) rfl) (is_one (is_raise W.xc_TooMany W.n_super (Nat.le_of_ble_eq_true rfl) (ia_cons ie_str ia_nil))) is_nil) (is_one (is_ret (ie_tup (ia_cons (ie_ix (ib_var 0) (ib_of ie_int)) (ia_cons (ie_op op_addA ok_add (ib_of (ie_ix (ib_var 0) (ib_of ie_int))) (ib_of (ie_tup (ia_cons (ie_tup (ia_cons (ie_var 1) (ia_cons (ie_tupOf W.n_tuple (ib_var 2)) (ia_cons (ie_var 3) ia_nil)))) ia_nil)))) ia_nil)))))))))
theorem fn_size_of (W : Wd P w K mg base T) : ∀ n : Nat, Fn P w K mg base T "size_of" (1 + 2 * n) 1 (fr_size_of n)
  | 0 => (by
    obtain ⟨fd, Fu⟩ := W.fu_size_of
    exact (fn_no Fu W.gl_size_of (ps := ["term"]) (fun _ _ _ _ _ _ us hl => match us, hl with | [_], _ => rfl)).mono (Nat.zero_le _))
  | n + 1 => by
    have ih := fn_size_of W n
    · obtain ⟨fd, Fu⟩ := W.fu_size_of
      refine fn_okT (k := (1 + 2 * n + 1)) (N := N_size_of) (ps := P_size_of) (sv := sv_size_of (fr_size_of n)) Fu sc_size_of W.gl_size_of (fun _ _ _ _ _ _ us hl => match us, hl with | [_], _ => rfl) fun A outer s H b E hr pre => ?_
      show ISs _ _ (sv_size_of (fr_size_of n))
      unfold sv_size_of
      exact (is_one (is_ret (ie_op op_addA ok_add (ib_of ie_int) (ib_of (ie_sum [("part", 1)] (He.tabOf K (He.codeOf K ("size_of", none))) W.n_sum (k := (1 + 2 * n)) (by show (1 + 2 * n) + 1 ≤ (1 + 2 * n + 1); omega) (ii_seq (ie_sl (ib_var 0) (io_some ie_int) io_none)) (W.inT_size_of) ⟨_, rfl, W.tb_size_of⟩ (fun _ _ _ _ _ _ _ _ _ => (ig_name 1)) (fun _ _ _ _ _ _ _ _ _ => its_nil) (fun _ _ _ _ _ _ _ _ _ => (ie_call ih (by show 1 + 2 * n ≤ (1 + 2 * n); omega) (ia_cons (ie_var 1) ia_nil))) (by rfl) ⟨rfl, rfl, by decide, rfl⟩ (by decide))))))
theorem fn_check_term (W : Wd P w K mg base T) : ∀ n : Nat, Fn P w K mg base T "check_term" (2 + 1 * n) 2 (fr_check_term n)
  | 0 => (by
    obtain ⟨fd, Fu⟩ := W.fu_check_term
    exact (fn_no Fu W.gl_check_term (ps := ["signature", "term"]) (fun _ _ _ _ _ _ us hl => match us, hl with | [_, _], _ => rfl)).mono (Nat.zero_le _))
  | n + 1 => by
    have ih := fn_check_term W n
    · obtain ⟨fd, Fu⟩ := W.fu_check_term
      refine fn_okT (k := (2 + 1 * n)) (N := N_check_term) (ps := P_check_term) (sv := sv_check_term (fr_check_term n)) Fu sc_check_term W.gl_check_term (fun _ _ _ _ _ _ us hl => match us, hl with | [_, _], _ => rfl) fun A outer s H b E hr pre => ?_
      show ISs _ _ (sv_check_term (fr_check_term n))
      unfold sv_check_term
      exact (is_cons (is_setLc 2 [("part", 3)] (ii_seq (ie_sl (ib_var 1) (io_some ie_int) io_none)) (by rfl) (by decide) (fun _ _ _ _ _ => (ig_name 3)) (fun _ _ _ _ _ => its_nil) (fun _ _ _ _ _ => (ie_call ih (by show 2 + 1 * n ≤ (2 + 1 * n); omega) (ia_cons (ie_var 0) (ia_cons (ie_var 3) ia_nil))))) (iss_fz 2 (is_cons (is_setLc 4 [("row", 5)] (ii_seq (ie_ix (ib_var 0) (ib_of ie_int))) (by rfl) (by decide) (fun _ _ _ _ _ => (ig_name 5)) (fun _ _ _ _ _ => (its_one (it_cmp (op_eqM hu64) ok_eq (ib_of (ie_ix (ib_var 5) (ib_of ie_int))) (ib_of (ie_ix (ib_var 1) (ib_of ie_int))) rfl))) (fun _ _ _ _ _ => (ie_var 5))) (iss_fz 4 (is_cons (is_if (it_cmp (op_eqM hu64) ok_eq (ib_of (ie_len W.n_len (ib_var 4))) (ib_of ie_int) rfl) (is_one (is_raise W.xc_SortError W.n_super (by show 2 ≤ (2 + 1 * n); omega) (ia_cons ie_str (ia_cons (ie_ix (ib_var 1) (ib_of ie_int)) ia_nil)))) is_nil) (is_cons (is_if (it_cmp (op_neM hu64) ok_ne (ib_of (ie_len W.n_len (ib_var 2))) (ib_of (ie_len W.n_len (ib_of (ie_ix (ib_of (ie_ix (ib_var 4) (ib_of ie_int))) (ib_of ie_int))))) rfl) (is_one (is_raise W.xc_SortError W.n_super (by show 2 ≤ (2 + 1 * n); omega) (ia_cons ie_str (ia_cons (ie_ix (ib_var 1) (ib_of ie_int)) ia_nil)))) is_nil) (is_cons (is_if (it_cmp (op_neM hu64) ok_ne (ib_of (ie_tupOf W.n_tuple (ib_var 2))) (ib_of (ie_ix (ib_of (ie_ix (ib_var 4) (ib_of ie_int))) (ib_of ie_int))) rfl) (is_one (is_raise W.xc_SortError W.n_super (by show 2 ≤ (2 + 1 * n); omega) (ia_cons ie_str (ia_cons (ie_ix (ib_var 1) (ib_of ie_int)) ia_nil)))) is_nil) (is_one (is_ret (ie_ix (ib_of (ie_ix (ib_var 4) (ib_of ie_int))) (ib_of ie_int)))))))))))
theorem fn_sort_of (W : Wd P w K mg base T) : Fn P w K mg base T "sort_of" 4 2 f_sort_of := by
  obtain ⟨fd, Fu⟩ := W.fu_sort_of
  refine fn_okT (k := 3) (N := N_sort_of) (ps := P_sort_of) (sv := sv_sort_of) Fu sc_sort_of W.gl_sort_of (fun _ _ _ _ _ _ us hl => match us, hl with | [_, _], _ => rfl) fun A outer s H b E hr pre => ?_
  show ISs _ _ sv_sort_of
  unfold sv_sort_of
  exact (is_one (is_ret (ie_ix (ib_of (ie_call (fn_function_row W) (Nat.le_of_ble_eq_true rfl) (ia_cons (ie_var 0) (ia_cons (ie_ix (ib_var 1) (ib_of ie_int)) ia_nil)))) (ib_of ie_int))))
theorem fn_term_text (W : Wd P w K mg base T) : ∀ n : Nat, Fn P w K mg base T "term_text" (0 + 1 * n) 1 (fr_term_text n)
  | 0 => (by
    obtain ⟨fd, Fu⟩ := W.fu_term_text
    exact (fn_no Fu W.gl_term_text (ps := ["term"]) (fun _ _ _ _ _ _ us hl => match us, hl with | [_], _ => rfl)).mono (Nat.zero_le _))
  | n + 1 => by
    have ih := fn_term_text W n
    · obtain ⟨fd, Fu⟩ := W.fu_term_text
      refine fn_okT (k := (0 + 1 * n)) (N := N_term_text) (ps := P_term_text) (sv := sv_term_text (fr_term_text n)) Fu sc_term_text W.gl_term_text (fun _ _ _ _ _ _ us hl => match us, hl with | [_], _ => rfl) fun A outer s H b E hr pre => ?_
      show ISs _ _ (sv_term_text (fr_term_text n))
      unfold sv_term_text
      exact (is_cons (is_if (it_cmp (op_inM hu65) ok_in (ib_of ie_str) (ib_of (ie_ix (ib_var 0) (ib_of ie_int))) rfl) (is_cons (is_set 1 (ie_ix (ib_of (ie_new (if_split (ib_of (ie_ix (ib_var 0) (ib_of ie_int))) (ib_of ie_str)))) (ib_of ie_int))) (is_one (is_ret (ie_op op_addA ok_add (ib_of (ie_op op_addA ok_add (ib_of (ie_op op_addA ok_add (ib_of (ie_op op_addA ok_add (ib_of (ie_op op_addA ok_add (ib_of (ie_call ih (by show 0 + 1 * n ≤ (0 + 1 * n); omega) (ia_cons (ie_ix (ib_var 0) (ib_of ie_int)) ia_nil))) (ib_of ie_str))) (ib_var 1))) (ib_of ie_str))) (ib_of (ie_join (ib_of ie_str) (ib_of (ie_new (if_comp [("part", 2)] (ii_seq (ie_sl (ib_var 0) (io_some ie_int) io_none)) (by rfl) (by decide) (fun _ _ _ _ _ => (ig_name 2)) (fun _ _ _ _ _ => its_nil) (fun _ _ _ _ _ => (ie_call ih (by show 0 + 1 * n ≤ (0 + 1 * n); omega) (ia_cons (ie_var 2) ia_nil)))))))))) (ib_of ie_str))))) is_nil) (is_cons (is_if (it_cmp (op_eqM hu64) ok_eq (ib_of (ie_len W.n_len (ib_var 0))) (ib_of ie_int) rfl) (is_one (is_ret (ie_ix (ib_var 0) (ib_of ie_int)))) is_nil) (is_one (is_ret (ie_op op_addA ok_add (ib_of (ie_op op_addA ok_add (ib_of (ie_op op_addA ok_add (ib_of (ie_ix (ib_var 0) (ib_of ie_int))) (ib_of ie_str))) (ib_of (ie_join (ib_of ie_str) (ib_of (ie_new (if_comp [("part", 2)] (ii_seq (ie_sl (ib_var 0) (io_some ie_int) io_none)) (by rfl) (by decide) (fun _ _ _ _ _ => (ig_name 2)) (fun _ _ _ _ _ => its_nil) (fun _ _ _ _ _ => (ie_call ih (by show 0 + 1 * n ≤ (0 + 1 * n); omega) (ia_cons (ie_var 2) ia_nil)))))))))) (ib_of ie_str))))))
theorem fn_g__read_parts (W : Wd P w K mg base T) : ∀ n : Nat, Fn P w K mg base T "_read_parts" (4 + 1 * n) 4 (fr__read_parts n) ∧ Fn P w K mg base T "read_term" (4 + 1 * n) 4 (fr_read_term n)
  | 0 => ⟨(by
    obtain ⟨fd, Fu⟩ := W.fu__read_parts
    exact (fn_no Fu W.gl__read_parts (ps := ["signature", "tokens", "at", "words"]) (fun _ _ _ _ _ _ us hl => match us, hl with | [_, _, _, _], _ => rfl)).mono (Nat.zero_le _)), (by
    obtain ⟨fd, Fu⟩ := W.fu_read_term
    exact (fn_no Fu W.gl_read_term (ps := ["signature", "tokens", "at", "words"]) (fun _ _ _ _ _ _ us hl => match us, hl with | [_, _, _, _], _ => rfl)).mono (Nat.zero_le _))⟩
  | n + 1 => by
    have ih := fn_g__read_parts W n
    refine ⟨?_, ?_⟩
    · obtain ⟨fd, Fu⟩ := W.fu__read_parts
      refine fn_okT (k := (4 + 1 * n)) (N := N__read_parts) (ps := P__read_parts) (sv := sv__read_parts (fr__read_parts n) (fr_read_term n)) Fu sc__read_parts W.gl__read_parts (fun _ _ _ _ _ _ us hl => match us, hl with | [_, _, _, _], _ => rfl) fun A outer s H b E hr pre => ?_
      show ISs _ _ (sv__read_parts (fr__read_parts n) (fr_read_term n))
      unfold sv__read_parts
      exact (is_cons (is_setO 4 (if_lst ia_nil)) (is_cons (is_if (it_w (iw_or (it_cmp op_ge ok_cmpI (ib_var 2) (ib_of (ie_len W.n_len (ib_var 1))) rfl) (iw_or1 (it_cmp (op_neM hu64) ok_ne (ib_of (ie_ix (ib_var 1) (ib_var 2))) (ib_of ie_str) rfl)))) (is_one (is_ret ie_non)) is_nil) (is_cons (is_while 1000 (it_cmp (op_neM hu64) ok_ne (ib_of (ie_ix (ib_var 1) (ib_var 2))) (ib_of ie_str) rfl) (is_cons (is_set 5 (ie_call (ih.2) (by show 4 + 1 * n ≤ (4 + 1 * n); omega) (ia_cons (ie_var 0) (ia_cons (ie_var 1) (ia_cons (ie_op op_addA ok_add (ib_var 2) (ib_of ie_int)) (ia_cons (ie_var 3) ia_nil)))))) (is_cons (is_if (it_w (iw_or (it_isN (ib_var 5)) (iw_or (it_cmp op_ge ok_cmpI (ib_of (ie_ix (ib_var 5) (ib_of ie_int))) (ib_of (ie_len W.n_len (ib_var 1))) rfl) (iw_or1 (it_cmp (op_notInM hu65) ok_notIn (ib_of (ie_ix (ib_var 1) (ib_of (ie_ix (ib_var 5) (ib_of ie_int))))) (ib_of (ie_tup (ia_cons ie_str (ia_cons ie_str ia_nil)))) rfl))))) (is_one (is_ret ie_non)) is_nil) (is_cons (is_append 4 (ie_ix (ib_var 5) (ib_of ie_int))) (is_one (is_set 2 (ie_ix (ib_var 5) (ib_of ie_int)))))))) (is_one (is_fz 4 (is_ret (ie_tup (ia_cons (ie_var 4) (ia_cons (ie_op op_addA ok_add (ib_var 2) (ib_of ie_int)) ia_nil)))))))))
    · obtain ⟨fd, Fu⟩ := W.fu_read_term
      refine fn_okT (k := (4 + 1 * n)) (N := N_read_term) (ps := P_read_term) (sv := sv_read_term (fr__read_parts n) (fr_read_term n)) Fu sc_read_term W.gl_read_term (fun _ _ _ _ _ _ us hl => match us, hl with | [_, _, _, _], _ => rfl) fun A outer s H b E hr pre => ?_
      show ISs _ _ (sv_read_term (fr__read_parts n) (fr_read_term n))
      unfold sv_read_term
      exact (is_cons (is_if (it_w (iw_or (it_cmp op_ge ok_cmpI (ib_var 2) (ib_of (ie_len W.n_len (ib_var 1))) rfl) (iw_or (it_not (it_val (ie_call (fn_is_name W) (by show 2 ≤ (4 + 1 * n); omega) (ia_cons (ie_ix (ib_var 1) (ib_var 2)) ia_nil)))) (iw_or1 (it_cmp (op_notInM hu65) ok_notIn (ib_of (ie_ix (ib_var 1) (ib_var 2))) (ib_of (ie_call (fn_function_names W) (by show 1 ≤ (4 + 1 * n); omega) (ia_cons (ie_var 0) ia_nil))) rfl))))) (is_one (is_ret ie_non)) is_nil) (is_cons (is_par 4 2 (im_cons (ie_ix (ib_var 1) (ib_var 2)) (im_cons (ie_op op_addA ok_add (ib_var 2) (ib_of ie_int)) im_nil))) (is_cons (is_set 5 (ie_new (if_lst ia_nil))) (is_cons (is_if (it_cmp op_gt ok_cmpI (ib_of (ie_len W.n_len (ib_of (ie_ix (ib_of (ie_call (fn_function_row W) (by show 3 ≤ (4 + 1 * n); omega) (ia_cons (ie_var 0) (ia_cons (ie_var 4) ia_nil)))) (ib_of ie_int))))) (ib_of ie_int) rfl) (is_cons (is_set 6 (ie_call (ih.1) (by show 4 + 1 * n ≤ (4 + 1 * n); omega) (ia_cons (ie_var 0) (ia_cons (ie_var 1) (ia_cons (ie_var 2) (ia_cons (ie_var 3) ia_nil)))))) (is_cons (is_if (it_isN (ib_var 6)) (is_one (is_ret ie_non)) is_nil) (is_one (is_asg (ie_var 6) (ig_tup 2 (igs_cons (ig_name 5) (igs_cons (ig_name 2) igs_nil))))))) is_nil) (is_cons (is_set 7 (ie_op op_addA ok_add (ib_of (ie_tup (ia_cons (ie_var 4) ia_nil))) (ib_of (ie_tupOf W.n_tuple (ib_var 5))))) (is_cons (is_while 1000 (it_w (iw_and (it_cmp op_lt ok_cmpI (ib_of (ie_op op_addA ok_add (ib_var 2) (ib_of ie_int))) (ib_of (ie_len W.n_len (ib_var 1))) rfl) (iw_and1 (it_cmp (op_eqM hu64) ok_eq (ib_of (ie_ix (ib_var 1) (ib_var 2))) (ib_of ie_str) rfl)))) (is_cons (is_set 8 (ie_call (fn_sort_of W) (by show 4 ≤ (4 + 1 * n); omega) (ia_cons (ie_var 0) (ia_cons (ie_var 7) ia_nil)))) (is_cons (is_if (it_w (iw_or (it_cmp (op_neM hu64) ok_ne (ib_of (ie_call (fn_kind_of W) (by show 4 ≤ (4 + 1 * n); omega) (ia_cons (ie_var 0) (ia_cons (ie_var 8) ia_nil)))) (ib_of ie_str) rfl) (iw_or1 (it_cmp (op_notInM hu65) ok_notIn (ib_of (ie_ix (ib_var 1) (ib_of (ie_op op_addA ok_add (ib_var 2) (ib_of ie_int))))) (ib_var 3) rfl)))) (is_one (is_ret ie_non)) is_nil) (is_cons (is_set 6 (ie_call (ih.1) (by show 4 + 1 * n ≤ (4 + 1 * n); omega) (ia_cons (ie_var 0) (ia_cons (ie_var 1) (ia_cons (ie_op op_addA ok_add (ib_var 2) (ib_of ie_int)) (ia_cons (ie_var 3) ia_nil)))))) (is_cons (is_if (it_isN (ib_var 6)) (is_one (is_ret ie_non)) is_nil) (is_one (is_par 7 2 (im_cons (ie_op op_addA ok_add (ib_of (ie_tup (ia_cons (ie_op op_addA ok_add (ib_of (ie_op op_addA ok_add (ib_var 8) (ib_of ie_str))) (ib_of (ie_ix (ib_var 1) (ib_of (ie_op op_addA ok_add (ib_var 2) (ib_of ie_int)))))) (ia_cons (ie_var 7) ia_nil)))) (ib_of (ie_tupOf W.n_tuple (ib_of (ie_ix (ib_var 6) (ib_of ie_int)))))) (im_cons (ie_ix (ib_var 6) (ib_of ie_int)) im_nil))))))))) (is_one (is_ret (ie_tup (ia_cons (ie_var 7) (ia_cons (ie_var 2) ia_nil)))))))))))
theorem fn__read_parts (W : Wd P w K mg base T) (n : Nat) : Fn P w K mg base T "_read_parts" (4 + 1 * n) 4 (fr__read_parts n) := (fn_g__read_parts W n).1
theorem fn_read_term (W : Wd P w K mg base T) (n : Nat) : Fn P w K mg base T "read_term" (4 + 1 * n) 4 (fr_read_term n) := (fn_g__read_parts W n).2
theorem fn_is_term (W : Wd P w K mg base T) : Fn P w K mg base T "is_term" 33 2 f_is_term := by
  obtain ⟨fd, Fu⟩ := W.fu_is_term
  refine fn_okT (k := 32) (N := N_is_term) (ps := P_is_term) (sv := sv_is_term) Fu sc_is_term W.gl_is_term (fun _ _ _ _ _ _ us hl => match us, hl with | [_, _], _ => rfl) fun A outer s H b E hr pre => ?_
  show ISs _ _ sv_is_term
  unfold sv_is_term
  exact (is_cons (is_try W.ek (hs_plain1 W.ek rfl (fun _ => (is_one (is_ret ie_bl))) hs_nil) (fun _ _ _ _ _ => (is_one (is_expr (ie_call (fn_check_term W nrec_check_term) (Nat.le_of_ble_eq_true rfl) (ia_cons (ie_var 0) (ia_cons (ie_var 1) ia_nil))))))) (is_one (is_ret ie_bl)))
theorem fn_parse_term (W : Wd P w K mg base T) : FnDf P w K mg base T "parse_term" 35 2 f_parse_term := by
  obtain ⟨fd, Fu⟩ := W.fu_parse_term
  refine fn_df (k := 34) (n := 2) (N := N_parse_term) (ps := P_parse_term) (sv := sv_parse_term) Fu sc_parse_term W.gl_parse_term W.df_parse_term rfl (fun _ _ _ _ _ _ _ us its h1 h2 => match us, its, h1, h2 with | [_, _], [_], _, _ => ⟨_, rfl, rfl⟩) fun A outer s H b E hr pre => ?_
  show ISs _ _ sv_parse_term
  unfold sv_parse_term
  exact (is_cons (is_set 3 (ie_call (fn_read_term W nrec__read_parts) (Nat.le_of_ble_eq_true rfl) (ia_cons (ie_var 0) (ia_cons (ie_var 1) (ia_cons ie_int (ia_cons (ie_var 2) ia_nil)))))) (is_cons (is_if (it_w (iw_or (it_isN (ib_var 3)) (iw_or1 (it_cmp (op_neM hu64) ok_ne (ib_of (ie_ix (ib_var 3) (ib_of ie_int))) (ib_of (ie_len W.n_len (ib_var 1))) rfl)))) (is_one (is_ret ie_non)) is_nil) (is_one (is_ret (ie_if (it_val (ie_call (fn_is_term W) (Nat.le_of_ble_eq_true rfl) (ia_cons (ie_var 0) (ia_cons (ie_ix (ib_var 3) (ib_of ie_int)) ia_nil)))) (ie_ix (ib_var 3) (ib_of ie_int)) ie_non)))))
theorem fn_check_equation (W : Wd P w K mg base T) : Fn P w K mg base T "check_equation" 33 3 f_check_equation := by
  obtain ⟨fd, Fu⟩ := W.fu_check_equation
  refine fn_okT (k := 32) (N := N_check_equation) (ps := P_check_equation) (sv := sv_check_equation) Fu sc_check_equation W.gl_check_equation (fun _ _ _ _ _ _ us hl => match us, hl with | [_, _, _], _ => rfl) fun A outer s H b E hr pre => ?_
  show ISs _ _ sv_check_equation
  unfold sv_check_equation
  exact (is_cons (is_set 3 (ie_call (fn_check_term W nrec_check_term) (Nat.le_of_ble_eq_true rfl) (ia_cons (ie_var 0) (ia_cons (ie_var 1) ia_nil)))) (is_cons (is_if (it_cmp (op_neM hu64) ok_ne (ib_of (ie_call (fn_check_term W nrec_check_term) (Nat.le_of_ble_eq_true rfl) (ia_cons (ie_var 0) (ia_cons (ie_var 2) ia_nil)))) (ib_var 3) rfl) (is_one (is_raise W.xc_SortError W.n_super (Nat.le_of_ble_eq_true rfl) (ia_cons ie_str (ia_cons (ie_ix (ib_var 2) (ib_of ie_int)) ia_nil)))) is_nil) (is_one (is_ret (ie_var 3)))))
theorem fn_check_size (W : Wd P w K mg base T) : Fn P w K mg base T "check_size" 62 1 f_check_size := by
  obtain ⟨fd, Fu⟩ := W.fu_check_size
  refine fn_okT (k := 61) (N := N_check_size) (ps := P_check_size) (sv := sv_check_size) Fu sc_check_size W.gl_check_size (fun _ _ _ _ _ _ us hl => match us, hl with | [_], _ => rfl) fun A outer s H b E hr pre => ?_
  show ISs _ _ sv_check_size
  unfold sv_check_size
  exact (is_one (is_if (it_cmp op_gt ok_cmpI (ib_of (ie_call (fn_size_of W nrec_size_of) (Nat.le_of_ble_eq_true rfl) (ia_cons (ie_var 0) ia_nil))) (ib_of (ie_glob W.g_SIZE)) rfl) (is_one (is_raise W.xc_SortError W.n_super (Nat.le_of_ble_eq_true rfl) (ia_cons ie_str (ia_cons (ie_ix (ib_var 0) (ib_of ie_int)) ia_nil)))) is_nil))
theorem fn_check_formula (W : Wd P w K mg base T) : ∀ n : Nat, Fn P w K mg base T "check_formula" (62 + 1 * n) 2 (fr_check_formula n)
  | 0 => (by
    obtain ⟨fd, Fu⟩ := W.fu_check_formula
    exact (fn_no Fu W.gl_check_formula (ps := ["signature", "formula"]) (fun _ _ _ _ _ _ us hl => match us, hl with | [_, _], _ => rfl)).mono (Nat.zero_le _))
  | n + 1 => by
    have ih := fn_check_formula W n
    · obtain ⟨fd, Fu⟩ := W.fu_check_formula
      refine fn_okT (k := (62 + 1 * n)) (N := N_check_formula) (ps := P_check_formula) (sv := sv_check_formula (fr_check_formula n)) Fu sc_check_formula W.gl_check_formula (fun _ _ _ _ _ _ us hl => match us, hl with | [_, _], _ => rfl) fun A outer s H b E hr pre => ?_
      show ISs _ _ (sv_check_formula (fr_check_formula n))
      unfold sv_check_formula
      exact (is_one (is_if (it_cmp (op_eqM hu64) ok_eq (ib_of (ie_ix (ib_var 1) (ib_of ie_int))) (ib_of ie_str) rfl) (is_cons (is_expr (ie_call (fn_check_equation W) (by show 33 ≤ (62 + 1 * n); omega) (ia_cons (ie_var 0) (ia_cons (ie_ix (ib_var 1) (ib_of ie_int)) (ia_cons (ie_ix (ib_var 1) (ib_of ie_int)) ia_nil))))) (is_cons (is_expr (ie_call (fn_check_size W) (by show 62 ≤ (62 + 1 * n); omega) (ia_cons (ie_ix (ib_var 1) (ib_of ie_int)) ia_nil))) (is_one (is_expr (ie_call (fn_check_size W) (by show 62 ≤ (62 + 1 * n); omega) (ia_cons (ie_ix (ib_var 1) (ib_of ie_int)) ia_nil)))))) (is_one (is_for (ii_seq (ie_sl (ib_var 1) (io_some ie_int) io_none)) (ig_name 2) (is_one (is_expr (ie_call ih (by show 62 + 1 * n ≤ (62 + 1 * n); omega) (ia_cons (ie_var 0) (ia_cons (ie_var 2) ia_nil)))))))))
theorem fn__read_equation (W : Wd P w K mg base T) : Fn P w K mg base T "_read_equation" 35 3 f__read_equation := by
  obtain ⟨fd, Fu⟩ := W.fu__read_equation
  refine fn_okT (k := 34) (N := N__read_equation) (ps := P__read_equation) (sv := sv__read_equation) Fu sc__read_equation W.gl__read_equation (fun _ _ _ _ _ _ us hl => match us, hl with | [_, _, _], _ => rfl) fun A outer s H b E hr pre => ?_
  show ISs _ _ sv__read_equation
  unfold sv__read_equation
  exact (is_cons (is_set 3 (ie_call (fn_read_term W nrec__read_parts) (Nat.le_of_ble_eq_true rfl) (ia_cons (ie_var 0) (ia_cons (ie_var 1) (ia_cons (ie_var 2) (ia_cons (ie_tup (ia_cons ie_str (ia_cons ie_str ia_nil))) ia_nil)))))) (is_cons (is_if (it_w (iw_or (it_isN (ib_var 3)) (iw_or (it_cmp op_ge ok_cmpI (ib_of (ie_ix (ib_var 3) (ib_of ie_int))) (ib_of (ie_len W.n_len (ib_var 1))) rfl) (iw_or1 (it_cmp (op_notInM hu65) ok_notIn (ib_of (ie_ix (ib_var 1) (ib_of (ie_ix (ib_var 3) (ib_of ie_int))))) (ib_of (ie_tup (ia_cons ie_str (ia_cons ie_str ia_nil)))) rfl))))) (is_one (is_ret ie_non)) is_nil) (is_cons (is_set 4 (ie_call (fn_read_term W nrec__read_parts) (Nat.le_of_ble_eq_true rfl) (ia_cons (ie_var 0) (ia_cons (ie_var 1) (ia_cons (ie_op op_addA ok_add (ib_of (ie_ix (ib_var 3) (ib_of ie_int))) (ib_of ie_int)) (ia_cons (ie_tup (ia_cons ie_str (ia_cons ie_str ia_nil))) ia_nil)))))) (is_cons (is_if (it_isN (ib_var 4)) (is_one (is_ret ie_non)) is_nil) (is_cons (is_set 5 (ie_tup (ia_cons ie_str (ia_cons (ie_ix (ib_var 3) (ib_of ie_int)) (ia_cons (ie_ix (ib_var 4) (ib_of ie_int)) ia_nil))))) (is_one (is_ret (ie_tup (ia_cons (ie_if (it_cmp (op_eqM hu64) ok_eq (ib_of (ie_ix (ib_var 1) (ib_of (ie_ix (ib_var 3) (ib_of ie_int))))) (ib_of ie_str) rfl) (ie_var 5) (ie_tup (ia_cons ie_str (ia_cons (ie_var 5) ia_nil)))) (ia_cons (ie_ix (ib_var 4) (ib_of ie_int)) ia_nil))))))))))
theorem fn_g__read_part (W : Wd P w K mg base T) : ∀ n : Nat, Fn P w K mg base T "_read_part" (35 + 1 * n) 3 (fr__read_part n) ∧ Fn P w K mg base T "_read_from" (35 + 1 * n) 4 (fr__read_from n)
  | 0 => ⟨(by
    obtain ⟨fd, Fu⟩ := W.fu__read_part
    exact (fn_no Fu W.gl__read_part (ps := ["signature", "tokens", "at"]) (fun _ _ _ _ _ _ us hl => match us, hl with | [_, _, _], _ => rfl)).mono (Nat.zero_le _)), (by
    obtain ⟨fd, Fu⟩ := W.fu__read_from
    exact (fn_no Fu W.gl__read_from (ps := ["signature", "tokens", "at", "level"]) (fun _ _ _ _ _ _ us hl => match us, hl with | [_, _, _, _], _ => rfl)).mono (Nat.zero_le _))⟩
  | n + 1 => by
    have ih := fn_g__read_part W n
    refine ⟨?_, ?_⟩
    · obtain ⟨fd, Fu⟩ := W.fu__read_part
      refine fn_okT (k := (35 + 1 * n)) (N := N__read_part) (ps := P__read_part) (sv := sv__read_part (fr__read_part n) (fr__read_from n)) Fu sc__read_part W.gl__read_part (fun _ _ _ _ _ _ us hl => match us, hl with | [_, _, _], _ => rfl) fun A outer s H b E hr pre => ?_
      show ISs _ _ (sv__read_part (fr__read_part n) (fr__read_from n))
      unfold sv__read_part
      exact (is_cons (is_if (it_w (iw_and (it_cmp op_lt ok_cmpI (ib_var 2) (ib_of (ie_len W.n_len (ib_var 1))) rfl) (iw_and1 (it_cmp (op_eqM hu64) ok_eq (ib_of (ie_ix (ib_var 1) (ib_var 2))) (ib_of ie_str) rfl)))) (is_cons (is_set 3 (ie_call (ih.1) (by show 35 + 1 * n ≤ (35 + 1 * n); omega) (ia_cons (ie_var 0) (ia_cons (ie_var 1) (ia_cons (ie_op op_addA ok_add (ib_var 2) (ib_of ie_int)) ia_nil))))) (is_one (is_ret (ie_if (it_isN (ib_var 3)) ie_non (ie_tup (ia_cons (ie_tup (ia_cons ie_str (ia_cons (ie_ix (ib_var 3) (ib_of ie_int)) ia_nil))) (ia_cons (ie_ix (ib_var 3) (ib_of ie_int)) ia_nil))))))) is_nil) (is_cons (is_if (it_w (iw_and (it_cmp op_lt ok_cmpI (ib_var 2) (ib_of (ie_len W.n_len (ib_var 1))) rfl) (iw_and1 (it_cmp (op_eqM hu64) ok_eq (ib_of (ie_ix (ib_var 1) (ib_var 2))) (ib_of ie_str) rfl)))) (is_cons (is_set 3 (ie_call (ih.2) (by show 35 + 1 * n ≤ (35 + 1 * n); omega) (ia_cons (ie_var 0) (ia_cons (ie_var 1) (ia_cons (ie_op op_addA ok_add (ib_var 2) (ib_of ie_int)) (ia_cons ie_int ia_nil)))))) (is_cons (is_if (it_w (iw_or (it_isN (ib_var 3)) (iw_or (it_cmp op_ge ok_cmpI (ib_of (ie_ix (ib_var 3) (ib_of ie_int))) (ib_of (ie_len W.n_len (ib_var 1))) rfl) (iw_or1 (it_cmp (op_neM hu64) ok_ne (ib_of (ie_ix (ib_var 1) (ib_of (ie_ix (ib_var 3) (ib_of ie_int))))) (ib_of ie_str) rfl))))) (is_one (is_ret ie_non)) is_nil) (is_one (is_ret (ie_tup (ia_cons (ie_ix (ib_var 3) (ib_of ie_int)) (ia_cons (ie_op op_addA ok_add (ib_of (ie_ix (ib_var 3) (ib_of ie_int))) (ib_of ie_int)) ia_nil))))))) is_nil) (is_one (is_ret (ie_call (fn__read_equation W) (by show 35 ≤ (35 + 1 * n); omega) (ia_cons (ie_var 0) (ia_cons (ie_var 1) (ia_cons (ie_var 2) ia_nil))))))))
    · obtain ⟨fd, Fu⟩ := W.fu__read_from
      refine fn_okT (k := (35 + 1 * n)) (N := N__read_from) (ps := P__read_from) (sv := sv__read_from (fr__read_part n) (fr__read_from n)) Fu sc__read_from W.gl__read_from (fun _ _ _ _ _ _ us hl => match us, hl with | [_, _, _, _], _ => rfl) fun A outer s H b E hr pre => ?_
      show ISs _ _ (sv__read_from (fr__read_part n) (fr__read_from n))
      unfold sv__read_from
      exact (is_cons (is_if (it_cmp (op_eqM hu64) ok_eq (ib_var 3) (ib_of (ie_len W.n_len (ib_of (ie_glob W.g_BINDS)))) rfl) (is_one (is_ret (ie_call (ih.1) (by show 35 + 1 * n ≤ (35 + 1 * n); omega) (ia_cons (ie_var 0) (ia_cons (ie_var 1) (ia_cons (ie_var 2) ia_nil)))))) is_nil) (is_cons (is_asg (ie_ix (ib_of (ie_glob W.g_BINDS)) (ib_var 3)) (ig_tup 2 (igs_cons (ig_name 4) (igs_cons (ig_name 5) igs_nil)))) (is_cons (is_set 6 (ie_call (ih.2) (by show 35 + 1 * n ≤ (35 + 1 * n); omega) (ia_cons (ie_var 0) (ia_cons (ie_var 1) (ia_cons (ie_var 2) (ia_cons (ie_op op_addA ok_add (ib_var 3) (ib_of ie_int)) ia_nil)))))) (is_cons (is_if (it_w (iw_or (it_isN (ib_var 6)) (iw_or (it_cmp op_ge ok_cmpI (ib_of (ie_ix (ib_var 6) (ib_of ie_int))) (ib_of (ie_len W.n_len (ib_var 1))) rfl) (iw_or1 (it_cmp (op_neM hu64) ok_ne (ib_of (ie_ix (ib_var 1) (ib_of (ie_ix (ib_var 6) (ib_of ie_int))))) (ib_var 5) rfl))))) (is_one (is_ret (ie_var 6))) is_nil) (is_cons (is_set 7 (ie_call (ih.2) (by show 35 + 1 * n ≤ (35 + 1 * n); omega) (ia_cons (ie_var 0) (ia_cons (ie_var 1) (ia_cons (ie_op op_addA ok_add (ib_of (ie_ix (ib_var 6) (ib_of ie_int))) (ib_of ie_int)) (ia_cons (ie_var 3) ia_nil)))))) (is_one (is_ret (ie_if (it_isN (ib_var 7)) ie_non (ie_tup (ia_cons (ie_tup (ia_cons (ie_var 4) (ia_cons (ie_ix (ib_var 6) (ib_of ie_int)) (ia_cons (ie_ix (ib_var 7) (ib_of ie_int)) ia_nil)))) (ia_cons (ie_ix (ib_var 7) (ib_of ie_int)) ia_nil)))))))))))
theorem fn__read_part (W : Wd P w K mg base T) (n : Nat) : Fn P w K mg base T "_read_part" (35 + 1 * n) 3 (fr__read_part n) := (fn_g__read_part W n).1
theorem fn__read_from (W : Wd P w K mg base T) (n : Nat) : Fn P w K mg base T "_read_from" (35 + 1 * n) 4 (fr__read_from n) := (fn_g__read_part W n).2
theorem fn_parse_formula (W : Wd P w K mg base T) : Fn P w K mg base T "parse_formula" 66 2 f_parse_formula := by
  obtain ⟨fd, Fu⟩ := W.fu_parse_formula
  refine fn_okT (k := 65) (N := N_parse_formula) (ps := P_parse_formula) (sv := sv_parse_formula) Fu sc_parse_formula W.gl_parse_formula (fun _ _ _ _ _ _ us hl => match us, hl with | [_, _], _ => rfl) fun A outer s H b E hr pre => ?_
  show ISs _ _ sv_parse_formula
  unfold sv_parse_formula
  exact (is_cons (is_set 2 (ie_op op_addA ok_add (ib_of (ie_count (ib_var 1) (ib_of ie_str))) (ib_of (ie_count (ib_var 1) (ib_of ie_str))))) (is_cons (is_if (it_w (iw_or (it_cmp op_gt ok_cmpI (ib_of (ie_call (fn_nesting W) (Nat.le_of_ble_eq_true rfl) (ia_cons (ie_var 1) ia_nil))) (ib_of (ie_glob W.g_DEEP)) rfl) (iw_or (it_cmp op_gt ok_cmpI (ib_of (ie_count (ib_var 1) (ib_of ie_str))) (ib_of (ie_glob W.g_DEEP)) rfl) (iw_or1 (it_cmp op_gt ok_cmpI (ib_var 2) (ib_of (ie_glob W.g_LONG)) rfl))))) (is_one (is_ret ie_non)) is_nil) (is_cons (is_set 3 (ie_call (fn__read_from W nrec__read_part) (Nat.le_of_ble_eq_true rfl) (ia_cons (ie_var 0) (ia_cons (ie_var 1) (ia_cons ie_int (ia_cons ie_int ia_nil)))))) (is_one (is_ret (ie_if (it_w (iw_or (it_isN (ib_var 3)) (iw_or1 (it_cmp (op_neM hu64) ok_ne (ib_of (ie_ix (ib_var 3) (ib_of ie_int))) (ib_of (ie_len W.n_len (ib_var 1))) rfl)))) ie_non (ie_ix (ib_var 3) (ib_of ie_int))))))))
theorem fn__read_names (W : Wd P w K mg base T) : Fn P w K mg base T "_read_names" 4 2 f__read_names := by
  obtain ⟨fd, Fu⟩ := W.fu__read_names
  refine fn_okT (k := 3) (N := N__read_names) (ps := P__read_names) (sv := sv__read_names) Fu sc__read_names W.gl__read_names (fun _ _ _ _ _ _ us hl => match us, hl with | [_, _], _ => rfl) fun A outer s H b E hr pre => ?_
  show ISs _ _ sv__read_names
  unfold sv__read_names
  exact (is_cons (is_if (it_w (iw_or (it_cmp (op_eqM hu64) ok_eq (ib_of (ie_op op_mod ok_mod (ib_of (ie_len W.n_len (ib_var 0))) (ib_of ie_int))) (ib_of ie_int) rfl) (iw_or1 (it_val (ie_any [("token", 2)] (He.tabOf K (He.codeOf K ("_read_names", none))) W.n_any (k := 2) (Nat.le_of_ble_eq_true rfl) (ii_seq (ie_new (if_slS (ib_var 0) (io_some ie_int) io_none (io_some ie_int)))) (W.inT__read_names) ⟨_, rfl, W.tb__read_names⟩ (fun _ _ _ _ _ _ _ _ _ => (ig_name 2)) (fun _ _ _ _ _ _ _ _ _ => its_nil) (fun _ _ _ _ _ _ _ _ _ => (ie_cmp (op_neM hu64) ok_ne (ib_var 2) (ib_var 1) rfl)) (by rfl) ⟨rfl, rfl, by decide, rfl⟩ (by decide)))))) (is_one (is_ret ie_non)) is_nil) (is_one (is_ret (ie_if (it_val (ie_all [("token", 2)] (He.tabOf K (He.codeOf K ("_read_names", none))) W.n_all (k := 2) (Nat.le_of_ble_eq_true rfl) (ii_seq (ie_new (if_slS (ib_var 0) (io_some ie_int) io_none (io_some ie_int)))) (W.inT__read_names) ⟨_, rfl, W.tb__read_names⟩ (fun _ _ _ _ _ _ _ _ _ => (ig_name 2)) (fun _ _ _ _ _ _ _ _ _ => its_nil) (fun _ _ _ _ _ _ _ _ _ => (ie_call (fn_is_name W) (Nat.le_of_ble_eq_true rfl) (ia_cons (ie_var 2) ia_nil))) (by rfl) ⟨rfl, rfl, by decide, rfl⟩ (by decide))) (ie_new (if_lstOf W.n_list (ib_of (ie_new (if_slS (ib_var 0) (io_some ie_int) io_none (io_some ie_int)))))) ie_non))))
theorem fn__read_sort (W : Wd P w K mg base T) : Fn P w K mg base T "_read_sort" 5 2 f__read_sort := by
  obtain ⟨fd, Fu⟩ := W.fu__read_sort
  refine fn_okT (k := 4) (N := N__read_sort) (ps := P__read_sort) (sv := sv__read_sort) Fu sc__read_sort W.gl__read_sort (fun _ _ _ _ _ _ us hl => match us, hl with | [_, _], _ => rfl) fun A outer s H b E hr pre => ?_
  show ISs _ _ sv__read_sort
  unfold sv__read_sort
  exact (is_cons (is_if (it_w (iw_and (it_cmp (op_eqM hu64) ok_eq (ib_of (ie_len W.n_len (ib_var 1))) (ib_of ie_int) rfl) (iw_and1 (it_val (ie_call (fn_is_name W) (Nat.le_of_ble_eq_true rfl) (ia_cons (ie_ix (ib_var 1) (ib_of ie_int)) ia_nil)))))) (is_one (is_ret (ie_call (fn_add_plain W) (Nat.le_of_ble_eq_true rfl) (ia_cons (ie_var 0) (ia_cons (ie_ix (ib_var 1) (ib_of ie_int)) ia_nil))))) is_nil) (is_cons (is_if (it_w (iw_and (it_cmp op_gt ok_cmpI (ib_of (ie_len W.n_len (ib_var 1))) (ib_of ie_int) rfl) (iw_and (it_val (ie_call (fn_is_name W) (Nat.le_of_ble_eq_true rfl) (ia_cons (ie_ix (ib_var 1) (ib_of ie_int)) ia_nil))) (iw_and1 (it_cmp (op_eqM hu64) ok_eq (ib_of (ie_ix (ib_var 1) (ib_of ie_int))) (ib_of ie_str) rfl))))) (is_cons (is_set 2 (ie_call (fn__read_names W) (Nat.le_of_ble_eq_true rfl) (ia_cons (ie_sl (ib_var 1) (io_some ie_int) io_none) (ia_cons ie_str ia_nil)))) (is_one (is_ret (ie_if (it_isN (ib_var 2)) ie_non (ie_call (fn_add_finite W) (Nat.le_of_ble_eq_true rfl) (ia_cons (ie_var 0) (ia_cons (ie_ix (ib_var 1) (ib_of ie_int)) (ia_cons (ie_var 2) ia_nil)))))))) is_nil) (is_one (is_ret ie_non))))
theorem fn__read_record (W : Wd P w K mg base T) : Fn P w K mg base T "_read_record" 67 2 f__read_record := by
  obtain ⟨fd, Fu⟩ := W.fu__read_record
  refine fn_okT (k := 66) (N := N__read_record) (ps := P__read_record) (sv := sv__read_record) Fu sc__read_record W.gl__read_record (fun _ _ _ _ _ _ us hl => match us, hl with | [_, _], _ => rfl) fun A outer s H b E hr pre => ?_
  show ISs _ _ sv__read_record
  unfold sv__read_record
  exact (is_cons (is_if (it_w (iw_or (it_cmp op_lt ok_cmpI (ib_of (ie_len W.n_len (ib_var 1))) (ib_of ie_int) rfl) (iw_or (it_cmp (op_neM hu64) ok_ne (ib_of (ie_ix (ib_var 1) (ib_of ie_int))) (ib_of ie_str) rfl) (iw_or (it_cmp (op_neM hu64) ok_ne (ib_of (ie_ix (ib_var 1) (ib_of ie_int))) (ib_of ie_str) rfl) (iw_or1 (it_cmp (op_neM hu64) ok_ne (ib_of (ie_ix (ib_var 1) (ib_of (ie_un un_neg ok_neg (ib_of ie_int))))) (ib_of ie_str) rfl)))))) (is_one (is_ret ie_non)) is_nil) (is_cons (is_if (it_w (iw_or (it_not (it_val (ie_call (fn_is_name W) (Nat.le_of_ble_eq_true rfl) (ia_cons (ie_ix (ib_var 1) (ib_of ie_int)) ia_nil)))) (iw_or1 (it_not (it_val (ie_call (fn_is_name W) (Nat.le_of_ble_eq_true rfl) (ia_cons (ie_ix (ib_var 1) (ib_of ie_int)) ia_nil))))))) (is_one (is_ret ie_non)) is_nil) (is_cons (is_set 2 (ie_sl (ib_var 1) (io_some ie_int) (io_some (ie_un un_neg ok_neg (ib_of ie_int))))) (is_cons (is_setO 3 (if_lst ia_nil)) (is_cons (is_while 1000 (it_cmp op_gt ok_cmpI (ib_of (ie_len W.n_len (ib_var 2))) (ib_of ie_int) rfl) (is_cons (is_if (it_w (iw_or (it_cmp op_lt ok_cmpI (ib_of (ie_len W.n_len (ib_var 2))) (ib_of ie_int) rfl) (iw_or (it_cmp (op_neM hu64) ok_ne (ib_of (ie_ix (ib_var 2) (ib_of ie_int))) (ib_of ie_str) rfl) (iw_or (it_not (it_val (ie_call (fn_is_name W) (Nat.le_of_ble_eq_true rfl) (ia_cons (ie_ix (ib_var 2) (ib_of ie_int)) ia_nil)))) (iw_or1 (it_not (it_val (ie_call (fn_is_name W) (Nat.le_of_ble_eq_true rfl) (ia_cons (ie_ix (ib_var 2) (ib_of ie_int)) ia_nil))))))))) (is_one (is_ret ie_non)) is_nil) (is_cons (is_append 3 (ie_tup (ia_cons (ie_ix (ib_var 2) (ib_of ie_int)) (ia_cons (ie_ix (ib_var 2) (ib_of ie_int)) ia_nil)))) (is_cons (is_if (it_w (iw_and (it_cmp op_gt ok_cmpI (ib_of (ie_len W.n_len (ib_var 2))) (ib_of ie_int) rfl) (iw_and1 (it_w (iw_or (it_cmp (op_neM hu64) ok_ne (ib_of (ie_ix (ib_var 2) (ib_of ie_int))) (ib_of ie_str) rfl) (iw_or1 (it_cmp (op_eqM hu64) ok_eq (ib_of (ie_len W.n_len (ib_var 2))) (ib_of ie_int) rfl))))))) (is_one (is_ret ie_non)) is_nil) (is_one (is_set 2 (ie_sl (ib_var 2) (io_some ie_int) io_none))))))) (is_one (is_fz 3 (is_ret (ie_call (fn_add_record W) (Nat.le_of_ble_eq_true rfl) (ia_cons (ie_var 0) (ia_cons (ie_ix (ib_var 1) (ib_of ie_int)) (ia_cons (ie_ix (ib_var 1) (ib_of ie_int)) (ia_cons (ie_var 3) ia_nil)))))))))))))
theorem fn__read_array (W : Wd P w K mg base T) : Fn P w K mg base T "_read_array" 67 2 f__read_array := by
  obtain ⟨fd, Fu⟩ := W.fu__read_array
  refine fn_okT (k := 66) (N := N__read_array) (ps := P__read_array) (sv := sv__read_array) Fu sc__read_array W.gl__read_array (fun _ _ _ _ _ _ us hl => match us, hl with | [_, _], _ => rfl) fun A outer s H b E hr pre => ?_
  show ISs _ _ sv__read_array
  unfold sv__read_array
  exact (is_cons (is_if (it_w (iw_or (it_cmp (op_neM hu64) ok_ne (ib_of (ie_len W.n_len (ib_var 1))) (ib_of ie_int) rfl) (iw_or (it_cmp (op_neM hu64) ok_ne (ib_of (ie_ix (ib_var 1) (ib_of ie_int))) (ib_of ie_str) rfl) (iw_or1 (it_cmp (op_neM hu64) ok_ne (ib_of (ie_ix (ib_var 1) (ib_of ie_int))) (ib_of ie_str) rfl))))) (is_one (is_ret ie_non)) is_nil) (is_cons (is_if (it_not (it_val (ie_all [("token", 2)] (He.tabOf K (He.codeOf K ("_read_array", none))) W.n_all (k := 65) (Nat.le_of_ble_eq_true rfl) (ii_seq (ie_tup (ia_cons (ie_ix (ib_var 1) (ib_of ie_int)) (ia_cons (ie_ix (ib_var 1) (ib_of ie_int)) (ia_cons (ie_ix (ib_var 1) (ib_of ie_int)) ia_nil))))) (W.inT__read_array) ⟨_, rfl, W.tb__read_array⟩ (fun _ _ _ _ _ _ _ _ _ => (ig_name 2)) (fun _ _ _ _ _ _ _ _ _ => its_nil) (fun _ _ _ _ _ _ _ _ _ => (ie_call (fn_is_name W) (Nat.le_of_ble_eq_true rfl) (ia_cons (ie_var 2) ia_nil))) (by rfl) ⟨rfl, rfl, by decide, rfl⟩ (by decide)))) (is_one (is_ret ie_non)) is_nil) (is_one (is_ret (ie_call (fn_add_array W) (Nat.le_of_ble_eq_true rfl) (ia_cons (ie_var 0) (ia_cons (ie_ix (ib_var 1) (ib_of ie_int)) (ia_cons (ie_ix (ib_var 1) (ib_of ie_int)) (ia_cons (ie_ix (ib_var 1) (ib_of ie_int)) ia_nil)))))))))
theorem fn__read_function (W : Wd P w K mg base T) : Fn P w K mg base T "_read_function" 5 2 f__read_function := by
  obtain ⟨fd, Fu⟩ := W.fu__read_function
  refine fn_okT (k := 4) (N := N__read_function) (ps := P__read_function) (sv := sv__read_function) Fu sc__read_function W.gl__read_function (fun _ _ _ _ _ _ us hl => match us, hl with | [_, _], _ => rfl) fun A outer s H b E hr pre => ?_
  show ISs _ _ sv__read_function
  unfold sv__read_function
  exact (is_cons (is_if (it_w (iw_and (it_cmp (op_eqM hu64) ok_eq (ib_of (ie_len W.n_len (ib_var 1))) (ib_of ie_int) rfl) (iw_and (it_val (ie_call (fn_is_name W) (Nat.le_of_ble_eq_true rfl) (ia_cons (ie_ix (ib_var 1) (ib_of ie_int)) ia_nil))) (iw_and1 (it_val (ie_call (fn_is_name W) (Nat.le_of_ble_eq_true rfl) (ia_cons (ie_ix (ib_var 1) (ib_of ie_int)) ia_nil))))))) (is_one (is_ret (ie_call (fn_add_function W) (Nat.le_of_ble_eq_true rfl) (ia_cons (ie_var 0) (ia_cons (ie_ix (ib_var 1) (ib_of ie_int)) (ia_cons (ie_new (if_lst ia_nil)) (ia_cons (ie_ix (ib_var 1) (ib_of ie_int)) ia_nil))))))) is_nil) (is_cons (is_if (it_w (iw_and (it_cmp op_gt ok_cmpI (ib_of (ie_len W.n_len (ib_var 1))) (ib_of ie_int) rfl) (iw_and (it_val (ie_call (fn_is_name W) (Nat.le_of_ble_eq_true rfl) (ia_cons (ie_ix (ib_var 1) (ib_of ie_int)) ia_nil))) (iw_and (it_cmp (op_eqM hu64) ok_eq (ib_of (ie_ix (ib_var 1) (ib_of ie_int))) (ib_of ie_str) rfl) (iw_and (it_cmp (op_eqM hu64) ok_eq (ib_of (ie_ix (ib_var 1) (ib_of (ie_un un_neg ok_neg (ib_of ie_int))))) (ib_of ie_str) rfl) (iw_and1 (it_val (ie_call (fn_is_name W) (Nat.le_of_ble_eq_true rfl) (ia_cons (ie_ix (ib_var 1) (ib_of (ie_un un_neg ok_neg (ib_of ie_int)))) ia_nil))))))))) (is_cons (is_set 2 (ie_call (fn__read_names W) (Nat.le_of_ble_eq_true rfl) (ia_cons (ie_sl (ib_var 1) (io_some ie_int) (io_some (ie_un un_neg ok_neg (ib_of ie_int)))) (ia_cons ie_str ia_nil)))) (is_one (is_ret (ie_if (it_isN (ib_var 2)) ie_non (ie_call (fn_add_function W) (Nat.le_of_ble_eq_true rfl) (ia_cons (ie_var 0) (ia_cons (ie_ix (ib_var 1) (ib_of ie_int)) (ia_cons (ie_var 2) (ia_cons (ie_ix (ib_var 1) (ib_of (ie_un un_neg ok_neg (ib_of ie_int)))) ia_nil))))))))) is_nil) (is_one (is_ret ie_non))))
theorem fn__with_line (W : Wd P w K mg base T) : Fn P w K mg base T "_with_line" 93 4 f__with_line := by
  obtain ⟨fd, Fu⟩ := W.fu__with_line
  refine fn_okT (k := 92) (N := N__with_line) (ps := P__with_line) (sv := sv__with_line) Fu sc__with_line W.gl__with_line (fun _ _ _ _ _ _ us hl => match us, hl with | [_, _, _, _], _ => rfl) fun A outer s H b E hr pre => ?_
  show ISs _ _ sv__with_line
  unfold sv__with_line
  exact (is_cons (is_if (it_inK W.ds_READERS (ie_ix (ib_var 2) (ib_of ie_int))) (is_cons (is_set 4 (ie_callK W.ds_READERS (k := 92) (DTab.cons (fn__read_sort W) (Nat.le_of_ble_eq_true rfl) (DTab.cons (fn__read_record W) (Nat.le_of_ble_eq_true rfl) (DTab.cons (fn__read_array W) (Nat.le_of_ble_eq_true rfl) (DTab.cons (fn__read_function W) (Nat.le_of_ble_eq_true rfl) DTab.nil)))) (Nat.le_refl _) (ie_ix (ib_var 2) (ib_of ie_int)) (ia_cons (ie_var 0) (ia_cons (ie_var 2) ia_nil)))) (is_cons (is_if (it_isN (ib_var 4)) (is_one (is_raise W.xc_TextError W.n_super (Nat.le_of_ble_eq_true rfl) (ia_cons (ie_var 3) (ia_cons ie_str ia_nil)))) is_nil) (is_one (is_ret (ie_tup (ia_cons (ie_var 4) (ia_cons (ie_var 1) ia_nil))))))) is_nil) (is_cons (is_set 5 (ie_if (it_cmp (op_eqM hu64) ok_eq (ib_of (ie_ix (ib_var 2) (ib_of ie_int))) (ib_of ie_str) rfl) (ie_call (fn_parse_formula W) (Nat.le_of_ble_eq_true rfl) (ia_cons (ie_var 0) (ia_cons (ie_sl (ib_var 2) (io_some ie_int) io_none) ia_nil))) ie_non)) (is_cons (is_if (it_isN (ib_var 5)) (is_one (is_raise W.xc_TextError W.n_super (Nat.le_of_ble_eq_true rfl) (ia_cons (ie_var 3) (ia_cons ie_str ia_nil)))) is_nil) (is_cons (is_expr (ie_call (fn_check_formula W nrec_check_formula) (Nat.le_of_ble_eq_true rfl) (ia_cons (ie_var 0) (ia_cons (ie_var 5) ia_nil)))) (is_cons (is_if (it_cmp op_ge ok_cmpI (ib_of (ie_len W.n_len (ib_var 1))) (ib_of (ie_glob W.g_CLAIMS)) rfl) (is_one (is_raise W.xc_TooMany W.n_super (Nat.le_of_ble_eq_true rfl) (ia_cons ie_str ia_nil))) is_nil) (is_one (is_ret (ie_tup (ia_cons (ie_var 0) (ia_cons (ie_op op_addA ok_add (ib_var 1) (ib_of (ie_new (if_lst (ia_cons (ie_var 5) ia_nil))))) ia_nil))))))))))
theorem fn_parse_problem (W : Wd P w K mg base T) : Fn P w K mg base T "parse_problem" 94 1 f_parse_problem := by
  obtain ⟨fd, Fu⟩ := W.fu_parse_problem
  refine fn_okT (k := 93) (N := N_parse_problem) (ps := P_parse_problem) (sv := sv_parse_problem) Fu sc_parse_problem W.gl_parse_problem (fun _ _ _ _ _ _ us hl => match us, hl with | [_], _ => rfl) fun A outer s H b E hr pre => ?_
  show ISs _ _ sv_parse_problem
  unfold sv_parse_problem
  exact (is_cons (is_par 1 2 (im_cons (ie_call0 (fn_empty_signature W) (Nat.le_of_ble_eq_true rfl)) (im_cons (ie_new (if_lst ia_nil)) im_nil))) (is_cons (is_set 3 (ie_call (fn_lines_of W) (Nat.le_of_ble_eq_true rfl) (ia_cons (ie_var 0) ia_nil))) (is_cons (is_for (ii_range1 (ie_len W.n_len (ib_var 3)) W.n_range) (ig_name 4) (is_cons (is_set 5 (ie_call (fn_tokens_of W) (Nat.le_of_ble_eq_true rfl) (ia_cons (ie_ix (ib_var 3) (ib_var 4)) ia_nil))) (is_cons (is_if (it_isN (ib_var 5)) (is_one (is_raise W.xc_TextError W.n_super (Nat.le_of_ble_eq_true rfl) (ia_cons (ie_op op_addA ok_add (ib_var 4) (ib_of ie_int)) (ia_cons ie_str ia_nil)))) is_nil) (is_one (is_if (it_cmp op_gt ok_cmpI (ib_of (ie_len W.n_len (ib_var 5))) (ib_of ie_int) rfl) (is_one (is_tryN fun _ _ _ _ _ => (is_one (is_asg (ie_call (fn__with_line W) (Nat.le_of_ble_eq_true rfl) (ia_cons (ie_var 1) (ia_cons (ie_var 2) (ia_cons (ie_var 5) (ia_cons (ie_op op_addA ok_add (ib_var 4) (ib_of ie_int)) ia_nil))))) (ig_tup 2 (igs_cons (ig_name 1) (igs_cons (ig_name 2) igs_nil))))))) is_nil))))) (is_one (is_ret (ie_tup (ia_cons (ie_var 1) (ia_cons (ie_var 2) ia_nil))))))))
theorem fn__law_strictly (W : Wd P w K mg base T) : ∀ n : Nat, Fn P w K mg base T "_law_strictly" (0 + 1 * n) 2 (fr__law_strictly n)
  | 0 => (by
    obtain ⟨fd, Fu⟩ := W.fu__law_strictly
    exact (fn_no Fu W.gl__law_strictly (ps := ["expected", "actual"]) (fun _ _ _ _ _ _ us hl => match us, hl with | [_, _], _ => rfl)).mono (Nat.zero_le _))
  | n + 1 => by
    have ih := fn__law_strictly W n
    · obtain ⟨fd, Fu⟩ := W.fu__law_strictly
      refine fn_okT (k := (0 + 1 * n)) (N := N__law_strictly) (ps := P__law_strictly) (sv := sv__law_strictly (fr__law_strictly n)) Fu sc__law_strictly W.gl__law_strictly (fun _ _ _ _ _ _ us hl => match us, hl with | [_, _], _ => rfl) fun A outer s H b E hr pre => ?_
      show ISs _ _ (sv__law_strictly (fr__law_strictly n))
      unfold sv__law_strictly
      exact (is_cons (is_if (it_isN (ib_var 0)) (is_one (is_ret (ie_isN (ib_var 1)))) is_nil) (is_cons (is_if (it_val (ie_isi .bool W.n_isinstance W.n_bool (ib_var 0) (hb := boot_isi .bool))) (is_one (is_ret (ie_and (ie_isi .int W.n_isinstance W.n_int (ib_var 1) (hb := boot_isi .int)) (ie_one (ie_cmp (op_eqM hu64) ok_eq (ib_var 1) (ib_var 0) rfl))))) is_nil) (is_cons (is_if (it_val (ie_isi .int W.n_isinstance W.n_int (ib_var 0) (hb := boot_isi .int))) (is_one (is_ret (ie_and (ie_isi .int W.n_isinstance W.n_int (ib_var 1) (hb := boot_isi .int)) (ie_and (ie_not (ie_isi .bool W.n_isinstance W.n_bool (ib_var 1) (hb := boot_isi .bool))) (ie_one (ie_cmp (op_eqM hu64) ok_eq (ib_var 1) (ib_var 0) rfl)))))) is_nil) (is_cons (is_if (it_val (ie_isi .str W.n_isinstance W.n_str (ib_var 0) (hb := boot_isi .str))) (is_one (is_ret (ie_and (ie_isi .str W.n_isinstance W.n_str (ib_var 1) (hb := boot_isi .str)) (ie_one (ie_cmp (op_eqM hu64) ok_eq (ib_var 1) (ib_var 0) rfl))))) is_nil) (is_cons (is_if (it_w (iw_or (it_cmp (op_neM hu64) ok_ne (ib_of (ie_isi .tuple W.n_isinstance W.n_tuple (ib_var 0) (hb := boot_isi .tuple))) (ib_of (ie_isi .tuple W.n_isinstance W.n_tuple (ib_var 1) (hb := boot_isi .tuple))) rfl) (iw_or1 (it_cmp (op_neM hu64) ok_ne (ib_of (ie_isi .list W.n_isinstance W.n_list (ib_var 0) (hb := boot_isi .list))) (ib_of (ie_isi .list W.n_isinstance W.n_list (ib_var 1) (hb := boot_isi .list))) rfl)))) (is_one (is_ret ie_bl)) is_nil) (is_cons (is_if (it_w (iw_or (it_val (ie_isi .tuple W.n_isinstance W.n_tuple (ib_var 0) (hb := boot_isi .tuple))) (iw_or1 (it_val (ie_isi .list W.n_isinstance W.n_list (ib_var 0) (hb := boot_isi .list)))))) (is_cons (is_if (it_cmp (op_neM hu64) ok_ne (ib_of (ie_len W.n_len (ib_var 1))) (ib_of (ie_len W.n_len (ib_var 0))) rfl) (is_one (is_ret ie_bl)) is_nil) (is_cons (is_for (ii_range1 (ie_len W.n_len (ib_var 0)) W.n_range) (ig_name 2) (is_one (is_if (it_not (it_val (ie_call ih (by show 0 + 1 * n ≤ (0 + 1 * n); omega) (ia_cons (ie_ix (ib_var 0) (ib_var 2)) (ia_cons (ie_ix (ib_var 1) (ib_var 2)) ia_nil))))) (is_one (is_ret ie_bl)) is_nil))) (is_one (is_ret ie_bl)))) is_nil) (is_one (is_ret (ie_cmp (op_eqM hu64) ok_eq (ib_var 1) (ib_var 0) rfl)))))))))
theorem fn__law_cell (W : Wd P w K mg base T) : Fn P w K mg base T "_law_cell" 1 2 f__law_cell := by
  obtain ⟨fd, Fu⟩ := W.fu__law_cell
  refine fn_okT (k := 0) (N := N__law_cell) (ps := P__law_cell) (sv := sv__law_cell) Fu sc__law_cell W.gl__law_cell (fun _ _ _ _ _ _ us hl => match us, hl with | [_, _], _ => rfl) fun A outer s H b E hr pre => ?_
  show ISs _ _ sv__law_cell
  unfold sv__law_cell
  exact (is_cons (is_if (it_cmp op_lt ok_cmpI (ib_var 1) (ib_of (ie_len W.n_len (ib_var 0))) rfl) (is_one (is_ret (ie_ix (ib_var 0) (ib_var 1)))) is_nil) (is_one (is_ret ie_int)))
theorem fn__law_draw (W : Wd P w K mg base T) : Fn P w K mg base T "_law_draw" 2 3 f__law_draw := by
  obtain ⟨fd, Fu⟩ := W.fu__law_draw
  refine fn_okT (k := 1) (N := N__law_draw) (ps := P__law_draw) (sv := sv__law_draw) Fu sc__law_draw W.gl__law_draw (fun _ _ _ _ _ _ us hl => match us, hl with | [_, _, _], _ => rfl) fun A outer s H b E hr pre => ?_
  show ISs _ _ sv__law_draw
  unfold sv__law_draw
  exact (is_cons (is_set 3 (ie_call (fn__law_cell W) (Nat.le_of_ble_eq_true rfl) (ia_cons (ie_var 0) (ia_cons (ie_var 1) ia_nil)))) (is_cons (is_if (it_cmp op_lt ok_cmpI (ib_var 3) (ib_of ie_int) rfl) (is_one (is_set 3 (ie_un un_neg ok_neg (ib_var 3)))) is_nil) (is_cons (is_setO 4 (if_lst ia_nil)) (is_cons (is_if (it_cmp op_ge ok_cmpI (ib_var 3) (ib_of (ie_op op_pow ok_pow (ib_of ie_int) (ib_of ie_int))) rfl) (is_cons (is_set 3 (ie_op op_subA ok_sub (ib_var 3) (ib_of (ie_op op_pow ok_pow (ib_of ie_int) (ib_of ie_int))))) (is_cons (is_for (ii_seq (ie_var 2)) (ig_name 5) (is_cons (is_append 4 (ie_op op_mod ok_mod (ib_var 3) (ib_var 5))) (is_one (is_set 3 (ie_op op_fdiv ok_fdiv (ib_var 3) (ib_var 5)))))) (is_one (is_fz 4 (is_ret (ie_var 4)))))) is_nil) (is_cons (is_set 6 (ie_op op_mod ok_mod (ib_of (ie_op op_addA ok_add (ib_of (ie_op op_addA ok_add (ib_var 3) (ib_of ie_int))) (ib_of (ie_op op_mulA ok_mul (ib_of ie_int) (ib_var 1))))) (ib_of ie_int))) (is_cons (is_for (ii_range1 (ie_len W.n_len (ib_var 2)) W.n_range) (ig_name 7) (is_cons (is_set 6 (ie_op op_mod ok_mod (ib_of (ie_op op_addA ok_add (ib_of (ie_op op_addA ok_add (ib_of (ie_op op_mulA ok_mul (ib_var 6) (ib_of ie_int))) (ib_of ie_int))) (ib_var 7))) (ib_of ie_int))) (is_cons (is_set 6 (ie_op op_mod ok_mod (ib_of (ie_op op_addA ok_add (ib_of (ie_op op_mulA ok_mul (ib_var 6) (ib_of ie_int))) (ib_of ie_int))) (ib_of ie_int))) (is_one (is_append 4 (ie_op op_mod ok_mod (ib_of (ie_op op_fdiv ok_fdiv (ib_var 6) (ib_of ie_int))) (ib_of (ie_ix (ib_var 2) (ib_var 7))))))))) (is_one (is_fz 4 (is_ret (ie_var 4))))))))))
end
end Law_k03
namespace Law_k03
open FP PySem PySem.Spec PyProof.Rows L2
section
variable {P : Program} {w : World} {K : PySem.W.Frag} {mg : Str → Option Value} {base : Heap} {T : List Addr}
theorem fnok_law {fd : FuncData} (Fu : FunD K "law" "law" (defArgs st_law) (defBody st_law) (defScope st_law) [] [] (He.fAd K ("law", none)) fd) (W : Wd P w K mg base T) : FnOk P w K mg base (L2.CX P w) 95 (He.fAd K ("law", none)) fd ["script"] (spF ⟨K, w⟩ mg T 1 f_law) := by
  refine fnok_T (k := 94) (N := N_law) (ps := P_law) (sv := sv_law) Fu sc_law fun A outer s H b E hr pre => ?_
  show ISs _ _ sv_law
  unfold sv_law sv_law_0 sv_law_r
  exact (iss_d (isd_setIx 1 (ib_of (ie_call (fn_parse_problem W) (Nat.le_of_ble_eq_true rfl) (ia_cons ie_str ia_nil)))) (isst_cons (ist_of (is_par3 2 3 4 (im_consO (if_lst (ia_cons (ie_tup (ia_cons (ie_tup (ia_cons ie_str ia_nil)) (ia_cons ie_str ia_nil))) ia_nil)) (im_consO (if_lst (ia_cons (ie_tup (ia_cons (ie_tup (ia_cons ie_str ia_nil)) (ia_cons ie_str ia_nil))) ia_nil)) (im_consO (if_lst (ia_cons (ie_tup (ia_cons (ie_tup (ia_cons ie_str ia_nil)) (ia_cons ie_str ia_nil))) ia_nil)) im_nil))))) (isst_cons (ist_of (is_for (ii_range1 ie_int W.n_range) (ig_name 5) (is_cons (is_set 6 (ie_call (fn__law_draw W) (Nat.le_of_ble_eq_true rfl) (ia_cons (ie_var 0) (ia_cons (ie_var 5) (ia_cons (ie_new (if_lst (ia_cons ie_int (ia_cons ie_int (ia_cons ie_int (ia_cons ie_int ia_nil)))))) ia_nil))))) (is_cons (is_set 7 (ie_ix (ib_var 2) (ib_of (ie_op op_mod ok_mod (ib_of (ie_ix (ib_var 6) (ib_of ie_int))) (ib_of (ie_len W.n_len (ib_var 2))))))) (is_cons (is_set 8 (ie_ix (ib_var 3) (ib_of (ie_op op_mod ok_mod (ib_of (ie_ix (ib_var 6) (ib_of ie_int))) (ib_of (ie_len W.n_len (ib_var 3))))))) (is_cons (is_set 9 (ie_ix (ib_var 4) (ib_of (ie_op op_mod ok_mod (ib_of (ie_ix (ib_var 6) (ib_of ie_int))) (ib_of (ie_len W.n_len (ib_var 4))))))) (is_one (is_if (it_cmp op_lt ok_cmpI (ib_of (ie_op op_addA ok_add (ib_of (ie_op op_addA ok_add (ib_of (ie_len W.n_len (ib_of (ie_ix (ib_var 7) (ib_of ie_int))))) (ib_of (ie_len W.n_len (ib_of (ie_ix (ib_var 8) (ib_of ie_int))))))) (ib_of (ie_len W.n_len (ib_of (ie_ix (ib_var 9) (ib_of ie_int))))))) (ib_of ie_int) rfl) (is_cons (is_if (it_cmp (op_eqM hu64) ok_eq (ib_of (ie_ix (ib_var 6) (ib_of ie_int))) (ib_of ie_int) rfl) (is_one (is_append 2 (ie_tup (ia_cons (ie_tup (ia_cons ie_str (ia_cons (ie_ix (ib_var 7) (ib_of ie_int)) (ia_cons (ie_ix (ib_var 8) (ib_of ie_int)) (ia_cons (ie_ix (ib_var 9) (ib_of ie_int)) ia_nil))))) (ia_cons (ie_op op_addA ok_add (ib_of (ie_op op_addA ok_add (ib_of (ie_op op_addA ok_add (ib_of (ie_op op_addA ok_add (ib_of (ie_op op_addA ok_add (ib_of (ie_ix (ib_var 7) (ib_of ie_int))) (ib_of ie_str))) (ib_of (ie_ix (ib_var 8) (ib_of ie_int))))) (ib_of ie_str))) (ib_of (ie_ix (ib_var 9) (ib_of ie_int))))) (ib_of ie_str)) ia_nil))))) is_nil) (is_cons (is_if (it_cmp (op_eqM hu64) ok_eq (ib_of (ie_ix (ib_var 6) (ib_of ie_int))) (ib_of ie_int) rfl) (is_one (is_append 4 (ie_tup (ia_cons (ie_tup (ia_cons ie_str (ia_cons (ie_ix (ib_var 7) (ib_of ie_int)) (ia_cons (ie_ix (ib_var 8) (ib_of ie_int)) ia_nil)))) (ia_cons (ie_op op_addA ok_add (ib_of (ie_op op_addA ok_add (ib_of (ie_op op_addA ok_add (ib_of (ie_ix (ib_var 7) (ib_of ie_int))) (ib_of ie_str))) (ib_of (ie_ix (ib_var 8) (ib_of ie_int))))) (ib_of ie_str)) ia_nil))))) is_nil) (is_cons (is_if (it_cmp (op_eqM hu64) ok_eq (ib_of (ie_ix (ib_var 6) (ib_of ie_int))) (ib_of ie_int) rfl) (is_one (is_append 3 (ie_tup (ia_cons (ie_tup (ia_cons ie_str (ia_cons (ie_ix (ib_var 9) (ib_of ie_int)) ia_nil))) (ia_cons (ie_op op_addA ok_add (ib_of (ie_op op_addA ok_add (ib_of ie_str) (ib_of (ie_ix (ib_var 9) (ib_of ie_int))))) (ib_of ie_str)) ia_nil))))) is_nil) (is_one (is_if (it_cmp (op_eqM hu64) ok_eq (ib_of (ie_ix (ib_var 6) (ib_of ie_int))) (ib_of ie_int) rfl) (is_one (is_append 4 (ie_tup (ia_cons (ie_tup (ia_cons ie_str (ia_cons (ie_ix (ib_var 8) (ib_of ie_int)) (ia_cons (ie_ix (ib_var 7) (ib_of ie_int)) ia_nil)))) (ia_cons (ie_op op_addA ok_add (ib_of (ie_op op_addA ok_add (ib_of (ie_op op_addA ok_add (ib_of (ie_op op_addA ok_add (ib_of ie_str) (ib_of (ie_ix (ib_var 8) (ib_of ie_int))))) (ib_of ie_str))) (ib_of (ie_ix (ib_var 7) (ib_of ie_int))))) (ib_of ie_str)) ia_nil))))) is_nil))))) is_nil)))))))) (isst_cons (ist_forB (ii_seq (ie_op op_addA ok_add (ib_of (ie_op op_addA ok_add (ib_var 2) (ib_var 3))) (ib_var 4))) (ig_tup 2 (igs_cons (ig_name 10) (igs_cons (ig_name 11) igs_nil))) (isst_cons (ist_of (is_if (it_w (iw_or (it_cmp (op_neM hu64) ok_ne (ib_of (ie_call (fn_term_text W nrec_term_text) (Nat.le_of_ble_eq_true rfl) (ia_cons (ie_var 10) ia_nil))) (ib_var 11) rfl) (iw_or1 (it_not (it_val (ie_call (fn_is_term W) (Nat.le_of_ble_eq_true rfl) (ia_cons (ie_var 1) (ia_cons (ie_var 10) ia_nil)))))))) (is_one (is_ret ie_bl)) is_nil)) (isst_cons (ist_set 12 (iet_repl (iet_repl (iet_repl (iet_of (ie_var 11)))))) (isst_cons (ist_forI (iit_seq (iet_lst (iat_cons (iet_of (ie_var 11)) (iat_cons (iet_of (ie_var 12)) (iat_cons (iet_repl (iet_of (ie_var 11))) iat_nil))))) (ig_name 13) (is_one (is_if (it_not (it_val (ie_call (fn__law_strictly W nrec__law_strictly) (Nat.le_of_ble_eq_true rfl) (ia_cons (ie_var 10) (ia_cons (ie_callDf (fn_parse_term W) (Nat.le_of_ble_eq_true rfl) (ia_cons (ie_var 1) (ia_cons (ie_call (fn_tokens_of W) (Nat.le_of_ble_eq_true rfl) (ia_cons (ie_var 13) ia_nil)) ia_nil))) ia_nil))))) (is_one (is_ret ie_bl)) is_nil))) (isst_of (is_one (is_for (ii_seq (ie_new (if_lst (ia_cons (ie_op op_addA ok_add (ib_var 11) (ib_of ie_str)) (ia_cons (ie_op op_addA ok_add (ib_var 11) (ib_of ie_str)) (ia_cons (ie_op op_addA ok_add (ib_of (ie_op op_addA ok_add (ib_of ie_str) (ib_var 11))) (ib_of ie_str)) (ia_cons (ie_op op_addA ok_add (ib_var 11) (ib_of ie_str)) (ia_cons (ie_op op_addA ok_add (ib_of (ie_op op_addA ok_add (ib_of ie_str) (ib_var 11))) (ib_of ie_str)) (ia_cons (ie_op op_addA ok_add (ib_of (ie_op op_addA ok_add (ib_of ie_str) (ib_var 11))) (ib_of ie_str)) ia_nil))))))))) (ig_name 14) (is_one (is_if (it_notN (ib_of (ie_callDf (fn_parse_term W) (Nat.le_of_ble_eq_true rfl) (ia_cons (ie_var 1) (ia_cons (ie_call (fn_tokens_of W) (Nat.le_of_ble_eq_true rfl) (ia_cons (ie_var 14) ia_nil)) ia_nil))))) (is_one (is_ret ie_bl)) is_nil))))))))) (isst_of (is_cons (is_set 14 (ie_new (if_lst (ia_cons (ie_tup (ia_cons ie_str (ia_cons (ie_tup (ia_cons ie_str ia_nil)) (ia_cons (ie_tup (ia_cons ie_str ia_nil)) ia_nil)))) (ia_cons (ie_tup (ia_cons ie_str (ia_cons (ie_tup (ia_cons ie_str ia_nil)) ia_nil))) (ia_cons (ie_tup (ia_cons ie_str (ia_cons (ie_tup (ia_cons ie_str ia_nil)) (ia_cons (ie_tup (ia_cons ie_str ia_nil)) ia_nil)))) (ia_cons (ie_tup (ia_cons ie_str ia_nil)) (ia_cons (ie_tup (ia_cons ie_str ia_nil)) ia_nil)))))))) (is_cons (is_if (it_val (ie_anyL W.n_any (ib_of (ie_new (if_comp [("term", 10)] (ii_seq (ie_var 14)) (by rfl) (by decide) (fun _ _ _ _ _ => (ig_name 10)) (fun _ _ _ _ _ => its_nil) (fun _ _ _ _ _ => (ie_call (fn_is_term W) (Nat.le_of_ble_eq_true rfl) (ia_cons (ie_var 1) (ia_cons (ie_var 10) ia_nil))))))))) (is_one (is_ret ie_bl)) is_nil) (is_one (is_ret (ie_and (ie_isN (ib_of (ie_callDf (fn_parse_term W) (Nat.le_of_ble_eq_true rfl) (ia_cons (ie_var 1) (ia_cons (ie_call (fn_tokens_of W) (Nat.le_of_ble_eq_true rfl) (ia_cons ie_str ia_nil)) ia_nil))))) (ie_one (ie_isN (ib_of (ie_callDf (fn_parse_term W) (Nat.le_of_ble_eq_true rfl) (ia_cons (ie_var 1) (ia_cons (ie_call (fn_tokens_of W) (Nat.le_of_ble_eq_true rfl) (ia_cons ie_str ia_nil)) ia_nil))))))))))))))))
end
end Law_k03
namespace Law_k03
open FP PySem PySem.Spec PyProof.Rows L2
/-! ### the words and the marks -/
def cs (s : String) : List Nat := tl (Str.ofString s)
def signL : List Nat := cs "abcdefghijklmnopqrstuvwxyzABCDEFGHIJKLMNOPQRSTUVWXYZ_0123456789"
def marksL : List (List Nat) := ["<->", "->", "(", ")", "[", "]", ",", "=", "#", "|", ":", "."].map cs
theorem marks_eq : d_MARKS = .tuple (marksL.map fun m => .str (mkS m)) := rfl
abbrev tE (L : List Nat) (fd : List (List Nat)) (at_ : Nat) (e3 e4 e5 : Sl) : FP.Env := [.vl (.str (mkS L)), .ow (.lst (fd.map fun w => .str (mkS w))), .vl (.int at_), e3, e4, e5]
def tCond : FP.Env → R Bool := (eBin pyLt (eO 2) (eUn pyLen (eO 0)))
def tIn : FP.Env → R Bool := (tAndR (eBin pyLt (eO 3) (eUn pyLen (eO 0))) (eBin pyIn (eBin pyIx (eO 0) (eO 3)) (eC d_SIGNS)))
def tTest : FP.Env → R Bool := (eBin pyEq (eSl (eO 0) (oSome (eV 2)) (oSome (eBin pyAdd (eO 2) (eUn pyLen (eO 5))))) (eO 5))
def tBody : FP.Env → SR := (sIf (eBin pyEq (eBin pyIx (eO 0) (eO 2)) (eC (.str " "))) (sAug 2 pyIAdd (eC (.int 1))) (sIf (eBin pyIn (eBin pyIx (eO 0) (eO 2)) (eC d_SIGNS)) (sSeq (sSet 3 (eV 2)) (sSeq (sWhile tIn (sAug 3 pyIAdd (eC (.int 1))) 1000) (sSeq (sApp 1 (eSl (eO 0) (oSome (eV 2)) (oSome (eV 3)))) (sSet 2 (eV 3))))) (sSeq (sSetO 4 (eComp (iItems (eC d_MARKS)) (gNm 5) tTest (eV 5) [5])) (sFz 4 (sSeq (sIf (eBin pyEq (eUn pyLen (eO 4)) (eC (.int 0))) (sRet (eC .none)) sNil) (sSeq (sApp 1 (eBin pyIx (eO 4) (eC (.int 0)))) (sAug 2 pyIAdd (eUn pyLen (eBin pyIx (eO 4) (eC (.int 0)))))))))))
theorem sv_tok : sv_tokens_of = (sSeq (sSetO 1 (eLst aNil)) (sSeq (sSet 2 (eC (.int 0))) (sSeq (sWhile tCond tBody 1000) (sFz 1 (sRet (eV 1)))))) := rfl
section
variable {L p r : List Nat} {fd : List (List Nat)} {e3 e4 e5 : Sl}
theorem cond_t (hl : p.length < L.length) (hL : L.length ≤ 1000) : tCond (tE L fd p.length e3 e4 e5) = .ok true := by
  refine eBin_to (eO_vl rfl) (eUn_to (eO_vl rfl) (lenS (by omega))) ?_
  show R.ok (decide ((p.length : Int) < (L.length : Int))) = _
  rw [decide_eq_true (by omega)]
theorem cond_f (hl : L.length ≤ p.length) (hL : L.length ≤ 1000) : tCond (tE L fd p.length e3 e4 e5) = .ok false := by
  refine eBin_to (eO_vl rfl) (eUn_to (eO_vl rfl) (lenS (by omega))) ?_
  show R.ok (decide ((p.length : Int) < (L.length : Int))) = _
  rw [decide_eq_false (by omega)]
theorem get_mid {c : Nat} : (p ++ c :: r)[p.length]? = some c := by rw [List.getElem?_append_right (Nat.le_refl _), Nat.sub_self]; rfl
/-- a space -/
theorem st_sp (hL : (p ++ 32 :: r).length ≤ 1000) : tBody (tE (p ++ 32 :: r) fd p.length e3 e4 e5) = .nx (tE (p ++ 32 :: r) fd (p ++ [32]).length e3 e4 e5) := by
  unfold tBody
  refine (sIf_t (eBin_to (eBin_to (eO_vl rfl) (eO_vl rfl) (ixS get_mid (by omega))) rfl ?_)).trans ((sAug_to (z := .int ((p ++ [32]).length : Nat)) rfl rfl ?_).trans rfl)
  · rfl
  · show R.ok (PyData.int ((p.length : Int) + 1)) = _
    rw [List.length_append]; rfl
theorem nosp {c : Nat} (h : c ≠ 32) : pyEq (sg c) (.str (Str.ofString " ")) = .ok false := by
  have e : tl (Str.ofString " ") = [32] := by decide +kernel
  show R.ok (leq [c] (tl (Str.ofString " "))) = _
  rw [e, leq_ne (by intro z; cases z; exact h rfl)]
theorem insig {c : Nat} (h : c ∈ signL) : pyIn (sg c) d_SIGNS = .ok true := by
  show R.ok (decide (c ∈ signL)) = _
  rw [decide_eq_true h]
theorem nosig {c : Nat} (h : c ∉ signL) : pyIn (sg c) d_SIGNS = .ok false := by
  show R.ok (decide (c ∈ signL)) = _
  rw [decide_eq_false h]
/-- what follows a word -/
def Edge (r : List Nat) : Prop := ∀ c, r[0]? = some c → c ∉ signL
/-- the inner loop -/
theorem st_in {e2 : Nat} {eo : Sl} : ∀ (w p : List Nat) (n : Nat), (∀ c ∈ w, c ∈ signL) → Edge r → (p ++ w ++ r).length ≤ 1000 → w.length < n →
    sWhile tIn (sAug 3 pyIAdd (eC (.int 1))) n [.vl (.str (mkS (p ++ w ++ r))), eo, .vl (.int e2), .vl (.int p.length), e4, e5] = .nx [.vl (.str (mkS (p ++ w ++ r))), eo, .vl (.int e2), .vl (.int (p ++ w).length), e4, e5]
  | [], p, 0, _, _, _, hn => absurd hn (Nat.not_lt_zero _)
  | [], p, n + 1, _, hr, hL, _ => by
    rw [List.append_nil] at hL ⊢
    refine sWhile_f ?_
    unfold tIn
    cases r with
    | nil =>
      rw [List.append_nil] at hL ⊢
      refine and_f (eBin_to (eO_vl rfl) (eUn_to (eO_vl rfl) (lenS (by omega))) ?_)
      show R.ok (decide ((p.length : Int) < (p.length : Int))) = _
      rw [decide_eq_false (by omega)]
    | cons c r =>
      refine and_tt (eBin_to (eO_vl rfl) (eUn_to (eO_vl rfl) (lenS (by omega))) ?_) (eBin_to (eBin_to (eO_vl rfl) (eO_vl rfl) (ixS get_mid (by omega))) rfl (nosig (hr c rfl)))
      show R.ok (decide ((p.length : Int) < ((p ++ c :: r).length : Int))) = _
      rw [decide_eq_true (by simp only [List.length_append, List.length_cons]; omega)]
  | c :: w, p, 0, _, _, _, hn => absurd hn (Nat.not_lt_zero _)
  | c :: w, p, n + 1, hw, hr, hL, hn => by
    have e : p ++ c :: w ++ r = (p ++ [c]) ++ w ++ r := by simp
    have ih := st_in (e2 := e2) (eo := eo) w (p ++ [c]) n (fun x hx => hw x (by simp [hx])) hr (by rw [← e]; exact hL) (by simp only [List.length_cons] at hn; omega)
    have e' : (p ++ [c] ++ w).length = (p ++ c :: w).length := by simp
    rw [← e, e'] at ih
    refine (sWhile_t ?_ ?_).trans ih
    · unfold tIn
      refine and_tt (eBin_to (eO_vl rfl) (eUn_to (eO_vl rfl) (lenS (by omega))) ?_) (eBin_to (eBin_to (eO_vl rfl) (eO_vl rfl) (ixS (c := c) ?_ (by omega))) rfl (insig (hw c (by simp))))
      · show R.ok (decide ((p.length : Int) < ((p ++ c :: w ++ r).length : Int))) = _
        rw [decide_eq_true (by simp only [List.length_append, List.length_cons]; omega)]
      · rw [List.append_assoc]; exact get_mid
    · refine (sAug_to (z := .int ((p ++ [c]).length : Nat)) rfl rfl ?_).trans rfl
      show R.ok (PyData.int ((p.length : Int) + 1)) = _
      rw [List.length_append]; rfl
theorem space_no : (32 : Nat) ∉ signL := by decide +kernel
/-- a word -/
theorem st_word {w : List Nat} (hw : ∀ c ∈ w, c ∈ signL) (h0 : w ≠ []) (hr : Edge r) (hL : (p ++ w ++ r).length ≤ 990) (hf : fd.length ≤ 1000) :
    tBody (tE (p ++ w ++ r) fd p.length e3 e4 e5) = .nx (tE (p ++ w ++ r) (fd ++ [w]) (p ++ w).length (.vl (.int (p ++ w).length)) e4 e5) := by
  obtain ⟨c, w', rfl⟩ : ∃ c w', w = c :: w' := by cases w with | nil => exact (h0 rfl).elim | cons c w' => exact ⟨c, w', rfl⟩
  have hc : c ∈ signL := hw c (by simp)
  have h32 : c ≠ 32 := fun z => space_no (z ▸ hc)
  have hget : (p ++ c :: w' ++ r)[p.length]? = some c := by rw [List.append_assoc]; exact get_mid
  unfold tBody
  refine (sIf_f (eBin_to (eBin_to (eO_vl rfl) (eO_vl rfl) (ixS hget (by omega))) rfl (nosp h32))).trans ?_
  refine (sIf_t (eBin_to (eBin_to (eO_vl rfl) (eO_vl rfl) (ixS hget (by omega))) rfl (insig hc))).trans ?_
  refine (sSeq_nx ((sSet_ok (d := .int p.length) rfl).trans rfl)).trans ?_
  refine (sSeq_nx (st_in (c :: w') p 1000 hw hr (by omega) (by simp only [List.length_append, List.length_cons] at hL ⊢; omega))).trans ?_
  refine (sSeq_nx (sApp_to (d := .str (mkS (c :: w'))) rfl (eSl_to (eO_vl rfl) (oSome_to (eV_vl rfl)) (oSome_to (eV_vl rfl)) (slS_mid (by omega))) (by rw [List.length_map]; omega))).trans ?_
  refine (sSet_ok (eV_vl rfl)).trans ?_
  show SR.nx _ = SR.nx _
  congr 1
  show [_, Sl.ow (.lst (fd.map _ ++ [_])), _, _, _, _] = _
  simp
/-- the marks that stand here -/
theorem st_test {m : List Nat} {a : Nat} (ha : a ≤ L.length) (hL : L.length ≤ 1000) (hm : m.length ≤ 3) {eo : Sl} : tTest [.vl (.str (mkS L)), eo, .vl (.int a), e3, e4, .vl (.str (mkS m))] = .ok (leq ((L.drop a).take m.length) m) := by
  unfold tTest
  refine eBin_to (eSl_to (eO_vl rfl) (oSome_to (eV_vl rfl)) (oSome_to (eBin_to (eO_vl rfl) (eUn_to (eO_vl rfl) (lenS (by omega))) (add_i _ _))) ((slS (i := a) (j := a + m.length) (by omega)))) (eO_vl rfl) ?_
  rw [eqS, tl_mkS, tl_mkS]
  congr 2
  rw [Nat.min_eq_left ha]
  have e : List.take m.length (List.drop a L) = List.take (min m.length (L.length - a)) (List.drop a L) := by
    rw [List.take_eq_take_iff, List.length_drop]
    omega
  rw [e]
  congr 1
  omega
theorem st_marks {a : Nat} (ha : a ≤ L.length) (hL : L.length ≤ 1000) {eo : Sl} : ∀ ms : List (List Nat), (∀ m ∈ ms, m.length ≤ 3) →
    compL (gNm 5) tTest (eV 5) [.vl (.str (mkS L)), eo, .vl (.int a), e3, e4, .no] (ms.map fun m => .str (mkS m)) = .ok ((ms.filter fun m => leq ((L.drop a).take m.length) m).map fun m => .str (mkS m))
  | [], _ => rfl
  | m :: ms, hm => by
    have ih := st_marks (eo := eo) ha hL ms fun x hx => hm x (by simp [hx])
    have ht := st_test (L := L) (m := m) (a := a) (e3 := e3) (e4 := e4) (eo := eo) ha hL (hm m (by simp))
    rw [List.map_cons]
    unfold compL
    show (match tTest [.vl (.str (mkS L)), eo, .vl (.int a), e3, e4, .vl (.str (mkS m))] with | .ok true => _ | .ok false => _ | _ => R.no) = _
    rw [ht]
    cases h : leq ((L.drop a).take m.length) m with
    | true =>
      rw [List.filter_cons_of_pos (by rw [h])]
      dsimp only
      show (R.bnd (compL _ _ _ _ _) _) = _
      rw [ih]; rfl
    | false =>
      rw [List.filter_cons_of_neg (by rw [h]; simp)]
      exact ih
theorem marks3 : ∀ m ∈ marksL, m.length ≤ 3 := by decide +kernel
/-- neither a space nor a sign -/
theorem st_mark {c : Nat} {fs : List (List Nat)} (hc : c ≠ 32) (hs : c ∉ signL) (hL : (p ++ c :: r).length ≤ 990) (hf : (marksL.filter fun m => leq ((c :: r).take m.length) m) = fs) :
    tBody (tE (p ++ c :: r) fd p.length e3 e4 e5) = (sSeq (sIf (eBin pyEq (eUn pyLen (eO 4)) (eC (.int 0))) (sRet (eC .none)) sNil) (sSeq (sApp 1 (eBin pyIx (eO 4) (eC (.int 0)))) (sAug 2 pyIAdd (eUn pyLen (eBin pyIx (eO 4) (eC (.int 0)))))))
      [.vl (.str (mkS (p ++ c :: r))), .ow (.lst (fd.map fun w => .str (mkS w))), .vl (.int p.length), e3, .vl (.list (fs.map fun m => .str (mkS m))), e5] := by
  unfold tBody
  refine (sIf_f (eBin_to (eBin_to (eO_vl rfl) (eO_vl rfl) (ixS get_mid (by omega))) rfl (nosp hc))).trans ?_
  refine (sIf_f (eBin_to (eBin_to (eO_vl rfl) (eO_vl rfl) (ixS get_mid (by omega))) rfl (nosig hs))).trans ?_
  have hcomp : eComp (iItems (eC d_MARKS)) (gNm 5) tTest (eV 5) [5] (tE (p ++ c :: r) fd p.length e3 e4 e5) = .ok (.lst (fs.map fun m => .str (mkS m))) := by
    show (R.ok (marksL.map fun m => PyData.str (mkS m))).bnd _ = _
    rw [bnd_k, if_pos (by decide)]
    have hm := st_marks (L := p ++ c :: r) (a := p.length) (e3 := e3) (e4 := e4) (eo := .ow (.lst (fd.map fun w => .str (mkS w)))) (by simp) (by omega) marksL marks3
    show (compL (gNm 5) tTest (eV 5) [.vl (.str (mkS (p ++ c :: r))), .ow (.lst (fd.map fun w => .str (mkS w))), .vl (.int p.length), e3, e4, .no] _).bnd _ = _
    rw [hm, List.drop_left, hf]
    rfl
  exact (sSeq_nx (sSetO_ok hcomp)).trans (sFz_to (l := fs.map fun m => .str (mkS m)) rfl)
/-- a mark -/
theorem st_mk {m : List Nat} {c : Nat} {m' : List Nat} (hm : m = c :: m') (hc : c ≠ 32) (hs : c ∉ signL) (hf : (marksL.filter fun x => leq ((m ++ r).take x.length) x) = [m]) (hL : (p ++ m ++ r).length ≤ 990) (hl : fd.length ≤ 1000) :
    tBody (tE (p ++ m ++ r) fd p.length e3 e4 e5) = .nx (tE (p ++ m ++ r) (fd ++ [m]) (p ++ m).length e3 (.vl (.list [.str (mkS m)])) e5) := by
  subst hm
  rw [List.append_assoc, List.cons_append] at hL ⊢
  refine (st_mark hc hs hL hf).trans ?_
  refine (sSeq_nx ((sIf_f (show R.ok (decide (((1 : Nat) : Int) = 0)) = _ from rfl)).trans (show sNil _ = SR.nx _ from rfl))).trans ?_
  refine (sSeq_nx (sApp_to (d := .str (mkS (c :: m'))) rfl rfl (by rw [List.length_map]; omega))).trans ?_
  refine (sAug_to (z := .int ((p ++ c :: m').length : Nat)) rfl (eUn_to (x := .str (mkS (c :: m'))) rfl (lenS (by simp only [List.length_append, List.length_cons] at hL ⊢; omega))) ?_).trans ?_
  · show R.ok (PyData.int ((p.length : Int) + ((c :: m').length : Int))) = _
    rw [List.length_append]; rfl
  · show SR.nx _ = SR.nx _
    congr 1
    show [_, Sl.ow (.lst (fd.map _ ++ [_])), _, _, _, _] = _
    simp
/-- no mark -/
theorem st_bad {c : Nat} (hc : c ≠ 32) (hs : c ∉ signL) (hf : (marksL.filter fun x => leq ((c :: r).take x.length) x) = []) (hL : (p ++ c :: r).length ≤ 990) : tBody (tE (p ++ c :: r) fd p.length e3 e4 e5) = .rt .none := by
  refine (st_mark hc hs hL hf).trans ?_
  exact sSeq_rt ((sIf_t (show R.ok (decide (((0 : Nat) : Int) = 0)) = _ from rfl)).trans rfl)
end
theorem take_cons (n : Nat) (c : Nat) (l : List Nat) : (c :: l).take (n + 1) = c :: l.take n := rfl
/-- each mark is found where it stands -/
theorem mk_found : ∀ m ∈ marksL, ∀ r : List Nat, (marksL.filter fun x => leq ((m ++ r).take x.length) x) = [m] := by
  have e : marksL = [[60, 45, 62], [45, 62], [40], [41], [91], [93], [44], [61], [35], [124], [58], [46]] := by decide +kernel
  rw [e]
  intro m hm r
  simp only [List.mem_cons, List.not_mem_nil, or_false] at hm
  rcases hm with rfl | rfl | rfl | rfl | rfl | rfl | rfl | rfl | rfl | rfl | rfl | rfl <;> rfl
theorem mk_head : ∀ m ∈ marksL, ∃ c m', m = c :: m' ∧ c ≠ 32 ∧ c ∉ signL := by
  have h : ∀ m ∈ marksL, (match m with | [] => false | c :: _ => decide (c ≠ 32) && decide (c ∉ signL)) = true := by decide +kernel
  intro m hm
  have := h m hm
  cases m with
  | nil => cases this
  | cons c m' =>
    simp only [Bool.and_eq_true, decide_eq_true_eq] at this
    exact ⟨c, m', rfl, this.1, this.2⟩
def wordsL : List (List Nat) := ["x", "j", "o", "k", "h", "get", "put", "apart", "q", "qx", "qj", "qo", "qk", "qh", "qxq", "qjq", "qoq"].map cs
theorem words_sig : ∀ w ∈ wordsL, w ≠ [] ∧ ∀ c ∈ w, c ∈ signL := by decide +kernel
theorem word5 : ∀ w ∈ wordsL, w.length ≤ 5 := by decide +kernel

/-! ### a line of pieces -/
/-- spaces, then a piece -/
abbrev Pc := Nat × List Nat
def flat : List Pc → List Nat
  | [] => []
  | (n, w) :: l => List.replicate n 32 ++ w ++ flat l
def isW (w : List Nat) : Prop := w ∈ wordsL
/-- the pieces stand apart; r follows -/
def Apart : List Pc → List Nat → Prop
  | [], _ => True
  | (_, w) :: l, r => (w ∈ wordsL ∨ w ∈ marksL) ∧ (w ∈ wordsL → Edge (flat l ++ r)) ∧ Apart l r
def cost : List Pc → Nat
  | [] => 0
  | (n, _) :: l => n + 1 + cost l
theorem flat_app (a b : List Pc) : flat (a ++ b) = flat a ++ flat b := by
  induction a with
  | nil => rfl
  | cons x a ih => obtain ⟨n, w⟩ := x; show _ ++ _ ++ flat (a ++ b) = _ ++ _ ++ flat a ++ flat b; rw [ih]; simp
section
variable {r : List Nat} {e5 : Sl}
theorem sp_run {L : List Nat} {fd : List (List Nat)} {e3 e4 : Sl} : ∀ (n : Nat) (p q : List Nat) (k : Nat), L = p ++ List.replicate n 32 ++ q → L.length ≤ 990 →
    sWhile tCond tBody (n + k) (tE L fd p.length e3 e4 e5) = sWhile tCond tBody k (tE L fd (p ++ List.replicate n 32).length e3 e4 e5)
  | 0, p, q, k, e, _ => by simp
  | n + 1, p, q, k, e, hL => by
    have e1 : L = p ++ 32 :: (List.replicate n 32 ++ q) := by rw [e, List.replicate_succ]; simp
    have ih := sp_run (fd := fd) (e3 := e3) (e4 := e4) n (p ++ [32]) q k (by rw [e, List.replicate_succ]; simp) hL
    have e2 : (p ++ [32] ++ List.replicate n 32).length = (p ++ List.replicate (n + 1) 32).length := by simp [List.replicate_succ]
    rw [e2] at ih
    rw [show n + 1 + k = (n + k) + 1 by omega]
    refine (sWhile_t (cond_t (by rw [e1]; simp) (by omega)) ?_).trans ih
    rw [e1] at hL ⊢
    exact st_sp (by omega)
theorem run_pieces {L : List Nat} : ∀ (l : List Pc) (p : List Nat) (fd : List (List Nat)) (e3 e4 : Sl) (k : Nat), L = p ++ flat l ++ r → Apart l r → L.length ≤ 990 → fd.length + l.length ≤ 1000 →
    ∃ e3' e4', sWhile tCond tBody (cost l + k) (tE L fd p.length e3 e4 e5) = sWhile tCond tBody k (tE L (fd ++ l.map (·.2)) (p ++ flat l).length e3' e4' e5)
  | [], p, fd, e3, e4, k, _, _, _, _ => ⟨e3, e4, by simp [cost, flat]⟩
  | (n, w) :: l, p, fd, e3, e4, k, e, ha, hL, hf => by
    obtain ⟨hw, hedge, ha⟩ := ha
    have e1 : L = p ++ List.replicate n 32 ++ (w ++ flat l ++ r) := by rw [e]; show p ++ (_ ++ _ ++ _) ++ r = _; simp
    have e2 : L = (p ++ List.replicate n 32) ++ w ++ (flat l ++ r) := by rw [e1]; simp
    have h1 := sp_run (e5 := e5) (fd := fd) (e3 := e3) (e4 := e4) n p _ (1 + cost l + k) e1 hL
    have h2 : ∃ e3' e4', tBody (tE L fd (p ++ List.replicate n 32).length e3 e4 e5) = .nx (tE L (fd ++ [w]) (p ++ List.replicate n 32 ++ w).length e3' e4' e5) := by
      rcases hw with hw | hw
      · obtain ⟨g1, g2⟩ := words_sig w hw
        refine ⟨.vl (.int (p ++ List.replicate n 32 ++ w).length), e4, ?_⟩
        rw [e2] at hL ⊢
        exact st_word g2 g1 (hedge hw) hL (by simp only [List.length_cons] at hf; omega)
      · obtain ⟨c, m', g1, g2, g3⟩ := mk_head w hw
        refine ⟨e3, .vl (.list [.str (mkS w)]), ?_⟩
        rw [e2] at hL ⊢
        exact st_mk g1 g2 g3 (mk_found w hw _) hL (by simp only [List.length_cons] at hf; omega)
    obtain ⟨e3', e4', h2⟩ := h2
    obtain ⟨f3, f4, h3⟩ := run_pieces l (p ++ List.replicate n 32 ++ w) (fd ++ [w]) e3' e4' k (by rw [e2]; simp) ha hL (by simp only [List.length_append, List.length_cons, List.length_nil] at hf ⊢; omega)
    refine ⟨f3, f4, ?_⟩
    have e3 : fd ++ [w] ++ l.map (·.2) = fd ++ ((n, w) :: l).map (·.2) := by simp
    have e4 : (p ++ List.replicate n 32 ++ w ++ flat l) = (p ++ flat ((n, w) :: l)) := by show _ = p ++ (_ ++ _ ++ _); simp
    rw [e3, e4] at h3
    rw [show cost ((n, w) :: l) + k = n + (1 + cost l + k) by show n + 1 + cost l + k = _; omega]
    refine h1.trans (Eq.trans ?_ h3)
    rw [show 1 + cost l + k = (cost l + k) + 1 by omega]
    have hne : w ≠ [] := by
      rcases hw with hw | hw
      · exact (words_sig w hw).1
      · obtain ⟨c, m', g1, _⟩ := mk_head w hw
        rw [g1]; simp
    refine sWhile_t (cond_t ?_ (by omega)) h2
    rw [e2]
    have := List.length_pos_iff.mpr hne
    simp only [List.length_append]; omega
/-- a whole line -/
theorem tokens_ok (l : List Pc) (ha : Apart l []) (hL : (flat l).length ≤ 900) (hc : cost l ≤ 900) (hn : l.length ≤ 900) : f_tokens_of [.str (mkS (flat l))] = .ok (.list (l.map fun q => .str (mkS q.2))) := by
  unfold f_tokens_of
  show (sv_tokens_of [.vl (.str (mkS (flat l))), .no, .no, .no, .no, .no]).r = _
  rw [sv_tok]
  obtain ⟨e3, e4, h⟩ := run_pieces (r := []) (e5 := .no) (L := flat l) l [] [] .no .no (1000 - cost l) (by simp) ha (by omega) (by simp; omega)
  have e : sSeq (sSetO 1 (eLst aNil)) (sSeq (sSet 2 (eC (.int 0))) (sSeq (sWhile tCond tBody 1000) (sFz 1 (sRet (eV 1))))) [.vl (.str (mkS (flat l))), .no, .no, .no, .no, .no] = .rt (.list (l.map fun q => .str (mkS q.2))) := by
    refine (sSeq_nx (env' := [.vl (.str (mkS (flat l))), .ow (.lst []), .no, .no, .no, .no]) rfl).trans ?_
    refine (sSeq_nx (env' := tE (flat l) [] 0 .no .no .no) rfl).trans ?_
    rw [show cost l + (1000 - cost l) = 1000 by omega, show 1000 - cost l = (999 - cost l) + 1 by omega] at h
    have h5 := h.trans (sWhile_f (cond_f (p := [] ++ flat l) (by simp) (by omega)))
    refine (sSeq_nx h5).trans ?_
    refine (sFz_to rfl).trans ((sRet_ok (eV_vl rfl)).trans ?_)
    simp
  rw [e]; rfl
/-- a line with a wrong sign behind it -/
theorem tokens_bad (l : List Pc) {c : Nat} (ha : Apart l [32, c]) (hL : (flat l).length ≤ 900) (hc : cost l ≤ 900) (hn : l.length ≤ 900) (h32 : c ≠ 32) (hs : c ∉ signL) (hf : (marksL.filter fun x => leq ([c].take x.length) x) = []) : f_tokens_of [.str (mkS (flat l ++ [32, c]))] = .ok .none := by
  unfold f_tokens_of
  show (sv_tokens_of [.vl (.str (mkS (flat l ++ [32, c]))), .no, .no, .no, .no, .no]).r = _
  rw [sv_tok]
  obtain ⟨e3, e4, h⟩ := run_pieces (r := [32, c]) (e5 := .no) (L := flat l ++ [32, c]) l [] [] .no .no (1000 - cost l) (by simp) ha (by simp; omega) (by simp; omega)
  have e : sSeq (sSetO 1 (eLst aNil)) (sSeq (sSet 2 (eC (.int 0))) (sSeq (sWhile tCond tBody 1000) (sFz 1 (sRet (eV 1))))) [.vl (.str (mkS (flat l ++ [32, c]))), .no, .no, .no, .no, .no] = .rt .none := by
    refine (sSeq_nx (env' := [.vl (.str (mkS (flat l ++ [32, c]))), .ow (.lst []), .no, .no, .no, .no]) rfl).trans ?_
    refine (sSeq_nx (env' := tE (flat l ++ [32, c]) [] 0 .no .no .no) rfl).trans ?_
    rw [show cost l + (1000 - cost l) = 1000 by omega, show 1000 - cost l = (998 - cost l) + 1 + 1 by omega, List.nil_append, List.nil_append] at h
    refine sSeq_rt (h.trans ?_)
    refine (sWhile_t (cond_t (p := flat l) (by simp) (by simp; omega)) (st_sp (p := flat l) (r := [c]) (by simp; omega))).trans ?_
    have e6 : flat l ++ [32, c] = (flat l ++ [32]) ++ c :: [] := by simp
    rw [e6]
    exact sWhile_rt (cond_t (p := flat l ++ [32]) (by simp) (by simp; omega)) (st_bad h32 hs hf (by simp; omega))
  rw [e]; rfl
end
end Law_k03
namespace Law_k03
open FP PySem PySem.Spec PyProof.Rows L2
/-! ### terms, their texts and tokens -/
inductive Tm where
  | x | j | o
  | put (a i v : Tm)
  | get (a i : Tm)
  | k (v : Tm)
  | h (i a : Tm)
/-- the sorts: 0 index, 1 value, 2 array -/
def Tm.sort : Tm → Nat
  | .x => 2
  | .j => 0
  | .o => 1
  | .put _ _ _ => 2
  | .get _ _ => 1
  | .k _ => 0
  | .h _ _ => 1
def Tm.ok : Tm → Prop
  | .x | .j | .o => True
  | .put a i v => a.ok ∧ i.ok ∧ v.ok ∧ a.sort = 2 ∧ i.sort = 0 ∧ v.sort = 1
  | .get a i => a.ok ∧ i.ok ∧ a.sort = 2 ∧ i.sort = 0
  | .k v => v.ok ∧ v.sort = 1
  | .h i a => i.ok ∧ a.ok ∧ i.sort = 0 ∧ a.sort = 2
def Tm.deep : Tm → Nat
  | .x | .j | .o => 1
  | .put a i v => max a.deep (max i.deep v.deep) + 1
  | .get a i => max a.deep i.deep + 1
  | .k v => v.deep + 1
  | .h i a => max i.deep a.deep + 1
/-- as data -/
def Tm.d : Tm → D
  | .x => .tuple [.str "x"]
  | .j => .tuple [.str "j"]
  | .o => .tuple [.str "o"]
  | .put a i v => .tuple [.str "m.put", a.d, i.d, v.d]
  | .get a i => .tuple [.str "m.get", a.d, i.d]
  | .k v => .tuple [.str "k", v.d]
  | .h i a => .tuple [.str "h", i.d, a.d]
/-- spaces: ahead of a dot, ahead of and behind an opening bracket, ahead of and behind a comma -/
structure Sp where
  dot : Nat
  po : Nat
  pi : Nat
  co : Nat
  ci : Nat
def Tm.pcs (S : Sp) : Nat → Tm → List Pc
  | n, .x => [(n, cs "x")]
  | n, .j => [(n, cs "j")]
  | n, .o => [(n, cs "o")]
  | n, .put a i v => a.pcs S n ++ ((S.dot, cs ".") :: (0, cs "put") :: (S.po, cs "(") :: (i.pcs S S.pi ++ ((S.co, cs ",") :: (v.pcs S S.ci ++ [(0, cs ")")]))))
  | n, .get a i => a.pcs S n ++ ((S.dot, cs ".") :: (0, cs "get") :: (S.po, cs "(") :: (i.pcs S S.pi ++ [(0, cs ")")]))
  | n, .k v => (n, cs "k") :: (S.po, cs "(") :: (v.pcs S S.pi ++ [(0, cs ")")])
  | n, .h i a => (n, cs "h") :: (S.po, cs "(") :: (i.pcs S S.pi ++ ((S.co, cs ",") :: (a.pcs S S.ci ++ [(0, cs ")")])))
/-- the tokens -/
def Tm.tk : Tm → List (List Nat)
  | .x => [cs "x"]
  | .j => [cs "j"]
  | .o => [cs "o"]
  | .put a i v => a.tk ++ (cs "." :: cs "put" :: cs "(" :: (i.tk ++ (cs "," :: (v.tk ++ [cs ")"]))))
  | .get a i => a.tk ++ (cs "." :: cs "get" :: cs "(" :: (i.tk ++ [cs ")"]))
  | .k v => cs "k" :: cs "(" :: (v.tk ++ [cs ")"])
  | .h i a => cs "h" :: cs "(" :: (i.tk ++ (cs "," :: (a.tk ++ [cs ")"])))
theorem pcs_tk (S : Sp) : ∀ (t : Tm) (n : Nat), (t.pcs S n).map (·.2) = t.tk
  | .x, _ => rfl
  | .j, _ => rfl
  | .o, _ => rfl
  | .put a i v, n => by simp [Tm.pcs, Tm.tk, pcs_tk S a, pcs_tk S i, pcs_tk S v]
  | .get a i, n => by simp [Tm.pcs, Tm.tk, pcs_tk S a, pcs_tk S i]
  | .k v, n => by simp [Tm.pcs, Tm.tk, pcs_tk S v]
  | .h i a, n => by simp [Tm.pcs, Tm.tk, pcs_tk S i, pcs_tk S a]
/-- what stands behind a term -/
def Behind (l : List Nat) : Prop := l = [] ∨ ∃ c r, l = c :: r ∧ c ∈ ([32, 44, 41, 46] : List Nat)
theorem Behind.edge {l : List Nat} (h : Behind l) : Edge l := by
  intro c e
  rcases h with rfl | ⟨c', r, rfl, hm⟩
  · cases e
  · simp only [List.getElem?_cons_zero, Option.some.injEq] at e
    subst e
    revert c' 
    decide +kernel
theorem w_x : cs "x" ∈ wordsL := by decide +kernel
theorem w_j : cs "j" ∈ wordsL := by decide +kernel
theorem w_o : cs "o" ∈ wordsL := by decide +kernel
theorem w_k : cs "k" ∈ wordsL := by decide +kernel
theorem w_h : cs "h" ∈ wordsL := by decide +kernel
theorem w_put : cs "put" ∈ wordsL := by decide +kernel
theorem w_get : cs "get" ∈ wordsL := by decide +kernel
theorem m_dot : cs "." ∈ marksL ∧ cs "." ∉ wordsL := by decide +kernel
theorem m_po : cs "(" ∈ marksL ∧ cs "(" ∉ wordsL := by decide +kernel
theorem m_pc : cs ")" ∈ marksL ∧ cs ")" ∉ wordsL := by decide +kernel
theorem m_co : cs "," ∈ marksL ∧ cs "," ∉ wordsL := by decide +kernel
theorem apart_app : ∀ {a b : List Pc} {r : List Nat}, Apart a (flat b ++ r) → Apart b r → Apart (a ++ b) r
  | [], _, _, _, h => h
  | (n, w) :: a, b, r, ⟨h1, h2, h3⟩, h => ⟨h1, fun hw => by show Edge (flat (a ++ b) ++ r); rw [flat_app, List.append_assoc]; exact h2 hw, apart_app h3 h⟩
theorem apart_mark {n : Nat} {w : List Nat} {l : List Pc} {r : List Nat} (m : w ∈ marksL ∧ w ∉ wordsL) (h : Apart l r) : Apart ((n, w) :: l) r := ⟨.inr m.1, fun z => absurd z m.2, h⟩
theorem apart_word {n : Nat} {w : List Nat} {l : List Pc} {r : List Nat} (m : w ∈ wordsL) (e : Edge (flat l ++ r)) (h : Apart l r) : Apart ((n, w) :: l) r := ⟨.inl m, fun _ => e, h⟩
end Law_k03
namespace Law_k03
open FP PySem PySem.Spec PyProof.Rows L2
abbrev Fs : Type := List D → R D
def ckR : FP.Env → SR := (sFz 2 (sSeq (sSetO 4 (eComp (iItems (eBin pyIx (eO 0) (eC (.int 1)))) (gNm 5) (eBin pyEq (eBin pyIx (eO 5) (eC (.int 0))) (eBin pyIx (eO 1) (eC (.int 0)))) (eV 5) [5])) (sFz 4 (sSeq (sIf (eBin pyEq (eUn pyLen (eO 4)) (eC (.int 0))) (sRaise "SortError" ["what", "name"] (aCons (eC (.str "unknown function")) (aCons (eBin pyIx (eO 1) (eC (.int 0))) aNil))) sNil) (sSeq (sIf (eBin pyNe (eUn pyLen (eO 2)) (eUn pyLen (eBin pyIx (eBin pyIx (eO 4) (eC (.int 0))) (eC (.int 1))))) (sRaise "SortError" ["what", "name"] (aCons (eC (.str "number of places")) (aCons (eBin pyIx (eO 1) (eC (.int 0))) aNil))) sNil) (sSeq (sIf (eBin pyNe (eTupOf (eO 2)) (eBin pyIx (eBin pyIx (eO 4) (eC (.int 0))) (eC (.int 1)))) (sRaise "SortError" ["what", "name"] (aCons (eC (.str "sort of a place")) (aCons (eBin pyIx (eO 1) (eC (.int 0))) aNil))) sNil) (sRet (eBin pyIx (eBin pyIx (eO 4) (eC (.int 0))) (eC (.int 2))))))))))
theorem sv_ck (f_check_term : Fs) : sv_check_term f_check_term = sSeq (sSetO 2 (eComp (iItems (eSl (eO 1) (oSome (eC (.int 1))) oNone)) (gNm 3) tYesR (eCall (aCons (eV 0) (aCons (eV 3) aNil)) f_check_term) [3])) ckR := rfl
def rC : FP.Env → R Bool := (tAndR (eBin pyLt (eBin pyAdd (eO 2) (eC (.int 1))) (eUn pyLen (eO 1))) (eBin pyEq (eBin pyIx (eO 1) (eO 2)) (eC (.str "."))))
def rB (f__read_parts : Fs) : FP.Env → SR := (sSeq (sSet 8 (eCall (aCons (eV 0) (aCons (eV 7) aNil)) f_sort_of)) (sSeq (sIf (tOrR (eBin pyNe (eCall (aCons (eV 0) (aCons (eV 8) aNil)) f_kind_of) (eC (.str "array"))) (eBin pyNotIn (eBin pyIx (eO 1) (eBin pyAdd (eO 2) (eC (.int 1)))) (eO 3))) (sRet (eC .none)) sNil) (sSeq (sSet 6 (eCall (aCons (eV 0) (aCons (eV 1) (aCons (eBin pyAdd (eO 2) (eC (.int 2))) (aCons (eV 3) aNil)))) f__read_parts)) (sSeq (sIf (tIsN (eO 6)) (sRet (eC .none)) sNil) (sPar 7 2 (mCons (eBin pyAdd (eTup (aCons (eBin pyAdd (eBin pyAdd (eO 8) (eC (.str "."))) (eBin pyIx (eO 1) (eBin pyAdd (eO 2) (eC (.int 1))))) (aCons (eV 7) aNil))) (eTupOf (eBin pyIx (eO 6) (eC (.int 0))))) (mCons (eBin pyIx (eO 6) (eC (.int 1))) mNil)))))))
def rIf : FP.Env → SR := (sIf (tOrR (eBin pyGe (eO 2) (eUn pyLen (eO 1))) (tOrR (tNotR (eB (eCall (aCons (eBin pyIx (eO 1) (eO 2)) aNil) f_is_name))) (eBin pyNotIn (eBin pyIx (eO 1) (eO 2)) (eCall (aCons (eV 0) aNil) f_function_names)))) (sRet (eC .none)) sNil)
def rPar : FP.Env → SR := (sPar 4 2 (mCons (eBin pyIx (eO 1) (eO 2)) (mCons (eBin pyAdd (eO 2) (eC (.int 1))) mNil)))
def rNew : FP.Env → SR := (sSet 5 (eNew (eLst aNil)))
def rArg (f__read_parts : Fs) : FP.Env → SR := (sIf (eBin pyGt (eUn pyLen (eBin pyIx (eCall (aCons (eV 0) (aCons (eV 4) aNil)) f_function_row) (eC (.int 1)))) (eC (.int 0))) (sSeq (sSet 6 (eCall (aCons (eV 0) (aCons (eV 1) (aCons (eV 2) (aCons (eV 3) aNil)))) f__read_parts)) (sSeq (sIf (tIsN (eO 6)) (sRet (eC .none)) sNil) (sAsg (eV 6) (gTp 2 (gsCons (gNm 5) (gsCons (gNm 2) gsNil)))))) sNil)
def rTm : FP.Env → SR := (sSet 7 (eBin pyAdd (eTup (aCons (eV 4) aNil)) (eTupOf (eO 5))))
def rEnd : FP.Env → SR := (sRet (eTup (aCons (eV 7) (aCons (eV 2) aNil))))
theorem sv_rt (f__read_parts f_read_term : Fs) : sv_read_term f__read_parts f_read_term = sSeq rIf (sSeq rPar (sSeq rNew (sSeq (rArg f__read_parts) (sSeq rTm (sSeq (sWhile rC (rB f__read_parts) 1000) rEnd))))) := rfl
def pC : FP.Env → R Bool := (eBin pyNe (eBin pyIx (eO 1) (eO 2)) (eC (.str ")")))
def pB (f_read_term : Fs) : FP.Env → SR := (sSeq (sSet 5 (eCall (aCons (eV 0) (aCons (eV 1) (aCons (eBin pyAdd (eO 2) (eC (.int 1))) (aCons (eV 3) aNil)))) f_read_term)) (sSeq (sIf (tOrR (tIsN (eO 5)) (tOrR (eBin pyGe (eBin pyIx (eO 5) (eC (.int 1))) (eUn pyLen (eO 1))) (eBin pyNotIn (eBin pyIx (eO 1) (eBin pyIx (eO 5) (eC (.int 1)))) (eTup (aCons (eC (.str ",")) (aCons (eC (.str ")")) aNil)))))) (sRet (eC .none)) sNil) (sSeq (sApp 4 (eBin pyIx (eO 5) (eC (.int 0)))) (sSet 2 (eBin pyIx (eO 5) (eC (.int 1)))))))
def pIf : FP.Env → SR := (sIf (tOrR (eBin pyGe (eO 2) (eUn pyLen (eO 1))) (eBin pyNe (eBin pyIx (eO 1) (eO 2)) (eC (.str "(")))) (sRet (eC .none)) sNil)
def pEnd : FP.Env → SR := (sFz 4 (sRet (eTup (aCons (eV 4) (aCons (eBin pyAdd (eO 2) (eC (.int 1))) aNil)))))
theorem sv_rp (f__read_parts f_read_term : Fs) : sv__read_parts f__read_parts f_read_term = sSeq (sSetO 4 (eLst aNil)) (sSeq pIf (sSeq (sWhile pC (pB f_read_term) 1000) pEnd)) := rfl
def sgD : D := (.tuple [(.tuple [(.tuple [(.str "i"), (.str "plain"), (.tuple [])]), (.tuple [(.str "v"), (.str "plain"), (.tuple [])]), (.tuple [(.str "m"), (.str "array"), (.tuple [(.str "i"), (.str "v")])])]), (.tuple [(.tuple [(.str "m.get"), (.tuple [(.str "m"), (.str "i")]), (.str "v")]), (.tuple [(.str "m.put"), (.tuple [(.str "m"), (.str "i"), (.str "v")]), (.str "m")]), (.tuple [(.str "m.apart"), (.tuple [(.str "m"), (.str "m")]), (.str "i")]), (.tuple [(.str "x"), (.tuple []), (.str "m")]), (.tuple [(.str "j"), (.tuple []), (.str "i")]), (.tuple [(.str "k"), (.tuple [(.str "v")]), (.str "i")]), (.tuple [(.str "o"), (.tuple []), (.str "v")]), (.tuple [(.str "h"), (.tuple [(.str "i"), (.str "m")]), (.str "v")])])])
theorem prob (a : D) : sv_law_0 [.vl a, .no, .no, .no, .no, .no, .no, .no, .no, .no, .no, .no, .no, .no, .no] = .nx [.vl a, .vl sgD, .no, .no, .no, .no, .no, .no, .no, .no, .no, .no, .no, .no, .no] := by kernel_rfl
theorem compL_c {t : Tg} {g : FP.Env → R Bool} {fe : FP.Env → R D} {env env1 : FP.Env} {x y : D} {xs ys : List D} (h1 : t x env = some env1) (h2 : g env1 = .ok true) (h3 : fe env1 = .ok y) (h : compL t g fe env xs = .ok ys) : compL t g fe env (x :: xs) = .ok (y :: ys) := by
  unfold compL
  rw [h1]; dsimp only
  rw [h2]; dsimp only
  rw [h3]; dsimp only
  rw [h]; rfl
theorem eComp_to {f : FP.Env → R (List D)} {t : Tg} {g : FP.Env → R Bool} {fe : FP.Env → R D} {vs : List Nat} {env : FP.Env} {ds ys : List D} (h : f env = .ok ds) (hl : ds.length ≤ 1000000) (hc : compL t g fe (wipeE env vs) ds = .ok ys) : eComp f t g fe vs env = .ok (.lst ys) := by
  unfold eComp
  rw [h, bnd_k, if_pos (Nat.le_trans hl big), hc]; rfl
/-! ### check_term -/
def srt : Nat → Str
  | 0 => "i"
  | 1 => "v"
  | _ => "m"
abbrev ckE (ps qs : List D) (nm : Str) : FP.Env := [.vl sgD, .vl (.tuple (.str nm :: ps)), .ow (.lst qs), .no, .no, .no]
theorem r_x : ckR (ckE [] [] "x") = .rt (.str "m") := by kernel_rfl
theorem r_j : ckR (ckE [] [] "j") = .rt (.str "i") := by kernel_rfl
theorem r_o : ckR (ckE [] [] "o") = .rt (.str "v") := by kernel_rfl
theorem r_put (ps : List D) : ckR (ckE ps [.str "m", .str "i", .str "v"] "m.put") = .rt (.str "m") := by kernel_rfl
theorem r_get (ps : List D) : ckR (ckE ps [.str "m", .str "i"] "m.get") = .rt (.str "v") := by kernel_rfl
theorem r_k (ps : List D) : ckR (ckE ps [.str "v"] "k") = .rt (.str "i") := by kernel_rfl
theorem r_h (ps : List D) : ckR (ckE ps [.str "i", .str "m"] "h") = .rt (.str "v") := by kernel_rfl
theorem r_bad (ps : List D) : ckR (ckE ps [.str "m", .str "v"] "m.get") = .ex "SortError" [("what", .str "sort of a place"), ("name", .str "m.get")] [.vl sgD, .vl (.tuple (.str "m.get" :: ps)), .vl (.list [.str "m", .str "v"]), .no, .vl (.list [.tuple [.str "m.get", .tuple [.str "m", .str "i"], .str "v"]]), .no] := by kernel_rfl
section
variable {f : Fs} {nm : Str} {a b c qa qb qc : D}
theorem ck0 : sv_check_term f (env0 6 [sgD, .tuple [.str nm]]) = ckR (ckE [] [] nm) := by rw [sv_ck]; exact sSeq_nx rfl
theorem ck1 (ha : f [sgD, a] = .ok qa) : sv_check_term f (env0 6 [sgD, .tuple [.str nm, a]]) = ckR (ckE [a] [qa] nm) := by
  rw [sv_ck]
  refine sSeq_nx ((sSetO_ok (d := .lst [qa]) (eComp_to (ds := [a]) rfl (Nat.le_of_ble_eq_true rfl) (compL_c rfl rfl (eCall_to rfl ha) rfl))).trans rfl)
theorem ck2 (ha : f [sgD, a] = .ok qa) (hb : f [sgD, b] = .ok qb) : sv_check_term f (env0 6 [sgD, .tuple [.str nm, a, b]]) = ckR (ckE [a, b] [qa, qb] nm) := by
  rw [sv_ck]
  refine sSeq_nx ((sSetO_ok (d := .lst [qa, qb]) (eComp_to (ds := [a, b]) rfl (Nat.le_of_ble_eq_true rfl) (compL_c rfl rfl (eCall_to rfl ha) (compL_c rfl rfl (eCall_to rfl hb) rfl)))).trans rfl)
theorem ck3 (ha : f [sgD, a] = .ok qa) (hb : f [sgD, b] = .ok qb) (hc : f [sgD, c] = .ok qc) : sv_check_term f (env0 6 [sgD, .tuple [.str nm, a, b, c]]) = ckR (ckE [a, b, c] [qa, qb, qc] nm) := by
  rw [sv_ck]
  refine sSeq_nx ((sSetO_ok (d := .lst [qa, qb, qc]) (eComp_to (ds := [a, b, c]) rfl (Nat.le_of_ble_eq_true rfl) (compL_c rfl rfl (eCall_to rfl ha) (compL_c rfl rfl (eCall_to rfl hb) (compL_c rfl rfl (eCall_to rfl hc) rfl))))).trans rfl)
end
theorem ck_rt {f : Fs} {d q : D} (h : sv_check_term f (env0 6 [sgD, d]) = .rt q) : (sv_check_term f (env0 6 [sgD, d])).r = .ok q := by rw [h]; rfl
theorem check_ok : ∀ (t : Tm) (n : Nat), t.ok → t.deep ≤ n → fr_check_term n [sgD, t.d] = .ok (.str (srt t.sort))
  | t, 0, _, h => by cases t <;> simp [Tm.deep] at h
  | .x, n + 1, _, _ => ck_rt (f := fr_check_term n) (ck0.trans r_x)
  | .j, n + 1, _, _ => ck_rt (f := fr_check_term n) (ck0.trans r_j)
  | .o, n + 1, _, _ => ck_rt (f := fr_check_term n) (ck0.trans r_o)
  | .put a i v, n + 1, ⟨oa, oi, ov, sa, si, sv⟩, h => by
    simp only [Tm.deep] at h
    have ha := check_ok a n oa (by omega)
    have hi := check_ok i n oi (by omega)
    have hv := check_ok v n ov (by omega)
    rw [sa] at ha; rw [si] at hi; rw [sv] at hv
    exact ck_rt ((ck3 ha hi hv).trans (r_put _))
  | .get a i, n + 1, ⟨oa, oi, sa, si⟩, h => by
    simp only [Tm.deep] at h
    have ha := check_ok a n oa (by omega)
    have hi := check_ok i n oi (by omega)
    rw [sa] at ha; rw [si] at hi
    exact ck_rt ((ck2 ha hi).trans (r_get _))
  | .k v, n + 1, ⟨ov, sv⟩, h => by
    simp only [Tm.deep] at h
    have hv := check_ok v n ov (by omega)
    rw [sv] at hv
    exact ck_rt ((ck1 hv).trans (r_k _))
  | .h i a, n + 1, ⟨oi, oa, si, sa⟩, h => by
    simp only [Tm.deep] at h
    have ha := check_ok a n oa (by omega)
    have hi := check_ok i n oi (by omega)
    rw [sa] at ha; rw [si] at hi
    exact ck_rt ((ck2 hi ha).trans (r_h _))
theorem check_bad (t : Tm) (n : Nat) (ok : t.ok) (s : t.sort = 2) (h : t.deep ≤ n) (hn : 1 ≤ n) : fr_check_term (n + 1) [sgD, .tuple [.str "m.get", t.d, .tuple [.str "o"]]] = .ex "SortError" [("what", .str "sort of a place"), ("name", .str "m.get")] := by
  have ha := check_ok t n ok h
  have ho := check_ok .o n trivial (by simpa [Tm.deep] using hn)
  rw [s] at ha
  show (sv_check_term (fr_check_term n) (env0 6 [sgD, .tuple [.str "m.get", t.d, Tm.o.d]])).r = _
  rw [(ck2 ha ho).trans (r_bad _)]
  rfl
/-! ### is_term -/
theorem isT_ok {t : D} {q : D} (h : f_check_term [sgD, t] = .ok q) : f_is_term [sgD, t] = .ok (.bool true) := by
  have e : (sDrop (eCall (aCons (eV 0) (aCons (eV 1) aNil)) f_check_term)) [.vl sgD, .vl t] = .nx [.vl sgD, .vl t] := by
    have e1 : (eCall (aCons (eV 0) (aCons (eV 1) aNil)) f_check_term) [.vl sgD, .vl t] = .ok q := eCall_to rfl h
    unfold sDrop
    rw [e1]; rfl
  show (sv_is_term [.vl sgD, .vl t]).r = _
  unfold sv_is_term
  have e2 : ∀ hs, sTry tab (sDrop (eCall (aCons (eV 0) (aCons (eV 1) aNil)) f_check_term)) hs [.vl sgD, .vl t] = .nx [.vl sgD, .vl t] := fun hs => by
    unfold sTry
    rw [e]
  rw [sSeq_nx (e2 _)]
  rfl
theorem isT_bad {t : D} {x y : D} (h : f_check_term [sgD, t] = .ex "SortError" [("what", x), ("name", y)]) : f_is_term [sgD, t] = .ok (.bool false) := by
  have e : (sDrop (eCall (aCons (eV 0) (aCons (eV 1) aNil)) f_check_term)) [.vl sgD, .vl t] = .ex "SortError" [("what", x), ("name", y)] [.vl sgD, .vl t] := by
    have e1 : (eCall (aCons (eV 0) (aCons (eV 1) aNil)) f_check_term) [.vl sgD, .vl t] = .ex "SortError" [("what", x), ("name", y)] := eCall_to rfl h
    unfold sDrop
    rw [e1]; rfl
  show (sv_is_term [.vl sgD, .vl t]).r = _
  unfold sv_is_term
  have e2 : sTry tab (sDrop (eCall (aCons (eV 0) (aCons (eV 1) aNil)) f_check_term)) ((["SortError"], none, (sRet (eC (.bool false)))) :: []) [.vl sgD, .vl t] = .rt (.bool false) := by
    unfold sTry
    rw [e]
    kernel_rfl
  rw [sSeq_rt e2]
  rfl
end Law_k03
namespace Law_k03
open FP PySem PySem.Spec PyProof.Rows L2
/-! ### lists of tokens -/
def tkD (l : List (List Nat)) : List D := l.map fun w => .str (mkS w)
abbrev wsD : D := .tuple [.str "get", .str "put"]
section
variable {L : List (List Nat)} {p : Nat} {w : List Nat} {R X : List (List Nat)}
theorem dr_ix (h : L.drop p = w :: R) : L[p]? = some w := by rw [← List.head?_drop, h]; rfl
theorem dr_lt (h : L.drop p = w :: R) : p < L.length := (List.getElem?_eq_some_iff.mp (dr_ix h)).1
theorem dr_cons (h : L.drop p = w :: R) : L.drop (p + 1) = R := by rw [← List.drop_drop, h]; rfl
theorem dr_app {A : List (List Nat)} (h : L.drop p = A ++ R) : L.drop (p + A.length) = R := by rw [← List.drop_drop, h, List.drop_left]
theorem ixT (h : L.drop p = w :: R) : pyIx (.list (tkD L)) (.int (p : Nat)) = .ok (.str (mkS w)) := by
  show RO (atP (tkD L) (p : Int)) = _
  unfold atP
  rw [if_pos (Int.natCast_nonneg p), Int.toNat_natCast]
  unfold tkD
  rw [List.getElem?_map, dr_ix h]
  rfl
theorem lenT : pyLen (.list (tkD L)) = .ok (.int (L.length : Nat)) := by
  show R.ok (PyData.int ((tkD L).length : Nat)) = _
  unfold tkD
  rw [List.length_map]
theorem ge_f {a b : Nat} (h : a < b) : pyGe (.int a) (.int b) = .ok false := by
  show R.ok (decide ((b : Int) ≤ (a : Int))) = _
  rw [decide_eq_false (by omega)]
theorem ge_t {a b : Nat} (h : b ≤ a) : pyGe (.int a) (.int b) = .ok true := by
  show R.ok (decide ((b : Int) ≤ (a : Int))) = _
  rw [decide_eq_true (by omega)]
theorem lt_t {a b : Nat} (h : a < b) : pyLt (.int a) (.int b) = .ok true := by
  show R.ok (decide ((a : Int) < (b : Int))) = _
  rw [decide_eq_true (by omega)]
theorem lt_f {a b : Nat} (h : b ≤ a) : pyLt (.int a) (.int b) = .ok false := by
  show R.ok (decide ((a : Int) < (b : Int))) = _
  rw [decide_eq_false (by omega)]
end
/-! ### parts -/
section
variable {L : List (List Nat)} {f : Fs} {fp : Fs} {s5 : Sl} {ds : List D} {p q : Nat} {d : D} {R X : List (List Nat)}
abbrev pE (L : List (List Nat)) (p : Nat) (ds : List D) (s5 : Sl) : FP.Env := [.vl sgD, .vl (.list (tkD L)), .vl (.int p), .vl wsD, .ow (.lst ds), s5]
theorem p_if (h : L.drop p = cs "(" :: R) : pIf (pE L p ds s5) = .nx (pE L p ds s5) := by
  unfold pIf
  refine (sIf_f (or_ff (eBin_to (eO_vl rfl) (eUn_to (eO_vl rfl) lenT) (ge_f (dr_lt h))) (eBin_to (eBin_to (eO_vl rfl) (eO_vl rfl) (ixT h)) rfl ?_))).trans rfl
  kernel_rfl
theorem p_c {w : List Nat} (h : L.drop p = w :: R) (hw : w = cs "(" ∨ w = cs ",") : pC (pE L p ds s5) = .ok true := by
  unfold pC
  refine eBin_to (eBin_to (eO_vl rfl) (eO_vl rfl) (ixT h)) rfl ?_
  rcases hw with rfl | rfl <;> kernel_rfl
theorem p_cf (h : L.drop p = cs ")" :: R) : pC (pE L p ds s5) = .ok false := by
  unfold pC
  exact eBin_to (eBin_to (eO_vl rfl) (eO_vl rfl) (ixT h)) rfl (by kernel_rfl)
theorem p_b {w : List Nat} (hf : f [sgD, .list (tkD L), .int ((p + 1 : Nat) : Int), wsD] = .ok (.tuple [d, .int (q : Nat)])) (h : L.drop q = w :: X) (hw : w = cs ")" ∨ w = cs ",") (hd : ds.length ≤ 99) :
    pB f (pE L p ds s5) = .nx (pE L q (ds ++ [d]) (.vl (.tuple [d, .int (q : Nat)]))) := by
  unfold pB
  refine (sSeq_nx ((sSet_ok (d := .tuple [d, .int (q : Nat)]) (eCall_to (ds := [sgD, .list (tkD L), .int ((p + 1 : Nat) : Int), wsD]) rfl hf)).trans rfl)).trans ?_
  refine (sSeq_nx ((sIf_f (or_ff rfl (or_ff (eBin_to rfl (eUn_to (eO_vl rfl) lenT) (ge_f (dr_lt h))) (eBin_to (eBin_to (eO_vl rfl) rfl (ixT h)) rfl ?_)))).trans rfl)).trans ?_
  · rcases hw with rfl | rfl <;> kernel_rfl
  exact (sSeq_nx (sApp_to (l := ds) (d := d) rfl rfl (by omega))).trans ((sSet_ok (d := .int (q : Nat)) rfl).trans rfl)
theorem p_bn (hf : f [sgD, .list (tkD L), .int ((p + 1 : Nat) : Int), wsD] = .ok .none) : pB f (pE L p ds s5) = .rt .none := by
  unfold pB
  refine (sSeq_nx ((sSet_ok (d := .none) (eCall_to (ds := [sgD, .list (tkD L), .int ((p + 1 : Nat) : Int), wsD]) rfl hf)).trans rfl)).trans ?_
  exact sSeq_rt ((sIf_t (or_t rfl)).trans rfl)
theorem p_end : pEnd (pE L p ds s5) = .rt (.tuple [.list ds, .int ((p + 1 : Nat) : Int)]) := by
  unfold pEnd
  exact (sFz_to rfl).trans ((sRet_ok rfl).trans rfl)
theorem parts1 {p1 : Nat} (h0 : L.drop p = cs "(" :: R) (hf : f [sgD, .list (tkD L), .int ((p + 1 : Nat) : Int), wsD] = .ok (.tuple [d, .int (p1 : Nat)])) (h1 : L.drop p1 = cs ")" :: X) :
    (sv__read_parts fp f (env0 6 [sgD, .list (tkD L), .int (p : Nat), wsD])).r = .ok (.tuple [.list [d], .int ((p1 + 1 : Nat) : Int)]) := by
  rw [sv_rp]
  have e : (sSeq (sSetO 4 (eLst aNil)) (sSeq pIf (sSeq (sWhile pC (pB f) 1000) pEnd))) (env0 6 [sgD, .list (tkD L), .int (p : Nat), wsD]) = .rt (.tuple [.list [d], .int ((p1 + 1 : Nat) : Int)]) := by
    refine (sSeq_nx (show _ = SR.nx (pE L p [] .no) from rfl)).trans ((sSeq_nx (p_if h0)).trans ?_)
    refine (sSeq_nx ((sWhile_t (n := 999) (p_c h0 (.inl rfl)) (p_b hf h1 (.inl rfl) (by decide))).trans (sWhile_f (n := 998) (p_cf h1)))).trans ?_
    exact p_end
  rw [e]; rfl
theorem parts2 {d2 : D} {p1 p2 : Nat} {Y : List (List Nat)} (h0 : L.drop p = cs "(" :: R) (hf : f [sgD, .list (tkD L), .int ((p + 1 : Nat) : Int), wsD] = .ok (.tuple [d, .int (p1 : Nat)])) (h1 : L.drop p1 = cs "," :: X)
    (hf2 : f [sgD, .list (tkD L), .int ((p1 + 1 : Nat) : Int), wsD] = .ok (.tuple [d2, .int (p2 : Nat)])) (h2 : L.drop p2 = cs ")" :: Y) :
    (sv__read_parts fp f (env0 6 [sgD, .list (tkD L), .int (p : Nat), wsD])).r = .ok (.tuple [.list [d, d2], .int ((p2 + 1 : Nat) : Int)]) := by
  rw [sv_rp]
  have e : (sSeq (sSetO 4 (eLst aNil)) (sSeq pIf (sSeq (sWhile pC (pB f) 1000) pEnd))) (env0 6 [sgD, .list (tkD L), .int (p : Nat), wsD]) = .rt (.tuple [.list [d, d2], .int ((p2 + 1 : Nat) : Int)]) := by
    refine (sSeq_nx (show _ = SR.nx (pE L p [] .no) from rfl)).trans ((sSeq_nx (p_if h0)).trans ?_)
    refine (sSeq_nx ((sWhile_t (n := 999) (p_c h0 (.inl rfl)) (p_b hf h1 (.inr rfl) (by decide))).trans ((sWhile_t (n := 998) (p_c h1 (.inr rfl)) (p_b hf2 h2 (.inl rfl) (by simp))).trans (sWhile_f (n := 997) (p_cf h2))))).trans ?_
    exact p_end
  rw [e]; rfl
theorem partsN {p1 : Nat} (h0 : L.drop p = cs "(" :: R) (hf : f [sgD, .list (tkD L), .int ((p + 1 : Nat) : Int), wsD] = .ok (.tuple [d, .int (p1 : Nat)])) (h1 : L.drop p1 = cs "," :: X) (hf2 : f [sgD, .list (tkD L), .int ((p1 + 1 : Nat) : Int), wsD] = .ok .none) :
    (sv__read_parts fp f (env0 6 [sgD, .list (tkD L), .int (p : Nat), wsD])).r = .ok .none := by
  rw [sv_rp]
  have e : (sSeq (sSetO 4 (eLst aNil)) (sSeq pIf (sSeq (sWhile pC (pB f) 1000) pEnd))) (env0 6 [sgD, .list (tkD L), .int (p : Nat), wsD]) = .rt .none := by
    refine (sSeq_nx (show _ = SR.nx (pE L p [] .no) from rfl)).trans ((sSeq_nx (p_if h0)).trans ?_)
    exact sSeq_rt ((sWhile_t (n := 999) (p_c h0 (.inl rfl)) (p_b hf h1 (.inr rfl) (by decide))).trans (sWhile_rt (n := 998) (p_c h1 (.inr rfl)) (p_bn hf2)))
  rw [e]; rfl
end
/-! ### a term's head -/
section
variable {L : List (List Nat)} {fp f : Fs} {p q : Nat} {d : D} {R X : List (List Nat)} {w : List Nat} {s4 s5 s6 s8 : Sl}
abbrev rE (L : List (List Nat)) (p : Nat) (s4 s5 s6 s7 s8 : Sl) : FP.Env := [.vl sgD, .vl (.list (tkD L)), .vl (.int p), .vl wsD, s4, s5, s6, s7, s8]
def namesD : D := .list [.str "x", .str "j", .str "k", .str "o", .str "h"]
theorem names_ok : f_function_names [sgD] = .ok namesD := by kernel_rfl
/-- a word that heads a term -/
structure Hd (w : List Nat) (b : Bool) : Prop where
  nm : f_is_name [.str (mkS w)] = .ok (.bool true)
  of : pyNotIn (.str (mkS w)) namesD = .ok false
  pl : ∀ (e1 e2 e3 : Sl) (r : List Sl), (eBin pyGt (eUn pyLen (eBin pyIx (eCall (aCons (eV 0) (aCons (eV 4) aNil)) f_function_row) (eC (.int 1)))) (eC (.int 0))) (.vl sgD :: e1 :: e2 :: e3 :: .vl (.str (mkS w)) :: r) = .ok b
theorem hd_x : Hd (cs "x") false := ⟨by kernel_rfl, by kernel_rfl, fun _ _ _ _ => by kernel_rfl⟩
theorem hd_j : Hd (cs "j") false := ⟨by kernel_rfl, by kernel_rfl, fun _ _ _ _ => by kernel_rfl⟩
theorem hd_o : Hd (cs "o") false := ⟨by kernel_rfl, by kernel_rfl, fun _ _ _ _ => by kernel_rfl⟩
theorem hd_k : Hd (cs "k") true := ⟨by kernel_rfl, by kernel_rfl, fun _ _ _ _ => by kernel_rfl⟩
theorem hd_h : Hd (cs "h") true := ⟨by kernel_rfl, by kernel_rfl, fun _ _ _ _ => by kernel_rfl⟩
theorem h_if {b : Bool} (h : L.drop p = w :: R) (hw : Hd w b) : rIf (rE L p .no .no .no .no .no) = .nx (rE L p .no .no .no .no .no) := by
  unfold rIf
  refine (sIf_f (or_ff (eBin_to (eO_vl rfl) (eUn_to (eO_vl rfl) lenT) (ge_f (dr_lt h))) (or_ff (tNot_to (c := true) (eB_to (eCall_to (aCons_to (eBin_to (eO_vl rfl) (eO_vl rfl) (ixT h)) rfl) hw.nm))) (eBin_to (eBin_to (eO_vl rfl) (eO_vl rfl) (ixT h)) (eCall_to rfl names_ok) hw.of)))).trans rfl
theorem h_par (h : L.drop p = w :: R) : rPar (rE L p .no .no .no .no .no) = .nx (rE L (p + 1) (.vl (.str (mkS w))) .no .no .no .no) := by
  unfold rPar sPar mCons
  have e1 : (eBin pyIx (eO 1) (eO 2)) (rE L p .no .no .no .no .no) = .ok (.str (mkS w)) := eBin_to (eO_vl rfl) (eO_vl rfl) (ixT h)
  rw [e1]
  rfl
theorem h_f {s8 : Sl} (h : L.drop p = w :: R) (hw : Hd w false) : rArg fp (rE L (p + 1) (.vl (.str (mkS w))) s5 .no .no .no) = .nx (rE L (p + 1) (.vl (.str (mkS w))) s5 .no .no .no) := by
  unfold rArg
  exact (sIf_f (hw.pl _ _ _ _)).trans rfl
theorem h_t {s8 : Sl} {ds : List D} (h : L.drop p = w :: R) (hw : Hd w true) (hp : fp [sgD, .list (tkD L), .int ((p + 1 : Nat) : Int), wsD] = .ok (.tuple [.list ds, .int (q : Nat)])) :
    rArg fp (rE L (p + 1) (.vl (.str (mkS w))) s5 .no .no .no) = .nx (rE L q (.vl (.str (mkS w))) (.vl (.list ds)) (.vl (.tuple [.list ds, .int (q : Nat)])) .no .no) := by
  unfold rArg
  refine (sIf_t (hw.pl _ _ _ _)).trans ?_
  refine (sSeq_nx ((sSet_ok (d := .tuple [.list ds, .int (q : Nat)]) (eCall_to (ds := [sgD, .list (tkD L), .int ((p + 1 : Nat) : Int), wsD]) rfl hp)).trans rfl)).trans ?_
  exact (sSeq_nx ((sIf_f rfl).trans rfl)).trans rfl
theorem h_tn (h : L.drop p = w :: R) (hw : Hd w true) (hp : fp [sgD, .list (tkD L), .int ((p + 1 : Nat) : Int), wsD] = .ok .none) :
    rArg fp (rE L (p + 1) (.vl (.str (mkS w))) s5 .no .no .no) = .rt .none := by
  unfold rArg
  refine (sIf_t (hw.pl _ _ _ _)).trans ?_
  refine (sSeq_nx ((sSet_ok (d := .none) (eCall_to (ds := [sgD, .list (tkD L), .int ((p + 1 : Nat) : Int), wsD]) rfl hp)).trans rfl)).trans ?_
  exact sSeq_rt ((sIf_t rfl).trans rfl)
/-- as far as the loop -/
theorem head_c (h : L.drop p = w :: R) (hw : Hd w false) : sv_read_term fp f (rE L p .no .no .no .no .no) = sSeq (sWhile rC (rB fp) 1000) rEnd (rE L (p + 1) (.vl (.str (mkS w))) (.vl (.list [])) .no (.vl (.tuple [.str (mkS w)])) .no) := by
  rw [sv_rt]
  refine (sSeq_nx (h_if h hw)).trans ((sSeq_nx (h_par h)).trans ?_)
  refine (sSeq_nx (show rNew _ = SR.nx (rE L (p + 1) (.vl (.str (mkS w))) (.vl (.list [])) .no .no .no) from rfl)).trans ?_
  refine (sSeq_nx (h_f (s8 := .no) h hw)).trans ?_
  exact sSeq_nx rfl
theorem head_a {ds : List D} (ht : pyAdd (.tuple [.str (mkS w)]) (.tuple ds) = .ok (.tuple (.str (mkS w) :: ds))) (h : L.drop p = w :: R) (hw : Hd w true) (hp : fp [sgD, .list (tkD L), .int ((p + 1 : Nat) : Int), wsD] = .ok (.tuple [.list ds, .int (q : Nat)])) :
    sv_read_term fp f (rE L p .no .no .no .no .no) = sSeq (sWhile rC (rB fp) 1000) rEnd (rE L q (.vl (.str (mkS w))) (.vl (.list ds)) (.vl (.tuple [.list ds, .int (q : Nat)])) (.vl (.tuple (.str (mkS w) :: ds))) .no) := by
  rw [sv_rt]
  refine (sSeq_nx (h_if h hw)).trans ((sSeq_nx (h_par h)).trans ?_)
  refine (sSeq_nx (show rNew _ = SR.nx (rE L (p + 1) (.vl (.str (mkS w))) (.vl (.list [])) .no .no .no) from rfl)).trans ?_
  refine (sSeq_nx (h_t (s8 := .no) h hw hp)).trans ?_
  refine sSeq_nx ?_
  unfold rTm
  exact (sSet_ok (eBin_to rfl rfl ht)).trans rfl
theorem head_n (h : L.drop p = w :: R) (hw : Hd w true) (hp : fp [sgD, .list (tkD L), .int ((p + 1 : Nat) : Int), wsD] = .ok .none) : sv_read_term fp f (rE L p .no .no .no .no .no) = .rt .none := by
  rw [sv_rt]
  refine (sSeq_nx (h_if h hw)).trans ((sSeq_nx (h_par h)).trans ?_)
  refine (sSeq_nx (show rNew _ = SR.nx (rE L (p + 1) (.vl (.str (mkS w))) (.vl (.list [])) .no .no .no) from rfl)).trans ?_
  exact sSeq_rt (h_tn h hw hp)
/-- no term begins here -/
theorem head_end (h : L.drop p = []) : sv_read_term fp f (rE L p .no .no .no .no .no) = .rt .none := by
  rw [sv_rt]
  have hl : L.length ≤ p := List.drop_eq_nil_iff.mp h
  unfold rIf
  exact sSeq_rt ((sIf_t (or_t (eBin_to (eO_vl rfl) (eUn_to (eO_vl rfl) lenT) (ge_t hl)))).trans rfl)
theorem head_bad (h : L.drop p = w :: R) (hb : f_is_name [.str (mkS w)] = .ok (.bool false) ∨ (f_is_name [.str (mkS w)] = .ok (.bool true) ∧ pyNotIn (.str (mkS w)) namesD = .ok true)) : sv_read_term fp f (rE L p .no .no .no .no .no) = .rt .none := by
  rw [sv_rt]
  unfold rIf
  refine sSeq_rt ((sIf_t (or_ff (eBin_to (eO_vl rfl) (eUn_to (eO_vl rfl) lenT) (ge_f (dr_lt h))) ?_)).trans rfl)
  rcases hb with hb | ⟨hb, hc⟩
  · exact or_t (tNot_to (c := false) (eB_to (eCall_to (aCons_to (eBin_to (eO_vl rfl) (eO_vl rfl) (ixT h)) rfl) hb)))
  · exact or_ff (tNot_to (c := true) (eB_to (eCall_to (aCons_to (eBin_to (eO_vl rfl) (eO_vl rfl) (ixT h)) rfl) hb))) (eBin_to (eBin_to (eO_vl rfl) (eO_vl rfl) (ixT h)) (eCall_to rfl names_ok) hc)
end
end Law_k03
namespace Law_k03
open FP PySem PySem.Spec PyProof.Rows L2
theorem sort_of_ok : ∀ t : Tm, f_sort_of [sgD, t.d] = .ok (.str (srt t.sort))
  | .x => by kernel_rfl
  | .j => by kernel_rfl
  | .o => by kernel_rfl
  | .put a i v => by
    show f_sort_of [sgD, .tuple [.str "m.put", a.d, i.d, v.d]] = _
    generalize a.d = a; generalize i.d = i; generalize v.d = v
    kernel_rfl
  | .get a i => by
    show f_sort_of [sgD, .tuple [.str "m.get", a.d, i.d]] = _
    generalize a.d = a; generalize i.d = i
    kernel_rfl
  | .k v => by
    show f_sort_of [sgD, .tuple [.str "k", v.d]] = _
    generalize v.d = v
    kernel_rfl
  | .h i a => by
    show f_sort_of [sgD, .tuple [.str "h", i.d, a.d]] = _
    generalize a.d = a; generalize i.d = i
    kernel_rfl
theorem kind_m : pyNe (.str "array") (.str "array") = .ok false := by kernel_rfl
theorem kind_2 : f_kind_of [sgD, .str (srt 2)] = .ok (.str "array") := by kernel_rfl
theorem kind_1 : f_kind_of [sgD, .str (srt 1)] = .ok (.str "plain") := by kernel_rfl
theorem kind_0 : f_kind_of [sgD, .str (srt 0)] = .ok (.str "plain") := by kernel_rfl
section
variable {L : List (List Nat)} {fp f : Fs} {p q : Nat} {d : D} {R X : List (List Nat)} {w : List Nat} {s4 s5 s6 s7 s8 : Sl} {t : Tm} {ds : List D}
theorem c_t (h : L.drop p = cs "." :: w :: R) : rC (rE L p s4 s5 s6 s7 s8) = .ok true := by
  unfold rC
  have h2 := dr_cons h
  refine and_tt (eBin_to (x := .int ((p + 1 : Nat) : Int)) rfl (eUn_to (eO_vl rfl) lenT) (lt_t (dr_lt h2))) (eBin_to (eBin_to (eO_vl rfl) (eO_vl rfl) (ixT h)) rfl (by kernel_rfl))
/-- no dot stands here, or nothing behind it -/
def Stop (R : List (List Nat)) : Prop := R = [] ∨ ∃ w X, R = w :: X ∧ pyEq (.str (mkS w)) (.str ".") = .ok false
theorem c_f (h : L.drop p = R) (hs : Stop R) : rC (rE L p s4 s5 s6 s7 s8) = .ok false := by
  unfold rC
  by_cases hl : p + 1 < L.length
  · rcases hs with rfl | ⟨w, X, rfl, e⟩
    · have := List.drop_eq_nil_iff.mp h
      omega
    · exact and_tt (eBin_to (x := .int ((p + 1 : Nat) : Int)) rfl (eUn_to (eO_vl rfl) lenT) (lt_t hl)) (eBin_to (eBin_to (eO_vl rfl) (eO_vl rfl) (ixT h)) rfl e)
  · exact and_f (eBin_to (x := .int ((p + 1 : Nat) : Int)) rfl (eUn_to (eO_vl rfl) lenT) (lt_f (by omega)))
/-- get or put -/
structure Op (w : List Nat) (n : Str) : Prop where
  of : pyNotIn (.str (mkS w)) wsD = .ok false
  ad : pyAdd (.str ("m." : Str)) (.str (mkS w)) = .ok (.str n)
theorem op_put : Op (cs "put") "m.put" := ⟨by kernel_rfl, by kernel_rfl⟩
theorem op_get : Op (cs "get") "m.get" := ⟨by kernel_rfl, by kernel_rfl⟩
theorem b_t {n : Str} (h : L.drop p = cs "." :: w :: R) (ho : Op w n) (hs : t.sort = 2) (hp : fp [sgD, .list (tkD L), .int ((p + 2 : Nat) : Int), wsD] = .ok (.tuple [.list ds, .int (q : Nat)]))
    (ht : pyAdd (.tuple [.str n, t.d]) (.tuple ds) = .ok (.tuple (.str n :: t.d :: ds))) :
    rB fp (rE L p s4 s5 s6 (.vl t.d) s8) = .nx (rE L q s4 s5 (.vl (.tuple [.list ds, .int (q : Nat)])) (.vl (.tuple (.str n :: t.d :: ds))) (.vl (.str "m"))) := by
  have h2 := dr_cons h
  have so := sort_of_ok t
  rw [hs] at so
  unfold rB
  refine (sSeq_nx ((sSet_ok (d := .str (srt 2)) (eCall_to (ds := [sgD, t.d]) rfl so)).trans rfl)).trans ?_
  refine (sSeq_nx ((sIf_f (or_ff (eBin_to (eCall_to (ds := [sgD, .str (srt 2)]) rfl kind_2) rfl kind_m) (eBin_to (eBin_to (x := .list (tkD L)) (y := .int ((p + 1 : Nat) : Int)) (eO_vl rfl) rfl (ixT h2)) rfl ho.of))).trans rfl)).trans ?_
  refine (sSeq_nx ((sSet_ok (d := .tuple [.list ds, .int (q : Nat)]) (eCall_to (ds := [sgD, .list (tkD L), .int ((p + 2 : Nat) : Int), wsD]) rfl hp)).trans rfl)).trans ?_
  refine (sSeq_nx ((sIf_f rfl).trans rfl)).trans ?_
  unfold sPar mCons
  rw [eBin_to (z := .tuple (.str n :: t.d :: ds)) (x := .tuple [.str n, t.d]) (y := .tuple ds) ?_ rfl ht]
  · rfl
  · unfold eTup
    rw [aCons_to (d := .str n) (ds := [t.d]) (eBin_to (x := .str "m.") (y := .str (mkS w)) (by kernel_rfl) (eBin_to (x := .list (tkD L)) (y := .int ((p + 1 : Nat) : Int)) (eO_vl rfl) rfl (ixT h2)) ho.ad) rfl]
    rfl
/-- a dot behind what is no array -/
theorem b_no (h : L.drop p = cs "." :: w :: R) (hs : t.sort = 0 ∨ t.sort = 1) : rB fp (rE L p s4 s5 s6 (.vl t.d) s8) = .rt .none := by
  have so := sort_of_ok t
  unfold rB
  refine (sSeq_nx ((sSet_ok (d := .str (srt t.sort)) (eCall_to (ds := [sgD, t.d]) rfl so)).trans rfl)).trans ?_
  refine sSeq_rt ((sIf_t (or_t (eBin_to (x := .str "plain") (eCall_to (ds := [sgD, .str (srt t.sort)]) rfl ?_) rfl (by kernel_rfl)))).trans rfl)
  rcases hs with e | e <;> rw [e]
  · exact kind_0
  · exact kind_1
theorem sSeq_w {g : FP.Env → FP.R Bool} {sb s2 : FP.Env → SR} {n : Nat} {env env' : FP.Env} (h : g env = .ok true) (hb : sb env = .nx env') : sSeq (sWhile g sb (n + 1)) s2 env = sSeq (sWhile g sb n) s2 env' := by
  unfold sSeq
  rw [sWhile_t h hb]
theorem r_end : rEnd (rE L p s4 s5 s6 (.vl d) s8) = .rt (.tuple [d, .int (p : Nat)]) := rfl
/-- where a term is read, up to its end -/
def Arr (n : Nat) (t : Tm) (L : List (List Nat)) (p : Nat) : Prop := ∃ (m : Nat) (s4 s5 s6 s8 : Sl), m ≤ t.deep ∧
  sv_read_term (fr__read_parts n) (fr_read_term n) (rE L p .no .no .no .no .no) = sSeq (sWhile rC (rB (fr__read_parts n)) (1000 - m)) rEnd (rE L (p + t.tk.length) s4 s5 s6 (.vl t.d) s8)
theorem rd_eq (n : Nat) : fr_read_term (n + 1) [sgD, .list (tkD L), .int (p : Nat), wsD] = (sv_read_term (fr__read_parts n) (fr_read_term n) (rE L p .no .no .no .no .no)).r := rfl
theorem rp_eq (n : Nat) : fr__read_parts (n + 1) [sgD, .list (tkD L), .int (p : Nat), wsD] = (sv__read_parts (fr__read_parts n) (fr_read_term n) (env0 6 [sgD, .list (tkD L), .int (p : Nat), wsD])).r := rfl
theorem arr_read {n : Nat} (hd : t.deep ≤ 900) (a : Arr n t L p) (h : L.drop p = t.tk ++ R) (hs : Stop R) : fr_read_term (n + 1) [sgD, .list (tkD L), .int (p : Nat), wsD] = .ok (.tuple [t.d, .int ((p + t.tk.length : Nat) : Int)]) := by
  obtain ⟨m, s4, s5, s6, s8, hm, e⟩ := a
  rw [rd_eq, e, show 1000 - m = (999 - m) + 1 by omega, sSeq_nx (sWhile_f (c_f (dr_app h) hs)), r_end]
  rfl
theorem stop_co : Stop (cs "," :: X) := .inr ⟨_, _, rfl, by kernel_rfl⟩
theorem stop_cl : Stop (cs ")" :: X) := .inr ⟨_, _, rfl, by kernel_rfl⟩
theorem mk_x : (.str "x" : D) = .str (mkS (cs "x")) := by kernel_rfl
theorem mk_j : (.str "j" : D) = .str (mkS (cs "j")) := by kernel_rfl
theorem mk_o : (.str "o" : D) = .str (mkS (cs "o")) := by kernel_rfl
theorem mk_k : (.str "k" : D) = .str (mkS (cs "k")) := by kernel_rfl
theorem mk_h : (.str "h" : D) = .str (mkS (cs "h")) := by kernel_rfl
end
/-- every term is read, up to its end -/
theorem arr : ∀ (t : Tm) (n : Nat) (L : List (List Nat)) (p : Nat) (R : List (List Nat)), t.ok → t.deep ≤ 400 → 2 * t.deep ≤ n + 1 → L.drop p = t.tk ++ R → Arr n t L p
  | .x, n, L, p, R, _, _, _, h => ⟨0, _, _, _, _, Nat.zero_le _, by
    show _ = sSeq _ _ (rE L (p + 1) _ _ _ (.vl (.tuple [.str "x"])) _)
    rw [mk_x]; exact head_c h hd_x⟩
  | .j, n, L, p, R, _, _, _, h => ⟨0, _, _, _, _, Nat.zero_le _, by
    show _ = sSeq _ _ (rE L (p + 1) _ _ _ (.vl (.tuple [.str "j"])) _)
    rw [mk_j]; exact head_c h hd_j⟩
  | .o, n, L, p, R, _, _, _, h => ⟨0, _, _, _, _, Nat.zero_le _, by
    show _ = sSeq _ _ (rE L (p + 1) _ _ _ (.vl (.tuple [.str "o"])) _)
    rw [mk_o]; exact head_c h hd_o⟩
  | .k v, n, L, p, R, ⟨ov, sv⟩, hd, hn, h => by
    simp only [Tm.deep] at hd hn
    obtain ⟨m, rfl⟩ : ∃ m, n = m + 2 := ⟨n - 2, by have : 1 ≤ v.deep := by (cases v <;> simp [Tm.deep])
                                                   omega⟩
    have h' : L.drop p = cs "k" :: cs "(" :: (v.tk ++ (cs ")" :: R)) := by rw [h]; simp [Tm.tk]
    have h1 := dr_cons h'
    have h2 := dr_cons h1
    have rv := arr_read (by omega) (arr v m L (p + 1 + 1) _ ov (by omega) (by omega) h2) h2 stop_cl
    have hp := parts1 (fp := fr__read_parts (m + 1)) h1 rv (dr_app h2)
    rw [← rp_eq] at hp
    have e := head_a (f := fr_read_term (m + 2)) (by rfl) h' hd_k hp
    have el : p + 1 + 1 + v.tk.length + 1 = p + (Tm.k v).tk.length := by simp only [Tm.tk, List.length_cons, List.length_append, List.length_nil]; omega
    rw [el, ← mk_k] at e
    exact ⟨0, _, _, _, _, Nat.zero_le _, e⟩
  | .h i a, n, L, p, R, ⟨oi, oa, si, sa⟩, hd, hn, h => by
    simp only [Tm.deep] at hd hn
    obtain ⟨m, rfl⟩ : ∃ m, n = m + 2 := ⟨n - 2, by have : 1 ≤ i.deep := by (cases i <;> simp [Tm.deep])
                                                   omega⟩
    have h' : L.drop p = cs "h" :: cs "(" :: (i.tk ++ (cs "," :: (a.tk ++ (cs ")" :: R)))) := by rw [h]; simp [Tm.tk]
    have h1 := dr_cons h'
    have h2 := dr_cons h1
    have ri := arr_read (by omega) (arr i m L (p + 1 + 1) _ oi (by omega) (by omega) h2) h2 stop_co
    have h3 := dr_app h2
    have h4 := dr_cons h3
    have ra := arr_read (by omega) (arr a m L _ _ oa (by omega) (by omega) h4) h4 stop_cl
    have hp := parts2 (fp := fr__read_parts (m + 1)) h1 ri h3 ra (dr_app h4)
    rw [← rp_eq] at hp
    have e := head_a (f := fr_read_term (m + 2)) (by rfl) h' hd_h hp
    have el : p + 1 + 1 + i.tk.length + 1 + a.tk.length + 1 = p + (Tm.h i a).tk.length := by simp only [Tm.tk, List.length_cons, List.length_append, List.length_nil]; omega
    rw [el, ← mk_h] at e
    exact ⟨0, _, _, _, _, Nat.zero_le _, e⟩
  | .get a i, n, L, p, R, ⟨oa, oi, sa, si⟩, hd, hn, h => by
    simp only [Tm.deep] at hd hn
    obtain ⟨m, rfl⟩ : ∃ m, n = m + 2 := ⟨n - 2, by have : 1 ≤ i.deep := by (cases i <;> simp [Tm.deep])
                                                   omega⟩
    have h' : L.drop p = a.tk ++ (cs "." :: cs "get" :: cs "(" :: (i.tk ++ (cs ")" :: R))) := by rw [h]; simp [Tm.tk]
    obtain ⟨k, s4, s5, s6, s8, hk, e⟩ := arr a (m + 2) L p _ oa (by omega) (by omega) h'
    have h1 := dr_app h'
    have h2 := dr_cons (dr_cons h1)
    have h3 := dr_cons h2
    have ri := arr_read (by omega) (arr i m L _ _ oi (by omega) (by omega) h3) h3 stop_cl
    have hp := parts1 (fp := fr__read_parts (m + 1)) h2 ri (dr_app h3)
    rw [← rp_eq] at hp
    rw [show 1000 - k = (1000 - (k + 1)) + 1 by omega] at e
    have hb := b_t (fp := fr__read_parts (m + 2)) (s4 := s4) (s5 := s5) (s6 := s6) (s8 := s8) h1 op_get sa hp (by rfl)
    have e := e.trans (sSeq_w (c_t h1) hb)
    have el : p + a.tk.length + 1 + 1 + 1 + i.tk.length + 1 = p + (Tm.get a i).tk.length := by simp only [Tm.tk, List.length_cons, List.length_append, List.length_nil]; omega
    rw [el] at e
    exact ⟨k + 1, s4, s5, _, _, by simp only [Tm.deep]; omega, e⟩
  | .put a i v, n, L, p, R, ⟨oa, oi, ov, sa, si, sv⟩, hd, hn, h => by
    simp only [Tm.deep] at hd hn
    obtain ⟨m, rfl⟩ : ∃ m, n = m + 2 := ⟨n - 2, by have : 1 ≤ i.deep := by (cases i <;> simp [Tm.deep])
                                                   omega⟩
    have h' : L.drop p = a.tk ++ (cs "." :: cs "put" :: cs "(" :: (i.tk ++ (cs "," :: (v.tk ++ (cs ")" :: R))))) := by rw [h]; simp [Tm.tk]
    obtain ⟨k, s4, s5, s6, s8, hk, e⟩ := arr a (m + 2) L p _ oa (by omega) (by omega) h'
    have h1 := dr_app h'
    have h2 := dr_cons (dr_cons h1)
    have h3 := dr_cons h2
    have ri := arr_read (by omega) (arr i m L _ _ oi (by omega) (by omega) h3) h3 stop_co
    have h4 := dr_app h3
    have h5 := dr_cons h4
    have rv := arr_read (by omega) (arr v m L _ _ ov (by omega) (by omega) h5) h5 stop_cl
    have hp := parts2 (fp := fr__read_parts (m + 1)) h2 ri h4 rv (dr_app h5)
    rw [← rp_eq] at hp
    rw [show 1000 - k = (1000 - (k + 1)) + 1 by omega] at e
    have hb := b_t (fp := fr__read_parts (m + 2)) (s4 := s4) (s5 := s5) (s6 := s6) (s8 := s8) h1 op_put sa hp (by rfl)
    have e := e.trans (sSeq_w (c_t h1) hb)
    have el : p + a.tk.length + 1 + 1 + 1 + i.tk.length + 1 + v.tk.length + 1 = p + (Tm.put a i v).tk.length := by simp only [Tm.tk, List.length_cons, List.length_append, List.length_nil]; omega
    rw [el] at e
    exact ⟨k + 1, s4, s5, _, _, by simp only [Tm.deep]; omega, e⟩
end Law_k03
namespace Law_k03
open FP PySem PySem.Spec PyProof.Rows L2
/-! ### texts of terms -/
abbrev rep (n : Nat) : List Nat := List.replicate n 32
def Tm.tx (S : Sp) : Tm → List Nat
  | .x => [120]
  | .j => [106]
  | .o => [111]
  | .put a i v => a.tx S ++ (rep S.dot ++ 46 :: 112 :: 117 :: 116 :: (rep S.po ++ 40 :: (rep S.pi ++ (i.tx S ++ (rep S.co ++ 44 :: (rep S.ci ++ (v.tx S ++ [41])))))))
  | .get a i => a.tx S ++ (rep S.dot ++ 46 :: 103 :: 101 :: 116 :: (rep S.po ++ 40 :: (rep S.pi ++ (i.tx S ++ [41]))))
  | .k v => 107 :: (rep S.po ++ 40 :: (rep S.pi ++ (v.tx S ++ [41])))
  | .h i a => 104 :: (rep S.po ++ 40 :: (rep S.pi ++ (i.tx S ++ (rep S.co ++ 44 :: (rep S.ci ++ (a.tx S ++ [41]))))))
theorem c_dot : cs "." = [46] := by decide +kernel
theorem c_po : cs "(" = [40] := by decide +kernel
theorem c_pc : cs ")" = [41] := by decide +kernel
theorem c_co : cs "," = [44] := by decide +kernel
theorem c_x : cs "x" = [120] := by decide +kernel
theorem c_j : cs "j" = [106] := by decide +kernel
theorem c_o : cs "o" = [111] := by decide +kernel
theorem c_k : cs "k" = [107] := by decide +kernel
theorem c_h : cs "h" = [104] := by decide +kernel
theorem c_put : cs "put" = [112, 117, 116] := by decide +kernel
theorem c_get : cs "get" = [103, 101, 116] := by decide +kernel
theorem flat_c (n : Nat) (w : List Nat) (l : List Pc) : flat ((n, w) :: l) = rep n ++ (w ++ flat l) := by show _ ++ _ ++ _ = _; rw [List.append_assoc]
theorem flat_n : flat [] = [] := rfl
theorem flat_pcs (S : Sp) : ∀ (t : Tm) (n : Nat), flat (t.pcs S n) = rep n ++ t.tx S
  | .x, n => by simp [Tm.pcs, Tm.tx, flat_c, flat_n, c_x]
  | .j, n => by simp [Tm.pcs, Tm.tx, flat_c, flat_n, c_j]
  | .o, n => by simp [Tm.pcs, Tm.tx, flat_c, flat_n, c_o]
  | .put a i v, n => by simp [Tm.pcs, Tm.tx, flat_app, flat_c, flat_n, flat_pcs S a, flat_pcs S i, flat_pcs S v, c_dot, c_po, c_pc, c_co, c_put]
  | .get a i, n => by simp [Tm.pcs, Tm.tx, flat_app, flat_c, flat_n, flat_pcs S a, flat_pcs S i, c_dot, c_po, c_pc, c_get]
  | .k v, n => by simp [Tm.pcs, Tm.tx, flat_app, flat_c, flat_n, flat_pcs S v, c_po, c_pc, c_k]
  | .h i a, n => by simp [Tm.pcs, Tm.tx, flat_app, flat_c, flat_n, flat_pcs S a, flat_pcs S i, c_po, c_pc, c_co, c_h]
theorem edge_nil : Edge [] := fun c h => by cases h
theorem edge_mark {n : Nat} {w : List Nat} (hw : w ∈ marksL) (l r : List Nat) : Edge (rep n ++ (w ++ l) ++ r) := by
  intro c h
  cases n with
  | zero =>
    obtain ⟨c', m', e, _, hs⟩ := mk_head w hw
    subst e
    have h : (c' :: (m' ++ l ++ r))[0]? = some c := by simpa using h
    cases h
    exact hs
  | succ n =>
    rw [show rep (n + 1) = 32 :: rep n from List.replicate_succ, List.cons_append, List.cons_append, List.getElem?_cons_zero] at h
    cases h
    exact space_no
theorem edge_m {n : Nat} {w : List Nat} (hw : w ∈ marksL) (l : List Pc) (r : List Nat) : Edge (flat ((n, w) :: l) ++ r) := by rw [flat_c]; exact edge_mark hw _ _
theorem edge_s {n : Nat} {w : List Nat} (l : List Pc) (r : List Nat) : Edge (flat ((n + 1, w) :: l) ++ r) := by
  intro c h
  rw [flat_c, show rep (n + 1) = 32 :: rep n from List.replicate_succ, List.cons_append, List.cons_append, List.getElem?_cons_zero] at h
  cases h
  exact space_no
theorem apart_tm (S : Sp) : ∀ (t : Tm) (n : Nat) (r : List Nat), Edge r → Apart (t.pcs S n) r
  | .x, n, r, h => apart_word w_x (by simpa [flat_n] using h) trivial
  | .j, n, r, h => apart_word w_j (by simpa [flat_n] using h) trivial
  | .o, n, r, h => apart_word w_o (by simpa [flat_n] using h) trivial
  | .put a i v, n, r, h => apart_app (apart_tm S a n _ (edge_m m_dot.1 _ _)) (apart_mark m_dot (apart_word w_put (edge_m m_po.1 _ _) (apart_mark m_po (apart_app (apart_tm S i _ _ (edge_m m_co.1 _ _)) (apart_mark m_co (apart_app (apart_tm S v _ _ (edge_m m_pc.1 _ _)) (apart_mark m_pc trivial)))))))
  | .get a i, n, r, h => apart_app (apart_tm S a n _ (edge_m m_dot.1 _ _)) (apart_mark m_dot (apart_word w_get (edge_m m_po.1 _ _) (apart_mark m_po (apart_app (apart_tm S i _ _ (edge_m m_pc.1 _ _)) (apart_mark m_pc trivial)))))
  | .k v, n, r, h => apart_word w_k (edge_m m_po.1 _ _) (apart_mark m_po (apart_app (apart_tm S v _ _ (edge_m m_pc.1 _ _)) (apart_mark m_pc trivial)))
  | .h i a, n, r, h => apart_word w_h (edge_m m_po.1 _ _) (apart_mark m_po (apart_app (apart_tm S i _ _ (edge_m m_co.1 _ _)) (apart_mark m_co (apart_app (apart_tm S a _ _ (edge_m m_pc.1 _ _)) (apart_mark m_pc trivial)))))
theorem cost_le : ∀ (l : List Pc) (r : List Nat), Apart l r → cost l ≤ (flat l).length ∧ l.length ≤ cost l
  | [], _, _ => ⟨Nat.le_refl _, Nat.le_refl _⟩
  | (n, w) :: l, r, ⟨hw, _, h⟩ => by
    obtain ⟨i1, i2⟩ := cost_le l r h
    have hne : w ≠ [] := by
      rcases hw with hw | hw
      · exact (words_sig w hw).1
      · obtain ⟨c, m', g1, _⟩ := mk_head w hw
        rw [g1]; simp
    have := List.length_pos_iff.mpr hne
    rw [flat_c]
    show n + 1 + cost l ≤ _ ∧ l.length + 1 ≤ n + 1 + cost l
    simp only [List.length_append, List.length_replicate]
    omega
theorem tok_of (l : List Pc) (ha : Apart l []) (hL : (flat l).length ≤ 900) : f_tokens_of [.str (mkS (flat l))] = .ok (.list (tkD (l.map (·.2)))) := by
  obtain ⟨c1, c2⟩ := cost_le l [] ha
  rw [tokens_ok l ha hL (by omega) (by omega)]
  unfold tkD
  rw [List.map_map]
  rfl
theorem tok_tm (S : Sp) (t : Tm) (hL : (t.tx S).length ≤ 900) : f_tokens_of [.str (mkS (t.tx S))] = .ok (.list (tkD t.tk)) := by
  have e := flat_pcs S t 0
  rw [show rep 0 = [] from rfl, List.nil_append] at e
  have h := tok_of (t.pcs S 0) (apart_tm S t 0 [] edge_nil) (by rw [e]; exact hL)
  rw [e, pcs_tk] at h
  exact h
/-! ### the three patterns -/
def S0 : Sp := ⟨0, 0, 0, 0, 0⟩
def S1 : Sp := ⟨0, 0, 0, 0, 1⟩
def S2 : Sp := ⟨0, 0, 0, 1, 2⟩
def S3 : Sp := ⟨0, 1, 1, 1, 2⟩
def S4 : Sp := ⟨1, 1, 1, 1, 2⟩
def sub (c : Nat) (z : List Nat) (x : Nat) : List Nat := if x = c then z else [x]
theorem rep_sub {c : Nat} (hc : c ≠ 32) (z : List Nat) (n : Nat) : (rep n).flatMap (sub c z) = rep n := by
  induction n with
  | zero => rfl
  | succ n ih =>
    rw [show rep (n + 1) = 32 :: rep n from List.replicate_succ, List.flatMap_cons, ih]
    unfold sub
    rw [if_neg (fun h => hc h.symm)]
    rfl
theorem sub_co (t : Tm) : (t.tx S1).flatMap (sub 44 [32, 44, 32]) = t.tx S2 := by
  induction t <;> simp_all [Tm.tx, S1, S2, List.flatMap_append, List.flatMap_cons, sub] <;> rfl
theorem sub_po (t : Tm) : (t.tx S2).flatMap (sub 40 [32, 40, 32]) = t.tx S3 := by
  induction t <;> simp_all [Tm.tx, S2, S3, List.flatMap_append, List.flatMap_cons, sub] <;> rfl
theorem sub_dot (t : Tm) : (t.tx S3).flatMap (sub 46 [32, 46]) = t.tx S4 := by
  induction t <;> simp_all [Tm.tx, S3, S4, List.flatMap_append, List.flatMap_cons, sub] <;> rfl
theorem sub_sp (t : Tm) : (t.tx S1).flatMap (sub 32 []) = t.tx S0 := by
  induction t <;> simp_all [Tm.tx, S1, S0, List.flatMap_append, List.flatMap_cons, sub]
theorem len3 (S : Sp) (h1 : S.dot ≤ 2) (h2 : S.po ≤ 2) (h3 : S.pi ≤ 2) (h4 : S.co ≤ 2) (h5 : S.ci ≤ 2) (t : Tm) : (t.tx S).length ≤ 3 * (t.tx S1).length := by
  induction t <;> simp_all [Tm.tx, S1] <;> omega
/-! ### replace -/
theorem replL_one (c : Nat) (z : List Nat) : ∀ L : List Nat, PySem.StrLaws.replL [c] z L = L.flatMap (sub c z)
  | [] => PySem.StrLaws.replL_nil
  | x :: L => by
    rw [List.flatMap_cons]
    unfold sub
    by_cases h : x = c
    · rw [if_pos h, PySem.StrLaws.replL_hit (by simp) (by simp [h])]
      show z ++ PySem.StrLaws.replL [c] z L = _
      rw [replL_one c z L]
      rfl
    · rw [if_neg h, PySem.StrLaws.replL_miss (by simpa using h), replL_one c z L]
      rfl
theorem rep_to {y z : Str} {c : Nat} {L : List Nat} (hy : tl y = [c]) (hz : z.length ≤ 3) (hL : L.length ≤ 1000) : repF y z (.str (mkS L)) = .ok (.str (mkS (L.flatMap (sub c (tl z))))) := by
  unfold repF
  have hy1 : y.length = 1 := by rw [← len_tl, hy]; rfl
  have e : (Nat.ble ((mkS L).length + ((mkS L).length + 1) * z.length) 16777216 && Nat.ble 1 y.length) = true := by
    rw [len_mkS, hy1]
    refine Bool.and_eq_true_iff.mpr ⟨Nat.ble_eq_true_of_le ?_, rfl⟩
    have : (L.length + 1) * z.length ≤ 1001 * 3 := Nat.mul_le_mul (by omega) hz
    omega
  dsimp only
  rw [e, hy, tl_mkS, replL_one]
  rfl
end Law_k03
namespace Law_k03
open FP PySem PySem.Spec PyProof.Rows L2
/-! ### term_text -/
theorem lit {env : FP.Env} {z : Str} {l : List Nat} (h : z = mkS l) : eC (.str z) env = .ok (.str (mkS l)) := by rw [h]; rfl
theorem z_dot : (".": Str) = mkS [46] := by decide +kernel
theorem z_po : ("(": Str) = mkS [40] := by decide +kernel
theorem z_pc : (")": Str) = mkS [41] := by decide +kernel
theorem tl_cs : tl ((", ": Str)) = [44, 32] := by decide +kernel
theorem add3 {fa fb : FP.Env → R D} {env : FP.Env} {a b c : List Nat} (ha : fa env = .ok (.str (mkS a))) (hb : fb env = .ok (.str (mkS b))) (hl : a.length + b.length ≤ 1000000) (e : a ++ b = c) : eBin pyAdd fa fb env = .ok (.str (mkS c)) := by
  subst e
  exact eBin_to ha hb (addS hl)
theorem join1 (a : List Nat) (h : a.length ≤ 1000000) : joinF (", " : Str) (.list [.str (mkS a)]) = .ok (.str (mkS a)) := by
  show joinS (", " : Str) [mkS a] = _
  unfold joinS
  rw [if_pos]
  · show R.ok (PyData.str (mkS (tl (mkS a)))) = _
    rw [tl_mkS]
  · show ([mkS a].map (·.length)).sum + 1 * _ ≤ _
    simp only [List.map_cons, List.map_nil, List.sum_cons, List.sum_nil, len_mkS]
    have : ((", " : Str)).length = 2 := by decide +kernel
    omega
theorem join2 (a b : List Nat) (h : a.length + b.length ≤ 1000000) : joinF (", " : Str) (.list [.str (mkS a), .str (mkS b)]) = .ok (.str (mkS (a ++ 44 :: 32 :: b))) := by
  show joinS (", " : Str) [mkS a, mkS b] = _
  unfold joinS
  rw [if_pos]
  · show R.ok (PyData.str (mkS (tl (mkS a) ++ tl (", " : Str) ++ tl (mkS b)))) = _
    rw [tl_mkS, tl_mkS, tl_cs]
    simp
  · show ([mkS a, mkS b].map (·.length)).sum + 2 * _ ≤ _
    simp only [List.map_cons, List.map_nil, List.sum_cons, List.sum_nil, len_mkS]
    have : ((", " : Str)).length = 2 := by decide +kernel
    omega
theorem eM1_to {α : Type} {g : Str → D → R α} {fa fb : FP.Env → R D} {env : FP.Env} {z : Str} {y : D} {r : α} (ha : fa env = .ok (.str z)) (hb : fb env = .ok y) (h : g z y = .ok r) : eM1 g fa fb env = .ok r := by
  unfold eM1
  rw [ha, bnd_k]
  dsimp only
  rw [hb, bnd_k, h]
section
variable {f : Fs} {nm : Str} {a i v : D} {ta ti tv : List Nat}
def ttIf : FP.Env → R Bool := (eBin pyIn (eC (.str ".")) (eBin pyIx (eO 0) (eC (.int 0))))
def ttWord : FP.Env → SR := (sSet 1 (eBin pyIx (eNew (eM1 splitF (eBin pyIx (eO 0) (eC (.int 0))) (eC (.str ".")))) (eC (.int 1))))
def ttDot (f_term_text : Fs) : FP.Env → R D := (eBin pyAdd (eBin pyAdd (eBin pyAdd (eBin pyAdd (eBin pyAdd (eCall (aCons (eBin pyIx (eO 0) (eC (.int 1))) aNil) f_term_text) (eC (.str "."))) (eO 1)) (eC (.str "("))) (eM1 joinF (eC (.str ", ")) (eNew (eComp (iItems (eSl (eO 0) (oSome (eC (.int 2))) oNone)) (gNm 2) tYesR (eCall (aCons (eV 2) aNil) f_term_text) [2])))) (eC (.str ")")))
def ttOne : FP.Env → SR := (sIf (eBin pyEq (eUn pyLen (eO 0)) (eC (.int 1))) (sRet (eBin pyIx (eO 0) (eC (.int 0)))) sNil)
def ttFn (f_term_text : Fs) : FP.Env → R D := (eBin pyAdd (eBin pyAdd (eBin pyAdd (eBin pyIx (eO 0) (eC (.int 0))) (eC (.str "("))) (eM1 joinF (eC (.str ", ")) (eNew (eComp (iItems (eSl (eO 0) (oSome (eC (.int 1))) oNone)) (gNm 2) tYesR (eCall (aCons (eV 2) aNil) f_term_text) [2])))) (eC (.str ")")))
theorem sv_tt (f : Fs) : sv_term_text f = sSeq (sIf ttIf (sSeq ttWord (sRet (ttDot f))) sNil) (sSeq ttOne (sRet (ttFn f))) := rfl
theorem tt_c (h1 : ttIf [.vl (.tuple [.str nm]), .no, .no] = .ok false) : (sv_term_text f (env0 3 [.tuple [.str nm]])).r = .ok (.str nm) := by
  rw [sv_tt]
  have e : sSeq (sIf ttIf (sSeq ttWord (sRet (ttDot f))) sNil) (sSeq ttOne (sRet (ttFn f))) [.vl (.tuple [.str nm]), .no, .no] = .rt (.str nm) := by
    refine (sSeq_nx ((sIf_f h1).trans rfl)).trans ?_
    exact sSeq_rt rfl
  exact congrArg SR.r e
theorem tt_put (hl : ta.length + ti.length + tv.length ≤ 900000) (ha : f [a] = .ok (.str (mkS ta))) (hi : f [i] = .ok (.str (mkS ti))) (hv : f [v] = .ok (.str (mkS tv))) :
    (sv_term_text f (env0 3 [.tuple [.str "m.put", a, i, v]])).r = .ok (.str (mkS (ta ++ 46 :: 112 :: 117 :: 116 :: 40 :: (ti ++ 44 :: 32 :: (tv ++ [41]))))) := by
  rw [sv_tt]
  have e1 : ttIf [.vl (.tuple [.str "m.put", a, i, v]), .no, .no] = .ok true := by kernel_rfl
  have e2 : ttWord [.vl (.tuple [.str "m.put", a, i, v]), .no, .no] = .nx [.vl (.tuple [.str "m.put", a, i, v]), .vl (.str (mkS [112, 117, 116])), .no] := by kernel_rfl
  have e3 : ttDot f [.vl (.tuple [.str "m.put", a, i, v]), .vl (.str (mkS [112, 117, 116])), .no] = .ok (.str (mkS (ta ++ 46 :: 112 :: 117 :: 116 :: 40 :: (ti ++ 44 :: 32 :: (tv ++ [41]))))) := by
    unfold ttDot
    refine add3 (a := ta ++ 46 :: 112 :: 117 :: 116 :: 40 :: (ti ++ 44 :: 32 :: tv)) (b := [41]) (add3 (a := ta ++ [46, 112, 117, 116, 40]) (b := ti ++ 44 :: 32 :: tv) (add3 (a := ta ++ [46, 112, 117, 116]) (b := [40]) (add3 (a := ta ++ [46]) (b := [112, 117, 116]) (add3 (a := ta) (b := [46]) (eCall_to (ds := [a]) rfl ha) (lit z_dot) ?_ rfl) rfl ?_ ?_) (lit z_po) ?_ ?_) (eM1_to rfl (eNew_to (o := .lst [.str (mkS ti), .str (mkS tv)]) (eComp_to (ds := [i, v]) rfl (Nat.le_of_ble_eq_true rfl) (compL_c rfl rfl (eCall_to rfl hi) (compL_c rfl rfl (eCall_to rfl hv) rfl)))) (join2 ti tv (by omega))) ?_ ?_) (lit z_pc) ?_ ?_
    all_goals first | (simp only [List.length_append, List.length_cons, List.length_nil]; omega) | simp
  have e : sSeq (sIf ttIf (sSeq ttWord (sRet (ttDot f))) sNil) (sSeq ttOne (sRet (ttFn f))) [.vl (.tuple [.str "m.put", a, i, v]), .no, .no] = .rt _ := sSeq_rt ((sIf_t e1).trans ((sSeq_nx e2).trans (sRet_ok e3)))
  exact congrArg SR.r e
theorem tt_get (hl : ta.length + ti.length ≤ 900000) (ha : f [a] = .ok (.str (mkS ta))) (hi : f [i] = .ok (.str (mkS ti))) :
    (sv_term_text f (env0 3 [.tuple [.str "m.get", a, i]])).r = .ok (.str (mkS (ta ++ 46 :: 103 :: 101 :: 116 :: 40 :: (ti ++ [41])))) := by
  rw [sv_tt]
  have e1 : ttIf [.vl (.tuple [.str "m.get", a, i]), .no, .no] = .ok true := by kernel_rfl
  have e2 : ttWord [.vl (.tuple [.str "m.get", a, i]), .no, .no] = .nx [.vl (.tuple [.str "m.get", a, i]), .vl (.str (mkS [103, 101, 116])), .no] := by kernel_rfl
  have e3 : ttDot f [.vl (.tuple [.str "m.get", a, i]), .vl (.str (mkS [103, 101, 116])), .no] = .ok (.str (mkS (ta ++ 46 :: 103 :: 101 :: 116 :: 40 :: (ti ++ [41])))) := by
    unfold ttDot
    refine add3 (a := ta ++ 46 :: 103 :: 101 :: 116 :: 40 :: ti) (b := [41]) (add3 (a := ta ++ [46, 103, 101, 116, 40]) (b := ti) (add3 (a := ta ++ [46, 103, 101, 116]) (b := [40]) (add3 (a := ta ++ [46]) (b := [103, 101, 116]) (add3 (a := ta) (b := [46]) (eCall_to (ds := [a]) rfl ha) (lit z_dot) ?_ rfl) rfl ?_ ?_) (lit z_po) ?_ ?_) (eM1_to rfl (eNew_to (o := .lst [.str (mkS ti)]) (eComp_to (ds := [i]) rfl (Nat.le_of_ble_eq_true rfl) (compL_c rfl rfl (eCall_to rfl hi) rfl))) (join1 ti (by omega))) ?_ ?_) (lit z_pc) ?_ ?_
    all_goals first | (simp only [List.length_append, List.length_cons, List.length_nil]; omega) | simp
  have e : sSeq (sIf ttIf (sSeq ttWord (sRet (ttDot f))) sNil) (sSeq ttOne (sRet (ttFn f))) [.vl (.tuple [.str "m.get", a, i]), .no, .no] = .rt _ := sSeq_rt ((sIf_t e1).trans ((sSeq_nx e2).trans (sRet_ok e3)))
  exact congrArg SR.r e
theorem tt_k (hl : tv.length ≤ 900000) (hv : f [v] = .ok (.str (mkS tv))) : (sv_term_text f (env0 3 [.tuple [.str "k", v]])).r = .ok (.str (mkS (107 :: 40 :: (tv ++ [41])))) := by
  rw [sv_tt]
  have e1 : ttIf [.vl (.tuple [.str "k", v]), .no, .no] = .ok false := by kernel_rfl
  have e2 : ttOne [.vl (.tuple [.str "k", v]), .no, .no] = .nx [.vl (.tuple [.str "k", v]), .no, .no] := by kernel_rfl
  have e0 : (eBin pyIx (eO 0) (eC (.int 0))) [.vl (.tuple [.str "k", v]), .no, .no] = .ok (.str (mkS [107])) := by kernel_rfl
  have e3 : ttFn f [.vl (.tuple [.str "k", v]), .no, .no] = .ok (.str (mkS (107 :: 40 :: (tv ++ [41])))) := by
    unfold ttFn
    refine add3 (a := 107 :: 40 :: tv) (b := [41]) (add3 (a := [107, 40]) (b := tv) (add3 (a := [107]) (b := [40]) e0 (lit z_po) ?_ rfl) (eM1_to rfl (eNew_to (o := .lst [.str (mkS tv)]) (eComp_to (ds := [v]) rfl (Nat.le_of_ble_eq_true rfl) (compL_c rfl rfl (eCall_to rfl hv) rfl))) (join1 tv (by omega))) ?_ ?_) (lit z_pc) ?_ ?_
    all_goals first | (simp only [List.length_append, List.length_cons, List.length_nil]; omega) | simp
  have e : sSeq (sIf ttIf (sSeq ttWord (sRet (ttDot f))) sNil) (sSeq ttOne (sRet (ttFn f))) [.vl (.tuple [.str "k", v]), .no, .no] = .rt _ := (sSeq_nx ((sIf_f e1).trans rfl)).trans ((sSeq_nx e2).trans (sRet_ok e3))
  exact congrArg SR.r e
theorem tt_h (hl : ti.length + ta.length ≤ 900000) (hi : f [i] = .ok (.str (mkS ti))) (ha : f [a] = .ok (.str (mkS ta))) : (sv_term_text f (env0 3 [.tuple [.str "h", i, a]])).r = .ok (.str (mkS (104 :: 40 :: (ti ++ 44 :: 32 :: (ta ++ [41]))))) := by
  rw [sv_tt]
  have e1 : ttIf [.vl (.tuple [.str "h", i, a]), .no, .no] = .ok false := by kernel_rfl
  have e2 : ttOne [.vl (.tuple [.str "h", i, a]), .no, .no] = .nx [.vl (.tuple [.str "h", i, a]), .no, .no] := by kernel_rfl
  have e0 : (eBin pyIx (eO 0) (eC (.int 0))) [.vl (.tuple [.str "h", i, a]), .no, .no] = .ok (.str (mkS [104])) := by kernel_rfl
  have e3 : ttFn f [.vl (.tuple [.str "h", i, a]), .no, .no] = .ok (.str (mkS (104 :: 40 :: (ti ++ 44 :: 32 :: (ta ++ [41]))))) := by
    unfold ttFn
    refine add3 (a := 104 :: 40 :: (ti ++ 44 :: 32 :: ta)) (b := [41]) (add3 (a := [104, 40]) (b := ti ++ 44 :: 32 :: ta) (add3 (a := [104]) (b := [40]) e0 (lit z_po) ?_ rfl) (eM1_to rfl (eNew_to (o := .lst [.str (mkS ti), .str (mkS ta)]) (eComp_to (ds := [i, a]) rfl (Nat.le_of_ble_eq_true rfl) (compL_c rfl rfl (eCall_to rfl hi) (compL_c rfl rfl (eCall_to rfl ha) rfl)))) (join2 ti ta (by omega))) ?_ ?_) (lit z_pc) ?_ ?_
    all_goals first | (simp only [List.length_append, List.length_cons, List.length_nil]; omega) | simp
  have e : sSeq (sIf ttIf (sSeq ttWord (sRet (ttDot f))) sNil) (sSeq ttOne (sRet (ttFn f))) [.vl (.tuple [.str "h", i, a]), .no, .no] = .rt _ := (sSeq_nx ((sIf_f e1).trans rfl)).trans ((sSeq_nx e2).trans (sRet_ok e3))
  exact congrArg SR.r e
end
theorem text_ok : ∀ (t : Tm) (n : Nat), t.deep ≤ n → (t.tx S1).length ≤ 900000 → fr_term_text n [t.d] = .ok (.str (mkS (t.tx S1)))
  | t, 0, h, _ => by cases t <;> simp [Tm.deep] at h
  | .x, n + 1, _, _ => (tt_c (f := fr_term_text n) (nm := "x") (by kernel_rfl)).trans (by kernel_rfl)
  | .j, n + 1, _, _ => (tt_c (f := fr_term_text n) (nm := "j") (by kernel_rfl)).trans (by kernel_rfl)
  | .o, n + 1, _, _ => (tt_c (f := fr_term_text n) (nm := "o") (by kernel_rfl)).trans (by kernel_rfl)
  | .put a i v, n + 1, h, hl => by
    simp only [Tm.deep] at h
    have e : (Tm.put a i v).tx S1 = a.tx S1 ++ 46 :: 112 :: 117 :: 116 :: 40 :: (i.tx S1 ++ 44 :: 32 :: (v.tx S1 ++ [41])) := by simp [Tm.tx, S1]
    rw [e] at hl ⊢
    simp only [List.length_append, List.length_cons] at hl
    exact tt_put (f := fr_term_text n) (by omega) (text_ok a n (by omega) (by omega)) (text_ok i n (by omega) (by omega)) (text_ok v n (by omega) (by omega))
  | .get a i, n + 1, h, hl => by
    simp only [Tm.deep] at h
    have e : (Tm.get a i).tx S1 = a.tx S1 ++ 46 :: 103 :: 101 :: 116 :: 40 :: (i.tx S1 ++ [41]) := by simp [Tm.tx, S1]
    rw [e] at hl ⊢
    simp only [List.length_append, List.length_cons] at hl
    exact tt_get (f := fr_term_text n) (by omega) (text_ok a n (by omega) (by omega)) (text_ok i n (by omega) (by omega))
  | .k v, n + 1, h, hl => by
    simp only [Tm.deep] at h
    have e : (Tm.k v).tx S1 = 107 :: 40 :: (v.tx S1 ++ [41]) := by simp [Tm.tx, S1]
    rw [e] at hl ⊢
    simp only [List.length_append, List.length_cons] at hl
    exact tt_k (f := fr_term_text n) (by omega) (text_ok v n (by omega) (by omega))
  | .h i a, n + 1, h, hl => by
    simp only [Tm.deep] at h
    have e : (Tm.h i a).tx S1 = 104 :: 40 :: (i.tx S1 ++ 44 :: 32 :: (a.tx S1 ++ [41])) := by simp [Tm.tx, S1]
    rw [e] at hl ⊢
    simp only [List.length_append, List.length_cons] at hl
    exact tt_h (f := fr_term_text n) (by omega) (text_ok i n (by omega) (by omega)) (text_ok a n (by omega) (by omega))
end Law_k03
namespace Law_k03
open FP PySem PySem.Spec PyProof.Rows L2
/-! ### parse_term -/
section
variable {L : List (List Nat)} {d : D} {q : Nat}
def ptBad : FP.Env → R Bool := (tOrR (tIsN (eO 3)) (eBin pyNe (eBin pyIx (eO 3) (eC (.int 1))) (eUn pyLen (eO 1))))
def ptEnd : FP.Env → R D := (eIf (eB (eCall (aCons (eV 0) (aCons (eBin pyIx (eO 3) (eC (.int 0))) aNil)) f_is_term)) (eBin pyIx (eO 3) (eC (.int 0))) (eC .none))
theorem sv_pt : sv_parse_term = sSeq (sSet 3 (eCall (aCons (eV 0) (aCons (eV 1) (aCons (eC (.int 0)) (aCons (eV 2) aNil)))) f_read_term)) (sSeq (sIf ptBad (sRet (eC .none)) sNil) (sRet ptEnd)) := rfl
abbrev ptE (L : List (List Nat)) (s : Sl) : FP.Env := [.vl sgD, .vl (.list (tkD L)), .vl wsD, s]
theorem pt_none (h : f_read_term [sgD, .list (tkD L), .int (0 : Nat), wsD] = .ok .none) : f_parse_term [sgD, .list (tkD L)] = .ok .none := by
  show (sv_parse_term (ptE L .no)).r = _
  have e : sv_parse_term (ptE L .no) = .rt .none := by
    rw [sv_pt]
    refine (sSeq_nx ((sSet_ok (d := .none) (eCall_to (ds := [sgD, .list (tkD L), .int (0 : Nat), wsD]) rfl h)).trans rfl)).trans ?_
    exact sSeq_rt ((sIf_t (or_t rfl)).trans rfl)
  rw [e]; rfl
theorem ne_i (a b : Nat) : pyNe (.int (a : Nat)) (.int (b : Nat)) = .ok (!decide (a = b)) := by
  show R.ok (!decide ((a : Int) = (b : Int))) = _
  congr 2
  exact decide_eq_decide.mpr (by omega)
theorem pt_short (h : f_read_term [sgD, .list (tkD L), .int (0 : Nat), wsD] = .ok (.tuple [d, .int (q : Nat)])) (hq : q ≠ L.length) : f_parse_term [sgD, .list (tkD L)] = .ok .none := by
  show (sv_parse_term (ptE L .no)).r = _
  have e : sv_parse_term (ptE L .no) = .rt .none := by
    rw [sv_pt]
    refine (sSeq_nx ((sSet_ok (d := .tuple [d, .int (q : Nat)]) (eCall_to (ds := [sgD, .list (tkD L), .int (0 : Nat), wsD]) rfl h)).trans rfl)).trans ?_
    refine sSeq_rt ((sIf_t (or_ff rfl (eBin_to (x := .int (q : Nat)) rfl (eUn_to (eO_vl rfl) lenT) ?_))).trans rfl)
    rw [ne_i, decide_eq_false hq]; rfl
  rw [e]; rfl
theorem pt_full {c : Bool} (h : f_read_term [sgD, .list (tkD L), .int (0 : Nat), wsD] = .ok (.tuple [d, .int (q : Nat)])) (hq : q = L.length) (hc : f_is_term [sgD, d] = .ok (.bool c)) : f_parse_term [sgD, .list (tkD L)] = .ok (if c then d else .none) := by
  show (sv_parse_term (ptE L .no)).r = _
  have e : sv_parse_term (ptE L .no) = .rt (if c then d else .none) := by
    rw [sv_pt]
    refine (sSeq_nx ((sSet_ok (d := .tuple [d, .int (q : Nat)]) (eCall_to (ds := [sgD, .list (tkD L), .int (0 : Nat), wsD]) rfl h)).trans rfl)).trans ?_
    refine (sSeq_nx ((sIf_f (or_ff rfl (eBin_to (x := .int (q : Nat)) rfl (eUn_to (eO_vl rfl) lenT) ?_))).trans rfl)).trans ?_
    · rw [ne_i, decide_eq_true hq]; rfl
    refine sRet_ok ?_
    unfold ptEnd eIf
    rw [eB_to (c := c) (eCall_to (ds := [sgD, d]) rfl hc), bnd_k]
    cases c <;> rfl
  rw [e]; rfl
end
/-- a term that the law may draw -/
structure Good (t : Tm) : Prop where
  ok : t.ok
  deep : t.deep ≤ 10
  len : (t.tx S1).length ≤ 75
section
variable {t : Tm} (g : Good t)
include g
theorem good_is : f_is_term [sgD, t.d] = .ok (.bool true) := isT_ok (check_ok t 30 g.ok (by have := g.deep; omega))
theorem good_arr (L : List (List Nat)) (p : Nat) (R : List (List Nat)) {n : Nat} (hn : 20 ≤ n) (h : L.drop p = t.tk ++ R) : Arr n t L p := arr t n L p R g.ok (by have := g.deep; omega) (by have := g.deep; omega) h
theorem good_read {L : List (List Nat)} {p : Nat} {R : List (List Nat)} {n : Nat} (hn : 20 ≤ n) (h : L.drop p = t.tk ++ R) (hs : Stop R) : fr_read_term (n + 1) [sgD, .list (tkD L), .int (p : Nat), wsD] = .ok (.tuple [t.d, .int ((p + t.tk.length : Nat) : Int)]) := arr_read (by have := g.deep; omega) (good_arr g L p R hn h) h hs
theorem parse_ok : f_parse_term [sgD, .list (tkD t.tk)] = .ok t.d := by
  have h := good_read g (L := t.tk) (p := 0) (R := []) (n := 29) (by decide) (by simp) (.inl rfl)
  exact (pt_full h (by simp) (good_is g)).trans (by simp)
theorem wrong_more (R : List (List Nat)) (hR : R ≠ []) (hs : Stop R) : f_parse_term [sgD, .list (tkD (t.tk ++ R))] = .ok .none := by
  have h := good_read g (L := t.tk ++ R) (p := 0) (R := R) (n := 29) (by decide) (by simp) hs
  refine pt_short h ?_
  have := List.length_pos_iff.mpr hR
  simp only [List.length_append]
  omega
theorem wrong_get : f_parse_term [sgD, .list (tkD (t.tk ++ [cs ".", cs "get", cs "(", cs "o", cs ")"]))] = .ok .none := by
  have h : (t.tk ++ [cs ".", cs "get", cs "(", cs "o", cs ")"]).drop 0 = t.tk ++ [cs ".", cs "get", cs "(", cs "o", cs ")"] := rfl
  obtain ⟨k, s4, s5, s6, s8, hk, e⟩ := good_arr g _ 0 _ (n := 29) (by decide) h
  have hd := g.deep
  have h1 := dr_app h
  rw [show 1000 - k = (999 - k) + 1 by omega] at e
  by_cases hs : t.sort = 2
  · have h2 := dr_cons (dr_cons h1)
    have h3 := dr_cons h2
    have ro := arr_read (t := .o) (n := 27) (by decide) (arr .o 27 _ _ [cs ")"] trivial (by decide) (by decide) h3) h3 stop_cl
    have h4 := dr_cons h3
    have hp := parts1 (fp := fr__read_parts 28) h2 ro h4
    rw [← rp_eq] at hp
    have hb := b_t (fp := fr__read_parts 29) (s4 := s4) (s5 := s5) (s6 := s6) (s8 := s8) h1 op_get hs hp (by rfl)
    have e := e.trans (sSeq_w (c_t h1) hb)
    have h5 := dr_cons h4
    rw [show 999 - k = (998 - k) + 1 by omega] at e
    have e := e.trans (sSeq_nx (sWhile_f (c_f h5 (.inl rfl))))
    rw [r_end] at e
    have hr := (rd_eq (L := t.tk ++ [cs ".", cs "get", cs "(", cs "o", cs ")"]) (p := 0) 29).trans (congrArg SR.r e)
    refine (pt_full (c := false) hr ?_ (isT_bad (check_bad t 29 g.ok hs (by omega) (by decide)))).trans rfl
    simp [Tm.tk]
  · have hs' : t.sort = 0 ∨ t.sort = 1 := by cases t <;> simp_all [Tm.sort]
    have e := e.trans (sSeq_rt (sWhile_rt (c_t h1) (b_no (fp := fr__read_parts 29) h1 hs')))
    have hr := (rd_eq (L := t.tk ++ [cs ".", cs "get", cs "(", cs "o", cs ")"]) (p := 0) 29).trans (congrArg SR.r e)
    exact pt_none hr
theorem wrong_k : f_parse_term [sgD, .list (tkD (cs "k" :: cs "(" :: (t.tk ++ [cs ","])))] = .ok .none := by
  have h : (cs "k" :: cs "(" :: (t.tk ++ [cs ","])).drop 0 = cs "k" :: cs "(" :: (t.tk ++ [cs ","]) := rfl
  have h1 := dr_cons h
  have h2 := dr_cons h1
  have rt := good_read g (n := 27) (by decide) h2 stop_co
  have h3 := dr_app h2
  have h4 := dr_cons h3
  have rn : fr_read_term 28 [sgD, .list (tkD (cs "k" :: cs "(" :: (t.tk ++ [cs ","]))), .int ((0 + 1 + 1 + t.tk.length + 1 : Nat) : Int), wsD] = .ok .none := (rd_eq 27).trans (congrArg SR.r (head_end h4))
  have hp := partsN (fp := fr__read_parts 28) h1 rt h3 rn
  rw [← rp_eq] at hp
  exact pt_none ((rd_eq (p := 0) 29).trans (congrArg SR.r (head_n h hd_k hp)))
end
theorem wrong_head {w : List Nat} {R : List (List Nat)} (hb : f_is_name [.str (mkS w)] = .ok (.bool false) ∨ (f_is_name [.str (mkS w)] = .ok (.bool true) ∧ pyNotIn (.str (mkS w)) namesD = .ok true)) : f_parse_term [sgD, .list (tkD (w :: R))] = .ok .none := by
  have h : (w :: R).drop 0 = w :: R := rfl
  exact pt_none ((rd_eq (p := 0) 29).trans (congrArg SR.r (head_bad h hb)))
theorem nm_po : f_is_name [.str (mkS (cs "("))] = .ok (.bool false) := by kernel_rfl
def qWords : List (List Nat) := ["qx", "qj", "qo", "qk", "qh", "qxq", "qjq", "qoq"].map cs
theorem nm_q : ∀ w ∈ qWords, f_is_name [.str (mkS w)] = .ok (.bool true) ∧ pyNotIn (.str (mkS w)) namesD = .ok true := by
  intro w hw
  have e : qWords = [cs "qx", cs "qj", cs "qo", cs "qk", cs "qh", cs "qxq", cs "qjq", cs "qoq"] := rfl
  rw [e] at hw
  simp only [List.mem_cons, List.not_mem_nil, or_false] at hw
  rcases hw with rfl | rfl | rfl | rfl | rfl | rfl | rfl | rfl <;> exact ⟨by kernel_rfl, by kernel_rfl⟩
/-! ### the wrong texts' tokens -/
def isC : Tm → Bool
  | .x | .j | .o => true
  | _ => false
def hdW : Tm → List Nat
  | .x => cs "x"
  | .j => cs "j"
  | .o => cs "o"
  | .put a _ _ => hdW a
  | .get a _ => hdW a
  | .k _ => cs "k"
  | .h _ _ => cs "h"
theorem hdW_q : ∀ t : Tm, (113 :: hdW t) ∈ wordsL ∧ (113 :: hdW t) ∈ qWords
  | .x => by decide +kernel
  | .j => by decide +kernel
  | .o => by decide +kernel
  | .put a _ _ => hdW_q a
  | .get a _ => hdW_q a
  | .k _ => ⟨by show (113 :: cs "k") ∈ _; decide +kernel, by show (113 :: cs "k") ∈ _; decide +kernel⟩
  | .h _ _ => ⟨by show (113 :: cs "h") ∈ _; decide +kernel, by show (113 :: cs "h") ∈ _; decide +kernel⟩
theorem pcs_c : ∀ (t : Tm) (S : Sp), isC t = true → t.pcs S 0 = [(0, hdW t)]
  | .x, _, _ => rfl
  | .j, _, _ => rfl
  | .o, _, _ => rfl
theorem pcs_nc : ∀ (t : Tm) (S : Sp), isC t = false → ∃ (n : Nat) (m : List Nat) (l : List Pc), m ∈ marksL ∧ t.pcs S 0 = (0, hdW t) :: (n, m) :: l
  | .put a i v, S, _ => by
    cases e : isC a with
    | true => exact ⟨_, _, _, m_dot.1, by show a.pcs S 0 ++ _ = _; rw [pcs_c a S e]; rfl⟩
    | false =>
      obtain ⟨n, m, l, hm, q⟩ := pcs_nc a S e
      exact ⟨n, m, _, hm, by show a.pcs S 0 ++ _ = _; rw [q]; rfl⟩
  | .get a i, S, _ => by
    cases e : isC a with
    | true => exact ⟨_, _, _, m_dot.1, by show a.pcs S 0 ++ _ = _; rw [pcs_c a S e]; rfl⟩
    | false =>
      obtain ⟨n, m, l, hm, q⟩ := pcs_nc a S e
      exact ⟨n, m, _, hm, by show a.pcs S 0 ++ _ = _; rw [q]; rfl⟩
  | .k v, S, _ => ⟨_, _, _, m_po.1, rfl⟩
  | .h i a, S, _ => ⟨_, _, _, m_po.1, rfl⟩
theorem apart_nc (S : Sp) (t : Tm) (n : Nat) (r : List Nat) (h : isC t = false) : Apart (t.pcs S n) r := by
  cases t with
  | x => cases h
  | j => cases h
  | o => cases h
  | put a i v => exact apart_app (apart_tm S a n _ (edge_m m_dot.1 _ _)) (apart_mark m_dot (apart_word w_put (edge_m m_po.1 _ _) (apart_mark m_po (apart_app (apart_tm S i _ _ (edge_m m_co.1 _ _)) (apart_mark m_co (apart_app (apart_tm S v _ _ (edge_m m_pc.1 _ _)) (apart_mark m_pc trivial)))))))
  | get a i => exact apart_app (apart_tm S a n _ (edge_m m_dot.1 _ _)) (apart_mark m_dot (apart_word w_get (edge_m m_po.1 _ _) (apart_mark m_po (apart_app (apart_tm S i _ _ (edge_m m_pc.1 _ _)) (apart_mark m_pc trivial)))))
  | k v => exact apart_word w_k (edge_m m_po.1 _ _) (apart_mark m_po (apart_app (apart_tm S v _ _ (edge_m m_pc.1 _ _)) (apart_mark m_pc trivial)))
  | h i a => exact apart_word w_h (edge_m m_po.1 _ _) (apart_mark m_po (apart_app (apart_tm S i _ _ (edge_m m_co.1 _ _)) (apart_mark m_co (apart_app (apart_tm S a _ _ (edge_m m_pc.1 _ _)) (apart_mark m_pc trivial)))))
/-- a text of which nothing is read -/
def Wrong (l : List Nat) : Prop := ∃ L, f_tokens_of [.str (mkS l)] = .ok (.list (tkD L)) ∧ f_parse_term [sgD, .list (tkD L)] = .ok .none
theorem wrong_of (l : List Pc) {x : List Nat} (e : flat l = x) (ha : Apart l []) (hL : x.length ≤ 900) (h : f_parse_term [sgD, .list (tkD (l.map (·.2)))] = .ok .none) : Wrong x := by
  subst e
  exact ⟨_, tok_of l ha hL, h⟩
section
variable {t : Tm} (g : Good t)
include g
theorem flat0 : flat (t.pcs S1 0) = t.tx S1 := by rw [flat_pcs]; rfl
theorem w1 : Wrong (t.tx S1 ++ [41]) := by
  refine wrong_of (t.pcs S1 0 ++ [(0, cs ")")]) ?_ (apart_app (apart_tm S1 t 0 _ (edge_m m_pc.1 _ _)) (apart_mark m_pc trivial)) (by have := g.len; simp only [List.length_append, List.length_cons, List.length_nil]; omega) ?_
  · rw [flat_app, flat0 g, flat_c, c_pc]; rfl
  · rw [List.map_append, pcs_tk]
    exact wrong_more g [cs ")"] (by simp) stop_cl
theorem w2 : Wrong (t.tx S1 ++ [32, 120]) := by
  refine wrong_of (t.pcs S1 0 ++ [(1, cs "x")]) ?_ (apart_app (apart_tm S1 t 0 _ (edge_s _ _)) (apart_word w_x edge_nil trivial)) (by have := g.len; simp only [List.length_append, List.length_cons, List.length_nil]; omega) ?_
  · rw [flat_app, flat0 g, flat_c, c_x]; rfl
  · rw [List.map_append, pcs_tk]
    exact wrong_more g [cs "x"] (by simp) (.inr ⟨_, _, rfl, by kernel_rfl⟩)
theorem w3 : Wrong (40 :: (t.tx S1 ++ [41])) := by
  refine wrong_of ((0, cs "(") :: (t.pcs S1 0 ++ [(0, cs ")")])) ?_ (apart_mark m_po (apart_app (apart_tm S1 t 0 _ (edge_m m_pc.1 _ _)) (apart_mark m_pc trivial))) (by have := g.len; simp only [List.length_append, List.length_cons, List.length_nil]; omega) ?_
  · rw [flat_c, flat_app, flat0 g, flat_c, c_pc, c_po]; rfl
  · exact wrong_head (.inl nm_po)
theorem w4 : Wrong (t.tx S1 ++ [46, 103, 101, 116, 40, 111, 41]) := by
  refine wrong_of (t.pcs S1 0 ++ [(0, cs "."), (0, cs "get"), (0, cs "("), (0, cs "o"), (0, cs ")")]) ?_ (apart_app (apart_tm S1 t 0 _ (edge_m m_dot.1 _ _)) (apart_mark m_dot (apart_word w_get (edge_m m_po.1 _ _) (apart_mark m_po (apart_word w_o (edge_m m_pc.1 _ _) (apart_mark m_pc trivial)))))) (by have := g.len; simp only [List.length_append, List.length_cons, List.length_nil]; omega) ?_
  · rw [flat_app, flat0 g, flat_c, flat_c, flat_c, flat_c, flat_c, c_pc, c_po, c_dot, c_get, c_o]; rfl
  · rw [List.map_append, pcs_tk]
    exact wrong_get g
theorem w5 : Wrong (107 :: 40 :: (t.tx S1 ++ [44])) := by
  refine wrong_of ((0, cs "k") :: (0, cs "(") :: (t.pcs S1 0 ++ [(0, cs ",")])) ?_ (apart_word w_k (edge_m m_po.1 _ _) (apart_mark m_po (apart_app (apart_tm S1 t 0 _ (edge_m m_co.1 _ _)) (apart_mark m_co trivial)))) (by have := g.len; simp only [List.length_append, List.length_cons, List.length_nil]; omega) ?_
  · rw [flat_c, flat_c, flat_app, flat0 g, flat_c, c_co, c_po, c_k]; rfl
  · rw [List.map_cons, List.map_cons, List.map_append, pcs_tk]
    exact wrong_k g
theorem w6 : Wrong (113 :: (t.tx S1 ++ [113])) := by
  obtain ⟨q1, q2⟩ := hdW_q t
  cases e : isC t with
  | true =>
    have hp := pcs_c t S1 e
    have hf := flat0 g
    rw [hp, flat_c, flat_n, List.append_nil] at hf
    have hf : hdW t = t.tx S1 := hf
    have hw : (113 :: (hdW t ++ [113])) ∈ wordsL ∧ (113 :: (hdW t ++ [113])) ∈ qWords := by
      cases t <;> first | (cases e; done) | exact ⟨by decide +kernel, by decide +kernel⟩
    rw [← hf]
    refine wrong_of [(0, 113 :: (hdW t ++ [113]))] (by rw [flat_c, flat_n]; simp) (apart_word hw.1 edge_nil trivial) (by have := g.len; rw [← hf] at this; simp only [List.length_append, List.length_cons, List.length_nil]; omega) ?_
    exact wrong_head (.inr (nm_q _ hw.2))
  | false =>
    obtain ⟨n, m, l, hm, hp⟩ := pcs_nc t S1 e
    have hf := flat0 g
    rw [hp, flat_c] at hf
    have ha := apart_nc S1 t 0 [113] e
    rw [hp] at ha
    have ha2 : Apart ((n, m) :: l) [113] := ha.2.2
    have hq : cs "q" = [113] := by decide +kernel
    have wq : cs "q" ∈ wordsL := by decide +kernel
    refine wrong_of ((0, 113 :: hdW t) :: ((n, m) :: l ++ [(0, cs "q")])) ?_ (apart_word q1 (edge_m hm _ _) (apart_app (by rw [flat_c, flat_n, hq]; exact ha2) (apart_word wq edge_nil trivial))) (by have := g.len; simp only [List.length_append, List.length_cons, List.length_nil]; omega) ?_
    · rw [flat_c, flat_app, ← hf, flat_c 0 (cs "q"), flat_n, hq]; simp
    · exact wrong_head (.inr (nm_q _ q2))
end
end Law_k03
namespace Law_k03
open FP PySem PySem.Spec PyProof.Rows L2
def lPick7 : FP.Env → R D := (eBin pyIx (eO 2) (eBin pyMod (eBin pyIx (eO 6) (eC (.int 1))) (eUn pyLen (eO 2))))
def lPick8 : FP.Env → R D := (eBin pyIx (eO 3) (eBin pyMod (eBin pyIx (eO 6) (eC (.int 2))) (eUn pyLen (eO 3))))
def lPick9 : FP.Env → R D := (eBin pyIx (eO 4) (eBin pyMod (eBin pyIx (eO 6) (eC (.int 3))) (eUn pyLen (eO 4))))
def lLen : FP.Env → R Bool := (eBin pyLt (eBin pyAdd (eBin pyAdd (eUn pyLen (eBin pyIx (eO 7) (eC (.int 1)))) (eUn pyLen (eBin pyIx (eO 8) (eC (.int 1))))) (eUn pyLen (eBin pyIx (eO 9) (eC (.int 1))))) (eC (.int 60)))
def lT0 : FP.Env → R Bool := (eBin pyEq (eBin pyIx (eO 6) (eC (.int 0))) (eC (.int 0)))
def lA0 : FP.Env → R D := (eTup (aCons (eTup (aCons (eC (.str "m.put")) (aCons (eBin pyIx (eO 7) (eC (.int 0))) (aCons (eBin pyIx (eO 8) (eC (.int 0))) (aCons (eBin pyIx (eO 9) (eC (.int 0))) aNil))))) (aCons (eBin pyAdd (eBin pyAdd (eBin pyAdd (eBin pyAdd (eBin pyAdd (eBin pyIx (eO 7) (eC (.int 1))) (eC (.str ".put("))) (eBin pyIx (eO 8) (eC (.int 1)))) (eC (.str ", "))) (eBin pyIx (eO 9) (eC (.int 1)))) (eC (.str ")"))) aNil)))
def lT1 : FP.Env → R Bool := (eBin pyEq (eBin pyIx (eO 6) (eC (.int 0))) (eC (.int 1)))
def lA1 : FP.Env → R D := (eTup (aCons (eTup (aCons (eC (.str "m.get")) (aCons (eBin pyIx (eO 7) (eC (.int 0))) (aCons (eBin pyIx (eO 8) (eC (.int 0))) aNil)))) (aCons (eBin pyAdd (eBin pyAdd (eBin pyAdd (eBin pyIx (eO 7) (eC (.int 1))) (eC (.str ".get("))) (eBin pyIx (eO 8) (eC (.int 1)))) (eC (.str ")"))) aNil)))
def lT2 : FP.Env → R Bool := (eBin pyEq (eBin pyIx (eO 6) (eC (.int 0))) (eC (.int 2)))
def lA2 : FP.Env → R D := (eTup (aCons (eTup (aCons (eC (.str "k")) (aCons (eBin pyIx (eO 9) (eC (.int 0))) aNil))) (aCons (eBin pyAdd (eBin pyAdd (eC (.str "k(")) (eBin pyIx (eO 9) (eC (.int 1)))) (eC (.str ")"))) aNil)))
def lT3 : FP.Env → R Bool := (eBin pyEq (eBin pyIx (eO 6) (eC (.int 0))) (eC (.int 3)))
def lA3 : FP.Env → R D := (eTup (aCons (eTup (aCons (eC (.str "h")) (aCons (eBin pyIx (eO 8) (eC (.int 0))) (aCons (eBin pyIx (eO 7) (eC (.int 0))) aNil)))) (aCons (eBin pyAdd (eBin pyAdd (eBin pyAdd (eBin pyAdd (eC (.str "h(")) (eBin pyIx (eO 8) (eC (.int 1)))) (eC (.str ", "))) (eBin pyIx (eO 7) (eC (.int 1)))) (eC (.str ")"))) aNil)))
def lAdd : FP.Env → SR := sSeq (sIf lT0 (sApp 2 lA0) sNil) (sSeq (sIf lT1 (sApp 4 lA1) sNil) (sSeq (sIf lT2 (sApp 3 lA2) sNil) (sIf lT3 (sApp 4 lA3) sNil)))
def lDraw : FP.Env → R D := (eCall (aCons (eV 0) (aCons (eV 5) (aCons (eNew (eLst (aCons (eC (.int 4)) (aCons (eC (.int 9)) (aCons (eC (.int 9)) (aCons (eC (.int 9)) aNil)))))) aNil))) drawF)
def lB1 : FP.Env → SR := sSeq (sSet 6 lDraw) (sSeq (sSet 7 lPick7) (sSeq (sSet 8 lPick8) (sSeq (sSet 9 lPick9) (sIf lLen lAdd sNil))))
def lIf : FP.Env → R Bool := (tOrR (eBin pyNe (eCall (aCons (eV 10) aNil) f_term_text) (eO 11)) (tNotR (eB (eCall (aCons (eV 1) (aCons (eV 10) aNil)) f_is_term))))
def lWide : FP.Env → R D := (eUn (repF "." " .") (eUn (repF "(" " ( ") (eUn (repF "," " , ") (eV 11))))
def lShown : FP.Env → R (List D) := (iItems (eNew (eLst (aCons (eV 11) (aCons (eV 12) (aCons (eUn (repF " " "") (eV 11)) aNil))))))
def lB3 : FP.Env → SR := (sIf (tNotR (eB (eCall (aCons (eV 10) (aCons (eCall (aCons (eV 1) (aCons (eCall (aCons (eV 13) aNil) f_tokens_of) aNil)) f_parse_term) aNil)) (strictF 30)))) (sRet (eC (.bool false))) sNil)
def lWrong : FP.Env → R (List D) := (iItems (eNew (eLst (aCons (eBin pyAdd (eO 11) (eC (.str ")"))) (aCons (eBin pyAdd (eO 11) (eC (.str " x"))) (aCons (eBin pyAdd (eBin pyAdd (eC (.str "(")) (eO 11)) (eC (.str ")"))) (aCons (eBin pyAdd (eO 11) (eC (.str ".get(o)"))) (aCons (eBin pyAdd (eBin pyAdd (eC (.str "k(")) (eO 11)) (eC (.str ","))) (aCons (eBin pyAdd (eBin pyAdd (eC (.str "q")) (eO 11)) (eC (.str "q"))) aNil)))))))))
def lB4 : FP.Env → SR := (sIf (tNotNn (eCall (aCons (eV 1) (aCons (eCall (aCons (eV 14) aNil) f_tokens_of) aNil)) f_parse_term)) (sRet (eC (.bool false))) sNil)
def lB2 : FP.Env → SR := sSeq (sIf lIf (sRet (eC (.bool false))) sNil) (sSeq (sSet 12 lWide) (sSeq (sForE lShown (gNm 13) lB3) (sForE lWrong (gNm 14) lB4)))
def lAll : FP.Env → R (List D) := (iItems (eBin pyAdd (eBin pyAdd (eO 2) (eO 3)) (eO 4)))
def lTail : FP.Env → SR := sSeq (sSet 14 (eNew (eLst (aCons (eTup (aCons (eC (.str "h")) (aCons (eTup (aCons (eC (.str "j")) aNil)) (aCons (eTup (aCons (eC (.str "j")) aNil)) aNil)))) (aCons (eTup (aCons (eC (.str "k")) (aCons (eTup (aCons (eC (.str "j")) aNil)) aNil))) (aCons (eTup (aCons (eC (.str "m.get")) (aCons (eTup (aCons (eC (.str "x")) aNil)) (aCons (eTup (aCons (eC (.str "o")) aNil)) aNil)))) (aCons (eTup (aCons (eC (.str "z")) aNil)) (aCons (eTup (aCons (eC (.str "k")) aNil)) aNil)))))))) (sSeq (sIf (eB (eAnyL (eNew (eComp (iItems (eV 14)) (gNm 10) tYesR (eCall (aCons (eV 1) (aCons (eV 10) aNil)) f_is_term) [10])))) (sRet (eC (.bool false))) sNil) (sRet (eAnd (eIsN (eCall (aCons (eV 1) (aCons (eCall (aCons (eC (.str "h(j, j)")) aNil) f_tokens_of) aNil)) f_parse_term)) (eIsN (eCall (aCons (eV 1) (aCons (eCall (aCons (eC (.str "x.apart(x)")) aNil) f_tokens_of) aNil)) f_parse_term)))))
def lStart : FP.Env → SR := (sPar3 2 3 4 (mConsO (eLst (aCons (eTup (aCons (eTup (aCons (eC (.str "x")) aNil)) (aCons (eC (.str "x")) aNil))) aNil)) (mConsO (eLst (aCons (eTup (aCons (eTup (aCons (eC (.str "j")) aNil)) (aCons (eC (.str "j")) aNil))) aNil)) (mConsO (eLst (aCons (eTup (aCons (eTup (aCons (eC (.str "o")) aNil)) (aCons (eC (.str "o")) aNil))) aNil)) mNil))))
theorem sv_law_eq : sv_law_r = sSeq lStart (sSeq (sForE (iRng1 (eC (.int 7))) (gNm 5) lB1) (sSeq (sForE lAll (gTp 2 (gsCons (gNm 10) (gsCons (gNm 11) gsNil))) lB2) lTail)) := rfl
/-! ### loops -/
theorem for_inv {t : Tg} {sb : FP.Env → SR} (P : FP.Env → Prop) : ∀ (xs : List D), (∀ x ∈ xs, ∀ env, P env → ∃ env1, t x env = some env1 ∧ ∃ env', sb env1 = .nx env' ∧ P env') → ∀ env, P env → ∃ env', sFor t sb xs env = .nx env' ∧ P env'
  | [], _, env, h => ⟨env, rfl, h⟩
  | x :: xs, hx, env, h => by
    obtain ⟨env1, h1, env2, h2, h3⟩ := hx x (by simp) env h
    obtain ⟨env', h4, h5⟩ := for_inv P xs (fun y hy => hx y (by simp [hy])) env2 h3
    exact ⟨env', (sFor_nx h1 h2).trans h4, h5⟩
theorem for_step {t : Tg} {sb : FP.Env → SR} (P : Nat → FP.Env → Prop) (f : Nat → D) : ∀ (n j : Nat), (∀ i, j ≤ i → i < j + n → ∀ env, P i env → ∃ env1, t (f i) env = some env1 ∧ ∃ env', sb env1 = .nx env' ∧ P (i + 1) env') → ∀ env, P j env → ∃ env', sFor t sb ((List.range' j n).map f) env = .nx env' ∧ P (j + n) env'
  | 0, j, _, env, h => ⟨env, rfl, h⟩
  | n + 1, j, hx, env, h => by
    obtain ⟨env1, h1, env2, h2, h3⟩ := hx j (by omega) (by omega) env h
    obtain ⟨env', h4, h5⟩ := for_step P f n (j + 1) (fun i hi hi2 => hx i (by omega) (by omega)) env2 h3
    rw [List.range'_succ, List.map_cons]
    exact ⟨env', (sFor_nx h1 h2).trans h4, by rw [show j + (n + 1) = j + 1 + n by omega]; exact h5⟩
/-! ### the terms drawn -/
def pr (t : Tm) : D := .tuple [t.d, .str (mkS (t.tx S1))]
abbrev lE (a : D) (As Is Vs : List Tm) (s5 s6 s7 s8 s9 s10 s11 s12 s13 s14 : Sl) : FP.Env := [.vl a, .vl sgD, .ow (.lst (As.map pr)), .ow (.lst (Is.map pr)), .ow (.lst (Vs.map pr)), s5, s6, s7, s8, s9, s10, s11, s12, s13, s14]
structure Ls (j so : Nat) (l : List Tm) : Prop where
  ne : l ≠ []
  len : l.length ≤ j + 1
  ok : ∀ t ∈ l, t.ok ∧ t.sort = so ∧ t.deep ≤ j + 1 ∧ (t.tx S1).length ≤ 75
theorem Ls.up {j so : Nat} {l : List Tm} (h : Ls j so l) : Ls (j + 1) so l := ⟨h.ne, by have := h.len; omega, fun t ht => by obtain ⟨a, b, c, d⟩ := h.ok t ht; exact ⟨a, b, by omega, d⟩⟩
theorem Ls.add {j so : Nat} {l : List Tm} {t : Tm} (h : Ls j so l) (h1 : t.ok) (h2 : t.sort = so) (h3 : t.deep ≤ j + 2) (h4 : (t.tx S1).length ≤ 75) : Ls (j + 1) so (l ++ [t]) := ⟨by simp, by have := h.len; simp; omega, fun u hu => by
  rcases List.mem_append.mp hu with hu | hu
  · obtain ⟨a, b, c, d⟩ := h.ok u hu
    exact ⟨a, b, by omega, d⟩
  · rw [List.mem_singleton.mp hu]; exact ⟨h1, h2, by omega, h4⟩⟩
theorem pick {l : List Tm} (h : l ≠ []) (d : Int) : ∃ t ∈ l, pyIx (.list (l.map pr)) (.int (d % (l.length : Nat))) = .ok (pr t) := by
  have hp := List.length_pos_iff.mpr h
  obtain ⟨u, h1, h2⟩ : ∃ u : Nat, (u : Int) = d % (l.length : Nat) ∧ u < l.length := by
    have h0 : 0 ≤ d % (l.length : Int) := Int.emod_nonneg _ (by omega)
    have h1 : d % (l.length : Int) < l.length := Int.emod_lt_of_pos _ (by omega)
    exact ⟨(d % (l.length : Int)).toNat, by omega, by omega⟩
  refine ⟨l[u], List.getElem_mem h2, ?_⟩
  rw [← h1]
  show RO (atP (l.map pr) (u : Int)) = _
  unfold atP
  rw [if_pos (Int.natCast_nonneg u), Int.toNat_natCast, List.getElem?_map, List.getElem?_eq_getElem h2]
  rfl
theorem lenL {l : List Tm} : pyLen (.list (l.map pr)) = .ok (.int (l.length : Nat)) := by
  show R.ok (PyData.int ((l.map pr).length : Nat)) = _
  rw [List.length_map]
section
variable {a : D} {As Is Vs : List Tm} {d0 d1 d2 d3 : Int} {s5 s7 s8 s9 s10 s11 s12 s13 s14 : Sl} {A I V : Tm} {j : Nat}
abbrev dg (d0 d1 d2 d3 : Int) : Sl := .vl (.list [.int d0, .int d1, .int d2, .int d3])
theorem pick7 (h : As ≠ []) : ∃ t ∈ As, lPick7 (lE a As Is Vs s5 (dg d0 d1 d2 d3) s7 s8 s9 s10 s11 s12 s13 s14) = .ok (pr t) := by
  obtain ⟨t, ht, e⟩ := pick h d1
  exact ⟨t, ht, eBin_to (eO_ow rfl) (eBin_to (eBin_to rfl rfl rfl) (eUn_to (eO_ow rfl) lenL) (mod_pos d1 (by have := List.length_pos_iff.mpr h; omega))) e⟩
theorem pick8 (h : Is ≠ []) : ∃ t ∈ Is, lPick8 (lE a As Is Vs s5 (dg d0 d1 d2 d3) s7 s8 s9 s10 s11 s12 s13 s14) = .ok (pr t) := by
  obtain ⟨t, ht, e⟩ := pick h d2
  exact ⟨t, ht, eBin_to (eO_ow rfl) (eBin_to (eBin_to rfl rfl rfl) (eUn_to (eO_ow rfl) lenL) (mod_pos d2 (by have := List.length_pos_iff.mpr h; omega))) e⟩
theorem pick9 (h : Vs ≠ []) : ∃ t ∈ Vs, lPick9 (lE a As Is Vs s5 (dg d0 d1 d2 d3) s7 s8 s9 s10 s11 s12 s13 s14) = .ok (pr t) := by
  obtain ⟨t, ht, e⟩ := pick h d3
  exact ⟨t, ht, eBin_to (eO_ow rfl) (eBin_to (eBin_to rfl rfl rfl) (eUn_to (eO_ow rfl) lenL) (mod_pos d3 (by have := List.length_pos_iff.mpr h; omega))) e⟩
theorem len_t {i : Nat} {env : FP.Env} {t : Tm} (h : env[i]? = some (.vl (pr t))) (hl : (t.tx S1).length ≤ 1000) : (eUn pyLen (eBin pyIx (eO i) (eC (.int 1)))) env = .ok (.int ((t.tx S1).length : Nat)) := eUn_to (eBin_to (eO_vl h) rfl rfl) (lenS (by omega))
theorem txt_t {i : Nat} {env : FP.Env} {t : Tm} (h : env[i]? = some (.vl (pr t))) : (eBin pyIx (eO i) (eC (.int 1))) env = .ok (.str (mkS (t.tx S1))) := eBin_to (eO_vl h) rfl rfl
theorem dat_t {i : Nat} {env : FP.Env} {t : Tm} (h : env[i]? = some (.vl (pr t))) : (eBin pyIx (eO i) (eC (.int 0))) env = .ok t.d := eBin_to (eO_vl h) rfl rfl
theorem sIfN {g : FP.Env → R Bool} {s1 : FP.Env → SR} {env : FP.Env} (h : g env = .ok false) : sIf g s1 sNil env = .nx env := (sIf_f h).trans rfl
theorem sIfY {g : FP.Env → R Bool} {s1 s2 : FP.Env → SR} {env env' : FP.Env} (h : g env = .ok true) (h2 : s1 env = .nx env') : sIf g s1 s2 env = .nx env' := (sIf_t h).trans h2
theorem z_put : (".put(" : Str) = mkS [46, 112, 117, 116, 40] := by decide +kernel
theorem z_get : (".get(" : Str) = mkS [46, 103, 101, 116, 40] := by decide +kernel
theorem z_cs : (", " : Str) = mkS [44, 32] := by decide +kernel
theorem z_k : ("k(" : Str) = mkS [107, 40] := by decide +kernel
theorem z_h : ("h(" : Str) = mkS [104, 40] := by decide +kernel
variable (hA : (A.tx S1).length ≤ 75) (hI : (I.tx S1).length ≤ 75) (hV : (V.tx S1).length ≤ 75)
abbrev lE2 (a : D) (As Is Vs : List Tm) (s5 s6 : Sl) (A I V : Tm) (s10 s11 s12 s13 s14 : Sl) : FP.Env := lE a As Is Vs s5 s6 (.vl (pr A)) (.vl (pr I)) (.vl (pr V)) s10 s11 s12 s13 s14
include hA hI hV
theorem app0 {s6 : Sl} : lA0 (lE2 a As Is Vs s5 s6 A I V s10 s11 s12 s13 s14) = .ok (pr (.put A I V)) := by
  have e : (eBin pyAdd (eBin pyAdd (eBin pyAdd (eBin pyAdd (eBin pyAdd (eBin pyIx (eO 7) (eC (.int 1))) (eC (.str ".put("))) (eBin pyIx (eO 8) (eC (.int 1)))) (eC (.str ", "))) (eBin pyIx (eO 9) (eC (.int 1)))) (eC (.str ")"))) (lE2 a As Is Vs s5 s6 A I V s10 s11 s12 s13 s14) = .ok (.str (mkS ((Tm.put A I V).tx S1))) := by
    refine add3 (add3 (add3 (add3 (add3 (txt_t rfl) (lit z_put) ?_ rfl) (txt_t rfl) ?_ rfl) (lit z_cs) ?_ rfl) (txt_t rfl) ?_ rfl) (lit z_pc) ?_ ?_
    all_goals first | (simp only [List.length_append, List.length_cons, List.length_nil]; omega) | simp [Tm.tx, S1]
  unfold lA0 eTup
  rw [aCons_to (d := (Tm.put A I V).d) (ds := [.str (mkS ((Tm.put A I V).tx S1))]) rfl (aCons_to e rfl)]
  rfl
theorem app1 {s6 : Sl} : lA1 (lE2 a As Is Vs s5 s6 A I V s10 s11 s12 s13 s14) = .ok (pr (.get A I)) := by
  have e : (eBin pyAdd (eBin pyAdd (eBin pyAdd (eBin pyIx (eO 7) (eC (.int 1))) (eC (.str ".get("))) (eBin pyIx (eO 8) (eC (.int 1)))) (eC (.str ")"))) (lE2 a As Is Vs s5 s6 A I V s10 s11 s12 s13 s14) = .ok (.str (mkS ((Tm.get A I).tx S1))) := by
    refine add3 (add3 (add3 (txt_t rfl) (lit z_get) ?_ rfl) (txt_t rfl) ?_ rfl) (lit z_pc) ?_ ?_
    all_goals first | (simp only [List.length_append, List.length_cons, List.length_nil]; omega) | simp [Tm.tx, S1]
  unfold lA1 eTup
  rw [aCons_to (d := (Tm.get A I).d) (ds := [.str (mkS ((Tm.get A I).tx S1))]) rfl (aCons_to e rfl)]
  rfl
theorem app2 {s6 : Sl} : lA2 (lE2 a As Is Vs s5 s6 A I V s10 s11 s12 s13 s14) = .ok (pr (.k V)) := by
  have e : (eBin pyAdd (eBin pyAdd (eC (.str "k(")) (eBin pyIx (eO 9) (eC (.int 1)))) (eC (.str ")"))) (lE2 a As Is Vs s5 s6 A I V s10 s11 s12 s13 s14) = .ok (.str (mkS ((Tm.k V).tx S1))) := by
    refine add3 (add3 (lit z_k) (txt_t rfl) ?_ rfl) (lit z_pc) ?_ ?_
    all_goals first | (simp only [List.length_append, List.length_cons, List.length_nil]; omega) | simp [Tm.tx, S1]
  unfold lA2 eTup
  rw [aCons_to (d := (Tm.k V).d) (ds := [.str (mkS ((Tm.k V).tx S1))]) rfl (aCons_to e rfl)]
  rfl
theorem app3 {s6 : Sl} : lA3 (lE2 a As Is Vs s5 s6 A I V s10 s11 s12 s13 s14) = .ok (pr (.h I A)) := by
  have e : (eBin pyAdd (eBin pyAdd (eBin pyAdd (eBin pyAdd (eC (.str "h(")) (eBin pyIx (eO 8) (eC (.int 1)))) (eC (.str ", "))) (eBin pyIx (eO 7) (eC (.int 1)))) (eC (.str ")"))) (lE2 a As Is Vs s5 s6 A I V s10 s11 s12 s13 s14) = .ok (.str (mkS ((Tm.h I A).tx S1))) := by
    refine add3 (add3 (add3 (add3 (lit z_h) (txt_t rfl) ?_ rfl) (lit z_cs) ?_ rfl) (txt_t rfl) ?_ rfl) (lit z_pc) ?_ ?_
    all_goals first | (simp only [List.length_append, List.length_cons, List.length_nil]; omega) | simp [Tm.tx, S1]
  unfold lA3 eTup
  rw [aCons_to (d := (Tm.h I A).d) (ds := [.str (mkS ((Tm.h I A).tx S1))]) rfl (aCons_to e rfl)]
  rfl
end
end Law_k03
namespace Law_k03
open FP PySem PySem.Spec PyProof.Rows L2
section
variable {a : D} {As Is Vs : List Tm} {d0 d1 d2 d3 : Int} {s5 s10 s11 s12 s13 s14 : Sl} {A I V : Tm} {j : Nat}
theorem app_nx {i : Nat} {fa : FP.Env → R D} {env env' : FP.Env} {l : List Tm} {t : Tm} (hx : env[i]? = some (.ow (.lst (l.map pr)))) (ha : fa env = .ok (pr t)) (hl : l.length ≤ 999) (e : env.set i (.ow (.lst ((l ++ [t]).map pr))) = env') : sApp i fa env = .nx env' := by
  rw [sApp_to hx ha (by rw [List.length_map]; omega), ← e, List.map_append]
  rfl
/-- what one draw adds -/
theorem add_ok (hA : Ls j 2 As) (hI : Ls j 0 Is) (hV : Ls j 1 Vs) (mA : A ∈ As) (mI : I ∈ Is) (mV : V ∈ Vs) (hj : j ≤ 6) (h0 : 0 ≤ d0) (h4 : d0 < 4) (hl : (A.tx S1).length + (I.tx S1).length + (V.tx S1).length < 60) :
    ∃ As' Is' Vs', Ls (j + 1) 2 As' ∧ Ls (j + 1) 0 Is' ∧ Ls (j + 1) 1 Vs' ∧ lAdd (lE2 a As Is Vs s5 (dg d0 d1 d2 d3) A I V s10 s11 s12 s13 s14) = .nx (lE2 a As' Is' Vs' s5 (dg d0 d1 d2 d3) A I V s10 s11 s12 s13 s14) := by
  obtain ⟨a1, a2, a3, a4⟩ := hA.ok A mA
  obtain ⟨i1, i2, i3, i4⟩ := hI.ok I mI
  obtain ⟨v1, v2, v3, v4⟩ := hV.ok V mV
  have la := hA.len
  have li := hI.len
  have lv := hV.len
  have hd : d0 = 0 ∨ d0 = 1 ∨ d0 = 2 ∨ d0 = 3 := by omega
  unfold lAdd
  rcases hd with rfl | rfl | rfl | rfl
  · refine ⟨As ++ [.put A I V], Is, Vs, hA.add (t := .put A I V) ⟨a1, i1, v1, a2, i2, v2⟩ rfl (by simp only [Tm.deep]; omega) (by simp [Tm.tx, S1] at hl ⊢; omega), hI.up, hV.up, ?_⟩
    refine (sSeq_nx (sIfY (by rfl) (app_nx rfl (app0 (by omega) (by omega) (by omega)) (by omega) rfl))).trans ?_
    exact (sSeq_nx (sIfN (by rfl))).trans ((sSeq_nx (sIfN (by rfl))).trans (sIfN (by rfl)))
  · refine ⟨As, Is, Vs ++ [.get A I], hA.up, hI.up, hV.add (t := .get A I) ⟨a1, i1, a2, i2⟩ rfl (by simp only [Tm.deep]; omega) (by simp [Tm.tx, S1] at hl ⊢; omega), ?_⟩
    refine (sSeq_nx (sIfN (by rfl))).trans ?_
    refine (sSeq_nx (sIfY (by rfl) (app_nx rfl (app1 (by omega) (by omega) (by omega)) (by omega) rfl))).trans ?_
    exact (sSeq_nx (sIfN (by rfl))).trans (sIfN (by rfl))
  · refine ⟨As, Is ++ [.k V], Vs, hA.up, hI.add (t := .k V) ⟨v1, v2⟩ rfl (by simp only [Tm.deep]; omega) (by simp [Tm.tx, S1] at hl ⊢; omega), hV.up, ?_⟩
    refine (sSeq_nx (sIfN (by rfl))).trans ((sSeq_nx (sIfN (by rfl))).trans ?_)
    refine (sSeq_nx (sIfY (by rfl) (app_nx rfl (app2 (by omega) (by omega) (by omega)) (by omega) rfl))).trans ?_
    exact sIfN (by rfl)
  · refine ⟨As, Is, Vs ++ [.h I A], hA.up, hI.up, hV.add (t := .h I A) ⟨i1, a1, i2, a2⟩ rfl (by simp only [Tm.deep]; omega) (by simp [Tm.tx, S1] at hl ⊢; omega), ?_⟩
    refine (sSeq_nx (sIfN (by rfl))).trans ((sSeq_nx (sIfN (by rfl))).trans ((sSeq_nx (sIfN (by rfl))).trans ?_))
    exact sIfY (by rfl) (app_nx rfl (app3 (by omega) (by omega) (by omega)) (by omega) rfl)
end
/-- ahead of draw j -/
def Inv (a : D) (j : Nat) (env : FP.Env) : Prop := ∃ (As Is Vs : List Tm) (s5 s6 s7 s8 s9 : Sl), Ls j 2 As ∧ Ls j 0 Is ∧ Ls j 1 Vs ∧ env = lE a As Is Vs s5 s6 s7 s8 s9 .no .no .no .no .no
theorem draw_step (ns : List Int) (j : Nat) (hj : j ≤ 6) (env : FP.Env) (h : Inv (.list (ns.map .int)) j env) : ∃ env1, gNm 5 (.int (j : Int)) env = some env1 ∧ ∃ env', lB1 env1 = .nx env' ∧ Inv (.list (ns.map .int)) (j + 1) env' := by
  obtain ⟨As, Is, Vs, s5, s6, s7, s8, s9, hA, hI, hV, rfl⟩ := h
  refine ⟨_, rfl, ?_⟩
  obtain ⟨ds, hdraw, dig⟩ := drawF_ok ns j [4, 9, 9, 9] (by omega) (by decide) (by decide)
  obtain ⟨d0, d1, d2, d3, rfl, x0, y0⟩ : ∃ d0 d1 d2 d3 : Int, ds = [d0, d1, d2, d3] ∧ 0 ≤ d0 ∧ d0 < 4 := by
    cases dig with
    | cons x0 y0 t => cases t with
      | cons x1 y1 t => cases t with
        | cons x2 y2 t => cases t with
          | cons x3 y3 t => cases t with
            | nil => exact ⟨_, _, _, _, rfl, x0, y0⟩
  generalize (PyData.list (ns.map .int)) = a at *
  show ∃ env', lB1 (lE a As Is Vs (.vl (.int (j : Int))) s6 s7 s8 s9 .no .no .no .no .no) = .nx env' ∧ _
  have e6 : lDraw (lE a As Is Vs (.vl (.int (j : Int))) s6 s7 s8 s9 .no .no .no .no .no) = .ok (.list [.int d0, .int d1, .int d2, .int d3]) :=
    eCall_to (ds := [a, .int (j : Nat), .list ([4, 9, 9, 9].map .int)]) rfl hdraw
  obtain ⟨A, mA, eA⟩ := pick7 (a := a) (Is := Is) (Vs := Vs) (d0 := d0) (d1 := d1) (d2 := d2) (d3 := d3) (s5 := .vl (.int (j : Int))) (s7 := s7) (s8 := s8) (s9 := s9) (s10 := .no) (s11 := .no) (s12 := .no) (s13 := .no) (s14 := .no) hA.ne
  obtain ⟨I, mI, eI⟩ := pick8 (a := a) (As := As) (Vs := Vs) (d0 := d0) (d1 := d1) (d2 := d2) (d3 := d3) (s5 := .vl (.int (j : Int))) (s7 := .vl (pr A)) (s8 := s8) (s9 := s9) (s10 := .no) (s11 := .no) (s12 := .no) (s13 := .no) (s14 := .no) hI.ne
  obtain ⟨V, mV, eV⟩ := pick9 (a := a) (As := As) (Is := Is) (d0 := d0) (d1 := d1) (d2 := d2) (d3 := d3) (s5 := .vl (.int (j : Int))) (s7 := .vl (pr A)) (s8 := .vl (pr I)) (s9 := s9) (s10 := .no) (s11 := .no) (s12 := .no) (s13 := .no) (s14 := .no) hV.ne
  obtain ⟨_, _, _, a4⟩ := hA.ok A mA
  obtain ⟨_, _, _, i4⟩ := hI.ok I mI
  obtain ⟨_, _, _, v4⟩ := hV.ok V mV
  have hpre : ∀ {env'}, (sIf lLen lAdd sNil) (lE2 a As Is Vs (.vl (.int (j : Int))) (dg d0 d1 d2 d3) A I V .no .no .no .no .no) = .nx env' → lB1 (lE a As Is Vs (.vl (.int (j : Int))) s6 s7 s8 s9 .no .no .no .no .no) = .nx env' := fun h => by
    unfold lB1
    exact (sSeq_nx ((sSet_ok e6).trans rfl)).trans ((sSeq_nx ((sSet_ok eA).trans rfl)).trans ((sSeq_nx ((sSet_ok eI).trans rfl)).trans ((sSeq_nx ((sSet_ok eV).trans rfl)).trans h)))
  have hlen : lLen (lE2 a As Is Vs (.vl (.int (j : Int))) (dg d0 d1 d2 d3) A I V .no .no .no .no .no) = .ok (decide ((((A.tx S1).length : Nat) : Int) + ((I.tx S1).length : Nat) + ((V.tx S1).length : Nat) < 60)) := by
    unfold lLen
    exact eBin_to (eBin_to (eBin_to (len_t rfl (by omega)) (len_t rfl (by omega)) rfl) (len_t rfl (by omega)) rfl) rfl rfl
  by_cases hl : (A.tx S1).length + (I.tx S1).length + (V.tx S1).length < 60
  · obtain ⟨As', Is', Vs', hA', hI', hV', e⟩ := add_ok (a := a) (d1 := d1) (d2 := d2) (d3 := d3) (s5 := .vl (.int (j : Int))) (s10 := .no) (s11 := .no) (s12 := .no) (s13 := .no) (s14 := .no) hA hI hV mA mI mV hj x0 y0 hl
    rw [decide_eq_true (by omega)] at hlen
    exact ⟨_, hpre ((sIf_t hlen).trans e), As', Is', Vs', _, _, _, _, _, hA', hI', hV', rfl⟩
  · rw [decide_eq_false (by omega)] at hlen
    exact ⟨_, hpre (sIfN hlen), As, Is, Vs, _, _, _, _, _, hA.up, hI.up, hV.up, rfl⟩
/-! ### one term looked at -/
theorem plain_mono : ∀ (n : Nat) (d : D), plainD n d = true → plainD (n + 1) d = true
  | 0, d, h => by cases d <;> first | rfl | cases h
  | n + 1, d, h => by
    cases d <;> first | rfl | cases h | skip
    all_goals
      simp only [plainD, Bool.and_eq_true, List.all_eq_true] at h ⊢
      exact ⟨h.1, fun x hx => plain_mono n x (h.2 x hx)⟩
theorem plain_le {n m : Nat} (h : n ≤ m) {d : D} (p : plainD n d = true) : plainD m d = true := by
  induction h with
  | refl => exact p
  | step _ ih => exact plain_mono _ _ ih
theorem plain_tm : ∀ t : Tm, plainD (t.deep + 1) t.d = true
  | .x => by decide +kernel
  | .j => by decide +kernel
  | .o => by decide +kernel
  | .put a i v => by
    have ha := plain_le (m := (Tm.put a i v).deep) (by simp only [Tm.deep]; omega) (plain_tm a)
    have hi := plain_le (m := (Tm.put a i v).deep) (by simp only [Tm.deep]; omega) (plain_tm i)
    have hv := plain_le (m := (Tm.put a i v).deep) (by simp only [Tm.deep]; omega) (plain_tm v)
    show (decide _ && [PyData.str "m.put", a.d, i.d, v.d].all (plainD _)) = true
    rw [decide_eq_true (Nat.le_of_ble_eq_true rfl)]
    simp only [List.all_cons, List.all_nil, ha, hi, hv]
    cases (Tm.put a i v).deep <;> rfl
  | .get a i => by
    have ha := plain_le (m := (Tm.get a i).deep) (by simp only [Tm.deep]; omega) (plain_tm a)
    have hi := plain_le (m := (Tm.get a i).deep) (by simp only [Tm.deep]; omega) (plain_tm i)
    show (decide _ && [PyData.str "m.get", a.d, i.d].all (plainD _)) = true
    rw [decide_eq_true (Nat.le_of_ble_eq_true rfl)]
    simp only [List.all_cons, List.all_nil, ha, hi]
    cases (Tm.get a i).deep <;> rfl
  | .k v => by
    have hv := plain_le (m := (Tm.k v).deep) (by simp only [Tm.deep]; omega) (plain_tm v)
    show (decide _ && [PyData.str "k", v.d].all (plainD _)) = true
    rw [decide_eq_true (Nat.le_of_ble_eq_true rfl)]
    simp only [List.all_cons, List.all_nil, hv]
    cases (Tm.k v).deep <;> rfl
  | .h i a => by
    have ha := plain_le (m := (Tm.h i a).deep) (by simp only [Tm.deep]; omega) (plain_tm a)
    have hi := plain_le (m := (Tm.h i a).deep) (by simp only [Tm.deep]; omega) (plain_tm i)
    show (decide _ && [PyData.str "h", i.d, a.d].all (plainD _)) = true
    rw [decide_eq_true (Nat.le_of_ble_eq_true rfl)]
    simp only [List.all_cons, List.all_nil, ha, hi]
    cases (Tm.h i a).deep <;> rfl
end Law_k03
namespace Law_k03
open FP PySem PySem.Spec PyProof.Rows L2
section
variable {a : D} {As Is Vs : List Tm} {s5 s6 s7 s8 s9 s10 s11 s12 s13 s14 : Sl} {t : Tm} (g : Good t)
abbrev cE (a : D) (As Is Vs : List Tm) (s5 s6 s7 s8 s9 : Sl) (t : Tm) (s12 s13 s14 : Sl) : FP.Env := lE a As Is Vs s5 s6 s7 s8 s9 (.vl t.d) (.vl (.str (mkS (t.tx S1)))) s12 s13 s14
include g
theorem if_ok : lIf (cE a As Is Vs s5 s6 s7 s8 s9 t s12 s13 s14) = .ok false := by
  have gl := g.len
  have gd := g.deep
  unfold lIf
  refine or_ff (eBin_to (eCall_to (ds := [t.d]) rfl (text_ok t 30 (by omega) (by omega))) (eO_vl rfl) ?_) (tNot_to (c := true) (eB_to (eCall_to (ds := [sgD, t.d]) rfl (good_is g))))
  rw [neS, leq_refl]; rfl
theorem l_wide : (t.tx S4).length ≤ 900 := by have := len3 S4 (by decide) (by decide) (by decide) (by decide) (by decide) t; have := g.len; omega
theorem l_2 : (t.tx S2).length ≤ 900 := by have := len3 S2 (by decide) (by decide) (by decide) (by decide) (by decide) t; have := g.len; omega
theorem l_3 : (t.tx S3).length ≤ 900 := by have := len3 S3 (by decide) (by decide) (by decide) (by decide) (by decide) t; have := g.len; omega
theorem l_0 : (t.tx S0).length ≤ 900 := by have := len3 S0 (by decide) (by decide) (by decide) (by decide) (by decide) t; have := g.len; omega
theorem wide_ok : lWide (cE a As Is Vs s5 s6 s7 s8 s9 t s12 s13 s14) = .ok (.str (mkS (t.tx S4))) := by
  have gl := g.len
  have g2 := l_2 g
  have g3 := l_3 g
  have c1 : tl ("," : Str) = [44] := by decide +kernel
  have c2 : tl ("(" : Str) = [40] := by decide +kernel
  have c3 : tl ("." : Str) = [46] := by decide +kernel
  have r1 := rep_to (y := ",") (z := " , ") c1 (by decide +kernel) (show (t.tx S1).length ≤ 1000 by omega)
  have r2 := rep_to (y := "(") (z := " ( ") c2 (by decide +kernel) (show (t.tx S2).length ≤ 1000 by omega)
  have r3 := rep_to (y := ".") (z := " .") c3 (by decide +kernel) (show (t.tx S3).length ≤ 1000 by omega)
  rw [show tl (" , " : Str) = [32, 44, 32] by decide +kernel, sub_co] at r1
  rw [show tl (" ( " : Str) = [32, 40, 32] by decide +kernel, sub_po] at r2
  rw [show tl (" ." : Str) = [32, 46] by decide +kernel, sub_dot] at r3
  exact eUn_to (eUn_to (eUn_to (eV_vl rfl) r1) r2) r3
theorem tight_ok : (eUn (repF " " "") (eV 11)) (cE a As Is Vs s5 s6 s7 s8 s9 t s12 s13 s14) = .ok (.str (mkS (t.tx S0))) := by
  have gl := g.len
  have r1 := rep_to (y := " ") (z := "") (c := 32) (by decide +kernel) (by decide +kernel) (show (t.tx S1).length ≤ 1000 by omega)
  rw [show tl ("" : Str) = [] by decide +kernel, sub_sp] at r1
  exact eUn_to (eV_vl rfl) r1
theorem shown_ok : lShown (cE a As Is Vs s5 s6 s7 s8 s9 t (.vl (.str (mkS (t.tx S4)))) s13 s14) = .ok [.str (mkS (t.tx S1)), .str (mkS (t.tx S4)), .str (mkS (t.tx S0))] := by
  unfold lShown FP.iItems
  rw [eNew_to (o := .lst [.str (mkS (t.tx S1)), .str (mkS (t.tx S4)), .str (mkS (t.tx S0))])]
  · rfl
  · unfold eLst
    rw [aCons_to (eV_vl rfl) (aCons_to (eV_vl rfl) (aCons_to (tight_ok g) rfl))]
    rfl
theorem body3 {S : Sp} (hl : (t.tx S).length ≤ 900) : lB3 (cE a As Is Vs s5 s6 s7 s8 s9 t s12 (.vl (.str (mkS (t.tx S)))) s14) = .nx (cE a As Is Vs s5 s6 s7 s8 s9 t s12 (.vl (.str (mkS (t.tx S)))) s14) := by
  unfold lB3
  have gd := g.deep
  refine sIfN (tNot_to (c := true) (eB_to (eCall_to (ds := [t.d, t.d]) (aCons_to (eV_vl rfl) (aCons_to (eCall_to (ds := [sgD, .list (tkD t.tk)]) (aCons_to (eV_vl rfl) (aCons_to (eCall_to (ds := [.str (mkS (t.tx S))]) rfl (tok_tm S t hl)) rfl)) (parse_ok g)) rfl)) ?_)))
  exact strict_refl 29 t.d (plain_le (by omega) (plain_tm t))
def wr6 (t : Tm) : List D := [.str (mkS (t.tx S1 ++ [41])), .str (mkS (t.tx S1 ++ [32, 120])), .str (mkS (40 :: (t.tx S1 ++ [41]))), .str (mkS (t.tx S1 ++ [46, 103, 101, 116, 40, 111, 41])), .str (mkS (107 :: 40 :: (t.tx S1 ++ [44]))), .str (mkS (113 :: (t.tx S1 ++ [113])))]
theorem wrong_ok : lWrong (cE a As Is Vs s5 s6 s7 s8 s9 t s12 s13 s14) = .ok (wr6 t) := by
  have gl := g.len
  have e0 : (eO 11) (cE a As Is Vs s5 s6 s7 s8 s9 t s12 s13 s14) = .ok (.str (mkS (t.tx S1))) := eO_vl rfl
  have z1 : (" x" : Str) = mkS [32, 120] := by decide +kernel
  have z2 : (".get(o)" : Str) = mkS [46, 103, 101, 116, 40, 111, 41] := by decide +kernel
  have z3 : ("," : Str) = mkS [44] := by decide +kernel
  have z4 : ("q" : Str) = mkS [113] := by decide +kernel
  unfold lWrong FP.iItems
  rw [eNew_to (o := .lst (wr6 t))]
  · rfl
  · unfold eLst
    rw [aCons_to (add3 (c := t.tx S1 ++ [41]) e0 (lit z_pc) ?_ rfl) (aCons_to (add3 (c := t.tx S1 ++ [32, 120]) e0 (lit z1) ?_ rfl) (aCons_to (add3 (c := 40 :: (t.tx S1 ++ [41])) (add3 (lit z_po) e0 ?_ rfl) (lit z_pc) ?_ ?_) (aCons_to (add3 (c := t.tx S1 ++ [46, 103, 101, 116, 40, 111, 41]) e0 (lit z2) ?_ rfl) (aCons_to (add3 (c := 107 :: 40 :: (t.tx S1 ++ [44])) (add3 (lit z_k) e0 ?_ rfl) (lit z3) ?_ ?_) (aCons_to (add3 (c := 113 :: (t.tx S1 ++ [113])) (add3 (lit z4) e0 ?_ rfl) (lit z4) ?_ ?_) rfl)))))]
    · rfl
    all_goals first | (simp only [List.length_append, List.length_cons, List.length_nil]; omega) | simp
theorem wr6_w : ∀ x ∈ wr6 t, ∃ l, x = .str (mkS l) ∧ Wrong l := by
  intro x hx
  simp only [wr6, List.mem_cons, List.not_mem_nil, or_false] at hx
  rcases hx with rfl | rfl | rfl | rfl | rfl | rfl
  · exact ⟨_, rfl, w1 g⟩
  · exact ⟨_, rfl, w2 g⟩
  · exact ⟨_, rfl, w3 g⟩
  · exact ⟨_, rfl, w4 g⟩
  · exact ⟨_, rfl, w5 g⟩
  · exact ⟨_, rfl, w6 g⟩
omit g in
theorem body4 {l : List Nat} (h : Wrong l) : lB4 (cE a As Is Vs s5 s6 s7 s8 s9 t s12 s13 (.vl (.str (mkS l)))) = .nx (cE a As Is Vs s5 s6 s7 s8 s9 t s12 s13 (.vl (.str (mkS l)))) := by
  obtain ⟨L, h1, h2⟩ := h
  unfold lB4
  have e : (eCall (aCons (eV 1) (aCons (eCall (aCons (eV 14) aNil) f_tokens_of) aNil)) f_parse_term) (cE a As Is Vs s5 s6 s7 s8 s9 t s12 s13 (.vl (.str (mkS l)))) = .ok .none := eCall_to (ds := [sgD, .list (tkD L)]) (aCons_to (eV_vl rfl) (aCons_to (eCall_to (ds := [.str (mkS l)]) rfl h1) rfl)) h2
  refine sIfN ?_
  unfold FP.tNotNn
  rw [e]; rfl
theorem body2 : ∃ s12' s13' s14', lB2 (cE a As Is Vs s5 s6 s7 s8 s9 t s12 s13 s14) = .nx (cE a As Is Vs s5 s6 s7 s8 s9 t s12' s13' s14') := by
  unfold lB2
  obtain ⟨env3, h3, s13', rfl⟩ := for_inv (t := gNm 13) (sb := lB3) (fun env => ∃ s13, env = cE a As Is Vs s5 s6 s7 s8 s9 t (.vl (.str (mkS (t.tx S4)))) s13 s14) [.str (mkS (t.tx S1)), .str (mkS (t.tx S4)), .str (mkS (t.tx S0))] (fun x hx env ⟨s, e⟩ => by
    subst e
    refine ⟨_, rfl, ?_⟩
    simp only [List.mem_cons, List.not_mem_nil, or_false] at hx
    rcases hx with rfl | rfl | rfl
    · exact ⟨_, body3 g (S := S1) (by have := g.len; omega), _, rfl⟩
    · exact ⟨_, body3 g (S := S4) (l_wide g), _, rfl⟩
    · exact ⟨_, body3 g (S := S0) (l_0 g), _, rfl⟩) _ ⟨s13, rfl⟩
  obtain ⟨env4, h4, s14', rfl⟩ := for_inv (t := gNm 14) (sb := lB4) (fun env => ∃ s14, env = cE a As Is Vs s5 s6 s7 s8 s9 t (.vl (.str (mkS (t.tx S4)))) s13' s14) (wr6 t) (fun x hx env ⟨s, e⟩ => by
    subst e
    refine ⟨_, rfl, ?_⟩
    obtain ⟨l, rfl, hw⟩ := wr6_w g x hx
    exact ⟨_, body4 hw, _, rfl⟩) _ ⟨s14, rfl⟩
  refine ⟨.vl (.str (mkS (t.tx S4))), s13', s14', ?_⟩
  refine (sSeq_nx (sIfN (if_ok g))).trans ((sSeq_nx ((sSet_ok (wide_ok g)).trans rfl)).trans ?_)
  exact (sSeq_nx ((sForE_ok (shown_ok g)).trans h3)).trans ((sForE_ok (wrong_ok g)).trans h4)
end
theorem tail_ok (a : D) (e2 e3 e4 e5 e6 e7 e8 e9 e10 e11 e12 e13 e14 : Sl) : lTail [.vl a, .vl sgD, e2, e3, e4, e5, e6, e7, e8, e9, e10, e11, e12, e13, e14] = .rt (.bool true) := by kernel_rfl
theorem start_ok (a : D) : lStart [.vl a, .vl sgD, .no, .no, .no, .no, .no, .no, .no, .no, .no, .no, .no, .no, .no] = .nx (lE a [.x] [.j] [.o] .no .no .no .no .no .no .no .no .no .no) := by kernel_rfl
theorem all_ok {a : D} {As Is Vs : List Tm} {s5 s6 s7 s8 s9 s10 s11 s12 s13 s14 : Sl} (hl : As.length + Is.length + Vs.length ≤ 1000) : lAll (lE a As Is Vs s5 s6 s7 s8 s9 s10 s11 s12 s13 s14) = .ok ((As ++ Is ++ Vs).map pr) := by
  unfold lAll FP.iItems
  have add : ∀ l m : List Tm, l.length + m.length ≤ 1000 → pyAdd (.list (l.map pr)) (.list (m.map pr)) = .ok (.list ((l ++ m).map pr)) := fun l m h => by
    unfold pyAdd
    dsimp only
    rw [if_pos (by rw [List.length_map, List.length_map]; exact Nat.le_trans h (by decide)), List.map_append]
  rw [eBin_to (eBin_to (eO_ow rfl) (eO_ow rfl) (add As Is (by omega))) (eO_ow rfl) (add (As ++ Is) Vs (by simp only [List.length_append]; omega))]
  rfl
theorem law_run (ns : List Int) : sv_law_r [.vl (.list (ns.map .int)), .vl sgD, .no, .no, .no, .no, .no, .no, .no, .no, .no, .no, .no, .no, .no] = .rt (.bool true) := by
  rw [sv_law_eq]
  have start : Inv (.list (ns.map .int)) 0 (lE (.list (ns.map .int)) [.x] [.j] [.o] .no .no .no .no .no .no .no .no .no .no) :=
    ⟨[.x], [.j], [.o], _, _, _, _, _, ⟨by simp, by decide, fun t ht => by rw [List.mem_singleton.mp ht]; exact ⟨trivial, rfl, by decide, by decide⟩⟩, ⟨by simp, by decide, fun t ht => by rw [List.mem_singleton.mp ht]; exact ⟨trivial, rfl, by decide, by decide⟩⟩, ⟨by simp, by decide, fun t ht => by rw [List.mem_singleton.mp ht]; exact ⟨trivial, rfl, by decide, by decide⟩⟩, rfl⟩
  obtain ⟨env1, h1, As, Is, Vs, s5, s6, s7, s8, s9, hA, hI, hV, rfl⟩ := for_step (t := gNm 5) (sb := lB1) (Inv (.list (ns.map .int))) (fun i => PyData.int (i : Int)) 7 0 (fun i _ hi env h => draw_step ns i (by omega) env h) _ start
  have la := hA.len
  have li := hI.len
  have lv := hV.len
  have good : ∀ t ∈ As ++ Is ++ Vs, Good t := fun t ht => by
    have : ∃ so, t.ok ∧ t.sort = so ∧ t.deep ≤ 7 + 1 ∧ (t.tx S1).length ≤ 75 := by
      rcases List.mem_append.mp ht with ht | ht
      · rcases List.mem_append.mp ht with ht | ht
        · exact ⟨2, hA.ok t ht⟩
        · exact ⟨0, hI.ok t ht⟩
      · exact ⟨1, hV.ok t ht⟩
    obtain ⟨_, x1, _, x2, x3⟩ := this
    exact ⟨x1, by omega, x3⟩
  generalize (PyData.list (ns.map .int)) = a at *
  obtain ⟨env2, h2, s10, s11, s12, s13, s14, rfl⟩ := for_inv (t := gTp 2 (gsCons (gNm 10) (gsCons (gNm 11) gsNil))) (sb := lB2) (fun env => ∃ s10 s11 s12 s13 s14, env = lE a As Is Vs s5 s6 s7 s8 s9 s10 s11 s12 s13 s14) ((As ++ Is ++ Vs).map pr) (fun x hx env ⟨s10, s11, s12, s13, s14, e⟩ => by
    subst e
    obtain ⟨t, ht, rfl⟩ := List.mem_map.mp hx
    refine ⟨cE a As Is Vs s5 s6 s7 s8 s9 t s12 s13 s14, rfl, ?_⟩
    obtain ⟨q12, q13, q14, hb⟩ := body2 (a := a) (As := As) (Is := Is) (Vs := Vs) (s5 := s5) (s6 := s6) (s7 := s7) (s8 := s8) (s9 := s9) (s12 := s12) (s13 := s13) (s14 := s14) (good t ht)
    exact ⟨_, hb, _, _, _, _, _, rfl⟩) _ ⟨.no, .no, .no, .no, .no, rfl⟩
  refine (sSeq_nx (start_ok a)).trans ?_
  refine (sSeq_nx ((sForE_ok (iRng1_to (n := 7) rfl (by decide))).trans h1)).trans ?_
  refine (sSeq_nx ((sForE_ok (all_ok (by omega))).trans h2)).trans ?_
  exact tail_ok a _ _ _ _ _ _ _ _ _ _ _ _ _
theorem law_true (ns : List Int) (hl : ns.length ≤ 63) (hb : ∀ z ∈ ns, Builtin.Int.intBits z ≤ 1048576) : f_law [.list (ns.map .int)] = .ok (.bool true) := by
  unfold f_law sv_law
  rw [show env0 15 [.list (ns.map .int)] = [.vl (.list (ns.map .int)), .no, .no, .no, .no, .no, .no, .no, .no, .no, .no, .no, .no, .no, .no] from rfl, sSeq_nx (prob _), law_run]
  rfl
end Law_k03
namespace Law_k03
open FP PySem PySem.Spec PyProof.Rows L2
/-! ### what the top leaves, looked at -/
def fa : List He.Fa := [.free "all", .free "any", .free "bool", .free "int", .free "isinstance", .free "len", .free "list", .free "max", .free "range", .free "str", .free "sum", .free "super", .free "tuple", .glo "is_name", .glo "tokens_of", .glo "nesting", .glo "lines_of", .glo "empty_signature", .glo "sort_names", .glo "function_names", .glo "sort_row", .glo "function_row", .glo "kind_of", .glo "_check_new", .glo "_with_sort", .glo "add_plain", .glo "add_finite", .glo "part_count", .glo "add_record", .glo "has_arrays", .glo "closed_count", .glo "add_array", .glo "add_function", .glo "size_of", .glo "check_term", .glo "sort_of", .glo "term_text", .glo "_read_parts", .glo "read_term", .glo "is_term", .glo "parse_term", .glo "check_equation", .glo "check_size", .glo "check_formula", .glo "_read_equation", .glo "_read_part", .glo "_read_from", .glo "parse_formula", .glo "_read_names", .glo "_read_sort", .glo "_read_record", .glo "_read_array", .glo "_read_function", .glo "_with_line", .glo "parse_problem", .glo "_law_strictly", .glo "_law_cell", .glo "_law_draw", .glo "law"]
def dd_is_name : He.DefD := ⟨("is_name", none), "is_name", "is_name", defArgs st_is_name, defBody st_is_name, defScope st_is_name, [], []⟩
def dd_tokens_of : He.DefD := ⟨("tokens_of", none), "tokens_of", "tokens_of", defArgs st_tokens_of, defBody st_tokens_of, defScope st_tokens_of, [], []⟩
def dd_nesting : He.DefD := ⟨("nesting", none), "nesting", "nesting", defArgs st_nesting, defBody st_nesting, defScope st_nesting, [], []⟩
def dd_lines_of : He.DefD := ⟨("lines_of", none), "lines_of", "lines_of", defArgs st_lines_of, defBody st_lines_of, defScope st_lines_of, [], []⟩
def dd_empty_signature : He.DefD := ⟨("empty_signature", none), "empty_signature", "empty_signature", defArgs st_empty_signature, defBody st_empty_signature, defScope st_empty_signature, [], []⟩
def dd_sort_names : He.DefD := ⟨("sort_names", none), "sort_names", "sort_names", defArgs st_sort_names, defBody st_sort_names, defScope st_sort_names, [], []⟩
def dd_function_names : He.DefD := ⟨("function_names", none), "function_names", "function_names", defArgs st_function_names, defBody st_function_names, defScope st_function_names, [], []⟩
def dd_sort_row : He.DefD := ⟨("sort_row", none), "sort_row", "sort_row", defArgs st_sort_row, defBody st_sort_row, defScope st_sort_row, [], []⟩
def dd_function_row : He.DefD := ⟨("function_row", none), "function_row", "function_row", defArgs st_function_row, defBody st_function_row, defScope st_function_row, [], []⟩
def dd_kind_of : He.DefD := ⟨("kind_of", none), "kind_of", "kind_of", defArgs st_kind_of, defBody st_kind_of, defScope st_kind_of, [], []⟩
def dd__check_new : He.DefD := ⟨("_check_new", none), "_check_new", "_check_new", defArgs st__check_new, defBody st__check_new, defScope st__check_new, [], []⟩
def dd__with_sort : He.DefD := ⟨("_with_sort", none), "_with_sort", "_with_sort", defArgs st__with_sort, defBody st__with_sort, defScope st__with_sort, [], []⟩
def dd_add_plain : He.DefD := ⟨("add_plain", none), "add_plain", "add_plain", defArgs st_add_plain, defBody st_add_plain, defScope st_add_plain, [], []⟩
def dd_add_finite : He.DefD := ⟨("add_finite", none), "add_finite", "add_finite", defArgs st_add_finite, defBody st_add_finite, defScope st_add_finite, [], []⟩
def dd_part_count : He.DefD := ⟨("part_count", none), "part_count", "part_count", defArgs st_part_count, defBody st_part_count, defScope st_part_count, [], []⟩
def dd_add_record : He.DefD := ⟨("add_record", none), "add_record", "add_record", defArgs st_add_record, defBody st_add_record, defScope st_add_record, [], []⟩
def dd_has_arrays : He.DefD := ⟨("has_arrays", none), "has_arrays", "has_arrays", defArgs st_has_arrays, defBody st_has_arrays, defScope st_has_arrays, [], []⟩
def dd_closed_count : He.DefD := ⟨("closed_count", none), "closed_count", "closed_count", defArgs st_closed_count, defBody st_closed_count, defScope st_closed_count, [], []⟩
def dd_add_array : He.DefD := ⟨("add_array", none), "add_array", "add_array", defArgs st_add_array, defBody st_add_array, defScope st_add_array, [], []⟩
def dd_add_function : He.DefD := ⟨("add_function", none), "add_function", "add_function", defArgs st_add_function, defBody st_add_function, defScope st_add_function, [], []⟩
def dd_size_of : He.DefD := ⟨("size_of", none), "size_of", "size_of", defArgs st_size_of, defBody st_size_of, defScope st_size_of, [], []⟩
def dd_check_term : He.DefD := ⟨("check_term", none), "check_term", "check_term", defArgs st_check_term, defBody st_check_term, defScope st_check_term, [], []⟩
def dd_sort_of : He.DefD := ⟨("sort_of", none), "sort_of", "sort_of", defArgs st_sort_of, defBody st_sort_of, defScope st_sort_of, [], []⟩
def dd_term_text : He.DefD := ⟨("term_text", none), "term_text", "term_text", defArgs st_term_text, defBody st_term_text, defScope st_term_text, [], []⟩
def dd__read_parts : He.DefD := ⟨("_read_parts", none), "_read_parts", "_read_parts", defArgs st__read_parts, defBody st__read_parts, defScope st__read_parts, [], []⟩
def dd_read_term : He.DefD := ⟨("read_term", none), "read_term", "read_term", defArgs st_read_term, defBody st_read_term, defScope st_read_term, [], []⟩
def dd_is_term : He.DefD := ⟨("is_term", none), "is_term", "is_term", defArgs st_is_term, defBody st_is_term, defScope st_is_term, [], []⟩
def dd_parse_term : He.DefD := ⟨("parse_term", none), "parse_term", "parse_term", defArgs st_parse_term, defBody st_parse_term, defScope st_parse_term, [.adr (He.dflAt ("parse_term", none) 0)], []⟩
def dd_check_equation : He.DefD := ⟨("check_equation", none), "check_equation", "check_equation", defArgs st_check_equation, defBody st_check_equation, defScope st_check_equation, [], []⟩
def dd_check_size : He.DefD := ⟨("check_size", none), "check_size", "check_size", defArgs st_check_size, defBody st_check_size, defScope st_check_size, [], []⟩
def dd_check_formula : He.DefD := ⟨("check_formula", none), "check_formula", "check_formula", defArgs st_check_formula, defBody st_check_formula, defScope st_check_formula, [], []⟩
def dd__read_equation : He.DefD := ⟨("_read_equation", none), "_read_equation", "_read_equation", defArgs st__read_equation, defBody st__read_equation, defScope st__read_equation, [], []⟩
def dd__read_part : He.DefD := ⟨("_read_part", none), "_read_part", "_read_part", defArgs st__read_part, defBody st__read_part, defScope st__read_part, [], []⟩
def dd__read_from : He.DefD := ⟨("_read_from", none), "_read_from", "_read_from", defArgs st__read_from, defBody st__read_from, defScope st__read_from, [], []⟩
def dd_parse_formula : He.DefD := ⟨("parse_formula", none), "parse_formula", "parse_formula", defArgs st_parse_formula, defBody st_parse_formula, defScope st_parse_formula, [], []⟩
def dd__read_names : He.DefD := ⟨("_read_names", none), "_read_names", "_read_names", defArgs st__read_names, defBody st__read_names, defScope st__read_names, [], []⟩
def dd__read_sort : He.DefD := ⟨("_read_sort", none), "_read_sort", "_read_sort", defArgs st__read_sort, defBody st__read_sort, defScope st__read_sort, [], []⟩
def dd__read_record : He.DefD := ⟨("_read_record", none), "_read_record", "_read_record", defArgs st__read_record, defBody st__read_record, defScope st__read_record, [], []⟩
def dd__read_array : He.DefD := ⟨("_read_array", none), "_read_array", "_read_array", defArgs st__read_array, defBody st__read_array, defScope st__read_array, [], []⟩
def dd__read_function : He.DefD := ⟨("_read_function", none), "_read_function", "_read_function", defArgs st__read_function, defBody st__read_function, defScope st__read_function, [], []⟩
def dd__with_line : He.DefD := ⟨("_with_line", none), "_with_line", "_with_line", defArgs st__with_line, defBody st__with_line, defScope st__with_line, [], []⟩
def dd_parse_problem : He.DefD := ⟨("parse_problem", none), "parse_problem", "parse_problem", defArgs st_parse_problem, defBody st_parse_problem, defScope st_parse_problem, [], []⟩
def dd__law_strictly : He.DefD := ⟨("_law_strictly", none), "_law_strictly", "_law_strictly", defArgs st__law_strictly, defBody st__law_strictly, defScope st__law_strictly, [], []⟩
def dd__law_cell : He.DefD := ⟨("_law_cell", none), "_law_cell", "_law_cell", defArgs st__law_cell, defBody st__law_cell, defScope st__law_cell, [], []⟩
def dd__law_draw : He.DefD := ⟨("_law_draw", none), "_law_draw", "_law_draw", defArgs st__law_draw, defBody st__law_draw, defScope st__law_draw, [], []⟩
def dd_law : He.DefD := ⟨("law", none), "law", "law", defArgs st_law, defBody st_law, defScope st_law, [], []⟩
def fn : List He.DefD := [dd_is_name, dd_tokens_of, dd_nesting, dd_lines_of, dd_empty_signature, dd_sort_names, dd_function_names, dd_sort_row, dd_function_row, dd_kind_of, dd__check_new, dd__with_sort, dd_add_plain, dd_add_finite, dd_part_count, dd_add_record, dd_has_arrays, dd_closed_count, dd_add_array, dd_add_function, dd_size_of, dd_check_term, dd_sort_of, dd_term_text, dd__read_parts, dd_read_term, dd_is_term, dd_parse_term, dd_check_equation, dd_check_size, dd_check_formula, dd__read_equation, dd__read_part, dd__read_from, dd_parse_formula, dd__read_names, dd__read_sort, dd__read_record, dd__read_array, dd__read_function, dd__with_line, dd_parse_problem, dd__law_strictly, dd__law_cell, dd__law_draw, dd_law]
def tf : List He.Defn := [("is_name", none), ("part_count", none), ("add_record", none), ("has_arrays", none), ("size_of", none), ("_read_names", none), ("_read_array", none)]
def ts : List He.Tab := [(gA "READERS", fs_READERS.map (·.1))]
def exK (K : PySem.W.Frag) : Bool := [globB K "BINDS" d_BINDS, globB K "CLAIMS" d_CLAIMS, globB K "CONSTANTS" d_CONSTANTS, globB K "DEEP" d_DEEP, globB K "FIELDS" d_FIELDS, globB K "FIRST" d_FIRST, globB K "FUNCTIONS" d_FUNCTIONS, globB K "INDEXES" d_INDEXES, globB K "LONG" d_LONG, globB K "MARKS" d_MARKS, globB K "NAME" d_NAME, globB K "PLACES" d_PLACES, globB K "SIGNS" d_SIGNS, globB K "SIZE" d_SIZE, globB K "SORTS" d_SORTS, globB K "WIDE" d_WIDE, globB K "WORDS" d_WORDS, exdB K (PySem.Challenge.rw_sameterms_k03_texts_of_terms).prog.main.file xd_SignError, exdB K (PySem.Challenge.rw_sameterms_k03_texts_of_terms).prog.main.file xd_SortError, exdB K (PySem.Challenge.rw_sameterms_k03_texts_of_terms).prog.main.file xd_TextError, exdB K (PySem.Challenge.rw_sameterms_k03_texts_of_terms).prog.main.file xd_TooMany, exmB K xds, disB K "READERS" fs_READERS, rdV K (.ref (He.dflAt ("parse_term", none) 0 K)) (.tuple [(.str "get"), (.str "put")])].all id
abbrev R : PySem.W.OpenRow := PySem.W.OpenLaw.row PySem.Challenge.rw_sameterms_k03_texts_of_terms
abbrev hk : PySem.W.Hook := hookY 6 fa fn ts tf exK xds
def ob (s : PySem.W.SharedT) : He.AlX × List FnU := obsY 6 fa fn ts tf exK xds (HandSHeadRun.getT s)
theorem ob_eq (s : PySem.W.SharedT) : ob s = hk.obs s.abs := obsY_eq (HandSHeadRun.getT_eq s)
def loose : List PySem.Str := [("TermsError" : PySem.Str), ("SignError" : PySem.Str), ("SortError" : PySem.Str), ("TextError" : PySem.Str), ("TooMany" : PySem.Str), ("NAME" : PySem.Str), ("SORTS" : PySem.Str), ("CONSTANTS" : PySem.Str), ("INDEXES" : PySem.Str), ("WIDE" : PySem.Str), ("FIELDS" : PySem.Str), ("FUNCTIONS" : PySem.Str), ("PLACES" : PySem.Str), ("SIZE" : PySem.Str), ("CLAIMS" : PySem.Str), ("DEEP" : PySem.Str), ("LONG" : PySem.Str), ("FIRST" : PySem.Str), ("SIGNS" : PySem.Str), ("WORDS" : PySem.Str), ("MARKS" : PySem.Str), ("is_name" : PySem.Str), ("tokens_of" : PySem.Str), ("nesting" : PySem.Str), ("lines_of" : PySem.Str), ("empty_signature" : PySem.Str), ("sort_names" : PySem.Str), ("function_names" : PySem.Str), ("sort_row" : PySem.Str), ("function_row" : PySem.Str), ("kind_of" : PySem.Str), ("_check_new" : PySem.Str), ("_with_sort" : PySem.Str), ("add_plain" : PySem.Str), ("add_finite" : PySem.Str), ("part_count" : PySem.Str), ("add_record" : PySem.Str), ("has_arrays" : PySem.Str), ("closed_count" : PySem.Str), ("add_array" : PySem.Str), ("add_function" : PySem.Str), ("size_of" : PySem.Str), ("check_term" : PySem.Str), ("sort_of" : PySem.Str), ("term_text" : PySem.Str), ("_read_parts" : PySem.Str), ("read_term" : PySem.Str), ("parse_term" : PySem.Str), ("is_term" : PySem.Str), ("check_equation" : PySem.Str), ("BINDS" : PySem.Str), ("check_size" : PySem.Str), ("check_formula" : PySem.Str), ("_read_equation" : PySem.Str), ("_read_part" : PySem.Str), ("_read_from" : PySem.Str), ("parse_formula" : PySem.Str), ("_read_names" : PySem.Str), ("_read_sort" : PySem.Str), ("_read_record" : PySem.Str), ("_read_array" : PySem.Str), ("_read_function" : PySem.Str), ("READERS" : PySem.Str), ("parse_problem" : PySem.Str), ("_with_line" : PySem.Str), ("_law_strictly" : PySem.Str), ("_law_cell" : PySem.Str), ("_law_draw" : PySem.Str)]
abbrev RunAt (w : World) : Prop := HandSHeadRun.RunEq R (PySem.W.view R.prog [77]) hk ob 9000 loose w
theorem runT (w : World) : RunAt (w.withFollow "special-get-raises" true) := by
  intro os
  kernel_rfl
theorem runF (w : World) : RunAt (w.withFollow "special-get-raises" false) := by
  intro os
  kernel_rfl
theorem run0 (w : World) : ∀ b : Bool, RunAt (w.withFollow "special-get-raises" b)
  | true => runT w
  | false => runF w
theorem run (w : World) : RunAt w :=
  @Eq.subst World RunAt _ _ (World.withFollow_self w "special-get-raises") (run0 w (w.params.followText "special-get-raises"))
theorem facts {w : World} {K : PySem.W.Frag} {h : Heap} {mg : Str → Option Value} {f : Addr} (X : K.In h) (G : h.Ns mainGlobals mg) (hfa : mg ("law" : Str) = some (.ref f)) (c : He.SaysX fa fn ts tf exK w h K) (eu : (xds.map fun x => fnU K x.name) = xds.map ExD.val)
    (hm : ∀ ns : List Int, ns.length ≤ 63 → (∀ z ∈ ns, Builtin.Int.intBits z ≤ 1048576) → f_law [.list (ns.map .int)] = .ok (.bool true)) : LamX.LawAtS PySem.Challenge.rw_sameterms_k03_texts_of_terms w K (L2.CX (PySem.Challenge.rw_sameterms_k03_texts_of_terms).prog w) 95 63 "script" mg f h := by
  have cd := c.t.d
  have ge := List.all_eq_true.mp (show [globB K "BINDS" d_BINDS, globB K "CLAIMS" d_CLAIMS, globB K "CONSTANTS" d_CONSTANTS, globB K "DEEP" d_DEEP, globB K "FIELDS" d_FIELDS, globB K "FIRST" d_FIRST, globB K "FUNCTIONS" d_FUNCTIONS, globB K "INDEXES" d_INDEXES, globB K "LONG" d_LONG, globB K "MARKS" d_MARKS, globB K "NAME" d_NAME, globB K "PLACES" d_PLACES, globB K "SIGNS" d_SIGNS, globB K "SIZE" d_SIZE, globB K "SORTS" d_SORTS, globB K "WIDE" d_WIDE, globB K "WORDS" d_WORDS, exdB K (PySem.Challenge.rw_sameterms_k03_texts_of_terms).prog.main.file xd_SignError, exdB K (PySem.Challenge.rw_sameterms_k03_texts_of_terms).prog.main.file xd_SortError, exdB K (PySem.Challenge.rw_sameterms_k03_texts_of_terms).prog.main.file xd_TextError, exdB K (PySem.Challenge.rw_sameterms_k03_texts_of_terms).prog.main.file xd_TooMany, exmB K xds, disB K "READERS" fs_READERS, rdV K (.ref (He.dflAt ("parse_term", none) 0 K)) (.tuple [(.str "get"), (.str "put")])].all id = true from c.more)
  have WB : ∀ base : Heap, K.In base → base.Ns mainGlobals mg → (∀ p ∈ tf.map (He.cT K), LamX.TabB base mg p.1 p.2) → Wd (PySem.Challenge.rw_sameterms_k03_texts_of_terms).prog w K mg base ((tf.map (He.cT K)).map (·.2)) := fun base KB GB TB => {
    ek := exK_of (file := (PySem.Challenge.rw_sameterms_k03_texts_of_terms).prog.main.file) X G (xs := xds) (List.forall_mem_cons.mpr ⟨ge (exdB K (PySem.Challenge.rw_sameterms_k03_texts_of_terms).prog.main.file xd_SignError) (List.mem_of_getElem? (i := 17) rfl), List.forall_mem_cons.mpr ⟨ge (exdB K (PySem.Challenge.rw_sameterms_k03_texts_of_terms).prog.main.file xd_SortError) (List.mem_of_getElem? (i := 18) rfl), List.forall_mem_cons.mpr ⟨ge (exdB K (PySem.Challenge.rw_sameterms_k03_texts_of_terms).prog.main.file xd_TextError) (List.mem_of_getElem? (i := 19) rfl), List.forall_mem_cons.mpr ⟨ge (exdB K (PySem.Challenge.rw_sameterms_k03_texts_of_terms).prog.main.file xd_TooMany) (List.mem_of_getElem? (i := 20) rfl), fun _ h => nomatch h⟩⟩⟩⟩) (ge (exmB K xds) (List.mem_of_getElem? (i := 21) rfl))
    xc_SignError := xc2 (P := (PySem.Challenge.rw_sameterms_k03_texts_of_terms).prog) X G (x := xd_SignError) (a := "what") (b := "name") (z := "what") (ge (exdB K (PySem.Challenge.rw_sameterms_k03_texts_of_terms).prog.main.file xd_SignError) (List.mem_of_getElem? (i := 17) rfl)) (map_at eu xd_SignError (List.mem_of_getElem? (i := 0) rfl)) rfl (xt_SignError (by kernel_rfl))
    xc_SortError := xc2 (P := (PySem.Challenge.rw_sameterms_k03_texts_of_terms).prog) X G (x := xd_SortError) (a := "what") (b := "name") (z := "what") (ge (exdB K (PySem.Challenge.rw_sameterms_k03_texts_of_terms).prog.main.file xd_SortError) (List.mem_of_getElem? (i := 18) rfl)) (map_at eu xd_SortError (List.mem_of_getElem? (i := 1) rfl)) rfl (xt_SortError (by kernel_rfl))
    xc_TextError := xc2 (P := (PySem.Challenge.rw_sameterms_k03_texts_of_terms).prog) X G (x := xd_TextError) (a := "line") (b := "what") (z := "what") (ge (exdB K (PySem.Challenge.rw_sameterms_k03_texts_of_terms).prog.main.file xd_TextError) (List.mem_of_getElem? (i := 19) rfl)) (map_at eu xd_TextError (List.mem_of_getElem? (i := 2) rfl)) rfl (xt_TextError (by kernel_rfl))
    xc_TooMany := xc1 (P := (PySem.Challenge.rw_sameterms_k03_texts_of_terms).prog) X G (x := xd_TooMany) (a := "what") (ge (exdB K (PySem.Challenge.rw_sameterms_k03_texts_of_terms).prog.main.file xd_TooMany) (List.mem_of_getElem? (i := 20) rfl)) (map_at eu xd_TooMany (List.mem_of_getElem? (i := 3) rfl)) rfl (xt_TooMany (by kernel_rfl))
    n_all := He.free_ok X G (cd.fact 0 (f := .free "all") rfl)
    n_any := He.free_ok X G (cd.fact 1 (f := .free "any") rfl)
    n_bool := He.free_ok X G (cd.fact 2 (f := .free "bool") rfl)
    n_int := He.free_ok X G (cd.fact 3 (f := .free "int") rfl)
    n_isinstance := He.free_ok X G (cd.fact 4 (f := .free "isinstance") rfl)
    n_len := He.free_ok X G (cd.fact 5 (f := .free "len") rfl)
    n_list := He.free_ok X G (cd.fact 6 (f := .free "list") rfl)
    n_max := He.free_ok X G (cd.fact 7 (f := .free "max") rfl)
    n_range := He.free_ok X G (cd.fact 8 (f := .free "range") rfl)
    n_str := He.free_ok X G (cd.fact 9 (f := .free "str") rfl)
    n_sum := He.free_ok X G (cd.fact 10 (f := .free "sum") rfl)
    n_super := He.free_ok X G (cd.fact 11 (f := .free "super") rfl)
    n_tuple := He.free_ok X G (cd.fact 12 (f := .free "tuple") rfl)
    g_BINDS := globB_ok X G (ge (globB K "BINDS" d_BINDS) (List.mem_of_getElem? (i := 0) rfl))
    g_CLAIMS := globB_ok X G (ge (globB K "CLAIMS" d_CLAIMS) (List.mem_of_getElem? (i := 1) rfl))
    g_CONSTANTS := globB_ok X G (ge (globB K "CONSTANTS" d_CONSTANTS) (List.mem_of_getElem? (i := 2) rfl))
    g_DEEP := globB_ok X G (ge (globB K "DEEP" d_DEEP) (List.mem_of_getElem? (i := 3) rfl))
    g_FIELDS := globB_ok X G (ge (globB K "FIELDS" d_FIELDS) (List.mem_of_getElem? (i := 4) rfl))
    g_FIRST := globB_ok X G (ge (globB K "FIRST" d_FIRST) (List.mem_of_getElem? (i := 5) rfl))
    g_FUNCTIONS := globB_ok X G (ge (globB K "FUNCTIONS" d_FUNCTIONS) (List.mem_of_getElem? (i := 6) rfl))
    g_INDEXES := globB_ok X G (ge (globB K "INDEXES" d_INDEXES) (List.mem_of_getElem? (i := 7) rfl))
    g_LONG := globB_ok X G (ge (globB K "LONG" d_LONG) (List.mem_of_getElem? (i := 8) rfl))
    g_MARKS := globB_ok X G (ge (globB K "MARKS" d_MARKS) (List.mem_of_getElem? (i := 9) rfl))
    g_NAME := globB_ok X G (ge (globB K "NAME" d_NAME) (List.mem_of_getElem? (i := 10) rfl))
    g_PLACES := globB_ok X G (ge (globB K "PLACES" d_PLACES) (List.mem_of_getElem? (i := 11) rfl))
    g_SIGNS := globB_ok X G (ge (globB K "SIGNS" d_SIGNS) (List.mem_of_getElem? (i := 12) rfl))
    g_SIZE := globB_ok X G (ge (globB K "SIZE" d_SIZE) (List.mem_of_getElem? (i := 13) rfl))
    g_SORTS := globB_ok X G (ge (globB K "SORTS" d_SORTS) (List.mem_of_getElem? (i := 14) rfl))
    g_WIDE := globB_ok X G (ge (globB K "WIDE" d_WIDE) (List.mem_of_getElem? (i := 15) rfl))
    g_WORDS := globB_ok X G (ge (globB K "WORDS" d_WORDS) (List.mem_of_getElem? (i := 16) rfl))
    ds_READERS := disG_of X G (c.t.tab 0 (t := (gA "READERS", fs_READERS.map (·.1))) rfl) (ge (disB K "READERS" fs_READERS) (List.mem_of_getElem? (i := 22) rfl))
    df_parse_term := ge (rdV K (.ref (He.dflAt ("parse_term", none) 0 K)) (.tuple [(.str "get"), (.str "put")])) (List.mem_of_getElem? (i := 23) rfl)
    fu_is_name := cd.def_ 0 (d := dd_is_name) rfl
    gl_is_name := He.glo_ok X G (cd.fact 13 (f := .glo "is_name") rfl)
    fu_tokens_of := cd.def_ 1 (d := dd_tokens_of) rfl
    gl_tokens_of := He.glo_ok X G (cd.fact 14 (f := .glo "tokens_of") rfl)
    fu_nesting := cd.def_ 2 (d := dd_nesting) rfl
    gl_nesting := He.glo_ok X G (cd.fact 15 (f := .glo "nesting") rfl)
    fu_lines_of := cd.def_ 3 (d := dd_lines_of) rfl
    gl_lines_of := He.glo_ok X G (cd.fact 16 (f := .glo "lines_of") rfl)
    fu_empty_signature := cd.def_ 4 (d := dd_empty_signature) rfl
    gl_empty_signature := He.glo_ok X G (cd.fact 17 (f := .glo "empty_signature") rfl)
    fu_sort_names := cd.def_ 5 (d := dd_sort_names) rfl
    gl_sort_names := He.glo_ok X G (cd.fact 18 (f := .glo "sort_names") rfl)
    fu_function_names := cd.def_ 6 (d := dd_function_names) rfl
    gl_function_names := He.glo_ok X G (cd.fact 19 (f := .glo "function_names") rfl)
    fu_sort_row := cd.def_ 7 (d := dd_sort_row) rfl
    gl_sort_row := He.glo_ok X G (cd.fact 20 (f := .glo "sort_row") rfl)
    fu_function_row := cd.def_ 8 (d := dd_function_row) rfl
    gl_function_row := He.glo_ok X G (cd.fact 21 (f := .glo "function_row") rfl)
    fu_kind_of := cd.def_ 9 (d := dd_kind_of) rfl
    gl_kind_of := He.glo_ok X G (cd.fact 22 (f := .glo "kind_of") rfl)
    fu__check_new := cd.def_ 10 (d := dd__check_new) rfl
    gl__check_new := He.glo_ok X G (cd.fact 23 (f := .glo "_check_new") rfl)
    fu__with_sort := cd.def_ 11 (d := dd__with_sort) rfl
    gl__with_sort := He.glo_ok X G (cd.fact 24 (f := .glo "_with_sort") rfl)
    fu_add_plain := cd.def_ 12 (d := dd_add_plain) rfl
    gl_add_plain := He.glo_ok X G (cd.fact 25 (f := .glo "add_plain") rfl)
    fu_add_finite := cd.def_ 13 (d := dd_add_finite) rfl
    gl_add_finite := He.glo_ok X G (cd.fact 26 (f := .glo "add_finite") rfl)
    fu_part_count := cd.def_ 14 (d := dd_part_count) rfl
    gl_part_count := He.glo_ok X G (cd.fact 27 (f := .glo "part_count") rfl)
    fu_add_record := cd.def_ 15 (d := dd_add_record) rfl
    gl_add_record := He.glo_ok X G (cd.fact 28 (f := .glo "add_record") rfl)
    fu_has_arrays := cd.def_ 16 (d := dd_has_arrays) rfl
    gl_has_arrays := He.glo_ok X G (cd.fact 29 (f := .glo "has_arrays") rfl)
    fu_closed_count := cd.def_ 17 (d := dd_closed_count) rfl
    gl_closed_count := He.glo_ok X G (cd.fact 30 (f := .glo "closed_count") rfl)
    fu_add_array := cd.def_ 18 (d := dd_add_array) rfl
    gl_add_array := He.glo_ok X G (cd.fact 31 (f := .glo "add_array") rfl)
    fu_add_function := cd.def_ 19 (d := dd_add_function) rfl
    gl_add_function := He.glo_ok X G (cd.fact 32 (f := .glo "add_function") rfl)
    fu_size_of := cd.def_ 20 (d := dd_size_of) rfl
    gl_size_of := He.glo_ok X G (cd.fact 33 (f := .glo "size_of") rfl)
    fu_check_term := cd.def_ 21 (d := dd_check_term) rfl
    gl_check_term := He.glo_ok X G (cd.fact 34 (f := .glo "check_term") rfl)
    fu_sort_of := cd.def_ 22 (d := dd_sort_of) rfl
    gl_sort_of := He.glo_ok X G (cd.fact 35 (f := .glo "sort_of") rfl)
    fu_term_text := cd.def_ 23 (d := dd_term_text) rfl
    gl_term_text := He.glo_ok X G (cd.fact 36 (f := .glo "term_text") rfl)
    fu__read_parts := cd.def_ 24 (d := dd__read_parts) rfl
    gl__read_parts := He.glo_ok X G (cd.fact 37 (f := .glo "_read_parts") rfl)
    fu_read_term := cd.def_ 25 (d := dd_read_term) rfl
    gl_read_term := He.glo_ok X G (cd.fact 38 (f := .glo "read_term") rfl)
    fu_is_term := cd.def_ 26 (d := dd_is_term) rfl
    gl_is_term := He.glo_ok X G (cd.fact 39 (f := .glo "is_term") rfl)
    fu_parse_term := cd.def_ 27 (d := dd_parse_term) rfl
    gl_parse_term := He.glo_ok X G (cd.fact 40 (f := .glo "parse_term") rfl)
    fu_check_equation := cd.def_ 28 (d := dd_check_equation) rfl
    gl_check_equation := He.glo_ok X G (cd.fact 41 (f := .glo "check_equation") rfl)
    fu_check_size := cd.def_ 29 (d := dd_check_size) rfl
    gl_check_size := He.glo_ok X G (cd.fact 42 (f := .glo "check_size") rfl)
    fu_check_formula := cd.def_ 30 (d := dd_check_formula) rfl
    gl_check_formula := He.glo_ok X G (cd.fact 43 (f := .glo "check_formula") rfl)
    fu__read_equation := cd.def_ 31 (d := dd__read_equation) rfl
    gl__read_equation := He.glo_ok X G (cd.fact 44 (f := .glo "_read_equation") rfl)
    fu__read_part := cd.def_ 32 (d := dd__read_part) rfl
    gl__read_part := He.glo_ok X G (cd.fact 45 (f := .glo "_read_part") rfl)
    fu__read_from := cd.def_ 33 (d := dd__read_from) rfl
    gl__read_from := He.glo_ok X G (cd.fact 46 (f := .glo "_read_from") rfl)
    fu_parse_formula := cd.def_ 34 (d := dd_parse_formula) rfl
    gl_parse_formula := He.glo_ok X G (cd.fact 47 (f := .glo "parse_formula") rfl)
    fu__read_names := cd.def_ 35 (d := dd__read_names) rfl
    gl__read_names := He.glo_ok X G (cd.fact 48 (f := .glo "_read_names") rfl)
    fu__read_sort := cd.def_ 36 (d := dd__read_sort) rfl
    gl__read_sort := He.glo_ok X G (cd.fact 49 (f := .glo "_read_sort") rfl)
    fu__read_record := cd.def_ 37 (d := dd__read_record) rfl
    gl__read_record := He.glo_ok X G (cd.fact 50 (f := .glo "_read_record") rfl)
    fu__read_array := cd.def_ 38 (d := dd__read_array) rfl
    gl__read_array := He.glo_ok X G (cd.fact 51 (f := .glo "_read_array") rfl)
    fu__read_function := cd.def_ 39 (d := dd__read_function) rfl
    gl__read_function := He.glo_ok X G (cd.fact 52 (f := .glo "_read_function") rfl)
    fu__with_line := cd.def_ 40 (d := dd__with_line) rfl
    gl__with_line := He.glo_ok X G (cd.fact 53 (f := .glo "_with_line") rfl)
    fu_parse_problem := cd.def_ 41 (d := dd_parse_problem) rfl
    gl_parse_problem := He.glo_ok X G (cd.fact 54 (f := .glo "parse_problem") rfl)
    fu__law_strictly := cd.def_ 42 (d := dd__law_strictly) rfl
    gl__law_strictly := He.glo_ok X G (cd.fact 55 (f := .glo "_law_strictly") rfl)
    fu__law_cell := cd.def_ 43 (d := dd__law_cell) rfl
    gl__law_cell := He.glo_ok X G (cd.fact 56 (f := .glo "_law_cell") rfl)
    fu__law_draw := cd.def_ 44 (d := dd__law_draw) rfl
    gl__law_draw := He.glo_ok X G (cd.fact 57 (f := .glo "_law_draw") rfl)
    fu_law := cd.def_ 45 (d := dd_law) rfl
    gl_law := He.glo_ok X G (cd.fact 58 (f := .glo "law") rfl)
    inT_is_name := List.mem_map.mpr ⟨He.cT K ("is_name", none), List.mem_map.mpr ⟨_, by decide, rfl⟩, rfl⟩
    tb_is_name := TB (He.cT K ("is_name", none)) (List.mem_map.mpr ⟨_, by decide, rfl⟩)
    inT_part_count := List.mem_map.mpr ⟨He.cT K ("part_count", none), List.mem_map.mpr ⟨_, by decide, rfl⟩, rfl⟩
    tb_part_count := TB (He.cT K ("part_count", none)) (List.mem_map.mpr ⟨_, by decide, rfl⟩)
    inT_add_record := List.mem_map.mpr ⟨He.cT K ("add_record", none), List.mem_map.mpr ⟨_, by decide, rfl⟩, rfl⟩
    tb_add_record := TB (He.cT K ("add_record", none)) (List.mem_map.mpr ⟨_, by decide, rfl⟩)
    inT_has_arrays := List.mem_map.mpr ⟨He.cT K ("has_arrays", none), List.mem_map.mpr ⟨_, by decide, rfl⟩, rfl⟩
    tb_has_arrays := TB (He.cT K ("has_arrays", none)) (List.mem_map.mpr ⟨_, by decide, rfl⟩)
    inT_size_of := List.mem_map.mpr ⟨He.cT K ("size_of", none), List.mem_map.mpr ⟨_, by decide, rfl⟩, rfl⟩
    tb_size_of := TB (He.cT K ("size_of", none)) (List.mem_map.mpr ⟨_, by decide, rfl⟩)
    inT__read_names := List.mem_map.mpr ⟨He.cT K ("_read_names", none), List.mem_map.mpr ⟨_, by decide, rfl⟩, rfl⟩
    tb__read_names := TB (He.cT K ("_read_names", none)) (List.mem_map.mpr ⟨_, by decide, rfl⟩)
    inT__read_array := List.mem_map.mpr ⟨He.cT K ("_read_array", none), List.mem_map.mpr ⟨_, by decide, rfl⟩, rfl⟩
    tb__read_array := TB (He.cT K ("_read_array", none)) (List.mem_map.mpr ⟨_, by decide, rfl⟩)
    }
  have e := hfa.symm.trans (He.glo_ok X G (cd.fact 58 (f := .glo "law") rfl))
  cases e
  obtain ⟨fd, Fu⟩ := cd.def_ 45 (d := dd_law) rfl
  exact law_at X c Fu (fun _ _ _ _ _ _ us hl => match us, hl with | [_], _ => rfl) (fun base KB GB TB => fnok_law Fu (WB base KB GB TB)) hm
end Law_k03
open PySem PySem.W PySem.Calls PyProof.Rows
theorem PySem.Challenge.cw_sameterms_k03_texts_of_terms_holds : PySem.Challenge.rw_sameterms_k03_texts_of_terms.Holds := by
  w_on; o_law
  refine HandSHeadRun.head_any (r := OpenLaw.row PySem.Challenge.rw_sameterms_k03_texts_of_terms) (q := view (OpenLaw.row PySem.Challenge.rw_sameterms_k03_texts_of_terms).prog [77]) (H := Law_k03.hk) (ob := Law_k03.ob) (M := 9000) (loose := Law_k03.loose) (d := HandSHeadRun.topDef (OpenLaw.row PySem.Challenge.rw_sameterms_k03_texts_of_terms).prog 77) (kwd := []) Law_k03.ob_eq
    (by kernel_rfl) (fun s => by kernel_rfl) Law_k03.run (by kernel_rfl) (by kernel_rfl) (by kernel_rfl) (by rfl) (by first | assumption | decide +kernel) (by decide +kernel) ⟨rfl, rfl, rfl, rfl, rfl, by decide +kernel⟩ ?hw ?hc
  case hw => w_witness2
  case hc =>
    refine LamX.walk_ofTsE (l := PySem.Challenge.rw_sameterms_k03_texts_of_terms) (n := 63) (k := 95) (x := "script") (CX := fun w => L2.CX (PySem.Challenge.rw_sameterms_k03_texts_of_terms).prog w) rfl (by decide) (by kernel_rfl) ⟨rfl, by decide, by decide⟩ ?F (fun w _ _ _ _ z => FP.cx_none z)
    intro w mg fa h Y G hmg0
    obtain ⟨K, KX, c, eu⟩ := Y
    have hmg : mg ("law" : PySem.Str) = some (.ref fa) := by
      have e : (HandSHeadRun.topDef (OpenLaw.row PySem.Challenge.rw_sameterms_k03_texts_of_terms).prog 77).name = ("law" : PySem.Str) := by kernel_rfl
      rw [← e]
      exact hmg0
    exact ⟨K, KX, Law_k03.facts KX G hmg c eu Law_k03.law_true⟩
