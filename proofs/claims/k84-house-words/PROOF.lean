import PyProof.Rows.All
import Wide.All
import OpenK.AllK
import Wide.FinOn
import PySem.Challenge.RW_mustmays_k84_house_words
import PyProof.EqAt
import PyProof.EqKinds
import PyProof.TupleCall
import HandS.ForMost
import HandS.ForExc
import HandS.Walk
import HandS.Lambda
import KE.DataEq
import KE.DataCmp
import HandS.TupAny
import HandS.TupLe
import HandS.Wide
import KE.SortData
import PyProof.TupleOfSeq
import PyProof.ReprRoads
import PyProof.CallFns
import HandS.IsInst
import HandS.Style
import HandS.RaiseMore
import HandS.Flow
import HandS.Zip
import HandS.WordsExc
import HandS.ExcInit
import HandS.Defaults
import HandS.DictComp
import HandS.Iter
import HandS.TryMany
import HandS.ExcField
import HandS.ExcIs
import HandS.HeadWalk
import HandS.EndTab
import HandS.Head2
import HandS.HeadHook2
section
set_option Elab.async false
set_option linter.all false
set_option maxRecDepth 100000
set_option maxHeartbeats 1048576
/-! MM: Python values as plain data, a store of what changes, and each construct as a plain function over both. -/
namespace MM
open L2 PyProof.Rows PySem.Spec PySem

inductive D where
  | non | bl (b : Bool) | int (i : Int) | str (x : Str)
  | tup (xs : List D) | lst (xs : List D) | frn (xs : List D)
  | ref (n : Nat) | adr (a : Addr) | ty (n : String)
  /-- a dict that never changes again -/
  | dct (ks : List Key) (xs : List D)
  /-- the exception of the suite (in a slot only) -/
  | exn
instance : Inhabited D := ⟨.non⟩

/-- what stands in the store -/
inductive SO where
  | dead | lst (xs : List D) | dct (kvs : List (Key × D)) | ins (C : Addr) (fs : List (Str × D))
abbrev Store := List SO
inductive Res (α : Type) where
  | ok (a : α) (S : Store) | exc (C : Addr) (fs : List (Str × D)) (S : Store) | bad
abbrev M (α : Type) := Store → Res α
@[reducible] def M.pure {α : Type} (a : α) : M α := fun S => .ok a S
def M.bind {α β : Type} (m : M α) (f : α → M β) : M β := fun S => match m S with
  | .ok a S' => f a S'
  | .exc C fs S' => .exc C fs S'
  | .bad => .bad
def M.bad {α : Type} : M α := fun _ => .bad
def M.map {α β : Type} (f : α → β) (m : M α) : M β := m.bind fun a => M.pure (f a)
instance : Monad M where
  pure := M.pure
  bind := M.bind
/-- an option as a run -/
def M.get {α : Type} : Option α → M α
  | some a => M.pure a
  | none => M.bad
/-- what holds, or nothing is told -/
def M.ask (c : Prop) [Decidable c] {α : Type} (m : M α) : M α := fun S => if c then m S else .bad
abbrev Env' := List (Option D)

/-! ### worlds: what is frozen, where the store's objects stand -/
structure Wd where
  Z : Hp
  ρ : Nat → Option Addr
  /-- what is pinned: not to be met, not to be changed -/
  P : Hp
  /-- the exception of the suite -/
  sx : Option Addr
/-- the exception of a suite: its place, class, dict, fields -/
structure Ex where
  a : Addr
  C : Addr
  dx : Addr
  fs : List (Str × D)
structure Tx where
  tabs : List (Addr × Str)
  ex : Option Ex := none
  /-- the world at the entry of a def that got a lambda -/
  w0 : Option Wd := none
structure Wd.le0 (W W' : Wd) : Prop where
  z : Same W.Z W'.Z
  r : ∀ n a, W.ρ n = some a → W'.ρ n = some a
  s : ∀ a, W.sx = some a → W'.sx = some a := by exact fun _ h => h
structure Wd.le (W W' : Wd) : Prop extends W.le0 W' where
  p : W'.P = W.P
theorem Wd.le0.refl (W : Wd) : W.le0 W := ⟨Same.refl _, fun _ _ h => h, fun _ h => h⟩
theorem Wd.le0.trans {W W1 W2 : Wd} (a : W.le0 W1) (b : W1.le0 W2) : W.le0 W2 := ⟨a.z.trans b.z, fun n x h => b.r n x (a.r n x h), fun x h => b.s x (a.s x h)⟩
theorem Wd.le.refl (W : Wd) : W.le W := ⟨.refl _, rfl⟩
theorem Wd.le.trans {W W1 W2 : Wd} (a : W.le W1) (b : W1.le W2) : W.le W2 := ⟨a.tole0.trans b.tole0, b.p.trans a.p⟩
theorem same_rd {H H' : Hp} (e : Same H H') {a : Addr} {u : HO} (h : Rd H a u) : Rd H' a u := by
  rcases h with h | ⟨o, h⟩
  · exact .inl (e _ _ h)
  · exact .inr ⟨o, e _ _ h⟩
theorem same_tup {H H' : Hp} (e : Same H H') {K : PySem.W.Frag} {a : Addr} {xs : List V} (h : SqT K H a xs) : SqT K H' a xs := h.imp (same_rd e) id
theorem same_lst {H H' : Hp} (e : Same H H') {K : PySem.W.Frag} {a : Addr} {xs : List V} (h : SqL K H a xs) : SqL K H' a xs := h.imp (same_rd e) id

mutual
inductive VR (K : PySem.W.Frag) (W : Wd) : D → V → Prop
  | non : VR K W .non .non
  | bl (b : Bool) : VR K W (.bl b) (.bl b)
  | int (i : Int) : VR K W (.int i) (.int i)
  | str (x : Str) : VR K W (.str x) (.str x)
  | ty (n : String) : VR K W (.ty n) (.ty n)
  | adr (a : Addr) : VR K W (.adr a) (.ref a)
  | ref {n : Nat} {a : Addr} : W.ρ n = some a → VR K W (.ref n) (.ref a)
  | tup {a : Addr} {ds : List D} {vs : List V} : SqT K W.Z a vs → VRs K W ds vs → VR K W (.tup ds) (.ref a)
  | lst {a : Addr} {ds : List D} {vs : List V} : W.Z a = some (.lst vs) → VRs K W ds vs → VR K W (.lst ds) (.ref a)
  | frn {a : Addr} {ds : List D} {vs : List V} : SqL K W.Z a vs → VRs K W ds vs → VR K W (.frn ds) (.ref a)
  | dct {a : Addr} {od : Obj} {ks : List Key} {ds : List D} {vs : List V} : W.Z a = some (.frz od (.dK (ks.zip vs))) → ks.length = vs.length → VRs K W ds vs → VR K W (.dct ks ds) (.ref a)
inductive VRs (K : PySem.W.Frag) (W : Wd) : List D → List V → Prop
  | nil : VRs K W [] []
  | cons {d : D} {v : V} {ds : List D} {vs : List V} : VR K W d v → VRs K W ds vs → VRs K W (d :: ds) (v :: vs)
end
section
variable {K : PySem.W.Frag} {W W' : Wd}
mutual
theorem VR.mono0 (e : W.le0 W') : ∀ {d : D} {v : V}, VR K W d v → VR K W' d v
  | _, _, .non => .non
  | _, _, .bl b => .bl b
  | _, _, .int i => .int i
  | _, _, .str x => .str x
  | _, _, .ty n => .ty n
  | _, _, .adr a => .adr a
  | _, _, .ref h => .ref (e.r _ _ h)
  | _, _, .tup h r => .tup (same_tup e.z h) (VRs.mono0 e r)
  | _, _, .lst h r => .lst (e.z _ _ h) (VRs.mono0 e r)
  | _, _, .frn h r => .frn (same_lst e.z h) (VRs.mono0 e r)
  | _, _, .dct h l r => .dct (e.z _ _ h) l (VRs.mono0 e r)
theorem VRs.mono0 (e : W.le0 W') : ∀ {ds : List D} {vs : List V}, VRs K W ds vs → VRs K W' ds vs
  | _, _, .nil => .nil
  | _, _, .cons h r => .cons (VR.mono0 e h) (VRs.mono0 e r)
end
theorem VR.mono (e : W.le W') {d : D} {v : V} (h : VR K W d v) : VR K W' d v := h.mono0 e.tole0
theorem VRs.mono (e : W.le W') {d : List D} {v : List V} (h : VRs K W d v) : VRs K W' d v := h.mono0 e.tole0
theorem VRs.length : ∀ {ds : List D} {vs : List V}, VRs K W ds vs → ds.length = vs.length
  | _, _, .nil => rfl
  | _, _, .cons _ r => by simp [VRs.length r]
theorem VRs.get : ∀ {ds : List D} {vs : List V} {i : Nat} {v : V}, VRs K W ds vs → vs[i]? = some v → ∃ d, ds[i]? = some d ∧ VR K W d v
  | _, _, _, _, .nil, away => by simp at away
  | _, _, 0, _, .cons h _, e => by simp at e; subst e; exact ⟨_, rfl, h⟩
  | _, _, i + 1, v, .cons _ r, e => by
    obtain ⟨d, h1, h2⟩ := VRs.get (i := i) (v := v) r (by simpa using e)
    exact ⟨d, by simpa using h1, h2⟩
theorem VRs.get' : ∀ {ds : List D} {vs : List V} {i : Nat} {d : D}, VRs K W ds vs → ds[i]? = some d → ∃ v, vs[i]? = some v ∧ VR K W d v
  | _, _, _, _, .nil, away => by simp at away
  | _, _, 0, _, .cons h _, e => by simp at e; subst e; exact ⟨_, rfl, h⟩
  | _, _, i + 1, d, .cons _ r, e => by
    obtain ⟨v, h1, h2⟩ := VRs.get' (i := i) (d := d) r (by simpa using e)
    exact ⟨v, by simpa using h1, h2⟩
theorem VRs.append : ∀ {ds es : List D} {vs ws : List V}, VRs K W ds vs → VRs K W es ws → VRs K W (ds ++ es) (vs ++ ws)
  | _, _, _, _, .nil, s => s
  | _, _, _, _, .cons h r, s => .cons h (VRs.append r s)
theorem VRs.take : ∀ {ds : List D} {vs : List V} (n : Nat), VRs K W ds vs → VRs K W (ds.take n) (vs.take n)
  | _, _, 0, _ => .nil
  | _, _, _ + 1, .nil => .nil
  | _, _, n + 1, .cons h r => .cons h (VRs.take n r)
theorem VRs.drop : ∀ {ds : List D} {vs : List V} (n : Nat), VRs K W ds vs → VRs K W (ds.drop n) (vs.drop n)
  | _, _, 0, r => r
  | _, _, _ + 1, .nil => .nil
  | _, _, n + 1, .cons _ r => VRs.drop n r
theorem VRs.set {d : D} {v : V} (h : VR K W d v) : ∀ {ds : List D} {vs : List V} (n : Nat), VRs K W ds vs → VRs K W (ds.set n d) (vs.set n v)
  | _, _, _, .nil => .nil
  | _, _, 0, .cons _ r => .cons h r
  | _, _, n + 1, .cons q r => .cons q (VRs.set h n r)
theorem VRs.reverse : ∀ {ds : List D} {vs : List V}, VRs K W ds vs → VRs K W ds.reverse vs.reverse
  | _, _, .nil => .nil
  | _, _, .cons h r => by
    simp only [List.reverse_cons]
    exact VRs.append (VRs.reverse r) (.cons h .nil)
theorem VRs.strs : ∀ (ys : List Str), VRs K W (ys.map D.str) (ys.map V.str)
  | [] => .nil
  | y :: ys => .cons (.str y) (VRs.strs ys)
theorem VRs.ints : ∀ (ys : List Int), VRs K W (ys.map D.int) (ys.map V.int)
  | [] => .nil
  | y :: ys => .cons (.int y) (VRs.ints ys)
end

/-- fields, entries -/
abbrev FR {κ : Type} (K : PySem.W.Frag) (W : Wd) : List (κ × D) → List (κ × V) → Prop := Paired fun (p : κ × D) (q : κ × V) => p.1 = q.1 ∧ VR K W p.2 q.2
theorem FR.mono0 {κ : Type} {K : PySem.W.Frag} {W W' : Wd} (e : W.le0 W') {fs : List (κ × D)} {gs : List (κ × V)} (r : FR K W fs gs) : FR K W' fs gs := Paired.mapP r fun _ _ h => ⟨h.1, h.2.mono0 e⟩
theorem FR.mono {κ : Type} {K : PySem.W.Frag} {W W' : Wd} (e : W.le W') {fs : List (κ × D)} {gs : List (κ × V)} (r : FR K W fs gs) : FR K W' fs gs := r.mono0 e.tole0
def OR (K : PySem.W.Frag) (W : Wd) (H : Hp) (a : Addr) : SO → Prop
  | .dead => True
  | .lst ds => ∃ vs, H a = some (.lst vs) ∧ VRs K W ds vs
  | .dct kvs => ∃ kws, H a = some (.dK kws) ∧ FR K W kvs kws
  | .ins C fs => ∃ dx gs, H a = some (.ins C dx gs) ∧ FR K W fs gs
theorem OR.mono {K : PySem.W.Frag} {W W' : Wd} {H H' : Hp} {a : Addr} (e : W.le0 W') (h : H' a = H a) : ∀ {o : SO}, OR K W H a o → OR K W' H' a o
  | .dead, _ => trivial
  | .lst _, ⟨vs, q, r⟩ => ⟨vs, h.trans q, r.mono0 e⟩
  | .dct _, ⟨vs, q, r⟩ => ⟨vs, h.trans q, r.mono0 e⟩
  | .ins _ _, ⟨dx, vs, q, r⟩ => ⟨dx, vs, h.trans q, r.mono0 e⟩
/-- frozen things -/
def Fz : HO → Prop
  | .lst _ => True
  | .tup _ => True
  | .frz _ _ => True
  | .xd _ => True
  | .ext _ => True
  | _ => False
/-- the exception of the suite is known -/
def XC (K : PySem.W.Frag) (T : Tx) (W : Wd) : Prop := (∀ q, T.ex = some q → W.sx = some q.a ∧ ∃ gs, W.Z q.dx = some (.xd gs) ∧ FR K W q.fs gs) ∧ ∀ W0, T.w0 = some W0 → W0.le0 W
theorem XC.mono {K : PySem.W.Frag} {T : Tx} {W W' : Wd} (h : XC K T W) (e : W.le0 W') : XC K T W' := by
  refine ⟨fun q hq => ?_, fun W0 h0 => (h.2 W0 h0).trans e⟩
  obtain ⟨h1, gs, h2, h3⟩ := h.1 q hq
  exact ⟨e.s _ h1, gs, e.z _ _ h2, h3.mono0 e⟩
structure HR (K : PySem.W.Frag) (T : Tx) (W : Wd) (S : Store) (H : Hp) : Prop where
  fz : Same W.Z H
  zk : ∀ a o, W.Z a = some o → Fz o
  ob : ∀ n o, S[n]? = some o → o ≠ .dead → ∃ a, W.ρ n = some a ∧ W.Z a = none ∧ OR K W H a o
  inj : ∀ n m a, W.ρ n = some a → W.ρ m = some a → n = m
  al : ∀ n a, W.ρ n = some a → (∃ o, H a = some o ∧ (∀ ps, o ≠ .tbl ps) ∧ ∀ φ, o ≠ .ext φ) ∧ n < S.length
  tb : LamX.Tabs T.tabs H
  pf : Same W.P H
  pd : ∀ n a o, S[n]? = some o → o ≠ .dead → W.ρ n = some a → W.P a = none
  pz : ∀ a o, W.Z a = some o → W.P a = none
  xc : XC K T W
  pk : ∀ b o, W.P b = some o → (∀ ps, o ≠ .tbl ps) ∧ ∀ φ, o ≠ .ext φ
def ER (K : PySem.W.Frag) (W : Wd) (δ : Env') (σ : L2.St) : Prop := δ.length = σ.length ∧ ∀ (i : Nat) (d : D), δ[i]? = some (some d) → (d = .exn ∧ ∃ a, W.sx = some a ∧ σ[i]? = some (some (.ref a))) ∨ ∃ v : V, σ[i]? = some (some v) ∧ VR K W d v
theorem ER.mono0 {K : PySem.W.Frag} {W W' : Wd} (e : W.le0 W') {δ : Env'} {σ : L2.St} (r : ER K W δ σ) : ER K W' δ σ := ⟨r.1, fun i d h => (r.2 i d h).imp (fun ⟨h1, a, h2, h3⟩ => ⟨h1, a, e.s _ h2, h3⟩) fun ⟨v, h1, h2⟩ => ⟨v, h1, h2.mono0 e⟩⟩
theorem ER.mono {K : PySem.W.Frag} {W W' : Wd} (e : W.le W') {δ : Env'} {σ : L2.St} (r : ER K W δ σ) : ER K W' δ σ := r.mono0 e.tole0
theorem ER.set {K : PySem.W.Frag} {W : Wd} {δ : Env'} {σ : L2.St} {d : D} {v : V} (r : ER K W δ σ) (h : VR K W d v) (i : Nat) : ER K W (δ.set i (some d)) (σ.set i (some v)) := by
  refine ⟨by simpa using r.1, fun j e hj => ?_⟩
  by_cases q : j = i
  · subst q
    have hl : j < δ.length := by
      have := (List.getElem?_eq_some_iff.mp hj).1
      simpa using this
    rw [List.getElem?_set_self hl] at hj
    cases hj
    exact .inr ⟨v, List.getElem?_set_self (r.1 ▸ hl), h⟩
  · rw [List.getElem?_set_ne (Ne.symm q)] at hj ⊢
    exact r.2 j e hj
theorem ER.gone {K : PySem.W.Frag} {W : Wd} {δ : Env'} {σ : L2.St} (r : ER K W δ σ) (i : Nat) : ER K W (δ.set i none) (σ.set i none) := by
  refine ⟨by simpa using r.1, fun j e hj => ?_⟩
  by_cases q : j = i
  · subst q
    have hl : j < δ.length := by
      have := (List.getElem?_eq_some_iff.mp hj).1
      simpa using this
    rw [List.getElem?_set_self hl] at hj
    cases hj
  · rw [List.getElem?_set_ne (Ne.symm q)] at hj ⊢
    exact r.2 j e hj
/-- the slots vs forgotten -/
def wipeD (δ : Env') : List Nat → Env'
  | [] => δ
  | v :: vs => (wipeD δ vs).set v none
theorem ER.wipe {K : PySem.W.Frag} {W : Wd} {δ : Env'} {σ : L2.St} (r : ER K W δ σ) : ∀ vs : List Nat, ER K W (wipeD δ vs) (L2.wipe σ vs)
  | [] => r
  | v :: vs => (ER.wipe r vs).gone v

section
variable {K : PySem.W.Frag} {T : Tx} {W : Wd} {S : Store} {H : Hp}
theorem HR.znone (h : HR K T W S H) {p : Addr} (e : H p = none) : W.Z p = none := h.fz.free e
theorem pk_upd {P : Hp} {p : Addr} {u : HO} (h : ∀ b o, P b = some o → (∀ ps, o ≠ .tbl ps) ∧ ∀ φ, o ≠ .ext φ) (hu : (∀ ps, u ≠ .tbl ps) ∧ ∀ φ, u ≠ .ext φ) : ∀ b o, upd P p u b = some o → (∀ ps, o ≠ .tbl ps) ∧ ∀ φ, o ≠ .ext φ := fun b o e => by
  by_cases q : b = p
  · subst q; rw [upd_same] at e; cases e; exact hu
  · rw [upd_ne q] at e; exact h b o e
/-- a new frozen thing -/
theorem tabs_upd {p : Addr} {o : HO} (t : LamX.Tabs T.tabs H) (e : H p = none ∨ ∃ u, H p = some u ∧ (∀ ps, u ≠ .tbl ps) ∧ ∀ φ, u ≠ .ext φ) : LamX.Tabs T.tabs (upd H p o) := by
  have key : ∀ b u, H b = some u → ((∃ ps, u = .tbl ps) ∨ ∃ φ, u = .ext φ) → upd H p o b = some u := fun b u hb hu => by
    refine (upd_ne ?_).trans hb
    rintro rfl
    rcases e with e | ⟨w, e, h1, h2⟩
    · rw [e] at hb; cases hb
    · rw [e] at hb; cases hb
      rcases hu with ⟨ps, z⟩ | ⟨φ, z⟩
      · exact h1 ps z
      · exact h2 φ z
  intro q hq
  obtain ⟨ps, h1, h2, h3⟩ := t q hq
  refine ⟨ps, key _ _ h1 (.inl ⟨ps, rfl⟩), h2, fun pos cv hc => ?_⟩; obtain ⟨c, e1, e2⟩ := h3 pos cv hc
  exact ⟨c, e1, key _ _ e2 (.inr ⟨_, rfl⟩)⟩
def Wd.lay (W : Wd) (p : Addr) (o : HO) : Wd := ⟨upd W.Z p o, W.ρ, W.P, W.sx⟩
theorem Wd.le_lay {p : Addr} {o : HO} (e : W.Z p = none) : W.le (W.lay p o) := ⟨⟨fun b u h => (upd_ne (ne_of_none h e)).trans h, fun _ _ h => h, fun _ h => h⟩, rfl⟩
theorem HR.lay (h : HR K T W S H) {p : Addr} {o : HO} (e : H p = none) (k : Fz o) : HR K T (W.lay p o) S (upd H p o) := by
  have hz := h.znone e
  have le := Wd.le_lay (o := o) hz
  refine ⟨fun b u hb => ?_, fun b u hb => ?_, fun n u hn hd => ?_, h.inj, fun n a ha => ?_, tabs_upd h.tb (.inl e), fun b u hb => (upd_ne (ne_of_none hb (h.pf.free e))).trans (h.pf _ _ hb), h.pd, fun b u hb => ?_, h.xc.mono le.tole0, h.pk⟩
  · by_cases q : b = p
    · subst q
      have : upd W.Z b o b = some u := hb
      rw [upd_same] at this ⊢; exact this
    · have hb' : upd W.Z p o b = some u := hb
      rw [upd_ne q] at hb' ⊢; exact h.fz _ _ hb'
  · by_cases q : b = p
    · subst q
      have hb' : upd W.Z b o b = some u := hb
      rw [upd_same] at hb'; cases hb'; exact k
    · have hb' : upd W.Z p o b = some u := hb
      rw [upd_ne q] at hb'; exact h.zk _ _ hb'
  · obtain ⟨a, h1, h2, h3⟩ := h.ob n u hn hd
    have ne : a ≠ p := fun z => by
      obtain ⟨⟨w, q, _⟩, _⟩ := h.al n a h1
      rw [z, e] at q; cases q
    exact ⟨a, h1, (upd_ne ne).trans h2, h3.mono le.tole0 (upd_ne ne)⟩
  · obtain ⟨⟨w, q, q1⟩, l⟩ := h.al n a ha
    exact ⟨⟨w, (upd_ne (ne_of_none q e)).trans q, q1⟩, l⟩
  · by_cases q : b = p
    · subst q; exact h.pf.free e
    · have hb' : upd W.Z p o b = some u := hb
      rw [upd_ne q] at hb'; exact h.pz _ _ hb'
/-- a new thing of the store -/
def Wd.put (W : Wd) (n : Nat) (p : Addr) : Wd := ⟨W.Z, fun k => if k = n then some p else W.ρ k, W.P, W.sx⟩
theorem HR.rnone (h : HR K T W S H) {n : Nat} (l : S.length ≤ n) : W.ρ n = none := by
  cases q : W.ρ n with
  | none => rfl
  | some a => exact absurd (h.al n a q).2 (by omega)
theorem HR.le_put (h : HR K T W S H) {p : Addr} : W.le (W.put S.length p) := ⟨⟨Same.refl _, fun n a ha => by
  show (if n = S.length then some p else W.ρ n) = some a
  have := (h.al n a ha).2
  rw [if_neg (by omega)]; exact ha, fun _ h => h⟩, rfl⟩
theorem HR.put (h : HR K T W S H) {p : Addr} {o : SO} {u : HO} (e : H p = none) (hu : (∀ ps, u ≠ .tbl ps) ∧ ∀ φ, u ≠ .ext φ) (ho : ∀ W', W.le W' → OR K W' (upd H p u) p o) : HR K T (W.put S.length p) (S ++ [o]) (upd H p u) := by
  have le := h.le_put (p := p)
  have rnew : (W.put S.length p).ρ S.length = some p := if_pos rfl
  have rold : ∀ n, n ≠ S.length → (W.put S.length p).ρ n = W.ρ n := fun n q => if_neg q
  have ne : ∀ n a, W.ρ n = some a → a ≠ p := fun n a ha z => by
    obtain ⟨⟨w, q, _⟩, _⟩ := h.al n a ha
    rw [z, e] at q; cases q
  refine ⟨fun b w hb => ?_, h.zk, fun n w hn hd => ?_, fun n m a hn hm => ?_, fun n a ha => ?_, tabs_upd h.tb (.inl e), fun b u hb => (upd_ne (ne_of_none hb (h.pf.free e))).trans (h.pf _ _ hb), fun n a w hn hd ha => ?_, h.pz, h.xc.mono le.tole0, h.pk⟩
  · exact (upd_ne (ne_of_none hb (h.znone e))).trans (h.fz _ _ hb)
  · by_cases q : n = S.length
    · subst q
      rw [List.getElem?_append_right (Nat.le_refl _)] at hn
      simp at hn
      subst hn
      exact ⟨p, rnew, h.znone e, ho _ le⟩
    · have hn' : S[n]? = some w := by
        by_cases hl : n < S.length
        · rwa [List.getElem?_append_left hl] at hn
        · rw [List.getElem?_append_right (by omega), List.getElem?_eq_none (by simp; omega)] at hn; cases hn
      obtain ⟨a, h1, h2, h3⟩ := h.ob n w hn' hd
      exact ⟨a, (rold n q).trans h1, h2, h3.mono le.tole0 (upd_ne (ne n a h1))⟩
  · by_cases q : n = S.length
    · by_cases r : m = S.length
      · omega
      · rw [q, rnew] at hn; cases hn
        rw [rold m r] at hm
        exact absurd rfl (ne m _ hm)
    · by_cases r : m = S.length
      · rw [r, rnew] at hm; cases hm
        rw [rold n q] at hn
        exact absurd rfl (ne n _ hn)
      · rw [rold n q] at hn; rw [rold m r] at hm
        exact h.inj n m a hn hm
  · by_cases q : n = S.length
    · subst q
      rw [rnew] at ha; cases ha
      exact ⟨⟨u, upd_same, hu⟩, by simp⟩
    · rw [rold n q] at ha
      obtain ⟨⟨w, q1, q2⟩, l⟩ := h.al n a ha
      exact ⟨⟨w, (upd_ne (ne n a ha)).trans q1, q2⟩, by simp; omega⟩
  · by_cases q : n = S.length
    · subst q
      rw [rnew] at ha; cases ha
      exact h.pf.free e
    · rw [rold n q] at ha
      have hl := (h.al n a ha).2
      rw [List.getElem?_append_left hl] at hn
      exact h.pd n a w hn hd ha
/-- a thing of the store is written -/
theorem HR.write (h : HR K T W S H) {n : Nat} {a : Addr} {o o' : SO} {u : HO} (ha : W.ρ n = some a) (hz : W.Z a = none) (hS : S[n]? = some o) (hdd : o ≠ .dead) (hu : (∀ ps, u ≠ .tbl ps) ∧ ∀ φ, u ≠ .ext φ) (ho : OR K W (upd H a u) a o') : HR K T W (S.set n o') (upd H a u) := by
  refine ⟨fun b w hb => ?_, h.zk, fun m w hm hd => ?_, h.inj, fun m b hb => ?_, tabs_upd h.tb (.inr (h.al n a ha).1), fun b u hb => (upd_ne (ne_of_none hb (h.pd n a o hS hdd ha))).trans (h.pf _ _ hb), fun m b w hm hd hb => ?_, h.pz, h.xc, h.pk⟩
  · exact (upd_ne (ne_of_none hb hz)).trans (h.fz _ _ hb)
  · by_cases q : m = n
    · subst q
      have hl : m < S.length := (h.al m a ha).2
      rw [List.getElem?_set_self hl] at hm
      cases hm
      exact ⟨a, ha, hz, ho⟩
    · rw [List.getElem?_set_ne (Ne.symm q)] at hm
      obtain ⟨b, h1, h2, h3⟩ := h.ob m w hm hd
      have ne : b ≠ a := fun z => q (h.inj m n a (z ▸ h1) ha)
      exact ⟨b, h1, h2, h3.mono (.refl _) (upd_ne ne)⟩
  · obtain ⟨⟨w, q1, q2⟩, l⟩ := h.al m b hb
    refine ⟨?_, by simpa using l⟩
    by_cases q : b = a
    · subst q
      exact ⟨u, upd_same, hu⟩
    · exact ⟨w, (upd_ne q).trans q1, q2⟩
  · by_cases q : m = n
    · subst q
      rw [ha] at hb; cases hb
      exact h.pd m a o hS hdd ha
    · rw [List.getElem?_set_ne (Ne.symm q)] at hm
      exact h.pd m b w hm hd hb
/-- a list of the store is frozen -/
theorem HR.freeze (h : HR K T W S H) {n : Nat} {a : Addr} {o : HO} {so : SO} (ha : W.ρ n = some a) (hz : W.Z a = none) (hS : S[n]? = some so) (hdd : so ≠ .dead) (e : H a = some o) (k : Fz o) : W.le (W.lay a o) ∧ HR K T (W.lay a o) (S.set n .dead) H := by
  have le := Wd.le_lay (o := o) hz
  refine ⟨le, fun b w hb => ?_, fun b w hb => ?_, fun m w hm hd => ?_, h.inj, fun m b hb => ?_, h.tb, h.pf, fun m b w hm hd hb => ?_, fun b w hb => ?_, h.xc.mono le.tole0, h.pk⟩
  · have hb' : upd W.Z a o b = some w := hb
    by_cases q : b = a
    · subst q; rw [upd_same] at hb'; rw [e]; exact hb'
    · rw [upd_ne q] at hb'; exact h.fz _ _ hb'
  · have hb' : upd W.Z a o b = some w := hb
    by_cases q : b = a
    · subst q; rw [upd_same] at hb'; cases hb'; exact k
    · rw [upd_ne q] at hb'; exact h.zk _ _ hb'
  · by_cases q : m = n
    · subst q
      have hl : m < S.length := (h.al m a ha).2
      rw [List.getElem?_set_self hl] at hm
      cases hm
      exact absurd rfl hd
    · rw [List.getElem?_set_ne (Ne.symm q)] at hm
      obtain ⟨b, h1, h2, h3⟩ := h.ob m w hm hd
      have ne : b ≠ a := fun z => q (h.inj m n a (z ▸ h1) ha)
      exact ⟨b, h1, (upd_ne ne).trans h2, h3.mono le.tole0 rfl⟩
  · obtain ⟨q, l⟩ := h.al m b hb
    exact ⟨q, by simpa using l⟩
  · by_cases q : m = n
    · subst q
      have hl : m < S.length := (h.al m a ha).2
      rw [List.getElem?_set_self hl] at hm
      cases hm
      exact absurd rfl hd
    · rw [List.getElem?_set_ne (Ne.symm q)] at hm
      exact h.pd m b w hm hd hb
  · have hb' : upd W.Z a o b = some w := hb
    by_cases q : b = a
    · subst q; exact h.pd n b so hS hdd ha
    · rw [upd_ne q] at hb'; exact h.pz _ _ hb'
/-- pinned: a thing that the program does not meet for a while -/
def Wd.pin (W : Wd) (p : Addr) (o : HO) : Wd := ⟨W.Z, W.ρ, upd W.P p o, W.sx⟩
theorem Wd.le_pin {p : Addr} {o : HO} : W.le0 (W.pin p o) := ⟨Same.refl _, fun _ _ h => h, fun _ h => h⟩
theorem HR.pin (h : HR K T W S H) {p : Addr} {o : HO} (e : H p = none) (ho : (∀ ps, o ≠ .tbl ps) ∧ ∀ φ, o ≠ .ext φ := by exact ⟨fun _ => nofun, fun _ => nofun⟩) : HR K T (W.pin p o) S (upd H p o) := by
  have ne : ∀ n a, W.ρ n = some a → a ≠ p := fun n a ha z => by
    obtain ⟨⟨w, q, _⟩, _⟩ := h.al n a ha
    rw [z, e] at q; cases q
  refine ⟨fun b u hb => (upd_ne (ne_of_none hb (h.znone e))).trans (h.fz _ _ hb), h.zk, fun n u hn hd => ?_, h.inj, fun n a ha => ?_, tabs_upd h.tb (.inl e), fun b u hb => ?_, fun n a w hn hd ha => (upd_ne (ne n a ha)).trans (h.pd n a w hn hd ha), fun b u hb => ?_, h.xc.mono Wd.le_pin, pk_upd h.pk ho⟩
  · obtain ⟨a, h1, h2, h3⟩ := h.ob n u hn hd
    exact ⟨a, h1, h2, h3.mono Wd.le_pin (upd_ne (ne n a h1))⟩
  · obtain ⟨⟨w, q, q1⟩, l⟩ := h.al n a ha
    exact ⟨⟨w, (upd_ne (ne n a ha)).trans q, q1⟩, l⟩
  · have hb' : upd W.P p o b = some u := hb
    by_cases q : b = p
    · subst q; rw [upd_same] at hb' ⊢; exact hb'
    · rw [upd_ne q] at hb' ⊢; exact h.pf _ _ hb'
  · have ne' : b ≠ p := ne_of_none hb (h.znone e)
    exact (upd_ne ne').trans (h.pz _ _ hb)
/-- what stands in H is pinned as it stands -/
theorem HR.pin_at (h : HR K T W S H) {p : Addr} {o : HO} (e : H p = some o) (hz : W.Z p = none) (hr : ∀ (n : Nat) u, S[n]? = some u → u ≠ .dead → W.ρ n ≠ some p) (ho : (∀ ps, o ≠ .tbl ps) ∧ ∀ φ, o ≠ .ext φ) : HR K T (W.pin p o) S H := by
  refine ⟨h.fz, h.zk, fun n u hn hd => ?_, h.inj, h.al, h.tb, fun b u hb => ?_, fun n a w hn hd ha => ?_, fun b u hb => ?_, h.xc.mono Wd.le_pin, pk_upd h.pk ho⟩
  · obtain ⟨a, h1, h2, h3⟩ := h.ob n u hn hd
    exact ⟨a, h1, h2, h3.mono Wd.le_pin rfl⟩
  · have hb' : upd W.P p o b = some u := hb
    by_cases q : b = p
    · subst q; rw [upd_same] at hb'; rw [e]; exact hb'
    · rw [upd_ne q] at hb'; exact h.pf _ _ hb'
  · exact (upd_ne (fun z : a = p => hr n w hn hd (by rw [← z]; exact ha))).trans (h.pd n a w hn hd ha)
  · exact (upd_ne (fun z : b = p => by have hb' : W.Z b = some u := hb; rw [z, hz] at hb'; cases hb')).trans (h.pz _ _ hb)
/-- a pinned thing changes -/
theorem HR.repin (h : HR K T W S H) {p : Addr} {o o' : HO} (e : W.P p = some o) (ho : (∀ ps, o ≠ .tbl ps) ∧ ∀ φ, o ≠ .ext φ) (ho' : (∀ ps, o' ≠ .tbl ps) ∧ ∀ φ, o' ≠ .ext φ) : HR K T (W.pin p o') S (upd H p o') := by
  have ne : ∀ (n : Nat) u a, S[n]? = some u → u ≠ .dead → W.ρ n = some a → a ≠ p := fun n u a hn hd ha z => by
    have := h.pd n a u hn hd ha
    rw [z, e] at this; cases this
  have nz : ∀ b u, W.Z b = some u → b ≠ p := fun b u hb z => by
    have := h.pz b u hb
    rw [z, e] at this; cases this
  refine ⟨fun b u hb => (upd_ne (nz b u hb)).trans (h.fz _ _ hb), h.zk, fun n u hn hd => ?_, h.inj, fun n a ha => ?_, tabs_upd h.tb (.inr ⟨o, h.pf _ _ e, ho⟩), fun b u hb => ?_, fun n a w hn hd ha => (upd_ne (ne n w a hn hd ha)).trans (h.pd n a w hn hd ha), fun b u hb => (upd_ne (nz b u hb)).trans (h.pz _ _ hb), h.xc.mono Wd.le_pin, pk_upd h.pk ho'⟩
  · obtain ⟨a, h1, h2, h3⟩ := h.ob n u hn hd
    exact ⟨a, h1, h2, h3.mono Wd.le_pin (upd_ne (ne n u a hn hd h1))⟩
  · obtain ⟨⟨w, q, q1⟩, l⟩ := h.al n a ha
    by_cases c : a = p
    · subst c; exact ⟨⟨o', upd_same, ho'⟩, l⟩
    · exact ⟨⟨w, (upd_ne c).trans q, q1⟩, l⟩
  · have hb' : upd W.P p o' b = some u := hb
    by_cases q : b = p
    · subst q; rw [upd_same] at hb' ⊢; exact hb'
    · rw [upd_ne q] at hb' ⊢; exact h.pf _ _ hb'
/-- a pinned thing is let go (P0: what is pinned without it) and frozen -/
theorem HR.settle (h : HR K T W S H) {p : Addr} {o : HO} {P0 : Hp} (e : W.P p = some o) (h0 : P0 p = none) (hP : ∀ b u, P0 b = some u → W.P b = some u) (k : Fz o) : HR K T ⟨upd W.Z p o, W.ρ, P0, W.sx⟩ S H := by
  have ne : ∀ (n : Nat) u a, S[n]? = some u → u ≠ .dead → W.ρ n = some a → a ≠ p := fun n u a hn hd ha z => by
    have := h.pd n a u hn hd ha
    rw [z, e] at this; cases this
  have nz : ∀ b u, W.Z b = some u → b ≠ p := fun b u hb z => by
    have := h.pz b u hb
    rw [z, e] at this; cases this
  have le : W.le0 ⟨upd W.Z p o, W.ρ, P0, W.sx⟩ := ⟨fun b u hb => (upd_ne (nz b u hb)).trans hb, fun _ _ q => q, fun _ h => h⟩
  have lf : ∀ {b}, W.P b = none → P0 b = none := fun {b} q => by
    cases z : P0 b with
    | none => rfl
    | some u => rw [hP _ _ z] at q; cases q
  refine ⟨fun b u hb => ?_, fun b u hb => ?_, fun n u hn hd => ?_, h.inj, h.al, h.tb, fun b u hb => h.pf _ _ (hP _ _ hb), fun n a w hn hd ha => lf (h.pd n a w hn hd ha), fun b u hb => ?_, h.xc.mono le, fun b o hb => h.pk b o (hP _ _ hb)⟩
  · have hb' : upd W.Z p o b = some u := hb
    by_cases q : b = p
    · subst q; rw [upd_same] at hb'; cases hb'; exact h.pf _ _ e
    · rw [upd_ne q] at hb'; exact h.fz _ _ hb'
  · have hb' : upd W.Z p o b = some u := hb
    by_cases q : b = p
    · subst q; rw [upd_same] at hb'; cases hb'; exact k
    · rw [upd_ne q] at hb'; exact h.zk _ _ hb'
  · obtain ⟨a, h1, h2, h3⟩ := h.ob n u hn hd
    exact ⟨a, h1, (upd_ne (ne n u a hn hd h1)).trans h2, h3.mono le rfl⟩
  · have hb' : upd W.Z p o b = some u := hb
    by_cases q : b = p
    · subst q; exact h0
    · rw [upd_ne q] at hb'; exact lf (h.pz _ _ hb')
/-- .. is let go -/
theorem HR.unpin (h : HR K T W S H) {P0 : Hp} (hP : ∀ b u, P0 b = some u → W.P b = some u) : HR K T ⟨W.Z, W.ρ, P0, W.sx⟩ S H := by
  have lf : ∀ {b}, W.P b = none → P0 b = none := fun {b} q => by
    cases z : P0 b with
    | none => rfl
    | some u => rw [hP _ _ z] at q; cases q
  refine ⟨h.fz, h.zk, fun n u hn hd => ?_, h.inj, h.al, h.tb, fun b u hb => h.pf _ _ (hP _ _ hb), fun n a w hn hd ha => lf (h.pd n a w hn hd ha), fun b u hb => lf (h.pz _ _ hb), h.xc.mono ⟨Same.refl _, fun _ _ q => q, fun _ h => h⟩, fun b o hb => h.pk b o (hP _ _ hb)⟩
  obtain ⟨a, h1, h2, h3⟩ := h.ob n u hn hd
  exact ⟨a, h1, h2, OR.mono (W := W) (W' := ⟨W.Z, W.ρ, P0, W.sx⟩) ⟨Same.refl _, fun _ _ q => q, fun _ h => h⟩ rfl h3⟩
/-- a live thing of the store is locked: pinned as it stands, with the mark o' on it -/
theorem HR.lock (h : HR K T W S H) {n : Nat} {a : Addr} {o : SO} {o' : HO} (ha : W.ρ n = some a) (hz : W.Z a = none) (hS : S[n]? = some o) (hd : o ≠ .dead) (ho' : (∀ ps, o' ≠ .tbl ps) ∧ ∀ φ, o' ≠ .ext φ) : HR K T (W.pin a o') (S.set n .dead) (upd H a o') := by
  have hl := (h.al n a ha).2
  have live : ∀ (m : Nat) u, (S.set n .dead)[m]? = some u → u ≠ .dead → m ≠ n ∧ S[m]? = some u := fun m u hm hu => by
    by_cases q : m = n
    · subst q
      rw [List.getElem?_set_self hl] at hm
      cases hm
      exact absurd rfl hu
    · rw [List.getElem?_set_ne (Ne.symm q)] at hm
      exact ⟨q, hm⟩
  have ne : ∀ m b, m ≠ n → W.ρ m = some b → b ≠ a := fun m b q hb z => q (h.inj m n a (z ▸ hb) ha)
  have pa : W.P a = none := h.pd n a o hS hd ha
  refine ⟨fun b u hb => (upd_ne (ne_of_none hb hz)).trans (h.fz _ _ hb), h.zk, fun m u hm hu => ?_, h.inj, fun m b hb => ?_, tabs_upd h.tb (.inr (h.al n a ha).1), fun b u hb => ?_, fun m b u hm hu hb => ?_, fun b u hb => ?_, h.xc.mono Wd.le_pin, pk_upd h.pk ho'⟩
  · obtain ⟨q, hm⟩ := live m u hm hu
    obtain ⟨b, h1, h2, h3⟩ := h.ob m u hm hu
    exact ⟨b, h1, h2, h3.mono Wd.le_pin (upd_ne (ne m b q h1))⟩
  · obtain ⟨⟨w, q1, q2⟩, l⟩ := h.al m b hb
    refine ⟨?_, by simpa using l⟩
    by_cases c : b = a
    · subst c; exact ⟨o', upd_same, ho'⟩
    · exact ⟨w, (upd_ne c).trans q1, q2⟩
  · have hb' : upd W.P a o' b = some u := hb
    by_cases q : b = a
    · subst q; rw [upd_same] at hb' ⊢; exact hb'
    · rw [upd_ne q] at hb' ⊢; exact h.pf _ _ hb'
  · obtain ⟨q, hm⟩ := live m u hm hu
    exact (upd_ne (ne m b q hb)).trans (h.pd m b u hm hu hb)
  · exact (upd_ne (ne_of_none hb hz)).trans (h.pz _ _ hb)
/-- .. and unlocked -/
theorem HR.unlock (h : HR K T W S H) {n : Nat} {a : Addr} {o : SO} {u o' : HO} {P0 : Hp} (ha : W.ρ n = some a) (e : W.P a = some o') (ho' : (∀ ps, o' ≠ .tbl ps) ∧ ∀ φ, o' ≠ .ext φ) (hu : (∀ ps, u ≠ .tbl ps) ∧ ∀ φ, u ≠ .ext φ) (h0 : P0 a = none) (hP : ∀ b u, P0 b = some u → W.P b = some u)
    (ho : ∀ W' : Wd, W.le0 W' → OR K W' (upd H a u) a o) : HR K T ⟨W.Z, W.ρ, P0, W.sx⟩ (S.set n o) (upd H a u) := by
  have hl := (h.al n a ha).2
  have hz : W.Z a = none := by
    cases q : W.Z a with
    | none => rfl
    | some w => have := h.pz a w q; rw [e] at this; cases this
  have lf : ∀ {b}, W.P b = none → P0 b = none := fun {b} q => by
    cases z : P0 b with
    | none => rfl
    | some u => rw [hP _ _ z] at q; cases q
  have le : W.le0 ⟨W.Z, W.ρ, P0, W.sx⟩ := ⟨Same.refl _, fun _ _ q => q, fun _ h => h⟩
  have ne : ∀ m b, m ≠ n → W.ρ m = some b → b ≠ a := fun m b q hb z => q (h.inj m n a (z ▸ hb) ha)
  refine ⟨fun b w hb => (upd_ne (ne_of_none hb hz)).trans (h.fz _ _ hb), h.zk, fun m w hm hd => ?_, h.inj, fun m b hb => ?_, tabs_upd h.tb (.inr ⟨o', h.pf _ _ e, ho'⟩), fun b w hb => ?_, fun m b w hm hd hb => ?_, fun b w hb => lf (h.pz _ _ hb), h.xc.mono le, fun b o hb => h.pk b o (hP _ _ hb)⟩
  · by_cases q : m = n
    · subst q
      rw [List.getElem?_set_self hl] at hm
      cases hm
      exact ⟨a, ha, hz, ho _ le⟩
    · rw [List.getElem?_set_ne (Ne.symm q)] at hm
      obtain ⟨b, h1, h2, h3⟩ := h.ob m w hm hd
      exact ⟨b, h1, h2, h3.mono le (upd_ne (ne m b q h1))⟩
  · obtain ⟨⟨w, q1, q2⟩, l⟩ := h.al m b hb
    refine ⟨?_, by simpa using l⟩
    by_cases c : b = a
    · subst c; exact ⟨u, upd_same, hu⟩
    · exact ⟨w, (upd_ne c).trans q1, q2⟩
  · exact (upd_ne (ne_of_none hb h0)).trans (h.pf _ _ (hP _ _ hb))
  · by_cases q : m = n
    · subst q
      rw [ha] at hb; cases hb
      exact h0
    · rw [List.getElem?_set_ne (Ne.symm q)] at hm
      exact lf (h.pd m b w hm hd hb)
end
end MM
end
section
set_option Elab.async false
set_option linter.all false
set_option maxRecDepth 100000
set_option maxHeartbeats 1048576
namespace MM
open L2 PyProof.Rows PySem.Spec PySem

/-! ### judgements -/
def XR (K : PySem.W.Frag) (W : Wd) (fs : List (Str × D)) (dx : Option Addr) (H : Hp) : Prop := ∃ d gs, dx = some d ∧ W.Z d = some (.xd gs) ∧ FR K W fs gs
section
variable {K : PySem.W.Frag} {T : Tx} {Wx : WX} {W W1 : Wd} {σ : L2.St} {δ : Env'} {α β γ ε : Type}
/-- what is wanted of a run -/
def Post (K : PySem.W.Frag) (T : Tx) (Wx : WX) (W : Wd) (σ : L2.St) {α β : Type} (R : Wd → α → β → Prop) (r : Res α) (Q : β → Hp → Prop) : Prop := match r with
  | .ok a S' => ∀ W' v H', W.le W' → R W' a v → HR K T W' S' H' → Q v H'
  | .exc C fs S' => ∀ W' dx H', W.le W' → XR K W' fs dx H' → HR K T W' S' H' → Wx (.ref C) dx σ H'
  | .bad => False
theorem Post.mono {R : Wd → α → β → Prop} {r : Res α} {Q : β → Hp → Prop} (e : W.le W1) (h : Post K T Wx W σ R r Q) : Post K T Wx W1 σ R r Q := by
  cases r with
  | ok a S => exact fun W' v H' l x y => h W' v H' (e.trans l) x y
  | exc C fs S => exact fun W' v H' l x y => h W' v H' (e.trans l) x y
  | bad => exact h
theorem Post.imp {R : Wd → α → β → Prop} {r : Res α} {Q Q' : β → Hp → Prop} (h : Post K T Wx W σ R r Q) (i : ∀ v H, Q v H → Q' v H) : Post K T Wx W σ R r Q' := by
  cases r with
  | ok a S => exact fun W' v H' l x y => i _ _ (h W' v H' l x y)
  | exc C fs S => exact h
  | bad => exact h
theorem Post.bind {R : Wd → α → β → Prop} {R1 : Wd → γ → ε → Prop} {m : M γ} {f : γ → M α} {S : Store} {Q : β → Hp → Prop} (h : Post K T Wx W σ R (m.bind f S) Q) :
    Post K T Wx W σ R1 (m S) (fun v H1 => ∃ W1 a S1, W.le W1 ∧ R1 W1 a v ∧ HR K T W1 S1 H1 ∧ Post K T Wx W1 σ R (f a S1) Q) := by
  have h' : Post K T Wx W σ R (match m S with | .ok a S' => f a S' | .exc C fs S' => .exc C fs S' | .bad => .bad) Q := h
  cases e : m S with
  | ok a S1 =>
    rw [e] at h'
    exact fun W' v H' l x y => ⟨W', a, S1, l, x, y, h'.mono l⟩
  | exc C fs S1 => rw [e] at h'; exact h'
  | bad => rw [e] at h'; exact h'
theorem Post.ok {R : Wd → α → β → Prop} {a : α} {S : Store} {Q : β → Hp → Prop} (h : Post K T Wx W σ R (.ok a S) Q) : ∀ W' v H', W.le W' → R W' a v → HR K T W' S H' → Q v H' := h

def RV (K : PySem.W.Frag) : Wd → D → V → Prop := fun W d v => VR K W d v
def RVs (K : PySem.W.Frag) : Wd → List D → List V → Prop := fun W d v => VRs K W d v
def RB : Wd → Bool → Bool → Prop := fun _ a b => a = b
/-- an expression, a test, arguments, as runs -/
def tE (K : PySem.W.Frag) (T : Tx) (Wx : WX) (f : Env' → M D) : TE := fun σ H Q => ∃ W δ S, ER K W δ σ ∧ HR K T W S H ∧ Post K T Wx W σ (RV K) (f δ S) Q
def tB (K : PySem.W.Frag) (T : Tx) (Wx : WX) (f : Env' → M Bool) : TT := fun σ H Q => ∃ W δ S, ER K W δ σ ∧ HR K T W S H ∧ Post K T Wx W σ RB (f δ S) Q
def tAr (K : PySem.W.Frag) (T : Tx) (Wx : WX) (f : Env' → M (List D)) : TA := fun σ H Q => ∃ W δ S, ER K W δ σ ∧ HR K T W S H ∧ Post K T Wx W σ (RVs K) (f δ S) Q
end
structure PEm (X : Cx) (T : Tx) (Wx : WX) (e : Expr) (f : Env' → M D) : Prop where
  run : PE X e (tE X.K T Wx f)
structure PTm (X : Cx) (T : Tx) (Wx : WX) (e : Expr) (f : Env' → M Bool) : Prop where
  run : PT X e (tB X.K T Wx f)
structure PWm (X : Cx) (T : Tx) (Wx : WX) (e : Expr) (f : Env' → M Bool) : Prop where
  run : PW X e (tB X.K T Wx f)
structure PAm (X : Cx) (T : Tx) (Wx : WX) (es : List Expr) (f : Env' → M (List D)) : Prop where
  run : PA X es (tAr X.K T Wx f)
theorem pe_imp {X : Cx} {e : Expr} {t t' : TE} (h : PE X e t) (i : ∀ σ H Q, t' σ H Q → t σ H Q) : PE X e t' := ⟨fun pins s σ H Q I q => h.run pins s σ H Q I (i _ _ _ q)⟩
theorem pt_imp {X : Cx} {e : Expr} {t t' : TT} (h : PT X e t) (i : ∀ σ H Q, t' σ H Q → t σ H Q) : PT X e t' := ⟨fun pins s σ H Q I q => h.run pins s σ H Q I (i _ _ _ q)⟩
theorem pw_imp {X : Cx} {e : Expr} {t t' : TT} (h : PW X e t) (i : ∀ σ H Q, t' σ H Q → t σ H Q) : PW X e t' := ⟨fun wh pins s σ H Q I q => h.run wh pins s σ H Q I (i _ _ _ q)⟩
theorem pa_imp {X : Cx} {e : List Expr} {t t' : TA} (h : PA X e t) (i : ∀ σ H Q, t' σ H Q → t σ H Q) : PA X e t' := ⟨fun pos pins s σ H Q I q => h.run pos pins s σ H Q I (i _ _ _ q)⟩

section
variable {X : Cx} {T : Tx} {Wx : WX} {e a b c : Expr} {es : List Expr} {f g h' : Env' → M D} {pos : Pos} {fs : Env' → M (List D)}

/-! ### names, constants -/
def varD : Option D → M D
  | some .exn => M.bad
  | some d => M.pure d
  | none => M.bad
def eVar (i : Nat) : Env' → M D := fun δ => varD (δ[i]?.getD none)
def eC (d : D) : Env' → M D := fun _ => M.pure d
theorem pem_var {i : Nat} {x : Str} (hN : X.N[i]? = some x) (hv : Vis X.env.scope x) (hd : (x == ("__debug__" : Str)) = false := by decide) (hcd : (x == ("__classdict__" : Str)) = false := by decide) : PEm X T Wx (.Name x pos) (eVar i) := by
  refine ⟨pe_imp (pe_var hN hv hd hcd) fun σ H Q ⟨W, δ, S, er, hr, p⟩ => ?_⟩
  unfold eVar at p
  cases q : δ[i]? with
  | none => rw [q] at p; exact p.elim
  | some o =>
    cases o with
    | none => rw [q] at p; exact p.elim
    | some d =>
      rw [q] at p
      rcases er.2 i d q with ⟨rfl, _⟩ | ⟨v, h1, h2⟩
      · exact p.elim
      · refine ⟨v, h1, ?_⟩
        cases d <;> first | exact p W v H (.refl W) h2 hr | cases h2
theorem pem_int {i j} : PEm X T Wx (.Constant (.int i) j pos) (eC (.int i)) := ⟨pe_imp pe_int fun _ H _ ⟨W, _, _, _, hr, p⟩ => p W _ H (.refl W) (.int i) hr⟩
theorem pem_bl {i j} : PEm X T Wx (.Constant (.bool i) j pos) (eC (.bl i)) := ⟨pe_imp pe_bl fun _ H _ ⟨W, _, _, _, hr, p⟩ => p W _ H (.refl W) (.bl i) hr⟩
theorem pem_non {j} : PEm X T Wx (.Constant .none j pos) (eC .non) := ⟨pe_imp pe_non fun _ H _ ⟨W, _, _, _, hr, p⟩ => p W _ H (.refl W) .non hr⟩
theorem pem_str {i j} : PEm X T Wx (.Constant (.str i) j pos) (eC (.str i)) := ⟨pe_imp pe_str fun _ H _ ⟨W, _, _, _, hr, p⟩ => p W _ H (.refl W) (.str i) hr⟩
/-- what a module's name holds -/
structure Kd (K : PySem.W.Frag) (mg : Str → Option Value) (x : Str) (d : D) : Prop where
  ex : ∃ u v, mg x = some u ∧ RelV v u ∧ ∀ W, VR K W d v
theorem pem_glob {x : Str} {d : D} (hg : Gl X x) (k : Kd X.K X.mg x d) (hd : (x == ("__debug__" : Str)) = false := by decide) : PEm X T Wx (.Name x pos) (eC d) := by
  obtain ⟨u, v, hm, r, k⟩ := k.ex
  exact ⟨pe_imp (pe_glob hg hm r hd) fun σ H Q ⟨W, δ, S, er, hr, p⟩ => p W v H (.refl W) (k W) hr⟩
theorem Kd.adr {K : PySem.W.Frag} {mg : Str → Option Value} {x : Str} {a : Addr} (h : mg x = some (.ref a)) : Kd K mg x (.adr a) := ⟨_, .ref a, h, rfl, fun _ => .adr a⟩
theorem pem_ty {x : Str} {n : String} (hg : Gl X x) (hm : X.mg x = none) (hv : bootBuiltins x = some (.type n)) (hn : x ≠ "__name__" := by decide) (hd : (x == ("__debug__" : Str)) = false := by decide) : PEm X T Wx (.Name x pos) (eC (.ty n)) :=
  ⟨pe_imp (pe_bltn (v := .ty n) hg hm hv rfl hn hd) fun σ H Q ⟨W, δ, S, er, hr, p⟩ => p W _ H (.refl W) (.ty n) hr⟩

/-! ### arguments -/
def aNil : Env' → M (List D) := fun _ => M.pure []
def aCons (f : Env' → M D) (fs : Env' → M (List D)) : Env' → M (List D) := fun δ => (f δ).bind fun x => (fs δ).bind fun xs => M.pure (x :: xs)
theorem pam_nil : PAm X T Wx [] aNil := ⟨pa_imp pa_nil fun _ H _ ⟨W, _, _, _, hr, p⟩ => p W _ H (.refl W) .nil hr⟩
theorem pam_cons (ha : PEm X T Wx e f) (hr : PAm X T Wx es fs) (hs : starEach (e :: es) X.env = (false, eval e X.env) :: starEach es X.env := by rfl) : PAm X T Wx (e :: es) (aCons f fs) := by
  refine ⟨pa_imp (pa_cons ha.run hr.run hs) fun σ H Q ⟨W, δ, S, er, hr, p⟩ => ?_⟩
  refine ⟨W, δ, S, er, hr, (Post.bind (R1 := RV X.K) p).imp fun v H1 ⟨W1, d, S1, l1, r1, h1, p1⟩ => ?_⟩
  refine ⟨W1, δ, S1, er.mono l1, h1, (Post.bind (R1 := RVs X.K) p1).imp fun vs H2 ⟨W2, ds, S2, l2, r2, h2, p2⟩ => ?_⟩
  exact p2 W2 _ H2 (.refl _) (.cons (r1.mono l2) r2) h2

/-! ### tuples, lists -/
def eTup (fs : Env' → M (List D)) : Env' → M D := fun δ => (fs δ).bind fun xs => M.ask (xs.length ≤ sizeLine) (M.pure (.tup xs))
def eLst (fs : Env' → M (List D)) : Env' → M D := fun δ => (fs δ).bind fun xs => M.ask (xs.length ≤ sizeLine) (M.pure (.lst xs))
/-- a list that is to change -/
def eLstM (fs : Env' → M (List D)) : Env' → M D := fun δ => (fs δ).bind fun xs => M.ask (xs.length ≤ sizeLine) fun S => .ok (.ref S.length) (S ++ [.lst xs])
theorem Post.ask {K : PySem.W.Frag} {W : Wd} {σ : L2.St} {α β : Type} {R : Wd → α → β → Prop} {c : Prop} [Decidable c] {m : M α} {S : Store} {Q : β → Hp → Prop} (h : Post K T Wx W σ R (M.ask c m S) Q) : c ∧ Post K T Wx W σ R (m S) Q := by
  have h' : Post K T Wx W σ R (if c then m S else .bad) Q := h
  by_cases q : c
  · rw [if_pos q] at h'; exact ⟨q, h'⟩
  · rw [if_neg q] at h'; exact h'.elim
theorem lay_tup {K : PySem.W.Frag} {W : Wd} {S : Store} {H : Hp} {ds : List D} {vs : List V} {p : Addr} (h : HR K T W S H) (r : VRs K W ds vs) (hp : H p = none) :
    W.le (W.lay p (.tup vs)) ∧ VR K (W.lay p (.tup vs)) (.tup ds) (.ref p) ∧ HR K T (W.lay p (.tup vs)) S (upd H p (.tup vs)) :=
  ⟨Wd.le_lay (h.znone hp), .tup (.inl (.inl upd_same)) (r.mono (Wd.le_lay (h.znone hp))), h.lay hp trivial⟩
theorem lay_lst {K : PySem.W.Frag} {W : Wd} {S : Store} {H : Hp} {ds : List D} {vs : List V} {p : Addr} (h : HR K T W S H) (r : VRs K W ds vs) (hp : H p = none) :
    W.le (W.lay p (.lst vs)) ∧ VR K (W.lay p (.lst vs)) (.lst ds) (.ref p) ∧ HR K T (W.lay p (.lst vs)) S (upd H p (.lst vs)) :=
  ⟨Wd.le_lay (h.znone hp), .lst upd_same (r.mono (Wd.le_lay (h.znone hp))), h.lay hp trivial⟩
theorem put_lst {K : PySem.W.Frag} {W : Wd} {S : Store} {H : Hp} {ds : List D} {vs : List V} {p : Addr} (h : HR K T W S H) (r : VRs K W ds vs) (hp : H p = none) :
    W.le (W.put S.length p) ∧ VR K (W.put S.length p) (.ref S.length) (.ref p) ∧ HR K T (W.put S.length p) (S ++ [.lst ds]) (upd H p (.lst vs)) :=
  ⟨h.le_put, .ref (if_pos rfl), h.put hp ⟨fun _ => nofun, fun _ => nofun⟩ fun W' l => ⟨vs, upd_same, r.mono l⟩⟩
theorem pem_tup {k} (h : PAm X T Wx es fs) : PEm X T Wx (.Tuple es k pos) (eTup fs) := by
  refine ⟨pe_imp (pe_tup h.run) fun σ H Q ⟨W, δ, S, er, hr, p⟩ => ?_⟩
  refine ⟨W, δ, S, er, hr, (Post.bind (R1 := RVs X.K) p).imp fun vs H1 ⟨W1, ds, S1, l1, r1, h1, p1⟩ => ?_⟩
  obtain ⟨z, p1⟩ := Post.ask p1
  refine ⟨(VRs.length r1) ▸ z, fun q hq => ?_⟩
  obtain ⟨a1, a2, a3⟩ := lay_tup h1 r1 hq
  exact p1 _ _ _ a1 a2 a3
theorem pem_lst (h : PAm X T Wx es fs) : PEm X T Wx (.List es pos) (eLst fs) := by
  refine ⟨pe_imp (pe_lst h.run) fun σ H Q ⟨W, δ, S, er, hr, p⟩ => ?_⟩
  refine ⟨W, δ, S, er, hr, (Post.bind (R1 := RVs X.K) p).imp fun vs H1 ⟨W1, ds, S1, l1, r1, h1, p1⟩ => ?_⟩
  obtain ⟨z, p1⟩ := Post.ask p1
  refine ⟨(VRs.length r1) ▸ z, fun q hq => ?_⟩
  obtain ⟨a1, a2, a3⟩ := lay_lst h1 r1 hq
  exact p1 _ _ _ a1 a2 a3
theorem pem_lstM (h : PAm X T Wx es fs) : PEm X T Wx (.List es pos) (eLstM fs) := by
  refine ⟨pe_imp (pe_lst h.run) fun σ H Q ⟨W, δ, S, er, hr, p⟩ => ?_⟩
  refine ⟨W, δ, S, er, hr, (Post.bind (R1 := RVs X.K) p).imp fun vs H1 ⟨W1, ds, S1, l1, r1, h1, p1⟩ => ?_⟩
  obtain ⟨z, p1⟩ := Post.ask p1
  refine ⟨(VRs.length r1) ▸ z, fun q hq => ?_⟩
  obtain ⟨a1, a2, a3⟩ := put_lst h1 r1 hq
  exact p1 _ _ _ a1 a2 a3

/-! ### operators -/
def OpM (X : Cx) (T : Tx) (f : Value → Value → Sem Value) (g : D → D → M D) : Prop := ∃ r : R2, OpR X f r ∧
  ∀ (W : Wd) (S : Store) (H : Hp) (d1 d2 : D) (x y : V) (Q : VK) (σ : L2.St) (Wx : WX), HR X.K T W S H → VR X.K W d1 x → VR X.K W d2 y → Post X.K T Wx W σ (RV X.K) (g d1 d2 S) Q → r x y H Q
def e2 (g : D → D → M D) (f1 f2 : Env' → M D) : Env' → M D := fun δ => (f1 δ).bind fun x => (f2 δ).bind fun y => g x y
theorem e2_ok {t : TE} {r : R2} {gg : D → D → M D} {K : PySem.W.Frag} (h1 : ∀ (W : Wd) (S : Store) (H : Hp) (d1 d2 : D) (x y : V) (Q : VK) (σ : L2.St) (Wx : WX), HR K T W S H → VR K W d1 x → VR K W d2 y → Post K T Wx W σ (RV K) (gg d1 d2 S) Q → r x y H Q)
    {σ : L2.St} {H : Hp} {Q : VK} (h : tE K T Wx (e2 gg f g) σ H Q) : tOp r (tE K T Wx f) (tE K T Wx g) σ H Q := by
  obtain ⟨W, δ, S, er, hr, p⟩ := h
  refine ⟨W, δ, S, er, hr, (Post.bind (R1 := RV K) p).imp fun v H1 ⟨W1, d, S1, l1, r1, q1, p1⟩ => ?_⟩
  refine ⟨W1, δ, S1, er.mono l1, q1, (Post.bind (R1 := RV K) p1).imp fun vs H2 ⟨W2, ds, S2, l2, r2, q2, p2⟩ => ?_⟩
  exact h1 W2 S2 H2 d ds v vs Q σ Wx q2 (r1.mono l2) r2 p2
theorem pem_op {op : Operator} {gg : D → D → M D} (o : OpM X T (binaryOp op) gg) (ha : PEm X T Wx a f) (hb : PEm X T Wx b g) : PEm X T Wx (.BinOp a op b pos) (e2 gg f g) := by
  obtain ⟨r, ho, h1⟩ := o
  exact ⟨pe_imp (pe_op ho ha.run hb.run) fun σ H Q h => e2_ok (t := tE X.K T Wx f) h1 h⟩
theorem pem_cmp {op : CmpOp} {gg : D → D → M D} (o : OpM X T (compareOp op) gg) (ha : PEm X T Wx a f) (hb : PEm X T Wx b g) (hm : behindInMarks op b = false) : PEm X T Wx (.Compare a [op] [b] pos) (e2 gg f g) := by
  obtain ⟨r, ho, h1⟩ := o
  exact ⟨pe_imp (pe_cmpR ho ha.run hb.run hm) fun σ H Q h => e2_ok (t := tE X.K T Wx f) h1 h⟩
/-- a truth value -/
def isBl : D → M Bool
  | .bl b => M.pure b
  | _ => M.bad
def bTest (f : Env' → M D) : Env' → M Bool := fun δ => (f δ).bind isBl
theorem bTest_ok {K : PySem.W.Frag} {t : TE} (h1 : ∀ σ H Q, tE K T Wx f σ H Q → t σ H Q) {σ : L2.St} {H : Hp} {Q : Bool → Hp → Prop} (h : tB K T Wx (bTest f) σ H Q) : tTest t σ H Q := by
  obtain ⟨W, δ, S, er, hr, p⟩ := h
  refine h1 _ _ _ ⟨W, δ, S, er, hr, (Post.bind (R1 := RV K) p).imp fun v H1 ⟨W1, d, S1, l1, r1, q1, p1⟩ => ?_⟩
  cases d with
  | bl b =>
    cases r1
    exact ⟨b, rfl, p1 W1 b H1 (.refl _) rfl q1⟩
  | _ => exact p1.elim
theorem ptm_cmp {op : CmpOp} {gg : D → D → M D} (o : OpM X T (compareOp op) gg) (ha : PEm X T Wx a f) (hb : PEm X T Wx b g) (hm : behindInMarks op b = false) : PTm X T Wx (.Compare a [op] [b] pos) (bTest (e2 gg f g)) := by
  obtain ⟨r, ho, h1⟩ := o
  exact ⟨pt_imp (pt_cmpR ho ha.run hb.run hm) fun σ H Q h => bTest_ok (fun σ H Q h => e2_ok (t := tE X.K T Wx f) h1 h) h⟩
/-- a < b < c -/
def e3 (g1 g2 : D → D → M D) (f1 f2 f3 : Env' → M D) : Env' → M D := fun δ => (f1 δ).bind fun x => (f2 δ).bind fun y => (g1 x y).bind fun z => (isBl z).bind fun k => if k = true then (f3 δ).bind fun w => g2 y w else M.pure (.bl false)
theorem chain_ok {op op' : CmpOp} {g1 g2 : D → D → M D} (o : OpM X T (compareOp op) g1) (o' : OpM X T (compareOp op') g2) (ha : PEm X T Wx a f) (hb : PEm X T Wx b g) (hc : PEm X T Wx c h') :
    ∃ r r', OpR X (compareOp op) r ∧ OpR X (compareOp op') r' ∧ ∀ σ H Q, tE X.K T Wx (e3 g1 g2 f g h') σ H Q → tChain r r' (tE X.K T Wx f) (tE X.K T Wx g) (tE X.K T Wx h') σ H Q := by
  obtain ⟨r, ho, h1⟩ := o
  obtain ⟨r', ho', h1'⟩ := o'
  refine ⟨r, r', ho, ho', fun σ H Q ⟨W, δ, S, er, hr, p⟩ => ?_⟩
  refine ⟨W, δ, S, er, hr, (Post.bind (R1 := RV X.K) p).imp fun v H1 ⟨W1, d, S1, l1, r1, q1, p1⟩ => ?_⟩
  refine ⟨W1, δ, S1, er.mono l1, q1, (Post.bind (R1 := RV X.K) p1).imp fun v2 H2 ⟨W2, d2, S2, l2, r2, q2, p2⟩ => ?_⟩
  refine h1 W2 S2 H2 d d2 v v2 _ σ Wx q2 (r1.mono l2) r2 ((Post.bind (R1 := RV X.K) p2).imp fun v3 H3 ⟨W3, d3, S3, l3, r3, q3, p3⟩ => ?_)
  cases d3 with
  | bl k =>
    cases r3
    refine ⟨k, rfl, ?_⟩
    have p4 : Post X.K T Wx W3 σ (RV X.K) ((if k = true then (h' δ).bind fun w => g2 d2 w else M.pure (.bl false)) S3) Q := p3
    cases k with
    | true =>
      rw [if_pos rfl] at p4 ⊢
      refine ⟨W3, δ, S3, ((er.mono l1).mono l2).mono l3, q3, (Post.bind (R1 := RV X.K) p4).imp fun v4 H4 ⟨W4, d4, S4, l4, r4, q4, p5⟩ => ?_⟩
      exact h1' W4 S4 H4 d2 d4 v2 v4 Q σ Wx q4 ((r2.mono l3).mono l4) r4 p5
    | false =>
      rw [if_neg Bool.false_ne_true] at p4 ⊢
      exact p4 W3 _ H3 (.refl _) (.bl false) q3
  | _ => exact p3.elim
theorem pem_chain {op op' : CmpOp} {g1 g2 : D → D → M D} (o : OpM X T (compareOp op) g1) (o' : OpM X T (compareOp op') g2) (ha : PEm X T Wx a f) (hb : PEm X T Wx b g) (hc : PEm X T Wx c h')
    (hm : lastMarks [op, op'] [b, c] = false := by with_unfolding_all rfl) : PEm X T Wx (.Compare a [op, op'] [b, c] pos) (e3 g1 g2 f g h') := by
  obtain ⟨r, r', ho, ho', k⟩ := chain_ok o o' ha hb hc
  exact ⟨pe_imp (pe_chain ho ho' ha.run hb.run hc.run hm) k⟩
theorem ptm_chain {op op' : CmpOp} {g1 g2 : D → D → M D} (o : OpM X T (compareOp op) g1) (o' : OpM X T (compareOp op') g2) (ha : PEm X T Wx a f) (hb : PEm X T Wx b g) (hc : PEm X T Wx c h')
    (hm : lastMarks [op, op'] [b, c] = false := by with_unfolding_all rfl) : PTm X T Wx (.Compare a [op, op'] [b, c] pos) (bTest (e3 g1 g2 f g h')) := by
  obtain ⟨r, r', ho, ho', k⟩ := chain_ok o o' ha hb hc
  exact ⟨pt_imp (pt_chain ho ho' ha.run hb.run hc.run hm) fun σ H Q h => bTest_ok k h⟩

/-! ### and, or, not, if else -/
variable {tf tg : Env' → M Bool} {rest : List Expr}
def bAnd (f g : Env' → M Bool) : Env' → M Bool := fun δ => (f δ).bind fun k => if k = true then g δ else M.pure false
def bOr (f g : Env' → M Bool) : Env' → M Bool := fun δ => (f δ).bind fun k => if k = true then M.pure true else g δ
def bNot (f : Env' → M Bool) : Env' → M Bool := fun δ => (f δ).bind fun k => M.pure (!k)
theorem PWm.pt (h : PWm X T Wx e tf) : PTm X T Wx e tf := ⟨h.run.pt⟩
theorem pwm_and1 (ha : PTm X T Wx a tf) : PWm X T Wx (.BoolOp .And [a] pos) tf := ⟨pw_and1 ha.run⟩
theorem pwm_or1 (ha : PTm X T Wx a tf) : PWm X T Wx (.BoolOp .Or [a] pos) tf := ⟨pw_or1 ha.run⟩
theorem pwm_and (ha : PTm X T Wx a tf) (hb : PWm X T Wx (.BoolOp .And (b :: rest) pos) tg) : PWm X T Wx (.BoolOp .And (a :: b :: rest) pos) (bAnd tf tg) := by
  refine ⟨pw_imp (pw_and ha.run hb.run) fun σ H Q ⟨W, δ, S, er, hr, p⟩ => ?_⟩
  refine ⟨W, δ, S, er, hr, (Post.bind (R1 := RB) p).imp fun v H1 ⟨W1, d, S1, l1, r1, q1, p1⟩ => ?_⟩
  cases r1
  cases v with
  | true => rw [if_pos rfl] at p1 ⊢; exact ⟨W1, δ, S1, er.mono l1, q1, p1⟩
  | false => rw [if_neg Bool.false_ne_true] at p1 ⊢; exact p1 W1 false H1 (.refl _) rfl q1
theorem pwm_or (ha : PTm X T Wx a tf) (hb : PWm X T Wx (.BoolOp .Or (b :: rest) pos) tg) : PWm X T Wx (.BoolOp .Or (a :: b :: rest) pos) (bOr tf tg) := by
  refine ⟨pw_imp (pw_or ha.run hb.run) fun σ H Q ⟨W, δ, S, er, hr, p⟩ => ?_⟩
  refine ⟨W, δ, S, er, hr, (Post.bind (R1 := RB) p).imp fun v H1 ⟨W1, d, S1, l1, r1, q1, p1⟩ => ?_⟩
  cases r1
  cases v with
  | true => rw [if_pos rfl] at p1 ⊢; exact p1 W1 true H1 (.refl _) rfl q1
  | false => rw [if_neg Bool.false_ne_true] at p1 ⊢; exact ⟨W1, δ, S1, er.mono l1, q1, p1⟩
theorem ptm_not (ha : PTm X T Wx a tf) : PTm X T Wx (.UnaryOp .Not a pos) (bNot tf) := by
  refine ⟨pt_imp (pt_not ha.run) fun σ H Q ⟨W, δ, S, er, hr, p⟩ => ?_⟩
  refine ⟨W, δ, S, er, hr, (Post.bind (R1 := RB) p).imp fun v H1 ⟨W1, d, S1, l1, r1, q1, p1⟩ => ?_⟩
  cases r1
  exact p1 W1 _ H1 (.refl _) rfl q1
/-- .. as values, all but the last truths -/
def eAnd (f g : Env' → M D) : Env' → M D := fun δ => (f δ).bind fun x => (isBl x).bind fun k => if k = true then g δ else M.pure (.bl false)
def eOr (f g : Env' → M D) : Env' → M D := fun δ => (f δ).bind fun x => (isBl x).bind fun k => if k = true then M.pure (.bl true) else g δ
def eNot (f : Env' → M D) : Env' → M D := fun δ => (f δ).bind fun x => (isBl x).bind fun k => M.pure (.bl (!k))
theorem pem_one {op} (ha : PEm X T Wx a f) : PEm X T Wx (.BoolOp op [a] pos) f := ⟨pe_one ha.run⟩
theorem pem_and (ha : PEm X T Wx a f) (hb : PEm X T Wx (.BoolOp .And (b :: rest) pos) g) : PEm X T Wx (.BoolOp .And (a :: b :: rest) pos) (eAnd f g) := by
  refine ⟨pe_imp (pe_and ha.run hb.run) fun σ H Q ⟨W, δ, S, er, hr, p⟩ => ?_⟩
  refine ⟨W, δ, S, er, hr, (Post.bind (R1 := RV X.K) p).imp fun v H1 ⟨W1, d, S1, l1, r1, q1, p1⟩ => ?_⟩
  cases d with
  | bl k =>
    cases r1
    refine ⟨k, rfl, ?_⟩
    have p4 : Post X.K T Wx W1 σ (RV X.K) ((if k = true then g δ else M.pure (.bl false)) S1) Q := p1
    cases k with
    | true => rw [if_pos rfl] at p4 ⊢; exact ⟨W1, δ, S1, er.mono l1, q1, p4⟩
    | false => rw [if_neg Bool.false_ne_true] at p4 ⊢; exact p4 W1 _ H1 (.refl _) (.bl false) q1
  | _ => exact p1.elim
theorem pem_or (ha : PEm X T Wx a f) (hb : PEm X T Wx (.BoolOp .Or (b :: rest) pos) g) : PEm X T Wx (.BoolOp .Or (a :: b :: rest) pos) (eOr f g) := by
  refine ⟨pe_imp (pe_or ha.run hb.run) fun σ H Q ⟨W, δ, S, er, hr, p⟩ => ?_⟩
  refine ⟨W, δ, S, er, hr, (Post.bind (R1 := RV X.K) p).imp fun v H1 ⟨W1, d, S1, l1, r1, q1, p1⟩ => ?_⟩
  cases d with
  | bl k =>
    cases r1
    refine ⟨k, rfl, ?_⟩
    have p4 : Post X.K T Wx W1 σ (RV X.K) ((if k = true then M.pure (.bl true) else g δ) S1) Q := p1
    cases k with
    | true => rw [if_pos rfl] at p4 ⊢; exact p4 W1 _ H1 (.refl _) (.bl true) q1
    | false => rw [if_neg Bool.false_ne_true] at p4 ⊢; exact ⟨W1, δ, S1, er.mono l1, q1, p4⟩
  | _ => exact p1.elim
theorem pem_not (ha : PEm X T Wx a f) : PEm X T Wx (.UnaryOp .Not a pos) (eNot f) := by
  refine ⟨pe_imp (pe_not ha.run) fun σ H Q ⟨W, δ, S, er, hr, p⟩ => ?_⟩
  refine ⟨W, δ, S, er, hr, (Post.bind (R1 := RV X.K) p).imp fun v H1 ⟨W1, d, S1, l1, r1, q1, p1⟩ => ?_⟩
  cases d with
  | bl k =>
    cases r1
    exact ⟨k, rfl, p1 W1 _ H1 (.refl _) (.bl _) q1⟩
  | _ => exact p1.elim
def eIf (t : Env' → M Bool) (f g : Env' → M D) : Env' → M D := fun δ => (t δ).bind fun k => if k = true then f δ else g δ
theorem pem_if (hc : PTm X T Wx c tf) (ha : PEm X T Wx a f) (hb : PEm X T Wx b g) : PEm X T Wx (.IfExp c a b pos) (eIf tf f g) := by
  refine ⟨pe_imp (pe_ifExp hc.run ha.run hb.run) fun σ H Q ⟨W, δ, S, er, hr, p⟩ => ?_⟩
  refine ⟨W, δ, S, er, hr, (Post.bind (R1 := RB) p).imp fun v H1 ⟨W1, d, S1, l1, r1, q1, p1⟩ => ?_⟩
  cases r1
  cases v with
  | true => rw [if_pos rfl] at p1 ⊢; exact ⟨W1, δ, S1, er.mono l1, q1, p1⟩
  | false => rw [if_neg Bool.false_ne_true] at p1 ⊢; exact ⟨W1, δ, S1, er.mono l1, q1, p1⟩
/-- a value of any kind as a test -/
def truD (d : D) : M Bool := fun S => match d with
  | .non => .ok false S
  | .bl b => .ok b S
  | .int i => .ok (i != 0) S
  | .str y => if y.length ≤ sizeLine then .ok ((y.length : Int) != 0) S else .bad
  | .tup xs => .ok (!xs.isEmpty) S
  | .lst xs => .ok (!xs.isEmpty) S
  | .frn xs => .ok (!xs.isEmpty) S
  | .ref n => match S[n]? with
    | some (.lst xs) => .ok (!xs.isEmpty) S
    | some (.dct kvs) => .ok (!kvs.isEmpty) S
    | _ => .bad
  | _ => .bad
def bTru (f : Env' → M D) : Env' → M Bool := fun δ => (f δ).bind truD
theorem empty_of {α β : Type} {xs : List α} {ys : List β} (h : xs.length = ys.length) : (!xs.isEmpty) = !ys.isEmpty := by
  cases xs <;> cases ys <;> simp_all
theorem ptm_val (ha : PEm X T Wx a f) (he : ∀ whole, isTrue a X.env whole = (do let v ← whole; standAt a.pos; holding [v] (truthy v)) := by intro _; rfl) : PTm X T Wx a (bTru f) := by
  refine ⟨pt_imp (pt_truth ha.run he) fun σ H Q ⟨W, δ, S, er, hr, p⟩ => ?_⟩
  refine ⟨W, δ, S, er, hr, (Post.bind (R1 := RV X.K) p).imp fun v H1 ⟨W1, d, S1, l1, r1, q1, p1⟩ => ?_⟩
  cases r1 with
  | non => exact ⟨false, rfl, p1 W1 _ H1 (.refl _) rfl q1⟩
  | bl b => exact ⟨b, rfl, p1 W1 _ H1 (.refl _) rfl q1⟩
  | int i => exact ⟨_, rfl, p1 W1 _ H1 (.refl _) rfl q1⟩
  | str y =>
    have p2 : Post X.K T Wx W1 σ RB (if y.length ≤ sizeLine then Res.ok ((y.length : Int) != 0) S1 else .bad) Q := p1
    by_cases z : y.length ≤ sizeLine
    · rw [if_pos z] at p2; exact ⟨_, ⟨z, rfl⟩, p2 W1 _ H1 (.refl _) rfl q1⟩
    · rw [if_neg z] at p2; exact p2.elim
  | ty n => exact p1.elim
  | adr a => exact p1.elim
  | dct h l r => exact p1.elim
  | tup h r => exact ⟨_, .inr (.inl ⟨_, same_tup q1.fz h, rfl⟩), p1 W1 _ H1 (.refl _) (empty_of r.length) q1⟩
  | lst h r => exact ⟨_, .inl ⟨_, SqL.of (q1.fz _ _ h), rfl⟩, p1 W1 _ H1 (.refl _) (empty_of r.length) q1⟩
  | frn h r => exact ⟨_, .inl ⟨_, same_lst q1.fz h, rfl⟩, p1 W1 _ H1 (.refl _) (empty_of r.length) q1⟩
  | @ref n ad h =>
    have p2 : Post X.K T Wx W1 σ RB (match S1[n]? with | some (.lst xs) => .ok (!xs.isEmpty) S1 | some (.dct kvs) => .ok (!kvs.isEmpty) S1 | _ => .bad) Q := p1
    cases q : S1[n]? with
    | none => rw [q] at p2; exact p2.elim
    | some o =>
      rw [q] at p2
      cases o with
      | dead => exact p2.elim
      | ins C fs => exact p2.elim
      | lst xs =>
        obtain ⟨a', e1, e2, vs, e3, e4⟩ := q1.ob n _ q nofun
        rw [h] at e1; cases e1
        exact ⟨_, .inl ⟨vs, SqL.of e3, rfl⟩, p2 W1 _ H1 (.refl _) (empty_of e4.length) q1⟩
      | dct kvs =>
        obtain ⟨a', e1, e2, vs, e3, e4⟩ := q1.ob n _ q nofun
        rw [h] at e1; cases e1
        exact ⟨_, .inr (.inr ⟨vs, e3, rfl⟩), p2 W1 _ H1 (.refl _) (empty_of (Paired.length e4)) q1⟩
end
end MM
end
section
set_option Elab.async false
set_option linter.all false
set_option maxRecDepth 100000
set_option maxHeartbeats 1048576
namespace MM
open L2 PyProof.Rows PySem.Spec PySem

/-! ### plain data -/
mutual
def pd0 : D → Option PyData
  | .non => some .none
  | .bl b => some (.bool b)
  | .int i => some (.int i)
  | .str x => some (.str x)
  | .tup xs => (pds0 xs).map .tuple
  | .lst xs => (pds0 xs).map .list
  | .frn xs => (pds0 xs).map .list
  | .ref _ => none
  | .adr _ => none
  | .ty _ => none
  | .dct _ _ => none
  | .exn => none
def pds0 : List D → Option (List PyData)
  | [] => some []
  | x :: xs => (pd0 x).bind fun p => (pds0 xs).map fun ps => p :: ps
end
def pd (S : Store) : D → Option PyData
  | .ref n => match S[n]? with
    | some (.lst xs) => (pds0 xs).map .list
    | _ => none
  | d => pd0 d
section
variable {K : PySem.W.Frag} {T : Tx} {W : Wd} {S : Store} {H : Hp}
mutual
theorem pd0_plain : ∀ {d : D} {p : PyData}, pd0 d = some p → p.plain = true
  | .non, _, h => by simp [pd0] at h; subst h; rfl
  | .bl b, _, h => by simp [pd0] at h; subst h; rfl
  | .int i, _, h => by simp [pd0] at h; subst h; rfl
  | .str x, _, h => by simp [pd0] at h; subst h; rfl
  | .tup xs, _, h => by
    simp only [pd0, Option.map_eq_some_iff] at h
    obtain ⟨ps, h1, rfl⟩ := h
    simpa [PyData.plain] using pds0_plain h1
  | .lst xs, _, h => by
    simp only [pd0, Option.map_eq_some_iff] at h
    obtain ⟨ps, h1, rfl⟩ := h
    simpa [PyData.plain] using pds0_plain h1
  | .frn xs, _, h => by
    simp only [pd0, Option.map_eq_some_iff] at h
    obtain ⟨ps, h1, rfl⟩ := h
    simpa [PyData.plain] using pds0_plain h1
  | .ref _, _, h => by simp [pd0] at h
  | .adr _, _, h => by simp [pd0] at h
  | .ty _, _, h => by simp [pd0] at h
  | .dct _ _, _, h => by simp [pd0] at h
  | .exn, _, h => by simp [pd0] at h
theorem pds0_plain : ∀ {ds : List D} {ps : List PyData}, pds0 ds = some ps → PyData.plainAll ps = true
  | [], _, h => by simp [pds0] at h; subst h; rfl
  | d :: ds, _, h => by
    simp only [pds0, Option.bind_eq_some_iff, Option.map_eq_some_iff] at h
    obtain ⟨p, h1, qs, h2, rfl⟩ := h
    simp [PyData.plainAll, pd0_plain h1, pds0_plain h2]
end
mutual
theorem pd0_dp (hz : Same W.Z H) : ∀ {d : D} {p : PyData} {v : V}, pd0 d = some p → VR K W d v → Dp K H v p
  | .non, _, _, h, r => by simp [pd0] at h; subst h; cases r; exact .non
  | .bl b, _, _, h, r => by simp [pd0] at h; subst h; cases r; exact .bl b
  | .int i, _, _, h, r => by simp [pd0] at h; subst h; cases r; exact .int i
  | .str x, _, _, h, r => by simp [pd0] at h; subst h; cases r; exact .str x
  | .tup xs, _, _, h, r => by
    simp only [pd0, Option.map_eq_some_iff] at h
    obtain ⟨ps, h1, rfl⟩ := h
    cases r with
    | tup hs hr => exact .tup (same_tup hz hs) (pds0_dp hz h1 hr)
  | .lst xs, _, _, h, r => by
    simp only [pd0, Option.map_eq_some_iff] at h
    obtain ⟨ps, h1, rfl⟩ := h
    cases r with
    | lst hs hr => exact .lst (SqL.of (hz _ _ hs)) (pds0_dp hz h1 hr)
  | .frn xs, _, _, h, r => by
    simp only [pd0, Option.map_eq_some_iff] at h
    obtain ⟨ps, h1, rfl⟩ := h
    cases r with
    | frn hs hr => exact .lst (same_lst hz hs) (pds0_dp hz h1 hr)
  | .ref _, _, _, h, _ => by simp [pd0] at h
  | .adr _, _, _, h, _ => by simp [pd0] at h
  | .ty _, _, _, h, _ => by simp [pd0] at h
  | .dct _ _, _, _, h, _ => by simp [pd0] at h
  | .exn, _, _, h, _ => by simp [pd0] at h
theorem pds0_dp (hz : Same W.Z H) : ∀ {ds : List D} {ps : List PyData} {vs : List V}, pds0 ds = some ps → VRs K W ds vs → DpAll K H vs ps
  | [], _, _, h, r => by simp [pds0] at h; subst h; cases r; exact .nil
  | d :: ds, _, _, h, r => by
    simp only [pds0, Option.bind_eq_some_iff, Option.map_eq_some_iff] at h
    obtain ⟨p, h1, qs, h2, rfl⟩ := h
    cases r with
    | cons r1 r2 => exact .cons (pd0_dp hz h1 r1) (pds0_dp hz h2 r2)
end
theorem HR.lst_at (hr : HR K T W S H) {n : Nat} {a : Addr} {xs : List D} (h : W.ρ n = some a) (q : S[n]? = some (.lst xs)) : ∃ vs, H a = some (.lst vs) ∧ VRs K W xs vs ∧ W.Z a = none := by
  obtain ⟨a', e1, e2, vs, e3, e4⟩ := hr.ob n _ q nofun
  rw [h] at e1; cases e1
  exact ⟨vs, e3, e4, e2⟩
theorem pd_plain {d : D} {p : PyData} (h : pd S d = some p) : p.plain = true := by
  unfold pd at h
  split at h
  · split at h
    · simp only [Option.map_eq_some_iff] at h
      obtain ⟨ps, h1, rfl⟩ := h
      simpa [PyData.plain] using pds0_plain h1
    · cases h
  · exact pd0_plain h
theorem pd_dp (hr : HR K T W S H) {d : D} {p : PyData} {v : V} (h : pd S d = some p) (r : VR K W d v) : Dp K H v p := by
  unfold pd at h
  split at h
  · split at h
    · rename_i n xs q
      simp only [Option.map_eq_some_iff] at h; obtain ⟨ps, h1, rfl⟩ := h
      cases r with
      | ref hn =>
        obtain ⟨vs, e1, e2, _⟩ := hr.lst_at hn q
        exact .lst (SqL.of e1) (pds0_dp hr.fz h1 e2)
    · cases h
  · exact pd0_dp hr.fz h r
/-- the items of a list or tuple -/
def seqD (S : Store) : D → Option (List D)
  | .tup xs => some xs
  | .lst xs => some xs
  | .frn xs => some xs
  | .ref n => match S[n]? with
    | some (.lst xs) => some xs
    | _ => none
  | _ => none
theorem seqD_ok (hr : HR K T W S H) {d : D} {xs : List D} {v : V} (h : seqD S d = some xs) (r : VR K W d v) : ∃ a vs, v = .ref a ∧ (SqL K H a vs ∨ SqT K H a vs) ∧ VRs K W xs vs := by
  unfold seqD at h
  split at h
  · cases h; cases r with
    | tup hs hr' => exact ⟨_, _, rfl, .inr (same_tup hr.fz hs), hr'⟩
  · cases h; cases r with
    | lst hs hr' => exact ⟨_, _, rfl, .inl (SqL.of (hr.fz _ _ hs)), hr'⟩
  · cases h; cases r with
    | frn hs hr' => exact ⟨_, _, rfl, .inl (same_lst hr.fz hs), hr'⟩
  · split at h
    · rename_i q
      cases h
      cases r with
      | ref hn =>
        obtain ⟨vs, e1, e2, _⟩ := hr.lst_at hn q
        exact ⟨_, _, rfl, .inl (SqL.of e1), e2⟩
    · cases h
  · cases h
/-- a list as it stands -/
def lstD (S : Store) : D → Option (List D)
  | .lst xs => some xs
  | .ref n => match S[n]? with
    | some (.lst xs) => some xs
    | _ => none
  | _ => none
theorem lstD_ok (hr : HR K T W S H) {d : D} {xs : List D} {v : V} (h : lstD S d = some xs) (r : VR K W d v) : ∃ a vs, v = .ref a ∧ H a = some (.lst vs) ∧ VRs K W xs vs := by
  unfold lstD at h
  split at h
  · cases h; cases r with
    | lst hs hr' => exact ⟨_, _, rfl, hr.fz _ _ hs, hr'⟩
  · split at h
    · rename_i q
      cases h
      cases r with
      | ref hn =>
        obtain ⟨vs, e1, e2, _⟩ := hr.lst_at hn q
        exact ⟨_, _, rfl, e1, e2⟩
    · cases h
  · cases h
end

/-! ### the operators -/
def rP (P : PyData → PyData → Prop) (g : PyData → PyData → V) (K : PySem.W.Frag) : R2 := fun x y H Q => ∃ d e, Dp K H x d ∧ Dp K H y e ∧ P d e ∧ Q (g d e) H
def pOp (P : PyData → PyData → Bool) (g : PyData → PyData → D) : D → D → M D := fun a b S => match pd S a, pd S b with
  | some p, some q => if P p q = true then .ok (g p q) S else .bad
  | _, _ => .bad
theorem opM_p {X : Cx} {T : Tx} {f : Value → Value → Sem Value} {P : PyData → PyData → Bool} {g : PyData → PyData → Bool}
    (h : OpR X f (rP (fun p q => p.plain = true ∧ q.plain = true ∧ P p q = true) (fun p q => .bl (g p q)) X.K)) : OpM X T f (pOp P fun p q => .bl (g p q)) := by
  refine ⟨_, h, fun W S H d1 d2 x y Q σ Wx hr r1 r2 p => ?_⟩
  unfold pOp at p
  cases e1 : pd S d1 with
  | none => rw [e1] at p; exact p.elim
  | some a =>
    cases e2 : pd S d2 with
    | none => rw [e1, e2] at p; exact p.elim
    | some b =>
      rw [e1, e2] at p
      have p' : Post X.K T Wx W σ (RV X.K) (if P a b = true then Res.ok (D.bl (g a b)) S else .bad) Q := p
      by_cases c : P a b = true
      · rw [if_pos c] at p'
        exact ⟨a, b, pd_dp hr e1 r1, pd_dp hr e2 r2, ⟨pd_plain e1, pd_plain e2, c⟩, p' W _ H (.refl _) (.bl _) hr⟩
      · rw [if_neg c] at p'; exact p'.elim
/-- not too deep -/
def shal (p q : PyData) : Bool := decide (min p.depth q.depth ≤ 64)
section
variable {X : Cx} {T : Tx} {k : Nat}
theorem hu64 (hr : Room k X.A) : X.A.units + 66 < cLine := by have := hr.un; omega
theorem opM_eq (hr : Room k X.A) : OpM X T (compareOp .Eq) (pOp shal fun p q => .bl (PyData.eqv p q)) := opM_p (by
  intro pins s σ H x y v u Q I rx ry ⟨d, e, h1, h2, ⟨p1, p2, c⟩, q⟩
  obtain ⟨as, r1⟩ := Dp.reads I d x v h1 rx
  obtain ⟨bs, r2⟩ := Dp.reads I e y u h2 ry
  have c' : min d.depth e.depth ≤ 64 := of_decide_eq_true c
  exact SeqAt.eq_plain r1 r2 p1 p2 (by have := hu64 hr; omega) ⟨.bl _, H, I, rfl, q⟩)
theorem opM_ne (hr : Room k X.A) : OpM X T (compareOp .NotEq) (pOp shal fun p q => .bl (!PyData.eqv p q)) := opM_p (by
  intro pins s σ H x y v u Q I rx ry ⟨d, e, h1, h2, ⟨p1, p2, c⟩, q⟩
  obtain ⟨as, r1⟩ := Dp.reads I d x v h1 rx
  obtain ⟨bs, r2⟩ := Dp.reads I e y u h2 ry
  have c' : min d.depth e.depth ≤ 64 := of_decide_eq_true c
  exact SeqAt.ne_plain r1 r2 p1 p2 (by have := hu64 hr; omega) ⟨.bl _, H, I, rfl, q⟩)
/-- < -/
def ordOk (p q : PyData) : Bool := shal p q && PySem.W.alike p q && (match p with | .none => false | _ => true)
theorem ordOk_ne {p q : PyData} (h : ordOk p q = true) : min p.depth q.depth ≤ 64 ∧ PySem.W.alike p q = true ∧ p ≠ .none := by
  unfold ordOk at h; simp only [Bool.and_eq_true] at h
  obtain ⟨⟨h1, h2⟩, h3⟩ := h
  exact ⟨of_decide_eq_true h1, h2, fun z => by subst z; cases h3⟩
theorem opM_lt (hr : Room k X.A) : OpM X T (compareOp .Lt) (pOp ordOk fun p q => .bl (PySem.W.dataLt p q)) := opM_p (by
  intro pins s σ H x y v u Q I rx ry ⟨d, e, h1, h2, ⟨p1, p2, c⟩, q⟩
  obtain ⟨as, r1⟩ := Dp.reads I d x v h1 rx
  obtain ⟨bs, r2⟩ := Dp.reads I e y u h2 ry
  obtain ⟨c1, c2, c3⟩ := ordOk_ne c
  exact PySem.W.lt_data r1 r2 c2 c3 (by have := hu64 hr; omega) ⟨.bl _, H, I, rfl, q⟩)
theorem opM_gt (hr : Room k X.A) : OpM X T (compareOp .Gt) (pOp ordOk fun p q => .bl (PySem.W.dataLt q p)) := opM_p (by
  intro pins s σ H x y v u Q I rx ry ⟨d, e, h1, h2, ⟨p1, p2, c⟩, q⟩
  obtain ⟨as, r1⟩ := Dp.reads I d x v h1 rx
  obtain ⟨bs, r2⟩ := Dp.reads I e y u h2 ry
  obtain ⟨c1, c2, c3⟩ := ordOk_ne c
  exact PySem.W.gt_data r1 r2 c2 c3 (by have := hu64 hr; omega) ⟨.bl _, H, I, rfl, q⟩)
theorem opM_le (hr : Room k X.A) : OpM X T (compareOp .LtE) (pOp ordOk fun p q => .bl (!PySem.W.dataLt q p)) := opM_p (by
  intro pins s σ H x y v u Q I rx ry ⟨d, e, h1, h2, ⟨p1, p2, c⟩, q⟩
  obtain ⟨as, r1⟩ := Dp.reads I d x v h1 rx
  obtain ⟨bs, r2⟩ := Dp.reads I e y u h2 ry
  obtain ⟨c1, c2, c3⟩ := ordOk_ne c
  exact PySem.W.le_data r1 r2 c2 c3 (by have := hu64 hr; omega) ⟨.bl _, H, I, rfl, q⟩)
theorem opM_ge (hr : Room k X.A) : OpM X T (compareOp .GtE) (pOp ordOk fun p q => .bl (!PySem.W.dataLt p q)) := opM_p (by
  intro pins s σ H x y v u Q I rx ry ⟨d, e, h1, h2, ⟨p1, p2, c⟩, q⟩
  obtain ⟨as, r1⟩ := Dp.reads I d x v h1 rx
  obtain ⟨bs, r2⟩ := Dp.reads I e y u h2 ry
  obtain ⟨c1, c2, c3⟩ := ordOk_ne c
  exact PySem.W.ge_data r1 r2 c2 c3 (by have := hu64 hr; omega) ⟨.bl _, H, I, rfl, q⟩)
/-- in: one of a list or tuple; a text within a text -/
def inOk (p : PyData) : PyData → Bool
  | .list ds => decide (min (PyData.depthAll ds) p.depth ≤ 64)
  | .tuple ds => decide (min (PyData.depthAll ds) p.depth ≤ 64)
  | .str _ => match p with
    | .str _ => true
    | _ => false
  | _ => false
def inP (p : PyData) : PyData → Bool
  | .list ds => ds.any fun z => PyData.eqv z p
  | .tuple ds => ds.any fun z => PyData.eqv z p
  | .str y => match p with
    | .str x => !(Builtin.Str.occurrences y x 0 y.length 1).isEmpty
    | _ => false
  | _ => false
theorem opM_in (hr : Room k X.A) : OpM X T (compareOp .In) (pOp inOk fun p q => .bl (inP p q)) := opM_p (by
  intro pins s σ H x y v u Q I rx ry ⟨d, e, h1, h2, ⟨p1, p2, c⟩, q⟩
  obtain ⟨as, r1⟩ := Dp.reads I d x v h1 rx
  obtain ⟨bs, r2⟩ := Dp.reads I e y u h2 ry
  have hu := hu64 hr
  cases e with
  | list ds => exact SeqAt.in_list_data r2 r1 (by simpa [PyData.plain] using p2) p1 (by have c' : min (PyData.depthAll ds) d.depth ≤ 64 := of_decide_eq_true c; omega) ⟨.bl _, H, I, rfl, q⟩
  | tuple ds => exact SeqAt.in_tuple_data r2 r1 (by simpa [PyData.plain] using p2) p1 (by have c' : min (PyData.depthAll ds) d.depth ≤ 64 := of_decide_eq_true c; omega) ⟨.bl _, H, I, rfl, q⟩
  | str z =>
    cases d with
    | str w =>
      cases h1; cases h2
      exact op_in_str pins s σ H _ _ v u Q I rx ry ⟨_, _, rfl, rfl, q⟩
    | _ => cases c
  | _ => cases c)
theorem opM_notIn (hr : Room k X.A) : OpM X T (compareOp .NotIn) (pOp inOk fun p q => .bl (!inP p q)) := opM_p (by
  intro pins s σ H x y v u Q I rx ry ⟨d, e, h1, h2, ⟨p1, p2, c⟩, q⟩
  obtain ⟨as, r1⟩ := Dp.reads I d x v h1 rx
  obtain ⟨bs, r2⟩ := Dp.reads I e y u h2 ry
  have hu := hu64 hr
  cases e with
  | list ds => exact SeqAt.notIn_list_data r2 r1 (by simpa [PyData.plain] using p2) p1 (by have c' : min (PyData.depthAll ds) d.depth ≤ 64 := of_decide_eq_true c; omega) ⟨.bl _, H, I, rfl, q⟩
  | tuple ds => exact SeqAt.notIn_tuple_data r2 r1 (by simpa [PyData.plain] using p2) p1 (by have c' : min (PyData.depthAll ds) d.depth ≤ 64 := of_decide_eq_true c; omega) ⟨.bl _, H, I, rfl, q⟩
  | str z =>
    cases d with
    | str w =>
      cases h1; cases h2
      exact op_notIn_str pins s σ H _ _ v u Q I rx ry ⟨_, _, rfl, rfl, q⟩
    | _ => cases c
  | _ => cases c)
/-- is None; is True, is False of truths -/
def isNon : D → Bool
  | .non => true
  | _ => false
def isNoneD : D → D → M D := fun a b S => match b with
  | .non => .ok (.bl (isNon a)) S
  | _ => .bad
def notNoneD : D → D → M D := fun a b S => match b with
  | .non => .ok (.bl (!isNon a)) S
  | _ => .bad
theorem VR.non_iff {K : PySem.W.Frag} {W : Wd} {d : D} {v : V} (r : VR K W d v) : decide (v = .non) = isNon d := by
  cases r <;> simp [isNon]
theorem opM_isN : OpM X T (compareOp .Is) isNoneD := by
  refine ⟨_, op_isN, fun W S H d1 d2 x y Q σ Wx hr r1 r2 p => ?_⟩
  cases r2 with
  | non => exact ⟨rfl, p W _ H (.refl _) (by rw [r1.non_iff]; exact VR.bl _) hr⟩
  | _ => exact p.elim
theorem opM_notN : OpM X T (compareOp .IsNot) notNoneD := by
  refine ⟨_, op_notN, fun W S H d1 d2 x y Q σ Wx hr r1 r2 p => ?_⟩
  cases r2 with
  | non => exact ⟨rfl, p W _ H (.refl _) (by rw [r1.non_iff]; exact VR.bl _) hr⟩
  | _ => exact p.elim
def isBlD : D → D → M D := fun a b S => match a, b with
  | .bl x, .bl y => .ok (.bl (decide (x = y))) S
  | _, _ => .bad
theorem opM_isBl : OpM X T (compareOp .Is) isBlD := by
  refine ⟨_, op_is_bl, fun W S H d1 d2 x y Q σ Wx hr r1 r2 p => ?_⟩
  cases r1 with
  | bl b =>
    cases r2 with
    | bl c => exact ⟨b, c, rfl, rfl, p W _ H (.refl _) (.bl _) hr⟩
    | _ => exact p.elim
  | _ => exact p.elim
/-- + -/
def addD : D → D → M D := fun a b S => match a, b with
  | .int i, .int j => .ok (.int (i + j)) S
  | .str x, .str y => if x.length + y.length ≤ sizeLine then .ok (.str (x ++ y)) S else .bad
  | .tup xs, .tup ys => if xs.length + ys.length ≤ sizeLine then .ok (.tup (xs ++ ys)) S else .bad
  | a, b => match lstD S a, lstD S b with
    | some xs, some ys => if xs.length + ys.length ≤ sizeLine then .ok (.lst (xs ++ ys)) S else .bad
    | _, _ => .bad
theorem opM_add : OpM X T (binaryOp .Add) addD := by
  refine ⟨_, OpR.or op_add (OpR.or op_add_str (OpR.or op_catA op_cat)), fun W S H d1 d2 x y Q σ Wx hr r1 r2 p => ?_⟩
  unfold addD at p
  split at p
  · cases r1; cases r2
    exact .inl ⟨_, _, rfl, rfl, p W _ H (.refl _) (.int _) hr⟩
  · cases r1; cases r2
    split at p
    · rename_i z; exact .inr (.inl ⟨_, _, rfl, rfl, z, p W _ H (.refl _) (.str _) hr⟩)
    · exact p.elim
  · rename_i xs ys
    split at p
    · rename_i z
      cases r1 with
      | tup h1 q1 =>
        rename_i a va
        cases r2 with
        | tup h2 q2 =>
          rename_i b vb
          have l1 := q1.length
          have l2 := q2.length
          refine .inr (.inr (.inl ⟨_, _, va, vb, rfl, rfl, same_tup hr.fz h1, same_tup hr.fz h2, by omega, fun e => ?_, fun e1 e2 => ?_, fun e1 e2 q hq => ?_⟩))
          · subst e
            have : xs = [] := by cases xs <;> simp_all
            subst this
            exact p W _ H (.refl _) (.tup h2 q2) hr
          · subst e2
            have : ys = [] := by cases ys <;> simp_all
            subst this
            exact p W _ H (.refl _) (by rw [List.append_nil]; exact .tup h1 q1) hr
          · obtain ⟨a1, a2, a3⟩ := lay_tup hr (q1.append q2) hq
            exact p _ _ _ a1 a2 a3
    · exact p.elim
  · cases e1 : lstD S d1 with
    | none => rw [e1] at p; exact p.elim
    | some xs =>
      cases e2 : lstD S d2 with
      | none => rw [e1, e2] at p; exact p.elim
      | some ys =>
        rw [e1, e2] at p
        have p' : Post X.K T Wx W σ (RV X.K) (if xs.length + ys.length ≤ sizeLine then Res.ok (.lst (xs ++ ys)) S else .bad) Q := p
        split at p'
        · rename_i z
          obtain ⟨a, va, rfl, h1, q1⟩ := lstD_ok hr e1 r1
          obtain ⟨b, vb, rfl, h2, q2⟩ := lstD_ok hr e2 r2
          have l1 := q1.length
          have l2 := q2.length
          refine .inr (.inr (.inr ⟨a, b, va, vb, rfl, rfl, h1, h2, by omega, fun q hq => ?_⟩))
          obtain ⟨a1, a2, a3⟩ := lay_lst hr (q1.append q2) hq
          exact p' _ _ _ a1 a2 a3
        · exact p'.elim
/-- two ints -/
def iOp (C : Int → Int → Bool) (g : Int → Int → Int) : D → D → M D := fun a b S => match a, b with
  | .int i, .int j => if C i j = true then .ok (.int (g i j)) S else .bad
  | _, _ => .bad
theorem opM_i {f : Value → Value → Sem Value} {C : Int → Int → Bool} {g : Int → Int → Int} {C' : Int → Int → Prop} (h : OpR X f (rI C' fun i j => .int (g i j))) (hc : ∀ i j, C i j = true → C' i j) : OpM X T f (iOp C g) := by
  refine ⟨_, h, fun W S H d1 d2 x y Q σ Wx hr r1 r2 p => ?_⟩
  cases r1 with
  | int i =>
    cases r2 with
    | int j =>
      have p' : Post X.K T Wx W σ (RV X.K) (if C i j = true then Res.ok (.int (g i j)) S else .bad) Q := p
      split at p'
      · rename_i z; exact ⟨i, j, rfl, rfl, hc i j z, p' W _ H (.refl _) (.int _) hr⟩
      · exact p'.elim
    | _ => exact p.elim
  | _ => exact p.elim
def subD : D → D → M D := iOp (fun _ _ => true) fun i j => i - j
theorem opM_sub : OpM X T (binaryOp .Sub) subD := opM_i (C' := fun _ _ => True) (fun pins s σ H x y v u Q I rx ry ⟨i, j, h1, h2, _, q⟩ => op_sub pins s σ H x y v u Q I rx ry ⟨i, j, h1, h2, q⟩) fun _ _ _ => trivial
def mulD : D → D → M D := iOp (fun i j => decide (i.natAbs.log2 + j.natAbs.log2 < 1000000)) fun i j => i * j
theorem opM_mul : OpM X T (binaryOp .Mult) mulD := opM_i op_mulW fun i j h => show i.natAbs.log2 + j.natAbs.log2 < 1000000 from of_decide_eq_true h
def modD : D → D → M D := iOp (fun _ j => decide (0 < j)) fun i j => i % j
theorem opM_mod : OpM X T (binaryOp .Mod) modD := opM_i op_mod fun _ _ h => of_decide_eq_true h
def fdivD : D → D → M D := iOp (fun _ j => decide (0 < j ∧ j.natAbs.log2 < 9000)) fun i j => i / j
theorem opM_fdiv : OpM X T (binaryOp .FloorDiv) fdivD := opM_i op_fdivW fun i j h => show 0 < j ∧ j.natAbs.log2 < 9000 from of_decide_eq_true h
def powD : D → D → M D := iOp (fun i j => decide (0 ≤ j ∧ j ≤ 1000000 ∧ i.natAbs < 2 ^ 64)) fun i j => i ^ j.toNat
theorem opM_pow : OpM X T (binaryOp .Pow) powD := opM_i op_pow fun i j h => show 0 ≤ j ∧ j ≤ 1000000 ∧ i.natAbs < 2 ^ 64 from of_decide_eq_true h
end
end MM
end
section
set_option Elab.async false
set_option linter.all false
set_option maxRecDepth 100000
set_option maxHeartbeats 1048576
namespace MM
open PySem PySem.Spec PySem.W PyProof.Rows L2

/-! ### sorted of a list or tuple of data -/
section
variable {vs : List Value} {prog : Program} {w : World} {A : Around} {E : Value → Shared → Prop} {s : Shared} {β : Type} {bs : List β} {enc : β → PyData} {R : Value → β → Prop}
theorem reads_keeps {h h' : Heap} (k : ∀ b o, h.get? b = some o → h'.get? b = some o) {v : Value} {d : PyData} {as : List Addr} (r : Reads h v d as) : Reads h' v d as := PyProof.Rows.Reads.keeps k r
theorem collect_tup {l : Addr} {o : Obj} {n : Nat} {Q : List Value → Shared → Prop} (ho : s.heap.get? l = some o) (hc : o.cls = .type "tuple") (hd : o.data = .seq vs.toArray n)
    (h : Q vs { s with heap := (s.heap.push (seqObj "list" #[] 0)).update s.heap.objs.size (Obj.mapSeq (· ++ vs.toArray)) }) (hsz : vs.length ≤ sizeLine) : wpAny (model prog w) A (collect (.ref l)) Q E s := by
  unfold collect; refine wpAny_bind (wpAny_runValue (codeAny_builtin entry_proto_collect' ?_)); show wpAny _ _ (do again (.builtin "list.__iadd__" ⟨[← newList [], .ref l], []⟩)) _ _ s; refine wpAny_bind (wpAny_newList (wpAny_pure ⟨Code.quiet_builtin _ (by decide +kernel), codeAny_builtin entry_list_iadd' ?_⟩)); show wpAny _ _ (Builtin.List.listExtendWith (.ref s.heap.objs.size) (.ref l) (.ref s.heap.objs.size)) _ _ { s with heap := s.heap.push (seqObj "list" #[] 0) }; unfold Builtin.List.listExtendWith
  have ho'_m : (s.heap.push (seqObj "list" #[] 0)).get? l = some o := Heap.get?_push_of_some _ ho
  refine wpAny_bind (wpAny_typeOf (T := "tuple") ⟨o, ho'_m, hc⟩ ?_)
  have ht_m : (Value.type "tuple" == Value.type "tuple") = true := by rfl
  rw [if_pos (by rw [ht_m]; simp)]
  refine wpAny_bind (listItems_at ho'_m hd ?_); refine wpAny_bind (listItems_at (xs := #[]) (n := 0) (Heap.get?_push_size _ rfl) rfl ?_)
  rw [if_neg (by simp)]; refine wpAny_bind (listUpdate_at (xs := #[]) (n := 0) (Heap.get?_push_size _ rfl) rfl ?_ (Nat.zero_le _) (by show (#[] ++ vs.toArray).size ≤ sizeLine + 1; simp only [Array.size_append, List.size_toArray, List.length_nil]; omega))
  refine wpAny_pure ?_; show wpAny (model prog w) A (do
      let o ← load s.heap.objs.size
      match o.data with
      | .seq xs _ => pure xs.toList
      | _other => unsupported "internal:collect") Q E { s with heap := (s.heap.push (seqObj "list" #[] 0)).update s.heap.objs.size (Obj.mapSeq (· ++ vs.toArray)) }
  refine wpAny_bind (wpAny_load (get?_update_seq (Heap.get?_push_size _ rfl) _) ?_); show wpAny _ _ (pure ((#[] : Array Value) ++ vs.toArray).toList) Q E _; rw [show ((#[] : Array Value) ++ vs.toArray).toList = vs by simp]
  exact wpAny_pure h
/-- a list or a tuple -/
def SeqIs (h : Heap) (l : Addr) (vs : List Value) : Prop := h.IsList l vs.toArray ∨ ∃ o n, h.get? l = some o ∧ o.cls = .type "tuple" ∧ o.data = .seq vs.toArray n
theorem collect_seq {l : Addr} {Q : List Value → Shared → Prop} (hl : SeqIs s.heap l vs)
    (h : Q vs { s with heap := (s.heap.push (seqObj "list" #[] 0)).update s.heap.objs.size (Obj.mapSeq (· ++ vs.toArray)) }) (hsz : vs.length ≤ sizeLine) : wpAny (model prog w) A (collect (.ref l)) Q E s := by
  rcases hl with hl | ⟨o, n_m, h1_m, h2_m, h3_m⟩
  · exact collect_list hl h hsz
  · exact collect_tup h1_m h2_m h3_m h hsz
theorem sorted_seq {l : Addr} {Q : Value → Shared → Prop} (hl : SeqIs s.heap l vs)
    (e : EachIs R vs bs) (er : EachIs (fun v b => ∃ as, Reads s.heap v (enc b) as) vs bs) (hal : AllAlike (bs.map enc)) (hk : Sortable (bs.map enc)) (hL : vs.length ≤ sizeLine) (hu : ∀ b, b ∈ bs → A.units + 2 + (enc b).depth < cLine) (h : ∀ out, out.length = bs.length → EachIs R out (bs.mergeSort (dataLe false enc)) → Q (.ref (s.heap.objs.size + 1)) { s with heap := sortedAll s.heap vs (List.toArray out) }) : wpAny (model prog w) A (call (.builtin "sorted") [.ref l]) Q E s := by
  have er'_m : EachIs (fun v b => ∃ as, Reads (sortingHeap (copyHeap s.heap vs) (s.heap.objs.size + 1) vs) v (enc b) as) vs bs := er.mono fun _ _ ⟨as, r_m⟩ => ⟨as, PyProof.Rows.Reads.keeps (fun _ _ => sorting_copy_old) r_m⟩; refine Calls.call_function_entry kind_sorted plain_sorted entry_sorted (args_sorted1 _) ?_
  unfold Builtin.«sorted»; refine wpAny_bind (m := checkCount "sorted" 1 1 _) (wpAny_pure ?_)
  refine wpAny_bind (collect_seq hl ?_ hL); refine wpAny_bind (wpAny_newList ?_ hL)
  have hsz_m : ((s.heap.push (seqObj "list" #[] 0)).update s.heap.objs.size (Obj.mapSeq (· ++ vs.toArray))).objs.size = s.heap.objs.size + 1 := by
    rw [Heap.size_update]; rw [size_push']
  show wpAny _ _ _ _ _ { s with heap := copyHeap s.heap vs }; rw [hsz_m]
  refine wpAny_bind (wpAny_holding (wpAny_call_entry slot_list_sort ⟨_, copyHeap_at s.heap vs, rfl⟩ entry_list_sort ?body (args_list_sort _)))
  case body =>
    refine list_sort_vals (κ := dataKind (sortingHeap (copyHeap s.heap vs) (s.heap.objs.size + 1) vs) (bs.map enc)) (s := { s with heap := copyHeap s.heap vs }) (copyHeap_at s.heap vs) (SortsAt.data (s := { s with heap := sortingHeap (copyHeap s.heap vs) (s.heap.objs.size + 1) vs }) (each_map (R := fun v d_m => ∃ as, Reads (sortingHeap (copyHeap s.heap vs) (s.heap.objs.size + 1) vs) v d_m as) enc er'_m) hal hk (bound_map hu)) hL ?_
    exact ⟨_, rfl, wpAny_pure ⟨_, rfl, h _ (by rw [sortVals_length false rfl]; exact e.length) (sortVals_data false e er'_m hal)⟩⟩
end

/-! ### calls by values -/
section
variable {X : Cx} {T : Tx} {Wx : WX} {e o : Expr} {es : List Expr} {f : Env' → M D} {fs : Env' → M (List D)} {pos p : Pos} {k : Nat}
def CalM (X : Cx) (T : Tx) (f : Value) (g : List D → M D) : Prop := ∃ r, CallR X f r ∧
  ∀ (W : Wd) (S : Store) (H : Hp) (ds : List D) (vs : List V) (Q : VK) (σ : L2.St) (Wx : WX), HR X.K T W S H → VRs X.K W ds vs → Post X.K T Wx W σ (RV X.K) (g ds S) Q → r vs H Q
def eCall (g : List D → M D) (fs : Env' → M (List D)) : Env' → M D := fun δ => (fs δ).bind g
theorem eCall_ok {K : PySem.W.Frag} {r : List V → Hp → VK → Prop} {g : List D → M D} (h1 : ∀ (W : Wd) (S : Store) (H : Hp) (ds : List D) (vs : List V) (Q : VK) (σ : L2.St) (Wx : WX), HR K T W S H → VRs K W ds vs → Post K T Wx W σ (RV K) (g ds S) Q → r vs H Q)
    {σ : L2.St} {H : Hp} {Q : VK} (h : tE K T Wx (eCall g fs) σ H Q) : tCB r (tAr K T Wx fs) σ H Q := by
  obtain ⟨W, δ, S, er, hr, p⟩ := h
  exact ⟨W, δ, S, er, hr, (Post.bind (R1 := RVs K) p).imp fun v H1 ⟨W1, d, S1, l1, r1, q1, p1⟩ => h1 W1 S1 H1 d v Q σ Wx q1 r1 p1⟩
theorem pem_callB {x : Str} {id : String} {g : List D → M D} (c : CalM X T (.builtin id) g) (hg : Gl X x) (hm : X.mg x = none) (hv : bootBuiltins x = some (.builtin id)) (ha : PAm X T Wx (e :: es) fs) (hn : x ≠ "__name__" := by decide) (hdb : (x == ("__debug__" : Str)) = false := by decide)
    (he : starEach (e :: es) X.env = (false, eval e X.env) :: starEach es X.env := by rfl) (hpl : (backTo pos (starEach es X.env)).any (·.1) = false := by rfl) : PEm X T Wx (.Call (.Name x p) (e :: es) [] pos) (eCall g fs) := by
  obtain ⟨r, hc, h1⟩ := c
  exact ⟨pe_imp (pe_callB hc hg hm hv ha.run hn hdb he hpl) fun σ H Q h => eCall_ok h1 h⟩
theorem pem_callTy {x : Str} {id : String} {g : List D → M D} (c : CalM X T (.type id) g) (hg : Gl X x) (hm : X.mg x = none) (hv : bootBuiltins x = some (.type id)) (ha : PAm X T Wx (e :: es) fs) (hn : x ≠ "__name__" := by decide) (hdb : (x == ("__debug__" : Str)) = false := by decide)
    (he : starEach (e :: es) X.env = (false, eval e X.env) :: starEach es X.env := by rfl) (hpl : (backTo pos (starEach es X.env)).any (·.1) = false := by rfl) : PEm X T Wx (.Call (.Name x p) (e :: es) [] pos) (eCall g fs) := by
  obtain ⟨r, hc, h1⟩ := c
  exact ⟨pe_imp (pe_callTy hc hg hm hv ha.run hn hdb he hpl) fun σ H Q h => eCall_ok h1 h⟩
theorem CallR.or' {f : Value} {r r' : List V → Hp → VK → Prop} (h : CallR X f r) (h' : CallR X f r') : CallR X f (fun vs H Q => r vs H Q ∨ r' vs H Q) := by
  intro pins s σ H xs us Q I rv q
  rcases q with q | q
  · exact h pins s σ H xs us Q I rv q
  · exact h' pins s σ H xs us Q I rv q
theorem VRs.one {K : PySem.W.Frag} {W : Wd} {d : D} {vs : List V} (h : VRs K W [d] vs) : ∃ v, vs = [v] ∧ VR K W d v := by
  cases h with
  | cons h r => cases r; exact ⟨_, rfl, h⟩
theorem VRs.two {K : PySem.W.Frag} {W : Wd} {d e : D} {vs : List V} (h : VRs K W [d, e] vs) : ∃ v u, vs = [v, u] ∧ VR K W d v ∧ VR K W e u := by
  cases h with
  | cons h r => obtain ⟨u, hu, r2⟩ := r.one; subst hu; exact ⟨_, _, rfl, h, r2⟩
/-- len -/
def lenD : List D → M D := fun ds S => match ds with
  | [.str y] => if y.length ≤ sizeLine then .ok (.int (y.length : Nat)) S else .bad
  | [d] => match seqD S d with
    | some xs => .ok (.int (xs.length : Nat)) S
    | none => match d with
      | .ref n => match S[n]? with
        | some (.dct kvs) => .ok (.int (kvs.length : Nat)) S
        | _ => .bad
      | _ => .bad
  | _ => .bad
theorem calM_len : CalM X T (.builtin "len") lenD := by
  refine ⟨_, CallR.or' call_len call_lenD, fun W S H ds vs Q σ Wx hr r p => ?_⟩
  unfold lenD at p
  split at p
  · obtain ⟨v, hv, rq⟩ := r.one; subst hv; clear r; have r := rq; clear rq
    cases r
    split at p
    · rename_i z; exact .inl ⟨_, _, rfl, ⟨z, rfl⟩, p W _ H (.refl _) (.int _) hr⟩
    · exact p.elim
  · rename_i d hd
    obtain ⟨v, hv, rq⟩ := r.one; subst hv; clear r; have r := rq; clear rq
    cases q : seqD S d with
    | some xs =>
      rw [q] at p
      obtain ⟨a, ws, rfl, h1, h2⟩ := seqD_ok hr q r
      have e := h2.length
      refine .inl ⟨_, ws.length, rfl, ?_, p W _ H (.refl _) (by rw [← e]; exact .int _) hr⟩
      rcases h1 with h1 | h1
      · exact .inl ⟨ws, h1, rfl⟩
      · exact .inr ⟨ws, h1, rfl⟩
    | none =>
      rw [q] at p
      cases d with
      | ref n =>
        cases hn : S[n]? with
        | none =>
          have p' : Post X.K T Wx W σ (RV X.K) (match S[n]? with | some (.dct kvs) => .ok (.int (kvs.length : Nat)) S | _ => .bad) Q := p
          rw [hn] at p'; exact p'.elim
        | some so =>
          have p' : Post X.K T Wx W σ (RV X.K) (match S[n]? with | some (.dct kvs) => .ok (.int (kvs.length : Nat)) S | _ => .bad) Q := p
          rw [hn] at p'
          cases so with
          | dct kvs =>
            cases r with
            | ref h =>
              obtain ⟨a', e1, e2, kws, e3, e4⟩ := hr.ob n _ hn nofun
              rw [h] at e1; cases e1
              exact .inr ⟨_, kws, rfl, e3, p' W _ H (.refl _) (by rw [← Paired.length e4]; exact .int _) hr⟩
          | _ => exact p'.elim
      | _ => exact p.elim
  · exact p.elim
/-- all, any of a list of truths -/
def bls : List D → Option (List Bool)
  | [] => some []
  | .bl b :: r => (bls r).map fun bs => b :: bs
  | _ :: _ => none
theorem bls_ok {K : PySem.W.Frag} {W : Wd} : ∀ {ds : List D} {bs : List Bool} {vs : List V}, bls ds = some bs → VRs K W ds vs → vs = bs.map V.bl
  | [], bs, vs, h, r => by simp [bls] at h; subst h; cases r; rfl
  | .bl b :: ds, bs, vs, h, r => by
    simp only [bls, Option.map_eq_some_iff] at h
    obtain ⟨cs, h1, rfl⟩ := h
    cases r with
    | cons r1 r2 => cases r1; rw [bls_ok h1 r2]; rfl
  | .non :: _, _, _, h, _ => by simp [bls] at h
  | .int _ :: _, _, _, h, _ => by simp [bls] at h
  | .str _ :: _, _, _, h, _ => by simp [bls] at h
  | .tup _ :: _, _, _, h, _ => by simp [bls] at h
  | .lst _ :: _, _, _, h, _ => by simp [bls] at h
  | .frn _ :: _, _, _, h, _ => by simp [bls] at h
  | .ref _ :: _, _, _, h, _ => by simp [bls] at h
  | .adr _ :: _, _, _, h, _ => by simp [bls] at h
  | .ty _ :: _, _, _, h, _ => by simp [bls] at h
def allD : List D → M D := fun ds S => match ds with
  | [d] => match (lstD S d).bind bls with
    | some bs => .ok (.bl (bs.all id)) S
    | none => .bad
  | _ => .bad
def anyD : List D → M D := fun ds S => match ds with
  | [d] => match (lstD S d).bind bls with
    | some bs => .ok (.bl (bs.any id)) S
    | none => .bad
  | _ => .bad
theorem lst_bls {K : PySem.W.Frag} {W : Wd} {S : Store} {H : Hp} {d : D} {v : V} {bs : List Bool} (hr : HR K T W S H) (h : (lstD S d).bind bls = some bs) (r : VR K W d v) : ∃ a, v = .ref a ∧ SqL K H a (bs.map V.bl) := by
  simp only [Option.bind_eq_some_iff] at h
  obtain ⟨xs, h1, h2⟩ := h
  obtain ⟨a, vs, rfl, e1, e2⟩ := lstD_ok hr h1 r
  rw [bls_ok h2 e2] at e1
  exact ⟨a, rfl, SqL.of e1⟩
theorem calM_all (hc : X.calm = true) : CalM X T (.builtin "all") allD := by
  refine ⟨_, cr_all hc, fun W S H ds vs Q σ Wx hr r p => ?_⟩
  unfold allD at p
  split at p
  · rename_i d
    obtain ⟨v, hv, rq⟩ := r.one; subst hv; clear r; have r := rq; clear rq
    cases q : (lstD S d).bind bls with
    | some bs =>
      rw [q] at p
      obtain ⟨a, rfl, h⟩ := lst_bls hr q r
      exact ⟨a, bs, rfl, h, p W _ H (.refl _) (.bl _) hr⟩
    | none => rw [q] at p; exact p.elim
  · exact p.elim
theorem calM_any (hc : X.calm = true) : CalM X T (.builtin "any") anyD := by
  refine ⟨_, cr_any hc, fun W S H ds vs Q σ Wx hr r p => ?_⟩
  unfold anyD at p
  split at p
  · rename_i d
    obtain ⟨v, hv, rq⟩ := r.one; subst hv; clear r; have r := rq; clear rq
    cases q : (lstD S d).bind bls with
    | some bs =>
      rw [q] at p
      obtain ⟨a, rfl, h⟩ := lst_bls hr q r
      exact ⟨a, bs, rfl, h, p W _ H (.refl _) (.bl _) hr⟩
    | none => rw [q] at p; exact p.elim
  · exact p.elim
/-- tuple(x), list(x) -/
def tupD : List D → M D := fun ds S => match ds with
  | [d] => match seqD S d with
    | some xs => .ok (.tup xs) S
    | none => .bad
  | _ => .bad
theorem calM_tuple : CalM X T (.type "tuple") tupD := by
  refine ⟨_, call_tuple_of, fun W S H ds vs Q σ Wx hr r p => ?_⟩
  unfold tupD at p
  split at p
  · rename_i d
    obtain ⟨v, hv, rq⟩ := r.one; subst hv; clear r; have r := rq; clear rq
    cases q : seqD S d with
    | some xs =>
      rw [q] at p
      cases d with
      | tup ys =>
        cases q
        cases r with
        | tup h1 h2 => exact ⟨_, _, rfl, .inr ⟨same_tup hr.fz h1, p W _ H (.refl _) (.tup h1 h2) hr⟩⟩
      | lst ys =>
        obtain ⟨a, ws, rfl, h1, h2⟩ := seqD_ok hr q r
        cases q
        cases r with
        | lst h3 h4 =>
          refine ⟨_, _, rfl, .inl ⟨SqL.of (hr.fz _ _ h3), fun l hl => ?_⟩⟩
          obtain ⟨a1, a2, a3⟩ := lay_tup hr h4 hl
          exact p _ _ _ a1 a2 a3
      | frn ys =>
        cases q
        cases r with
        | frn h3 h4 =>
          refine ⟨_, _, rfl, .inl ⟨same_lst hr.fz h3, fun l hl => ?_⟩⟩
          obtain ⟨a1, a2, a3⟩ := lay_tup hr h4 hl
          exact p _ _ _ a1 a2 a3
      | ref n =>
        have q' : lstD S (.ref n) = some xs := q
        obtain ⟨a, ws, rfl, h1, h2⟩ := lstD_ok hr q' r
        refine ⟨_, _, rfl, .inl ⟨SqL.of h1, fun l hl => ?_⟩⟩
        obtain ⟨a1, a2, a3⟩ := lay_tup hr h2 hl
        exact p _ _ _ a1 a2 a3
      | _ => cases q
    | none => rw [q] at p; exact p.elim
  · exact p.elim
def listD : List D → M D := fun ds S => match ds with
  | [d] => match seqD S d with
    | some xs => .ok (.lst xs) S
    | none => .bad
  | _ => .bad
theorem calM_list : CalM X T (.type "list") listD := by
  refine ⟨_, call_list_of, fun W S H ds vs Q σ Wx hr r p => ?_⟩
  unfold listD at p
  split at p
  · rename_i d
    obtain ⟨v, hv, rq⟩ := r.one; subst hv; clear r; have r := rq; clear rq
    cases q : seqD S d with
    | some xs =>
      rw [q] at p
      obtain ⟨a, ws, rfl, h1, h2⟩ := seqD_ok hr q r
      refine ⟨_, _, rfl, h1, fun l hl => ?_⟩
      obtain ⟨a1, a2, a3⟩ := lay_lst hr h2 hl
      exact p _ _ _ a1 a2 a3
    | none => rw [q] at p; exact p.elim
  · exact p.elim
/-- isinstance(x, T), T a built-in type -/
def typN (S : Store) : D → Option String
  | .non => some "NoneType"
  | .bl _ => some "bool"
  | .int _ => some "int"
  | .str _ => some "str"
  | .tup _ => some "tuple"
  | .lst _ => some "list"
  | .ref n => match S[n]? with
    | some (.lst _items) => some "list"
    | some (.dct _) => some "dict"
    | _ => none
  | _ => none
theorem typN_ok {K : PySem.W.Frag} {W : Wd} {S : Store} {H : Hp} {d : D} {v : V} {t : String} (hr : HR K T W S H) (h : typN S d = some t) (r : VR K W d v) : TyX K H v (.type t) := by
  cases r with
  | non => cases h; exact .base .non
  | bl b => cases h; exact .base (.bl b)
  | int b => cases h; exact .base (.int b)
  | str b => cases h; exact .base (.str b)
  | ty _ => cases h
  | adr _ => cases h
  | frn _ _ => cases h
  | dct _ _ _ => cases h
  | tup h1 h2 =>
    cases h
    rcases same_tup hr.fz h1 with (h1 | ⟨o, h1⟩) | ⟨o, its, n, h1, h3, _⟩
    · exact .base (.tup h1)
    · exact .fTuple h1
    · exact .kTuple h1 h3
  | lst h1 h2 => cases h; exact .base (.lst (hr.fz _ _ h1))
  | @ref n a hn =>
    have h' : (match S[n]? with | some (.lst _items) => some "list" | some (.dct _) => some "dict" | _ => none) = some t := h
    cases q : S[n]? with
    | none => rw [q] at h'; cases h'
    | some so =>
      rw [q] at h'
      cases so with
      | lst xs =>
        cases h'
        obtain ⟨vs, e1, _⟩ := hr.lst_at hn q
        exact .base (.lst e1)
      | dct kvs =>
        cases h'
        obtain ⟨a', e1, e2, kws, e3, e4⟩ := hr.ob n _ q nofun
        rw [hn] at e1; cases e1
        exact .base (.dK e3)
      | _ => cases h'
def isiD : List D → M D := fun ds S => match ds with
  | [d, .ty n] => match (typN S d).bind fun t => kitB t n with
    | some b => .ok (.bl b) S
    | none => .bad
  | _ => .bad
theorem calM_isi : CalM X T (.builtin "isinstance") isiD := by
  refine ⟨_, call_isi, fun W S H ds vs Q σ Wx hr r p => ?_⟩
  unfold isiD at p
  split at p
  · rename_i d n
    obtain ⟨v, u, rfl, r1, r2⟩ := r.two
    cases r2
    cases q : (typN S d).bind fun t => kitB t n with
    | none => rw [q] at p; exact p.elim
    | some b =>
      rw [q] at p
      simp only [Option.bind_eq_some_iff] at q
      obtain ⟨t, q1, q2⟩ := q
      exact ⟨v, _, _, _, b, rfl, .ty n, typN_ok hr q1 r1, kit_ty q2, p W _ H (.refl _) (.bl _) hr⟩
  · exact p.elim
/-- str(x) of an int, of a text -/
def strD : List D → M D := fun ds S => match ds with
  | [.int i] => if i.natAbs.log2 < 1920 then .ok (.str (toString i)) S else .bad
  | [.str x] => .ok (.str x) S
  | _ => .bad
theorem calM_str : CalM X T (.type "str") strD := by
  refine ⟨_, CallR.or' call_str_int SkE.call_str_str, fun W S H ds vs Q σ Wx hr r p => ?_⟩
  unfold strD at p
  split at p
  · obtain ⟨v, hv, rq⟩ := r.one; subst hv; clear r; have r := rq; clear rq
    cases r
    split at p
    · rename_i z; exact .inl ⟨_, rfl, z, p W _ H (.refl _) (.str _) hr⟩
    · exact p.elim
  · obtain ⟨v, hv, rq⟩ := r.one; subst hv; clear r; have r := rq; clear rq
    cases r
    exact .inr ⟨_, rfl, p W _ H (.refl _) (.str _) hr⟩
  · exact p.elim
end
end MM
end
section
set_option Elab.async false
set_option linter.all false
set_option maxRecDepth 100000
set_option maxHeartbeats 1048576
namespace MM
open PySem PySem.Spec PySem.W PyProof.Rows L2

/-! ### sorted -/
section
variable {X : Cx} {T : Tx} {Wx : WX} {k : Nat}
def sortableB (ps : List PyData) : Bool := ps.all (fun d => match d with | .tuple (_ :: _) => true | _ => false) || ps.all (fun d => match d with | .none => false | .tuple _ => false | _ => true)
def alikeB (ps : List PyData) : Bool := ps.all fun p => ps.all fun q => alike p q
def sortOk (ps : List PyData) : Bool := alikeB ps && sortableB ps && ps.all fun p => decide (p.depth ≤ 60)
theorem sortOk_of {ps : List PyData} (h : sortOk ps = true) : AllAlike ps ∧ Sortable ps ∧ ∀ p ∈ ps, p.depth ≤ 60 := by
  unfold sortOk at h; simp only [Bool.and_eq_true] at h
  obtain ⟨⟨h1, h2⟩, h3⟩ := h
  refine ⟨fun d hd d' hd' => ?_, ?_, fun p hp => of_decide_eq_true (List.all_eq_true.mp h3 p hp)⟩
  · exact List.all_eq_true.mp (List.all_eq_true.mp h1 d hd) d' hd'
  · unfold sortableB at h2
    rcases Bool.or_eq_true_iff.mp h2 with h | h
    · refine .inl fun d hd => ?_
      have q := List.all_eq_true.mp h d hd
      split at q
      · exact ⟨_, _, rfl⟩
      · cases q
    · refine .inr fun d hd => ?_
      have q := List.all_eq_true.mp h d hd
      split at q
      · cases q
      · cases q
      · rename_i h1 h2
        exact ⟨h1, h2⟩
def rSortD (K : PySem.W.Frag) : List V → Hp → VK → Prop := fun vs H Q => ∃ (a : Addr) (tr : List (V × PyData)), vs = [.ref a] ∧ (SqL K H a (tr.map (·.1)) ∨ SqT K H a (tr.map (·.1))) ∧ (∀ p ∈ tr, Dp K H p.1 p.2) ∧ sortOk (tr.map (·.2)) = true ∧
  ∀ p, H p = none → Q (.ref p) (upd H p (.lst ((tr.mergeSort (dataLe false (·.2))).map (·.1))))
theorem each_vals : ∀ {tr : List (V × PyData)} {us : List Value}, Vals (tr.map (·.1)) us → EachIs (fun u (b : V × PyData) => RelV b.1 u) us tr
  | [], us, r => by cases r; exact .nil
  | b :: tr, us, r => by
    cases r with
    | cons r1 r2 => exact .cons r1 (each_vals r2)
theorem vals_each : ∀ {tr : List (V × PyData)} {us : List Value}, EachIs (fun u (b : V × PyData) => RelV b.1 u) us tr → Vals (tr.map (·.1)) us
  | [], us, r => by cases r; exact .nil
  | b :: tr, us, r => by
    cases r with
    | cons r1 r2 => exact .cons r1 (vals_each r2)
theorem each_reads {pins : List (Addr × Obj)} {s : Shared} {σ : L2.St} {H : Hp} (I : Inv X pins σ H s) : ∀ {tr : List (V × PyData)} {us : List Value}, Vals (tr.map (·.1)) us → (∀ p ∈ tr, Dp X.K H p.1 p.2) → EachIs (fun u (b : V × PyData) => ∃ as, Reads s.heap u b.2 as) us tr
  | [], us, r, _ => by cases r; exact .nil
  | b :: tr, us, r, h => by
    cases r with
    | cons r1 r2 => exact .cons (Dp.reads I b.2 b.1 _ (h b (List.mem_cons_self ..)) r1) (each_reads I r2 fun p hp => h p (List.mem_cons_of_mem _ hp))
theorem cr_sortD (hr : Room k X.A) : CallR X (.builtin "sorted") (rSortD X.K) := by
  intro pins s σ H vs us Q I r h; obtain ⟨a, tr, rfl, hs, hd, ok, q⟩ := h
  rw [Vals.ref1 r]
  obtain ⟨o1, o2, o3⟩ := sortOk_of ok
  obtain ⟨its, rv, hl, hz⟩ : ∃ its : List Value, Vals (tr.map (·.1)) its ∧ SeqIs s.heap a its ∧ (tr.map (·.1)).length ≤ sizeLine := by
    rcases hs with hs | hs
    · obtain ⟨its, rv, hl, hz⟩ := I.list hs
      exact ⟨its, rv, .inl hl.isList, hz⟩
    · obtain ⟨its, rv, ⟨o, h1, h2, n, h3⟩, hz⟩ := I.tuple hs
      exact ⟨its, rv, .inr ⟨o, n, h1, h2, h3⟩, hz⟩
  have hlen := rv.length
  have hu := hr.un
  refine sorted_seq (enc := fun b : V × PyData => b.2) (R := fun u (b : V × PyData) => RelV b.1 u) hl (each_vals rv) (each_reads I rv hd) o1 o2 (by omega) (fun b hb => ?_) fun out h1 h2 => ?_
  · have := o3 b.2 (List.mem_map.mpr ⟨b, hb, rfl⟩)
    omega
  · obtain ⟨ep, he'⟩ := PyProof.Rows.sortedAll_at s.heap its out.toArray
    have rv2 := vals_each h2
    have hlen2 := rv2.length
    have hlen3 : ((tr.mergeSort (dataLe false (·.2))).map (·.1)).length ≤ sizeLine := by
      rw [List.length_map, List.length_mergeSort, ← List.length_map (f := (·.1))]; exact hz
    exact ⟨.ref _, upd H (s.heap.objs.size + 1) (.lst ((tr.mergeSort (dataLe false (·.2))).map (·.1))), I.laid (t' := s.toks) (fun _ _ => PyProof.Rows.sortedAll_old) (Nat.le_succ _) ⟨hlen3, out, ep, rv2, he'⟩, rfl, q _ (I.hok.fresh (Nat.le_succ _))⟩
/-- sorted(x), x a list or tuple of plain things that are alike -/
def sortL (xs : List D) (ps : List PyData) : List D := ((xs.zip ps).mergeSort (dataLe false (·.2))).map (·.1)
def sortD : List D → M D := fun ds S => match ds with
  | [d] => match seqD S d with
    | some xs => match pds0 xs with
      | some ps => if sortOk ps = true then .ok (.lst (sortL xs ps)) S else .bad
      | none => .bad
    | none => .bad
  | _ => .bad
theorem pds0_length : ∀ {xs : List D} {ps : List PyData}, pds0 xs = some ps → xs.length = ps.length
  | [], ps, h => by simp [pds0] at h; subst h; rfl
  | x :: xs, ps, h => by
    simp only [pds0, Option.bind_eq_some_iff, Option.map_eq_some_iff] at h
    obtain ⟨p, _, qs, h2, rfl⟩ := h
    simp [pds0_length h2]
/-- items, values and data side by side -/
def zip3 : List D → List V → List PyData → List (D × V × PyData)
  | d :: ds, v :: vs, p :: ps => (d, v, p) :: zip3 ds vs ps
  | _, _, _ => []
theorem zip3_v : ∀ {ds : List D} {vs : List V} {ps : List PyData}, ds.length = vs.length → ds.length = ps.length → (zip3 ds vs ps).map (fun t => (t.2.1, t.2.2)) = vs.zip ps
  | [], vs, ps, h1, h2 => by cases vs <;> cases ps <;> simp_all [zip3]
  | d :: ds, [], ps, h1, h2 => by simp at h1
  | d :: ds, v :: vs, [], h1, h2 => by simp at h2
  | d :: ds, v :: vs, p :: ps, h1, h2 => by simp [zip3, zip3_v (by simpa using h1) (by simpa using h2)]
theorem zip3_d : ∀ {ds : List D} {vs : List V} {ps : List PyData}, ds.length = vs.length → ds.length = ps.length → (zip3 ds vs ps).map (fun t => (t.1, t.2.2)) = ds.zip ps
  | [], vs, ps, h1, h2 => by cases vs <;> cases ps <;> simp_all [zip3]
  | d :: ds, [], ps, h1, h2 => by simp at h1
  | d :: ds, v :: vs, [], h1, h2 => by simp at h2
  | d :: ds, v :: vs, p :: ps, h1, h2 => by simp [zip3, zip3_d (by simpa using h1) (by simpa using h2)]
theorem zip3_mem {K : PySem.W.Frag} {W : Wd} {H : Hp} (hz : Same W.Z H) : ∀ {ds : List D} {vs : List V} {ps : List PyData}, VRs K W ds vs → pds0 ds = some ps → ∀ t ∈ zip3 ds vs ps, VR K W t.1 t.2.1 ∧ Dp K H t.2.1 t.2.2
  | [], vs, ps, r, h, t, ht => by cases vs <;> cases ps <;> simp [zip3] at ht
  | d :: ds, vs, ps, r, h, t, ht => by
    cases r with
    | cons r1 r2 =>
      simp only [pds0, Option.bind_eq_some_iff, Option.map_eq_some_iff] at h
      obtain ⟨p, h1, qs, h2, rfl⟩ := h
      simp only [zip3, List.mem_cons] at ht
      rcases ht with rfl | ht
      · exact ⟨r1, pd0_dp hz h1 r1⟩
      · exact zip3_mem hz r2 h2 t ht
theorem vrs_map {K : PySem.W.Frag} {W : Wd} {α : Type} {f : α → D} {g : α → V} : ∀ {l : List α}, (∀ t ∈ l, VR K W (f t) (g t)) → VRs K W (l.map f) (l.map g)
  | [], _ => .nil
  | a :: l, h => .cons (h a (List.mem_cons_self ..)) (vrs_map fun t ht => h t (List.mem_cons_of_mem _ ht))
theorem map_sort {α β : Type} {r : α → α → Bool} {s : β → β → Bool} {f : α → β} {l : List α} (h : ∀ a b, r a b = s (f a) (f b)) : (l.mergeSort r).map f = (l.map f).mergeSort s := List.map_mergeSort fun a _ b _ => h a b
theorem calM_sorted (hR : Room k X.A) : CalM X T (.builtin "sorted") sortD := by
  refine ⟨_, cr_sortD hR, fun W S H ds vs Q σ Wx hr r p => ?_⟩
  unfold sortD at p
  split at p
  · rename_i d
    obtain ⟨v, hv, rq⟩ := r.one; subst hv
    cases q : seqD S d with
    | none => rw [q] at p; exact p.elim
    | some xs =>
      rw [q] at p
      dsimp only at p
      cases q2 : pds0 xs with
      | none => rw [q2] at p; exact p.elim
      | some ps =>
        rw [q2] at p
        have p' : Post X.K T Wx W σ (RV X.K) (if sortOk ps = true then Res.ok (.lst (sortL xs ps)) S else .bad) Q := p
        split at p'
        · rename_i ok
          obtain ⟨a, ws, rfl, h1, h2⟩ := seqD_ok hr q rq
          have l1 := h2.length
          have l2 := pds0_length q2
          have e1 : (ws.zip ps).map (·.1) = ws := by
            rw [List.map_fst_zip]; omega
          have e2 : (ws.zip ps).map (·.2) = ps := by
            rw [List.map_snd_zip]; omega
          refine ⟨a, ws.zip ps, rfl, by rw [e1]; exact h1, fun t ht => ?_, by rw [e2]; exact ok, fun p hp => ?_⟩
          · rw [← zip3_v (ds := xs) l1 l2] at ht
            obtain ⟨t', ht', rfl⟩ := List.mem_map.mp ht
            exact (zip3_mem hr.fz h2 q2 t' ht').2
          · have key : VRs X.K W (sortL xs ps) (((ws.zip ps).mergeSort (dataLe false (·.2))).map (·.1)) := by
              unfold sortL
              rw [← zip3_v (ds := xs) l1 l2, ← zip3_d (vs := ws) l1 l2]
              have s1 := map_sort (l := zip3 xs ws ps) (r := dataLe false (fun t : D × V × PyData => t.2.2)) (s := dataLe false (fun t : D × PyData => t.2)) (f := fun t => (t.1, t.2.2)) (fun a b => rfl)
              have s2 := map_sort (l := zip3 xs ws ps) (r := dataLe false (fun t : D × V × PyData => t.2.2)) (s := dataLe false (fun t : V × PyData => t.2)) (f := fun t => (t.2.1, t.2.2)) (fun a b => rfl)
              rw [← s1, ← s2]; rw [List.map_map, List.map_map]
              refine vrs_map fun t ht => ?_
              exact (zip3_mem hr.fz h2 q2 t (List.mem_mergeSort.mp ht)).1
            obtain ⟨a1, a2, a3⟩ := lay_lst hr key hp
            exact p' _ _ _ a1 a2 a3
        · exact p'.elim
  · exact p.elim

/-! ### repr -/
def reprOk (p : PyData) : Bool := p.showable && decide (p.shown.length ≤ sizeLine) && decide (p.depth ≤ 60)
def reprD : List D → M D := fun ds S => match ds with
  | [d] => match pd S d with
    | some p => if reprOk p = true then .ok (.str p.shown) S else .bad
    | none => .bad
  | _ => .bad
mutual
theorem plain_noDict : ∀ {d : PyData}, d.plain = true → d.hasDict = false
  | .none, _ => rfl
  | .bool _, _ => rfl
  | .int _, _ => rfl
  | .str _, _ => rfl
  | .list xs, h => by simpa [PyData.hasDict] using plainAll_noDict (xs := xs) (by simpa [PyData.plain] using h)
  | .tuple xs, h => by simpa [PyData.hasDict] using plainAll_noDict (xs := xs) (by simpa [PyData.plain] using h)
  | .dict _, h => by simp [PyData.plain] at h
theorem plainAll_noDict : ∀ {xs : List PyData}, PyData.plainAll xs = true → PyData.hasDictAll xs = false
  | [], _ => by simp [PyData.hasDictAll]
  | x :: xs, h => by
    simp only [PyData.plainAll, Bool.and_eq_true] at h
    simp [PyData.hasDictAll, plain_noDict h.1, plainAll_noDict h.2]
end
theorem calM_repr (hR : Room k X.A) (hg : X.A.guards = some []) : CalM X T (.builtin "repr") reprD := by
  refine ⟨fun vs H Q => ∃ x p, vs = [x] ∧ Dp X.K H x p ∧ p.plain = true ∧ reprOk p = true ∧ Q (.str p.shown) H, ?_, fun W S H ds vs Q σ Wx hr r p => ?_⟩
  · intro pins s σ H xs us Q I rv h
    obtain ⟨x, p, rfl, hd, hp, ok, q⟩ := h
    unfold reprOk at ok; simp only [Bool.and_eq_true, decide_eq_true_eq] at ok
    obtain ⟨⟨o1, o2⟩, o3⟩ := ok
    obtain ⟨u, rfl, rx⟩ := vals1 rv
    obtain ⟨as, rd⟩ := Dp.reads I p x u hd rx
    have hu := hR.un
    have fin : ∀ t, EP X pins σ Q (.str p.shown t) { s with toks := s.toks + 1 } := fun t => ⟨.str p.shown, H, I.tok _, ⟨_, rfl⟩, q⟩
    cases hd with
    | non => cases rx; exact PySem.P.repr_of_none (fin _)
    | bl b => cases rx; exact PySem.P.repr_of_bool (by simpa only [PyData.shown] using fin s.toks)
    | int i => obtain ⟨t, rfl⟩ := rx; exact PySem.P.repr_of_int (by simpa [PyData.showable] using o1) (by simpa only [PyData.shown] using fin s.toks)
    | str y => obtain ⟨t, rfl⟩ := rx; exact PySem.P.repr_of_str (by simpa only [PyData.shown] using fin s.toks) (by simpa only [PyData.shown] using o2)
    | lst h1 h2 =>
      cases rx
      exact repr_of_reads' rd o1 (PyData.noDict_hsm (plain_noDict hp)) hg (by omega) (fun _ _ e => e) (fun h' u tk k => ⟨.str _, H, I.kept k, ⟨_, rfl⟩, q⟩) o2
    | tup h1 h2 =>
      cases rx
      exact repr_of_reads' rd o1 (PyData.noDict_hsm (plain_noDict hp)) hg (by omega) (fun _ _ e => e) (fun h' u tk k => ⟨.str _, H, I.kept k, ⟨_, rfl⟩, q⟩) o2
  · unfold reprD at p
    split at p
    · rename_i d
      obtain ⟨v, hv, rq⟩ := r.one; subst hv
      cases q : pd S d with
      | none => rw [q] at p; exact p.elim
      | some pp =>
        rw [q] at p
        have p' : Post X.K T Wx W σ (RV X.K) (if reprOk pp = true then Res.ok (.str pp.shown) S else .bad) Q := p
        split at p'
        · rename_i ok
          exact ⟨v, pp, rfl, pd_dp hr q rq, pd_plain q, ok, p' W _ H (.refl _) (.str _) hr⟩
        · exact p'.elim
    · exact p.elim
end
end MM
end
section
set_option Elab.async false
set_option linter.all false
set_option maxRecDepth 100000
set_option maxHeartbeats 1048576
namespace MM
open PySem PySem.Spec PySem.W PyProof.Rows L2

section
variable {X : Cx} {T : Tx} {Wx : WX} {k : Nat} {a b e o : Expr} {es : List Expr} {f g : Env' → M D} {fs : Env' → M (List D)} {pos cpos apos : Pos}
/-! ### subscripts -/
def ixD : D → D → M D := fun d i S => match i with
  | .int i => match d with
    | .str z => if z.length ≤ sizeLine then (match atI z.cps.toList i with | some c => .ok (.str ⟨#[c]⟩) S | none => .bad) else .bad
    | d => match (seqD S d).bind fun xs => atI xs i with
      | some x => .ok x S
      | none => .bad
  | _ => .bad
theorem atI_rel {K : PySem.W.Frag} {W : Wd} {xs : List D} {vs : List V} {i : Int} {d : D} (r : VRs K W xs vs) (h : atI xs i = some d) : ∃ v, atI vs i = some v ∧ VR K W d v := by
  unfold atI at h ⊢
  rw [← r.length]
  simp only [Option.bind_eq_some_iff] at h
  obtain ⟨j, h1, h2⟩ := h
  obtain ⟨v, e1, e2⟩ := r.get' h2
  exact ⟨v, by rw [h1]; exact e1, e2⟩
theorem pem_ix (ha : PEm X T Wx a f) (hb : PEm X T Wx b g) (hs : PlainIx b) : PEm X T Wx (.Subscript a b pos) (e2 ixD f g) := by
  refine ⟨pe_imp (pe_ix ix_seq ha.run hb.run hs) fun σ H Q h => e2_ok (t := tE X.K T Wx f) (fun W S H d1 d2 x y Q σ Wx hr r1 r2 p => ?_) h⟩
  unfold ixD at p
  split at p
  · rename_i i
    cases r2
    split at p
    · rename_i z
      cases r1
      split at p
      · rename_i hz
        cases q : atI z.cps.toList i with
        | none => rw [q] at p; exact p.elim
        | some c =>
          rw [q] at p
          exact .inr (.inr ⟨z, i, c, rfl, rfl, hz, q, p W _ H (.refl _) (.str _) hr⟩)
      · exact p.elim
    · rename_i d hd
      cases q : (seqD S d1).bind fun xs => atI xs i with
      | none => rw [q] at p; exact p.elim
      | some x0 =>
        rw [q] at p
        simp only [Option.bind_eq_some_iff] at q
        obtain ⟨xs, q1, q2⟩ := q
        obtain ⟨ad, vs, rfl, h1, h2⟩ := seqD_ok hr q1 r1
        obtain ⟨v, h3, h4⟩ := atI_rel h2 q2
        have fin := p W v H (.refl _) h4 hr
        rcases h1 with h1 | h1
        · exact .inl ⟨ad, vs, i, v, rfl, rfl, h1, h3, fin⟩
        · exact .inr (.inl ⟨ad, vs, i, v, rfl, rfl, h1, h3, fin⟩)
  · exact p.elim

/-! ### slices -/
structure POm (X : Cx) (T : Tx) (Wx : WX) (e : Option Expr) (f : Env' → M (Option Int)) : Prop where
  run : PO X e (fun σ H Q => ∃ W δ S, ER X.K W δ σ ∧ HR X.K T W S H ∧ Post X.K T Wx W σ (fun _ a b => a = b) (f δ S) Q)
theorem po_imp {e : Option Expr} {t t' : TO} (h : PO X e t) (i : ∀ σ H Q, t' σ H Q → t σ H Q) : PO X e t' := ⟨fun pins s σ H Q I q => h.run pins s σ H Q I (i _ _ _ q)⟩
def oNone : Env' → M (Option Int) := fun _ => M.pure none
def isInt : D → M Int
  | .int i => M.pure i
  | _ => M.bad
def oSome (f : Env' → M D) : Env' → M (Option Int) := fun δ => (f δ).bind fun d => (isInt d).bind fun i => M.pure (some i)
theorem pom_none : POm X T Wx none oNone := ⟨po_imp po_none fun σ H Q ⟨W, δ, S, er, hr, p⟩ => p W none H (.refl _) rfl hr⟩
theorem pom_some (ha : PEm X T Wx a f) : POm X T Wx (some a) (oSome f) := by
  refine ⟨po_imp (po_some ha.run) fun σ H Q ⟨W, δ, S, er, hr, p⟩ => ?_⟩
  refine ⟨W, δ, S, er, hr, (Post.bind (R1 := RV X.K) p).imp fun v H1 ⟨W1, d, S1, l1, r1, q1, p1⟩ => ?_⟩
  cases d with
  | int i => cases r1; exact ⟨i, rfl, p1 W1 _ H1 (.refl _) rfl q1⟩
  | _ => exact p1.elim
def cutL {α : Type} (xs : List α) (lo hi : Option Int) : List α := (xs.drop (HT.sIx xs.length 0 lo)).take (HT.sIx xs.length xs.length hi - HT.sIx xs.length 0 lo)
def slD : D → Option Int → Option Int → M D := fun d lo hi S => match d with
  | .str z => if z.length ≤ sizeLine then .ok (.str (cutS z lo hi)) S else .bad
  | .tup xs => .ok (.tup (cutL xs lo hi)) S
  | d => match seqD S d with
    | some xs => .ok (.lst (cutL xs lo hi)) S
    | none => .bad
def eSl (f : Env' → M D) (lo hi : Env' → M (Option Int)) : Env' → M D := fun δ => (f δ).bind fun d => (lo δ).bind fun l => (hi δ).bind fun h => slD d l h
theorem cut_rel {K : PySem.W.Frag} {W : Wd} {xs : List D} {vs : List V} (lo hi : Option Int) (r : VRs K W xs vs) : VRs K W (cutL xs lo hi) (cutV vs lo hi) := by
  unfold cutL cutV
  rw [r.length]
  exact (r.drop _).take _
theorem cutL_whole {α : Type} {xs : List α} {lo hi : Option Int} (h : HT.sIx xs.length 0 lo = 0 ∧ HT.sIx xs.length xs.length hi = xs.length) : cutL xs lo hi = xs := by
  unfold cutL
  rw [h.1, h.2]
  simp
theorem pem_slice {lo hi : Option Expr} {fl fh : Env' → M (Option Int)} {p2 : Pos} (ha : PEm X T Wx a f) (hl : POm X T Wx lo fl) (hh : POm X T Wx hi fh) : PEm X T Wx (.Subscript a (.Slice lo hi none p2) pos) (eSl f fl fh) := by
  refine ⟨pe_imp (pe_slice (sl_list.or (sl_tupA.or sl_str)) ha.run hl.run hh.run) fun σ H Q ⟨W, δ, S, er, hr, p⟩ => ?_⟩
  refine ⟨W, δ, S, er, hr, (Post.bind (R1 := RV X.K) p).imp fun v H1 ⟨W1, d, S1, l1, r1, q1, p1⟩ => ?_⟩
  refine ⟨W1, δ, S1, er.mono l1, q1, (Post.bind (R1 := fun _ a b => a = b) p1).imp fun v2 H2 ⟨W2, lo', S2, l2, r2, q2, p2⟩ => ?_⟩
  subst r2
  refine ⟨W2, δ, S2, (er.mono l1).mono l2, q2, (Post.bind (R1 := fun _ a b => a = b) p2).imp fun v3 H3 ⟨W3, hi', S3, l3, r3, q3, p3⟩ => ?_⟩
  subst r3
  have r1' := (r1.mono l2).mono l3
  unfold slD at p3
  split at p3
  · cases r1'
    split at p3
    · rename_i hz; exact .inr (.inr ⟨_, rfl, hz, p3 W3 _ H3 (.refl _) (.str _) q3⟩)
    · exact p3.elim
  · cases r1' with
    | @tup ad xs vs h1 h2 =>
      refine .inr (.inl ⟨ad, vs, rfl, same_tup q3.fz h1, fun w => ?_, fun w q hq => ?_⟩)
      · have w' := w
        rw [← h2.length] at w'
        rw [cutL_whole w'] at p3
        exact p3 W3 _ H3 (.refl _) (.tup h1 h2) q3
      · obtain ⟨a1, a2, a3⟩ := lay_tup q3 (cut_rel lo' hi' h2) hq
        exact p3 _ _ _ a1 a2 a3
  · rename_i dd hd1 hd2
    cases q : seqD S3 d with
    | none => rw [q] at p3; exact p3.elim
    | some xs =>
      rw [q] at p3
      obtain ⟨ad, vs, rfl, h1, h2⟩ := seqD_ok q3 q r1'
      rcases h1 with h1 | h1
      · refine .inl ⟨ad, vs, rfl, h1, fun q hq => ?_⟩
        obtain ⟨a1, a2, a3⟩ := lay_lst q3 (cut_rel lo' hi' h2) hq
        exact p3 _ _ _ a1 a2 a3
      · cases r1' with
        | tup => exact absurd rfl (hd2 _)
        | adr => cases q
        | dct => cases q
        | lst h3 h4 =>
          refine .inl ⟨ad, _, rfl, SqL.of (q3.fz _ _ h3), fun q' hq => ?_⟩
          cases q
          obtain ⟨a1, a2, a3⟩ := lay_lst q3 (cut_rel lo' hi' h4) hq
          exact p3 _ _ _ a1 a2 a3
        | frn h3 h4 =>
          refine .inl ⟨ad, _, rfl, same_lst q3.fz h3, fun q' hq => ?_⟩
          cases q
          obtain ⟨a1, a2, a3⟩ := lay_lst q3 (cut_rel lo' hi' h4) hq
          exact p3 _ _ _ a1 a2 a3
        | @ref n _ h3 =>
          have q' : lstD S3 (.ref n) = some xs := q
          obtain ⟨ad', ws, e1, e2, e3⟩ := lstD_ok q3 q' (VR.ref (K := X.K) h3)
          cases e1
          refine .inl ⟨ad, _, rfl, SqL.of e2, fun q' hq => ?_⟩
          obtain ⟨a1, a2, a3⟩ := lay_lst q3 (cut_rel lo' hi' e3) hq
          exact p3 _ _ _ a1 a2 a3
/-- xs[::-1], a list -/
def revD : D → M D := fun d S => match lstD S d with
  | some xs => .ok (.lst xs.reverse) S
  | none => .bad
def e1 (g : D → M D) (f : Env' → M D) : Env' → M D := fun δ => (f δ).bind g
theorem pem_rev {j : Nat} {p1 p2 p3 : Pos} (ha : PEm X T Wx a f) : PEm X T Wx (.Subscript a (.Slice none none (some (.UnaryOp .USub (.Constant (.int 1) j p1) p2)) p3) pos) (e1 revD f) := by
  refine ⟨pe_imp (pe_revL ha.run) fun σ H Q ⟨W, δ, S, er, hr, p⟩ => ?_⟩
  refine ⟨W, δ, S, er, hr, (Post.bind (R1 := RV X.K) p).imp fun v H1 ⟨W1, d, S1, l1, r1, q1, p1⟩ => ?_⟩
  unfold revD at p1
  cases q : lstD S1 d with
  | none => rw [q] at p1; exact p1.elim
  | some xs =>
    rw [q] at p1
    obtain ⟨ad, vs, rfl, h1, h2⟩ := lstD_ok q1 q r1
    refine ⟨ad, vs, rfl, SqL.of h1, fun q hq => ?_⟩
    obtain ⟨a1, a2, a3⟩ := lay_lst q1 h2.reverse hq
    exact p1 _ _ _ a1 a2 a3

/-! ### methods -/
def MeM (X : Cx) (T : Tx) (id : String) (g : D → List D → M D) : Prop := ∃ r, MtR X id r ∧
  ∀ (W : Wd) (S : Store) (H : Hp) (d : D) (v : V) (ds : List D) (vs : List V) (Q : VK) (σ : L2.St) (Wx : WX), HR X.K T W S H → VR X.K W d v → VRs X.K W ds vs → Post X.K T Wx W σ (RV X.K) (g d ds S) Q → r v vs H Q
def isStr : D → M Unit
  | .str _ => M.pure ()
  | _ => M.bad
def eM1 (g : D → List D → M D) (f h : Env' → M D) : Env' → M D := fun δ => (f δ).bind fun d => (isStr d).bind fun _ => (h δ).bind fun y => g d [y]
theorem pem_m1 {id : String} {name : Str} {gg : D → List D → M D} (slot : Slot "str" name id) (ty : typeOf (.builtin id) = pure (.type "method_descriptor")) (m : MeM X T id gg) (ho : PEm X T Wx o f) (he : PEm X T Wx e g) (hs : starEach [e] X.env = [(false, eval e X.env)] := by rfl) (hbase : attributeBase o name X.env (eval o X.env) = eval o X.env := by rfl) (hline : (apos.endLine == pos.line) = true := by rfl) :
    PEm X T Wx (.Call (.Attribute o name apos) [e] [] pos) (eM1 gg f g) := by
  obtain ⟨r, hm, h1⟩ := m
  refine ⟨pe_imp (pe_m1 slot ty hm ho.run he.run hs hbase hline) fun σ H Q ⟨W, δ, S, er, hr, p⟩ => ?_⟩
  refine ⟨W, δ, S, er, hr, (Post.bind (R1 := RV X.K) p).imp fun v H1 ⟨W1, d, S1, l1, r1, q1, p1⟩ => ?_⟩
  cases d with
  | str z =>
    cases r1
    refine ⟨⟨z, rfl⟩, W1, δ, S1, er.mono l1, q1, (Post.bind (R1 := RV X.K) (m := g δ) (f := fun y => gg (.str z) [y]) p1).imp fun v2 H2 ⟨W2, d2, S2, l2, r2, q2, p2⟩ => ?_⟩
    exact h1 W2 S2 H2 _ _ [d2] [v2] Q σ Wx q2 (.str z) (.cons r2 .nil) p2
  | _ => exact p1.elim
def splitD : D → List D → M D := fun d ds S => match d, ds with
  | .str a, [.str b] => if (b.length == 0) = false ∧ a.length + 2 ≤ sizeLine then .ok (.lst ((Txt.split a b).map .str)) S else .bad
  | _, _ => .bad
theorem meM_split : MeM X T "str.split" splitD := by
  refine ⟨_, mt_split, fun W S H d v ds vs Q σ Wx hr r1 r2 p => ?_⟩
  unfold splitD at p
  split at p
  · cases r1
    obtain ⟨u, hu, rq⟩ := r2.one; subst hu
    cases rq
    split at p
    · rename_i c
      refine ⟨_, _, rfl, rfl, c.1, c.2, fun q hq => ?_⟩
      obtain ⟨a1, a2, a3⟩ := lay_lst hr (VRs.strs _) hq
      exact p _ _ _ a1 a2 a3
    · exact p.elim
  · exact p.elim
def partD : D → List D → M D := fun d ds S => match d, ds with
  | .str a, [.str b] => if (b.length == 0) = false ∧ a.length ≤ sizeLine then .ok (.tup [.str (Txt.partition a b).1, .str (Txt.partition a b).2.1, .str (Txt.partition a b).2.2]) S else .bad
  | _, _ => .bad
theorem meM_part : MeM X T "str.partition" partD := by
  refine ⟨_, mt_partition, fun W S H d v ds vs Q σ Wx hr r1 r2 p => ?_⟩
  unfold partD at p
  split at p
  · cases r1
    obtain ⟨u, hu, rq⟩ := r2.one; subst hu
    cases rq
    split at p
    · rename_i c
      refine ⟨_, _, rfl, rfl, c.1, c.2, fun q hq => ?_⟩
      obtain ⟨a1, a2, a3⟩ := lay_tup hr (.cons (.str _) (.cons (.str _) (.cons (.str _) .nil))) hq
      exact p _ _ _ a1 a2 a3
    · exact p.elim
  · exact p.elim
def countD : D → List D → M D := fun d ds S => match d, ds with
  | .str a, [.str b] => .ok (.int (Txt.count a b)) S
  | _, _ => .bad
theorem meM_count : MeM X T "str.count" countD := by
  refine ⟨_, mt_count, fun W S H d v ds vs Q σ Wx hr r1 r2 p => ?_⟩
  unfold countD at p
  split at p
  · cases r1
    obtain ⟨u, hu, rq⟩ := r2.one; subst hu
    cases rq
    exact ⟨_, _, rfl, rfl, p W _ H (.refl _) (.int _) hr⟩
  · exact p.elim
/-- texts -/
def txts : List D → Option (List Str)
  | [] => some []
  | .str b :: r => (txts r).map fun bs => b :: bs
  | _ :: _ => none
theorem strs_ok : ∀ {ds : List D} {bs : List Str}, txts ds = some bs → ds = bs.map D.str
  | [], bs, h => by simp [txts] at h; subst h; rfl
  | .str b :: ds, bs, h => by
    simp only [txts, Option.map_eq_some_iff] at h
    obtain ⟨cs, h1, rfl⟩ := h
    rw [strs_ok h1]; rfl
  | .non :: _, _, h => by simp [txts] at h
  | .int _ :: _, _, h => by simp [txts] at h
  | .bl _ :: _, _, h => by simp [txts] at h
  | .tup _ :: _, _, h => by simp [txts] at h
  | .lst _ :: _, _, h => by simp [txts] at h
  | .frn _ :: _, _, h => by simp [txts] at h
  | .ref _ :: _, _, h => by simp [txts] at h
  | .adr _ :: _, _, h => by simp [txts] at h
  | .ty _ :: _, _, h => by simp [txts] at h
theorem vrs_strs {K : PySem.W.Frag} {W : Wd} : ∀ {bs : List Str} {vs : List V}, VRs K W (bs.map D.str) vs → vs = bs.map V.str
  | [], _, r => by cases r; rfl
  | b :: bs, _, r => by
    cases r with
    | cons r1 r2 => cases r1; rw [vrs_strs r2]; rfl
def joinD : D → List D → M D := fun d ds S => match d, ds with
  | .str a, [y] => match (seqD S y).bind txts with
    | some ys => if (ys.map (·.length)).sum + ys.length * a.length ≤ 16777216 then .ok (.str (Txt.join a ys)) S else .bad
    | none => .bad
  | _, _ => .bad
theorem meM_join : MeM X T "str.join" joinD := by
  refine ⟨_, mt_join, fun W S H d v ds vs Q σ Wx hr r1 r2 p => ?_⟩
  unfold joinD at p
  split at p
  · rename_i a y
    cases r1
    obtain ⟨u, hu, rq⟩ := r2.one; subst hu
    cases q : (seqD S y).bind txts with
    | none => rw [q] at p; exact p.elim
    | some ys =>
      rw [q] at p
      have p' : Post X.K T Wx W σ (RV X.K) (if (ys.map (·.length)).sum + ys.length * a.length ≤ 16777216 then Res.ok (.str (Txt.join a ys)) S else .bad) Q := p
      split at p'
      · rename_i c
        simp only [Option.bind_eq_some_iff] at q
        obtain ⟨xs, q1, q2⟩ := q
        obtain ⟨ad, ws, rfl, h1, h2⟩ := seqD_ok hr q1 rq
        rw [strs_ok q2] at h2
        rw [vrs_strs h2] at h1
        exact ⟨a, ad, ys, rfl, rfl, h1, c, p' W _ H (.refl _) (.str _) hr⟩
      · exact p'.elim
  · exact p.elim
/-- methods of a list of the store -/
def isLst (d : D) : M Unit := fun S => match lstD S d with
  | some _ => .ok () S
  | none => .bad
def eLM (g : D → List D → M D) (f : Env' → M D) (fs : Env' → M (List D)) : Env' → M D := fun δ => (f δ).bind fun d => (isLst d).bind fun _ => (fs δ).bind fun ds => g d ds
theorem isLst_ok {K : PySem.W.Frag} {W : Wd} {σ : L2.St} {S : Store} {H : Hp} {d : D} {v : V} {α β : Type} {R : Wd → α → β → Prop} {m : M α} {Q : β → Hp → Prop} (hr : HR K T W S H) (r : VR K W d v) (p : Post K T Wx W σ R ((isLst d).bind (fun _ => m) S) Q) : tyV K "list" v H ∧ Post K T Wx W σ R (m S) Q := by
  unfold M.bind isLst at p
  cases q : lstD S d with
  | none => simp only [q] at p; exact p.elim
  | some xs =>
    simp only [q] at p
    obtain ⟨ad, vs, rfl, h1, h2⟩ := lstD_ok hr q r
    exact ⟨.inl ⟨rfl, _, SqL.of h1⟩, p⟩
theorem pem_lm {id : String} {name : Str} {gg : D → List D → M D} (slot : Slot "list" name id) (hty : typeOf (.builtin id) = pure (.type "method_descriptor")) (m : MeM X T id gg) (ho : PEm X T Wx o f) (ha : PAm X T Wx (e :: es) fs) (hbase : attributeBase o name X.env (eval o X.env) = eval o X.env := by rfl) (hfew : ((backTo cpos (starEach (e :: es) X.env)).all (fun x => !x.1) && (backToKw cpos (keywordEach [] X.env)).all (fun x => x.1.isSome)
      && decide ((e :: es).length + ([] : List Keyword).length + (if ([] : List Keyword).isEmpty then 0 else 1) < 30)) = true := by rfl) (hline : (apos.endLine == cpos.line) = true := by rfl) (hs : starEach (e :: es) X.env = (false, eval e X.env) :: starEach es X.env := by rfl) (hplain : (backTo cpos (starEach es X.env)).any (·.1) = false := by rfl) :
    PEm X T Wx (.Call (.Attribute o name apos) (e :: es) [] cpos) (eLM gg f fs) := by
  obtain ⟨r, hm, h1⟩ := m
  refine ⟨pe_imp (pe_bm F.plainAttrs_list slot hty hm ho.run ha.run hbase hfew hline hs hplain) fun σ H Q ⟨W, δ, S, er, hr, p⟩ => ?_⟩
  refine ⟨W, δ, S, er, hr, (Post.bind (R1 := RV X.K) p).imp fun v H1 ⟨W1, d, S1, l1, r1, q1, p1⟩ => ?_⟩
  obtain ⟨t1, p1⟩ := isLst_ok q1 r1 p1
  refine ⟨t1, W1, δ, S1, er.mono l1, q1, (Post.bind (R1 := RVs X.K) p1).imp fun v2 H2 ⟨W2, d2, S2, l2, r2, q2, p2⟩ => ?_⟩
  exact h1 W2 S2 H2 d v d2 v2 Q σ Wx q2 (r1.mono l2) r2 p2
theorem pem_lm0 {id : String} {name : Str} {gg : D → List D → M D} (slot : Slot "list" name id) (hty : typeOf (.builtin id) = pure (.type "method_descriptor")) (m : MeM X T id gg) (ho : PEm X T Wx o f)
    (hbase : attributeBase o name X.env (eval o X.env) = eval o X.env := by rfl) (hline : (apos.endLine == cpos.line) = true := by rfl) :
    PEm X T Wx (.Call (.Attribute o name apos) [] [] cpos) (eLM gg f aNil) := by
  obtain ⟨r, hm, h1⟩ := m
  refine ⟨pe_imp (pe_bm0 F.plainAttrs_list slot hty hm ho.run hbase (by first | rfl | exact hline)) fun σ H Q ⟨W, δ, S, er, hr, p⟩ => ?_⟩
  refine ⟨W, δ, S, er, hr, (Post.bind (R1 := RV X.K) p).imp fun v H1 ⟨W1, d, S1, l1, r1, q1, p1⟩ => ?_⟩
  obtain ⟨t1, p1⟩ := isLst_ok q1 r1 p1
  exact ⟨t1, h1 W1 S1 H1 d v [] [] Q σ Wx q1 r1 .nil p1⟩
def appD : D → List D → M D := fun d ds S => match d, ds with
  | .ref n, [y] => match S[n]? with
    | some (.lst xs) => if xs.length < sizeLine then .ok .non (S.set n (.lst (xs ++ [y]))) else .bad
    | _ => .bad
  | _, _ => .bad
theorem put_back {K : PySem.W.Frag} {W : Wd} {S : Store} {H : Hp} {n : Nat} {a : Addr} {xs ys : List D} {ws : List V} (hr : HR K T W S H) (h : W.ρ n = some a) (q : S[n]? = some (.lst xs)) (r : VRs K W ys ws) : HR K T W (S.set n (.lst ys)) (upd H a (.lst ws)) := by
  obtain ⟨vs, e1, e2, e3⟩ := hr.lst_at h q
  exact hr.write h e3 q nofun ⟨fun _ => nofun, fun _ => nofun⟩ ⟨ws, upd_same, r⟩
theorem meM_append : MeM X T "list.append" appD := by
  refine ⟨_, mt_append, fun W S H d v ds vs Q σ Wx hr r1 r2 p => ?_⟩
  unfold appD at p
  split at p
  · rename_i n y
    obtain ⟨u, hu, rq⟩ := r2.one; subst hu
    cases q : S[n]? with
    | none => rw [q] at p; exact p.elim
    | some so =>
      rw [q] at p
      cases so with
      | lst xs =>
        have p' : Post X.K T Wx W σ (RV X.K) (if xs.length < sizeLine then Res.ok .non (S.set n (.lst (xs ++ [y]))) else .bad) Q := p
        cases r1 with
        | ref h =>
          obtain ⟨ws, e1, e2, e3⟩ := hr.lst_at h q
          split at p'
          · rename_i c
            exact ⟨_, ws, u, rfl, rfl, e1, by rw [← e2.length]; exact c, p' W _ _ (.refl _) .non (put_back hr h q (e2.append (.cons rq .nil)))⟩
          · exact p'.elim
      | _ => exact p.elim
  · exact p.elim
def extD : D → List D → M D := fun d ds S => match d, ds with
  | .ref n, [y] => match S[n]?, lstD S y with
    | some (.lst xs), some ys => if xs.length + ys.length ≤ sizeLine then .ok .non (S.set n (.lst (xs ++ ys))) else .bad
    | _, _ => .bad
  | _, _ => .bad
theorem meM_extend : MeM X T "list.extend" extD := by
  refine ⟨_, mt_extend, fun W S H d v ds vs Q σ Wx hr r1 r2 p => ?_⟩
  unfold extD at p
  split at p
  · rename_i n y
    obtain ⟨u, hu, rq⟩ := r2.one; subst hu
    cases q : S[n]? with
    | none => rw [q] at p; exact p.elim
    | some so =>
      rw [q] at p
      cases so with
      | lst xs =>
        cases q2 : lstD S y with
        | none => rw [q2] at p; exact p.elim
        | some ys =>
          rw [q2] at p
          have p' : Post X.K T Wx W σ (RV X.K) (if xs.length + ys.length ≤ sizeLine then Res.ok .non (S.set n (.lst (xs ++ ys))) else .bad) Q := p
          cases r1 with
          | ref h =>
            obtain ⟨ws, e1, e2, e3⟩ := hr.lst_at h q
            obtain ⟨ad, zs, rfl, h1, h2⟩ := lstD_ok hr q2 rq
            split at p'
            · rename_i c
              exact ⟨_, ad, ws, zs, rfl, rfl, e1, h1, by rw [← e2.length, ← h2.length]; exact c, p' W _ _ (.refl _) .non (put_back hr h q (e2.append h2))⟩
            · exact p'.elim
      | _ => exact p.elim
  · exact p.elim
def popD : D → List D → M D := fun d ds S => match d, ds with
  | .ref n, [] => match S[n]? with
    | some (.lst xs) => match xs[xs.length - 1]? with
      | some y => .ok y (S.set n (.lst xs.dropLast))
      | none => .bad
    | _ => .bad
  | _, _ => .bad
theorem VRs.dropLast {K : PySem.W.Frag} {W : Wd} {xs : List D} {vs : List V} (r : VRs K W xs vs) : VRs K W xs.dropLast vs.dropLast := by
  rw [List.dropLast_eq_take, List.dropLast_eq_take, r.length]
  exact r.take _
theorem meM_pop : MeM X T "list.pop" popD := by
  refine ⟨_, mt_pop, fun W S H d v ds vs Q σ Wx hr r1 r2 p => ?_⟩
  unfold popD at p
  split at p
  · rename_i n
    cases r2
    cases q : S[n]? with
    | none => rw [q] at p; exact p.elim
    | some so =>
      rw [q] at p
      cases so with
      | lst xs =>
        have p' : Post X.K T Wx W σ (RV X.K) (match xs[xs.length - 1]? with | some y => .ok y (S.set n (.lst xs.dropLast)) | none => .bad) Q := p
        cases q2 : xs[xs.length - 1]? with
        | none => rw [q2] at p'; exact p'.elim
        | some y =>
          rw [q2] at p'
          cases r1 with
          | ref h =>
            obtain ⟨ws, e1, e2, e3⟩ := hr.lst_at h q
            obtain ⟨u, h1, h2⟩ := e2.get' q2
            exact ⟨_, ws, u, rfl, rfl, e1, by rw [← e2.length]; exact h1, p' W _ _ (.refl _) h2 (put_back hr h q e2.dropLast)⟩
      | _ => exact p.elim
  · exact p.elim
end
end MM
end
section
set_option Elab.async false
set_option linter.all false
set_option maxRecDepth 100000
set_option maxHeartbeats 1048576
namespace MM
open PySem PySem.Spec PySem.W PyProof.Rows L2

/-! ### statements as runs -/
inductive SR where
  | nx (δ : Env') (S : Store) | rt (d : D) (S : Store) | bk (δ : Env') (S : Store) | ct (δ : Env') (S : Store)
  | exc (C : Addr) (fs : List (Str × D)) (δ : Env') (S : Store) | bad
abbrev SM := Env' → Store → SR
section
variable {K : PySem.W.Frag} {T : Tx} {Wx : WX} {W W1 : Wd} {X : Cx}
def PostS (K : PySem.W.Frag) (T : Tx) (Wx : WX) (W : Wd) (r : SR) (E : Ends) : Prop := match r with
  | .nx δ S => ∀ W' σ H, W.le W' → ER K W' δ σ → HR K T W' S H → E.nx σ H
  | .bk δ S => ∀ W' σ H, W.le W' → ER K W' δ σ → HR K T W' S H → E.bk σ H
  | .ct δ S => ∀ W' σ H, W.le W' → ER K W' δ σ → HR K T W' S H → E.ct σ H
  | .rt d S => ∀ W' v H, W.le W' → VR K W' d v → HR K T W' S H → E.rt v H
  | .exc C fs δ S => ∀ W' σ dx H, W.le W' → ER K W' δ σ → XR K W' fs dx H → HR K T W' S H → Wx (.ref C) dx σ H
  | .bad => False
theorem PostS.mono {r : SR} {E : Ends} (e : W.le W1) (h : PostS K T Wx W r E) : PostS K T Wx W1 r E := by
  cases r with
  | nx => exact fun W' σ H l => h W' σ H (e.trans l)
  | bk => exact fun W' σ H l => h W' σ H (e.trans l)
  | ct => exact fun W' σ H l => h W' σ H (e.trans l)
  | rt => exact fun W' σ H l => h W' σ H (e.trans l)
  | exc => exact fun W' σ dx H l => h W' σ dx H (e.trans l)
  | bad => exact h
def tS (K : PySem.W.Frag) (T : Tx) (Wx : WX) (g : SM) : TS := fun E σ H => ∃ W δ S, ER K W δ σ ∧ HR K T W S H ∧ PostS K T Wx W (g δ S) E
end
structure PSm (X : Cx) (T : Tx) (Wx : WX) (st : Stmt) (g : SM) : Prop where
  run : PS X st (tS X.K T Wx g)
structure PSsm (X : Cx) (T : Tx) (Wx : WX) (st : List Stmt) (g : SM) : Prop where
  run : PSs X st (tS X.K T Wx g)
theorem ps_imp {X : Cx} {st : Stmt} {t t' : TS} (h : PS X st t) (i : ∀ E σ H, t' E σ H → t E σ H) : PS X st t' := ⟨fun pins s σ H E I q => h.run pins s σ H E I (i _ _ _ q)⟩
theorem pss_imp {X : Cx} {st : List Stmt} {t t' : TS} (h : PSs X st t) (i : ∀ E σ H, t' E σ H → t E σ H) : PSs X st t' := ⟨fun pins s σ H E I q => h.run pins s σ H E I (i _ _ _ q)⟩
def sNext : SM := fun δ S => .nx δ S
def sSeq (g h : SM) : SM := fun δ S => match g δ S with
  | .nx δ' S' => h δ' S'
  | r => r
section
variable {X : Cx} {T : Tx} {Wx : WX} {st : Stmt} {rest body orelse : List Stmt} {g h : SM} {e a c o : Expr} {f f2 fo : Env' → M D} {pos : Pos}
theorem pssm_nil : PSsm X T Wx [] sNext := ⟨pss_imp pss_nil fun E σ H ⟨W, δ, S, er, hr, p⟩ => p W σ H (.refl _) er hr⟩
theorem PostS.seq {K : PySem.W.Frag} {W : Wd} {δ : Env'} {S : Store} {E : Ends} (p : PostS K T Wx W (sSeq g h δ S) E) : PostS K T Wx W (g δ S) { E with nx := tS K T Wx h E } := by
  unfold sSeq at p
  cases q : g δ S with
  | nx δ' S' =>
    rw [q] at p
    exact fun W' σ H l er hr => ⟨W', δ', S', er, hr, p.mono l⟩
  | rt d S' => rw [q] at p; exact p
  | bk δ' S' => rw [q] at p; exact p
  | ct δ' S' => rw [q] at p; exact p
  | exc C fs δ' S' => rw [q] at p; exact p
  | bad => rw [q] at p; exact p
theorem pssm_cons (h1 : PSm X T Wx st g) (h2 : PSsm X T Wx rest h) : PSsm X T Wx (st :: rest) (sSeq g h) :=
  ⟨pss_imp (pss_cons h1.run h2.run) fun E σ H ⟨W, δ, S, er, hr, p⟩ => ⟨W, δ, S, er, hr, p.seq⟩⟩
theorem pssm_one (h1 : PSm X T Wx st g) : PSsm X T Wx [st] g := ⟨pss_one h1.run⟩
theorem psm_pass : PSm X T Wx (.Pass pos) sNext := ⟨ps_imp ps_pass fun E σ H ⟨W, δ, S, er, hr, p⟩ => p W σ H (.refl _) er hr⟩
def sBreak : SM := fun δ S => .bk δ S
def sCont : SM := fun δ S => .ct δ S
theorem psm_break : PSm X T Wx (.Break pos) sBreak := ⟨ps_imp ps_break fun E σ H ⟨W, δ, S, er, hr, p⟩ => p W σ H (.refl _) er hr⟩
theorem psm_continue : PSm X T Wx (.Continue pos) sCont := ⟨ps_imp ps_continue fun E σ H ⟨W, δ, S, er, hr, p⟩ => p W σ H (.refl _) er hr⟩
/-- an expression's value, then -/
def sE (f : Env' → M D) (k : D → SM) : SM := fun δ S => match f δ S with
  | .ok d S' => k d δ S'
  | .exc C fs S' => .exc C fs δ S'
  | .bad => .bad
theorem PostS.sE {K : PySem.W.Frag} {W : Wd} {δ : Env'} {S : Store} {E : Ends} {k : D → SM} {σ : L2.St} (er : ER K W δ σ) (p : PostS K T Wx W (sE f k δ S) E) :
    Post K T Wx W σ (RV K) (f δ S) fun v H1 => ∃ W1 d S1, W.le W1 ∧ VR K W1 d v ∧ HR K T W1 S1 H1 ∧ PostS K T Wx W1 (k d δ S1) E := by
  unfold MM.sE at p
  cases q : f δ S with
  | ok d S1 => rw [q] at p; exact fun W' v H' l x y => ⟨W', d, S1, l, x, y, p.mono l⟩
  | exc C fs S1 => rw [q] at p; exact fun W' dx H' l x y => p W' σ dx H' l (er.mono l) x y
  | bad => rw [q] at p; exact p
def sDrop (f : Env' → M D) : SM := sE f fun _ => sNext
theorem psm_expr (he : PEm X T Wx e f) (hs : swapsWith e none pos.line X.env = pure false := by rfl) : PSm X T Wx (.Expr e pos) (sDrop f) := by
  refine ⟨ps_imp (ps_expr he.run hs) fun E σ H ⟨W, δ, S, er, hr, p⟩ => ⟨W, δ, S, er, hr, (p.sE er).imp fun v H1 ⟨W1, d, S1, l1, r1, q1, p1⟩ => ?_⟩⟩
  exact p1 W1 σ H1 (.refl _) (er.mono l1) q1
def sRet (f : Env' → M D) : SM := sE f fun d _ S => .rt d S
theorem psm_ret (he : PEm X T Wx e f) : PSm X T Wx (.Return (some e) pos) (sRet f) := by
  refine ⟨ps_imp (ps_ret he.run) fun E σ H ⟨W, δ, S, er, hr, p⟩ => ⟨W, δ, S, er, hr, (p.sE er).imp fun v H1 ⟨W1, d, S1, l1, r1, q1, p1⟩ => ?_⟩⟩
  exact p1 W1 v H1 (.refl _) r1 q1
/-- return xs, a list of the store that is no more changed -/
def frzD : D → M D := fun d S => match d with
  | .ref n => match S[n]? with
    | some (.lst xs) => .ok (.lst xs) (S.set n .dead)
    | _ => .bad
  | _ => .bad
theorem frz_ok {K : PySem.W.Frag} {W : Wd} {σ : L2.St} {S : Store} {H : Hp} {d : D} {v : V} {Q : V → Hp → Prop} (hr : HR K T W S H) (r : VR K W d v) (p : Post K T Wx W σ (RV K) (frzD d S) Q) : Q v H := by
  unfold frzD at p
  split at p
  · rename_i n
    cases q : S[n]? with
    | none => rw [q] at p; exact p.elim
    | some so =>
      rw [q] at p
      cases so with
      | lst xs =>
        cases r with
        | ref h =>
          obtain ⟨vs, e1, e2, e3⟩ := hr.lst_at h q
          obtain ⟨l, hr'⟩ := hr.freeze h e3 q nofun e1 (show Fz (.lst vs) from trivial)
          exact p _ _ _ l (.lst upd_same (e2.mono l)) hr'
      | _ => exact p.elim
  · exact p.elim
theorem pem_frz (he : PEm X T Wx e f) : PEm X T Wx e (e1 frzD f) := by
  refine ⟨pe_imp he.run fun σ H Q ⟨W, δ, S, er, hr, p⟩ => ⟨W, δ, S, er, hr, (Post.bind (R1 := RV X.K) p).imp fun v H1 ⟨W1, d, S1, l1, r1, q1, p1⟩ => ?_⟩⟩
  exact frz_ok q1 r1 p1
def sRetN : SM := fun _ S => .rt .non S
theorem psm_retN : PSm X T Wx (.Return none pos) sRetN := ⟨ps_imp ps_retN fun E σ H ⟨W, δ, S, er, hr, p⟩ => p W _ H (.refl _) .non hr⟩
/-- a test's answer, then -/
def sB (f : Env' → M Bool) (k : Bool → SM) : SM := fun δ S => match f δ S with
  | .ok d S' => k d δ S'
  | .exc C fs S' => .exc C fs δ S'
  | .bad => .bad
theorem PostS.sB {K : PySem.W.Frag} {W : Wd} {δ : Env'} {S : Store} {E : Ends} {k : Bool → SM} {σ : L2.St} {f : Env' → M Bool} (er : ER K W δ σ) (p : PostS K T Wx W (sB f k δ S) E) :
    Post K T Wx W σ RB (f δ S) fun v H1 => ∃ W1 S1, W.le W1 ∧ HR K T W1 S1 H1 ∧ PostS K T Wx W1 (k v δ S1) E := by
  unfold MM.sB at p
  cases q : f δ S with
  | ok d S1 => rw [q] at p; intro W' v H' l x y; cases x; exact ⟨W', S1, l, y, p.mono l⟩
  | exc C fs S1 => rw [q] at p; exact fun W' dx H' l x y => p W' σ dx H' l (er.mono l) x y
  | bad => rw [q] at p; exact p
def sIf (t : Env' → M Bool) (g h : SM) : SM := sB t fun b => if b = true then g else h
theorem psm_if {t : Env' → M Bool} (hc : PTm X T Wx c t) (ha : PSsm X T Wx body g) (hb : PSsm X T Wx orelse h) : PSm X T Wx (.If c body orelse pos) (sIf t g h) := by
  refine ⟨ps_imp (ps_if hc.run ha.run hb.run) fun E σ H ⟨W, δ, S, er, hr, p⟩ => ⟨W, δ, S, er, hr, (p.sB er).imp fun v H1 ⟨W1, S1, l1, q1, p1⟩ => ?_⟩⟩
  cases v with
  | true => rw [if_pos rfl] at p1 ⊢; exact ⟨W1, δ, S1, er.mono l1, q1, p1⟩
  | false => rw [if_neg Bool.false_ne_true] at p1 ⊢; exact ⟨W1, δ, S1, er.mono l1, q1, p1⟩

/-! ### targets -/
/-- what a target makes of a value: the slots behind -/
abbrev TgF := D → Env' → Option Env'
structure PGm (X : Cx) (T : Tx) (tg : Expr) (is : List Nat) (t : TgF) : Prop where
  run : PG X tg (fun v σ H Q => ∃ W d δ S δ', VR X.K W d v ∧ ER X.K W δ σ ∧ HR X.K T W S H ∧ t d δ = some δ' ∧ ∀ σ', ER X.K W δ' σ' → (∀ vs : List Nat, (∀ i ∈ is, i ∈ vs) → L2.wipe σ' vs = L2.wipe σ vs) → Q σ' H)
structure PGsm (X : Cx) (T : Tx) (tg : List Expr) (is : List Nat) (t : List D → Env' → Option Env') : Prop where
  run : PGs X tg (fun v σ H Q => ∃ W d δ S δ', VRs X.K W d v ∧ ER X.K W δ σ ∧ HR X.K T W S H ∧ t d δ = some δ' ∧ ∀ σ', ER X.K W δ' σ' → (∀ vs : List Nat, (∀ i ∈ is, i ∈ vs) → L2.wipe σ' vs = L2.wipe σ vs) → Q σ' H)
theorem pg_imp {tg : Expr} {t t' : TG} (h : PG X tg t) (i : ∀ v σ H Q, t' v σ H Q → t v σ H Q) : PG X tg t' := ⟨fun pins s σ H v u Q I r q => h.run pins s σ H v u Q I r (i _ _ _ _ q)⟩
theorem pgs_imp {tg : List Expr} {t t' : TGs} (h : PGs X tg t) (i : ∀ v σ H Q, t' v σ H Q → t v σ H Q) : PGs X tg t' := ⟨fun pins s σ H v u Q I r q => h.run pins s σ H v u Q I r (i _ _ _ _ q)⟩
theorem wipe_set {σ : L2.St} {i : Nat} {x : Option V} : ∀ {vs : List Nat}, i ∈ vs → L2.wipe (σ.set i x) vs = L2.wipe σ vs
  | v :: vs, h => by
    unfold L2.wipe
    by_cases c : i ∈ vs
    · rw [wipe_set c]
    · have e : i = v := by simpa [c] using h
      subst e
      have key : ∀ (ws : List Nat), i ∉ ws → (L2.wipe (σ.set i x) ws).set i none = (L2.wipe σ ws).set i none := by
        intro ws
        induction ws with
        | nil => intro _; simp [L2.wipe]
        | cons u us ih =>
          intro hn
          simp only [List.mem_cons, not_or] at hn
          unfold L2.wipe
          rw [List.set_comm _ _ (Ne.symm hn.1), ih hn.2, List.set_comm _ _ hn.1]
      exact key vs c
def gN (i : Nat) : TgF := fun d δ => some (δ.set i (some d))
theorem pgm_name {i : Nat} {x : Str} (hN : X.N.Nodup) (hi : X.N[i]? = some x) (hx : Loc X.env.scope x) (hf : X.fn x = true ∨ X.env.scope.names.lookup x = some .local := by first | exact .inl rfl | exact .inr rfl | assumption) : PGm X T (.Name x pos) [i] (gN i) := by
  refine ⟨pg_imp (pg_name hN hi hx hf) fun v σ H Q ⟨W, d, δ, S, δ', r, er, hr, e, k⟩ => ?_⟩
  cases e
  exact k _ (er.set r i) fun vs h => wipe_set (h i (List.mem_singleton.mpr rfl))
def gsN : List D → Env' → Option Env' := fun ds δ => match ds with
  | [] => some δ
  | _ => none
def gsC (t : TgF) (u : List D → Env' → Option Env') : List D → Env' → Option Env' := fun ds δ => match ds with
  | d :: r => (t d δ).bind fun δ' => u r δ'
  | [] => none
theorem pgsm_nil : PGsm X T [] [] gsN := by
  refine ⟨pgs_imp pgs_nil fun v σ H Q ⟨W, d, δ, S, δ', r, er, hr, e, k⟩ => ?_⟩
  cases r with
  | nil => cases e; exact ⟨rfl, k _ er fun _ _ => rfl⟩
  | cons => cases e
theorem pgsm_cons {e : Expr} {es : List Expr} {is js : List Nat} {t : TgF} {u : List D → Env' → Option Env'} (h1 : PGm X T e is t) (h2 : PGsm X T es js u)
    (hs : (assignEach (e :: es) X.env).map (·.2) = assign e X.env :: (assignEach es X.env).map (·.2) := by rfl) : PGsm X T (e :: es) (is ++ js) (gsC t u) := by
  refine ⟨pgs_imp (pgs_cons h1.run h2.run hs) fun v σ H Q ⟨W, d, δ, S, δ', r, er, hr, e, k⟩ => ?_⟩
  cases r with
  | nil => cases e
  | cons r1 r2 =>
    unfold gsC at e
    simp only [Option.bind_eq_some_iff] at e
    obtain ⟨δ1, e1, e2⟩ := e
    refine ⟨_, _, rfl, W, _, δ, S, δ1, r1, er, hr, e1, fun σ1 er1 w1 => ?_⟩
    refine ⟨W, _, δ1, S, δ', r2, er1, hr, e2, fun σ2 er2 w2 => k σ2 er2 fun vs hv => ?_⟩
    rw [w2 vs fun i hi => hv i (List.mem_append_right _ hi), w1 vs fun i hi => hv i (List.mem_append_left _ hi)]
def gT (n : Nat) (u : List D → Env' → Option Env') : TgF := fun d δ => match d with
  | .tup xs => if xs.length = n then u xs δ else none
  | _ => none
theorem pgm_tup {es : List Expr} {k : Nat} {is : List Nat} {u : List D → Env' → Option Env'} {n : Nat} (hc : X.calm = true) (h : PGsm X T es is u)
    (hn : (assignEach es X.env).length = n := by rfl) (hst : (assignEach es X.env).findIdx? (·.1) = none := by rfl) : PGm X T (.Tuple es k pos) is (gT n u) := by
  refine ⟨pg_imp (pg_tup hc h.run hn hst) fun v σ H Q ⟨W, d, δ, S, δ', r, er, hr, e, k⟩ => ?_⟩
  unfold gT at e
  split at e
  · split at e
    · rename_i c
      cases r with
      | tup h1 h2 => exact ⟨_, _, rfl, same_tup hr.fz h1, by rw [← h2.length]; exact c, W, _, δ, S, δ', h2, er, hr, e, k⟩
    · cases e
  · cases e
/-- target = value -/
def sAsg (f : Env' → M D) (t : TgF) : SM := sE f fun d δ S => match t d δ with
  | some δ' => .nx δ' S
  | none => .bad
theorem psm_asg {tg : Expr} {is : List Nat} {t : TgF} (he : PEm X T Wx e f) (hg : PGm X T tg is t) (hs : swapsWithSole [tg] e pos.line X.env = pure false := by rfl) (hw : swappedStores [tg] e X.env = pure none := by rfl)
    (h1 : (assignEach [tg] X.env).map (·.2) = [assign tg X.env] := by rfl) : PSm X T Wx (.Assign [tg] e pos) (sAsg f t) := by
  refine ⟨ps_imp (ps_asg he.run hg.run hs hw h1) fun E σ H ⟨W, δ, S, er, hr, p⟩ => ⟨W, δ, S, er, hr, (p.sE er).imp fun v H1 ⟨W1, d, S1, l1, r1, q1, p1⟩ => ?_⟩⟩
  cases q : t d δ with
  | none => rw [q] at p1; exact p1.elim
  | some δ' =>
    rw [q] at p1
    exact ⟨W1, d, δ, S1, δ', r1, er.mono l1, q1, q, fun σ' er' _ => p1 W1 σ' H1 (.refl _) er' q1⟩
theorem psm_set {i : Nat} {x : Str} {pos' : Pos} (hN : X.N.Nodup) (hi : X.N[i]? = some x) (hx : Loc X.env.scope x) (he : PEm X T Wx e f) (hs : swapsWith e (some (.Name x pos')) pos.line X.env = pure false := by rfl) (hf : X.fn x = true ∨ X.env.scope.names.lookup x = some .local := by first | exact .inl rfl | exact .inr rfl | assumption) :
    PSm X T Wx (.Assign [.Name x pos'] e pos) (sAsg f (gN i)) := by
  refine ⟨ps_imp (ps_set hN hi hx he.run hs hf) fun E σ H ⟨W, δ, S, er, hr, p⟩ => ⟨W, δ, S, er, hr, (p.sE er).imp fun v H1 ⟨W1, d, S1, l1, r1, q1, p1⟩ => ?_⟩⟩
  exact p1 W1 _ H1 (.refl _) ((er.mono l1).set r1 i) q1
/-- a, b = x, y: plain local names -/
def sPar (i j : Nat) (fs : Env' → M (List D)) : SM := fun δ S => match fs δ S with
  | .ok [d, e] S' => .nx ((δ.set i (some d)).set j (some e)) S'
  | .ok _ _ => .bad
  | .exc C gs S' => .exc C gs δ S'
  | .bad => .bad
theorem psm_par {i j : Nat} {x y : Str} {a b : Expr} {fs : Env' → M (List D)} {px py pt : Pos} {kt k2 pt2} (hc : X.calm = true) (hN : X.N.Nodup) (hi : X.N[i]? = some x) (hj : X.N[j]? = some y) (hij : i ≠ j)
    (hx : X.env.scope.names.lookup x = some .local) (hy : X.env.scope.names.lookup y = some .local) (ha : PAm X T Wx [a, b] fs) (hw : swappedStores [.Tuple [.Name x px, .Name y py] kt pt] (.Tuple [a, b] k2 pt2) X.env = pure (some [x, y])) (hs : swapsWithSole [.Tuple [.Name x px, .Name y py] kt pt] (.Tuple [a, b] k2 pt2) pos.line X.env = pure false := by rfl) :
    PSm X T Wx (.Assign [.Tuple [.Name x px, .Name y py] kt pt] (.Tuple [a, b] k2 pt2) pos) (sPar i j fs) := by
  refine ⟨ps_imp (ps_par hc hN hi hj hij hx hy ha.run hw hs) fun E σ H ⟨W, δ, S, er, hr, p⟩ => ⟨W, δ, S, er, hr, ?_⟩⟩
  unfold sPar at p
  cases q : fs δ S with
  | bad => rw [q] at p; exact p
  | exc C gs S1 => rw [q] at p; exact fun W' dx H' l x y => p W' σ dx H' l (er.mono l) x y
  | ok ds S1 =>
    rw [q] at p
    match ds, p with
    | [d, e], p =>
      intro W' v H' l r hr'
      cases r with
      | cons r1 r2 =>
        obtain ⟨u, hu, r3⟩ := r2.one
        subst hu
        exact ⟨_, _, rfl, p W' _ H' l (((er.mono l).set r1 i).set r3 j) hr'⟩
    | [], p => exact p.elim
    | [_], p => exact p.elim
    | _ :: _ :: _ :: _, p => exact p.elim
/-- o[i] = e, a list of the store -/
def setLD (o i v : D) : Store → Option Store := fun S => match o, i with
  | .ref n, .int k => match S[n]? with
    | some (.lst xs) => (ixN xs.length k).map fun j => S.set n (.lst (xs.set j v))
    | _ => none
  | _, _ => none
def sSetL (fe fo fi : Env' → M D) : SM := sE fe fun v => sE fo fun o => sE fi fun i δ S => match setLD o i v S with
  | some S' => .nx δ S'
  | none => .bad
theorem psm_setL {o i : Expr} {fe fo fi : Env' → M D} {tpos : Pos} (he : PEm X T Wx e fe) (ho : PEm X T Wx o fo) (hi : PEm X T Wx i fi)
    (ha : ∀ v, assign (.Subscript o i tpos) X.env v = (do
      let at_ ← holding [v] (eval o X.env)
      let ix_ ← holding [v, at_] (eval i X.env)
      standAt tpos; holding [v, at_, ix_] (setItem at_ ix_ v)
      release [v, at_, ix_] []) := by intro _; rfl)
    (hs : swapsWithSole [.Subscript o i tpos] e pos.line X.env = pure false := by rfl) (hw : swappedStores [.Subscript o i tpos] e X.env = pure none := by rfl)
    (h1 : (assignEach [.Subscript o i tpos] X.env).map (·.2) = [assign (.Subscript o i tpos) X.env] := by rfl) : PSm X T Wx (.Assign [.Subscript o i tpos] e pos) (sSetL fe fo fi) := by
  refine ⟨ps_imp (ps_asg he.run (pg_sub ho.run hi.run set_list ha) hs hw h1) fun E σ H ⟨W, δ, S, er, hr, p⟩ => ⟨W, δ, S, er, hr, (p.sE er).imp fun v H1 ⟨W1, d, S1, l1, r1, q1, p1⟩ => ?_⟩⟩
  refine ⟨W1, δ, S1, er.mono l1, q1, (p1.sE (er.mono l1)).imp fun v2 H2 ⟨W2, d2, S2, l2, r2, q2, p2⟩ => ?_⟩
  refine ⟨W2, δ, S2, (er.mono l1).mono l2, q2, (p2.sE ((er.mono l1).mono l2)).imp fun v3 H3 ⟨W3, d3, S3, l3, r3, q3, p3⟩ => ?_⟩
  have er3 := ((er.mono l1).mono l2).mono l3
  have r1' := (r1.mono l2).mono l3
  have r2' := r2.mono l3
  cases q : setLD d2 d3 d S3 with
  | none => rw [q] at p3; exact p3.elim
  | some S4 =>
    rw [q] at p3
    unfold setLD at q
    cases d2 with
    | ref n =>
      cases d3 with
      | int k =>
        dsimp only at q
        cases q2' : S3[n]? with
        | none => rw [q2'] at q; cases q
        | some so =>
          rw [q2'] at q
          cases so with
          | lst xs =>
            simp only [Option.map_eq_some_iff] at q
            obtain ⟨j, e1, rfl⟩ := q
            cases r2' with
            | ref h =>
              cases r3
              obtain ⟨ws, f1, f2, f3⟩ := q3.lst_at h q2'
              exact ⟨_, ws, k, j, rfl, rfl, f1, by rw [← f2.length]; exact e1, p3 W3 σ _ (.refl _) er3 (put_back q3 h q2' (f2.set r1' j))⟩
          | _ => cases q
      | _ => cases q
    | _ => cases q
end
end MM
end
section
set_option Elab.async false
set_option linter.all false
set_option maxRecDepth 100000
set_option maxHeartbeats 1048576
namespace MM
open PySem PySem.Spec PySem.W PyProof.Rows L2 RZ

/-! ### what is walked -/
structure WalkM (K : PySem.W.Frag) (T : Tx) (W0 : Wd) (xs : List D) (J : It) : Prop where
  go : ∀ i W S H, i < xs.length → W0.le0 W → HR K T W S H → J.go i H
  stop : ∀ W S H, W0.le0 W → HR K T W S H → J.stop xs.length H
  yld : ∀ i W S H x H', i < xs.length → W0.le0 W → HR K T W S H → J.yld i H x H' → ∃ W' d, W.le W' ∧ xs[i]? = some d ∧ VR K W' d x ∧ HR K T W' S H'
abbrev RI (K : PySem.W.Frag) (T : Tx) : Wd → List D → It → Prop := fun W xs J => WalkM K T W xs J
structure PIm (X : Cx) (T : Tx) (Wx : WX) (tg iter : Expr) (src : Env' → M (List D)) : Prop where
  ex : ∃ wi, PI X tg iter wi ∧ ∀ (W : Wd) (δ : Env') (S : Store) (σ : L2.St) (H : Hp) (R : It → Hp → Prop), ER X.K W δ σ → HR X.K T W S H → Post X.K T Wx W σ (RI X.K T) (src δ S) R → wi σ H R
section
variable {X : Cx} {T : Tx} {Wx : WX} {K : PySem.W.Frag} {W : Wd} {tg e e' a b : Expr} {f g : Env' → M D} {fs : Env' → M (List D)} {pos p tpos : Pos}
theorem walkM_list {a : Addr} {vs : List V} {xs : List D} (h : SqL K W.Z a vs) (r : VRs K W xs vs) : WalkM K T W xs (Itl K a) := by
  have l := r.length
  refine ⟨fun i W' S H hi le hr => (walk_list (K := K) (a := a) (xs := vs)).goes i H (by omega) (same_lst hr.fz (same_lst le.z h)), fun W' S H le hr => ?_, fun i W' S H x H' hi le hr y => ?_⟩
  · rw [l]; exact (walk_list (K := K) (a := a) (xs := vs)).stops H (same_lst hr.fz (same_lst le.z h))
  · obtain ⟨e1, e2⟩ := (walk_list (K := K) (a := a) (xs := vs)).yields i H x H' (by omega) (same_lst hr.fz (same_lst le.z h)) y
    subst e1
    obtain ⟨d, h1, h2⟩ := r.get e2
    exact ⟨W', d, .refl _, h1, h2.mono0 le, hr⟩
theorem walkM_tup {a : Addr} {vs : List V} {xs : List D} (h : SqT K W.Z a vs) (r : VRs K W xs vs) : WalkM K T W xs (Itt K a) := by
  have l := r.length
  refine ⟨fun i W' S H hi le hr => (walk_tup (K := K) (a := a) (xs := vs)).goes i H (by omega) (same_tup hr.fz (same_tup le.z h)), fun W' S H le hr => ?_, fun i W' S H x H' hi le hr y => ?_⟩
  · rw [l]; exact (walk_tup (K := K) (a := a) (xs := vs)).stops H (same_tup hr.fz (same_tup le.z h))
  · obtain ⟨e1, e2⟩ := (walk_tup (K := K) (a := a) (xs := vs)).yields i H x H' (by omega) (same_tup hr.fz (same_tup le.z h)) y
    subst e1
    obtain ⟨d, h1, h2⟩ := r.get e2
    exact ⟨W', d, .refl _, h1, h2.mono0 le, hr⟩
def signs (z : Str) : List D := z.cps.toList.map fun c => .str ⟨#[c]⟩
theorem walkM_str {z : Str} : WalkM K T W (signs z) (Its z) := by
  have l : (signs z).length = z.cps.size := by unfold signs; simp
  refine ⟨fun i W' S H hi le hr => (walk_str (z := z)).goes i H (by omega) trivial, fun W' S H le hr => ?_, fun i W' S H x H' hi le hr y => ?_⟩
  · rw [l]; exact (walk_str (z := z)).stops H trivial
  · obtain ⟨e1, c, e2, e3⟩ := (walk_str (z := z)).yields i H x H' (by omega) trivial y
    subst e1
    subst e3
    refine ⟨W', .str ⟨#[c]⟩, .refl _, ?_, .str _, hr⟩
    unfold signs
    simp [e2]
/-- the items of a tuple, a list that stands, a text -/
def itemsD (d : D) : M (List D) := match d with
  | .tup xs => M.pure xs
  | .lst xs => M.pure xs
  | .frn xs => M.pure xs
  | .str z => M.pure (signs z)
  | _ => M.bad
def iSeq (f : Env' → M D) : Env' → M (List D) := fun δ => (f δ).bind itemsD
theorem pi_any {l : Expr} {tl : TE} (hl : PE X l tl) : PI X tg l (fun σ H R => tl σ H fun x H1 => (∃ a, x = .ref a ∧ (∃ xs, SqL X.K H1 a xs) ∧ R (Itl X.K a) H1) ∨ (∃ a, x = .ref a ∧ (∃ xs, SqT X.K H1 a xs) ∧ R (Itt X.K a) H1) ∨ ∃ z, x = .str z ∧ R (Its z) H1) := by
  refine ⟨fun pins_m s_m σ H R I_m h_m => ?_⟩
  refine thn (hl.run pins_m s_m σ H _ I_m h_m) fun v_m s1_m ⟨x, H1, I1_m, r1_m, q1_m⟩ => ?_
  rcases q1_m with ⟨a, e, ⟨xs, hq_m⟩, q_m⟩ | ⟨a, e, ⟨xs, hq_m⟩, q_m⟩ | ⟨z, ex_m, q_m⟩
  · subst e
    cases r1_m
    obtain ⟨its_m, rv_m, p, hz_m⟩ := I1_m.list hq_m; refine wpAny_pyIter_list p.isList ?_
    refine ⟨s1_m.heap.objs.size, [s1_m.heap.objs.size], _, _, H1, rfl, I1_m.kept (t' := s1_m.toks) fun b o_m e => Heap.get?_push_of_some _ e, turn_list a _, ⟨_, Heap.get?_push_size _ rfl, rfl, rfl⟩, fun b hb_m => ?_, q_m⟩
    have e : b = s1_m.heap.objs.size := by simpa using hb_m
    subst e
    exact I1_m.fpOk (Nat.le_refl _) (I1_m.hok.fresh (Nat.le_refl _))
  · subst e
    cases r1_m
    obtain ⟨its_m, rv_m, p, hz_m⟩ := I1_m.tuple hq_m
    refine wpAny_pyIter_tuple (show s1_m.heap.IsTuple a its_m.toArray from p) ?_
    refine ⟨s1_m.heap.objs.size, [s1_m.heap.objs.size], _, _, H1, rfl, I1_m.kept (t' := s1_m.toks) fun b o_m e => Heap.get?_push_of_some _ e, turn_tuple a _, ⟨_, Heap.get?_push_size _ rfl, rfl, rfl⟩, fun b hb_m => ?_, q_m⟩
    have e : b = s1_m.heap.objs.size := by simpa using hb_m
    subst e
    exact I1_m.fpOk (Nat.le_refl _) (I1_m.hok.fresh (Nat.le_refl _))
  · subst ex_m
    obtain ⟨t_m, rfl⟩ := r1_m
    cases ha : z.cps.all (· < 128)
    · exact wpAny_pyIter_wide ha (pi_one (tk := s1_m.toks) I1_m _ (turn_str _ z t_m "str_iterator" (.inr rfl)) ⟨_, Heap.get?_push_size _ rfl, rfl, rfl⟩ q_m)
    · exact wpAny_pyIter_ascii ha (pi_one (tk := s1_m.toks) I1_m _ (turn_str _ z t_m "str_ascii_iterator" (.inl rfl)) ⟨_, Heap.get?_push_size _ rfl, rfl, rfl⟩ q_m)
theorem pim_seq (he : PEm X T Wx e f) : PIm X T Wx tg e (iSeq f) := by
  refine ⟨_, pi_any he.run, fun W δ S σ H R er hr p => ⟨W, δ, S, er, hr, (Post.bind (R1 := RV X.K) p).imp fun v H1 ⟨W1, d, S1, l1, r1, q1, p1⟩ => ?_⟩⟩
  cases r1 with
  | tup h r => exact .inr (.inl ⟨_, rfl, ⟨_, same_tup q1.fz h⟩, p1 W1 _ H1 (.refl _) (walkM_tup h r) q1⟩)
  | lst h r => exact .inl ⟨_, rfl, ⟨_, SqL.of (q1.fz _ _ h)⟩, p1 W1 _ H1 (.refl _) (walkM_list (SqL.of h) r) q1⟩
  | frn h r => exact .inl ⟨_, rfl, ⟨_, same_lst q1.fz h⟩, p1 W1 _ H1 (.refl _) (walkM_list h r) q1⟩
  | str z => exact .inr (.inr ⟨z, rfl, p1 W1 _ H1 (.refl _) walkM_str q1⟩)
  | _ => exact p1.elim
/-- range(n), range(a, b) -/
def rangeL (lo : Int) (n : Nat) : List D := (List.range n).map fun (i : Nat) => .int (lo + i)
theorem walkM_range {lo : Int} {n : Nat} : WalkM K T W (rangeL lo n) (Itr lo n) := by
  have l : (rangeL lo n).length = n := by unfold rangeL; simp
  refine ⟨fun i W' S H hi le hr => (walk_range (lo := lo) (n := n)).goes i H (by omega) trivial, fun W' S H le hr => ?_, fun i W' S H x H' hi le hr y => ?_⟩
  · rw [l]; exact (walk_range (lo := lo) (n := n)).stops H trivial
  · obtain ⟨e1, e2⟩ := (walk_range (lo := lo) (n := n)).yields i H x H' (by omega) trivial y
    subst e1
    subst e2
    refine ⟨W', .int (lo + i), .refl _, ?_, .int _, hr⟩
    unfold rangeL
    rw [List.getElem?_map, List.getElem?_range (by omega)]
    rfl
def rng1 : List D → M (List D) := fun ds => match ds with
  | [.int j] => M.ask (-(2 ^ 62) ≤ j ∧ j < 2 ^ 62) (M.pure (rangeL 0 j.toNat))
  | _ => M.bad
def rng2 : List D → M (List D) := fun ds => match ds with
  | [.int i, .int j] => M.ask ((-(2 ^ 62) ≤ i ∧ i < 2 ^ 62) ∧ (-(2 ^ 62) ≤ j ∧ j < 2 ^ 62)) (M.pure (rangeL i (j - i).toNat))
  | _ => M.bad
def iCall (g : List D → M (List D)) (fs : Env' → M (List D)) : Env' → M (List D) := fun δ => (fs δ).bind g
theorem pim_range1 (hg : Gl X "range") (hm : X.mg "range" = none) (ha : PAm X T Wx [a] fs) (hs : starEach [a] X.env = [(false, eval a X.env)] := by rfl) : PIm X T Wx tg (.Call (.Name "range" p) [a] [] pos) (iCall rng1 fs) := by
  refine ⟨_, pi_range1 hg hm ha.run hs, fun W δ S σ H R er hr p => ⟨W, δ, S, er, hr, (Post.bind (R1 := RVs X.K) p).imp fun v H1 ⟨W1, d, S1, l1, r1, q1, p1⟩ => ?_⟩⟩
  unfold rng1 at p1
  split at p1
  · obtain ⟨u, hu, rq⟩ := VRs.one r1; subst hu
    cases rq
    obtain ⟨c, p2⟩ := Post.ask p1
    exact ⟨_, rfl, c.1, c.2, p2 W1 _ H1 (.refl _) walkM_range q1⟩
  · exact p1.elim
theorem pim_range2 (hg : Gl X "range") (hm : X.mg "range" = none) (ha : PAm X T Wx [a, b] fs) (hs : starEach [a, b] X.env = [(false, eval a X.env), (false, eval b X.env)] := by rfl) (hs2 : starEach [b] X.env = [(false, eval b X.env)] := by rfl) : PIm X T Wx tg (.Call (.Name "range" p) [a, b] [] pos) (iCall rng2 fs) := by
  refine ⟨_, pi_range2 hg hm ha.run hs hs2, fun W δ S σ H R er hr p => ⟨W, δ, S, er, hr, (Post.bind (R1 := RVs X.K) p).imp fun v H1 ⟨W1, d, S1, l1, r1, q1, p1⟩ => ?_⟩⟩
  unfold rng2 at p1
  split at p1
  · obtain ⟨u, u', hu, rq, rq'⟩ := VRs.two r1; subst hu
    cases rq; cases rq'
    obtain ⟨c, p2⟩ := Post.ask p1
    exact ⟨_, _, rfl, ⟨c.1.1, c.1.2, c.2.1, c.2.2⟩, p2 W1 _ H1 (.refl _) walkM_range q1⟩
  · exact p1.elim
/-- zip(x, y), both lists that stand or both tuples -/
def zipL (xs ys : List D) : List D := (xs.zip ys).map fun q => .tup [q.1, q.2]
def zipD : List D → M (List D) := fun ds => match ds with
  | [.tup xs, .tup ys] => M.pure (zipL xs ys)
  | [.lst xs, .lst ys] => M.pure (zipL xs ys)
  | _ => M.bad
theorem walkM_pair {J : It} {xs ys : List D} {vs ws : List V} {n : Nat} {G : Hp → Prop} (w : Walk J n G (YPair (fun i => vs[i]?) (fun i => ws[i]?))) (hn : n = min vs.length ws.length) (r1 : VRs K W xs vs) (r2 : VRs K W ys ws) (hG : ∀ W' S H, W.le0 W' → HR K T W' S H → G H) : WalkM K T W (zipL xs ys) J := by
  have l1 := r1.length
  have l2 := r2.length
  have l : (zipL xs ys).length = n := by unfold zipL; simp; omega
  refine ⟨fun i W' S H hi le hr => w.goes i H (by omega) (hG W' S H le hr), fun W' S H le hr => ?_, fun i W' S H x H' hi le hr y => ?_⟩
  · rw [l]; exact w.stops H (hG W' S H le hr)
  · obtain ⟨Ta, u, v, rfl, hT, rfl, e1, e2⟩ := w.yields i H x H' (by omega) (hG W' S H le hr) y
    obtain ⟨d1, f1, f2⟩ := r1.get e1
    obtain ⟨d2, g1, g2⟩ := r2.get e2
    obtain ⟨a1, a2, a3⟩ := lay_tup hr (.cons (f2.mono0 le) (.cons (g2.mono0 le) .nil)) hT
    refine ⟨_, .tup [d1, d2], a1, ?_, a2, a3⟩
    unfold zipL
    simp only [List.getElem?_map, List.getElem?_zip_eq_some, Option.map_eq_some_iff]
    exact ⟨(d1, d2), ⟨f1, g1⟩, rfl⟩
theorem walk_zipT' {a b : Addr} {xs ys : List V} {n : Nat} (hn : n = min xs.length ys.length) : Walk (ItzT K a b) n (fun H => SqT K H a xs ∧ SqT K H b ys) (YPair (fun i => xs[i]?) (fun i => ys[i]?)) := by
  subst hn
  refine ⟨fun i _ hi_m q_m => ?_, fun _ q_m => ⟨xs, ys, q_m.1, q_m.2, by omega⟩, fun i H v_m H'_m _ q_m y_m => ?_⟩
  · have h1_m : i < xs.length := by omega
    have h2_m : i < ys.length := by omega
    exact ⟨xs, ys, xs[i], ys[i], q_m.1, q_m.2, by simp [h1_m], by simp [h2_m]⟩
  · obtain ⟨T, x_m, z_m, h1_m, h2_m, h3_m, h4_m, h5_m⟩ := y_m
    exact ⟨T, x_m, z_m, h1_m, h2_m, h3_m, h4_m xs q_m.1, h5_m ys q_m.2⟩
theorem pim_zip {elts : List Expr} {kk : Nat} (hg : Gl X "zip") (hm : X.mg "zip" = none) (ha : PAm X T Wx [e, e'] fs)
    (hs : starEach [e, e'] X.env = (false, eval e X.env) :: starEach [e'] X.env := by rfl) (hpl : (backTo pos (starEach [e'] X.env)).any (·.1) = false := by rfl) : PIm X T Wx (.Tuple elts kk tpos) (.Call (.Name "zip" p) [e, e'] [] pos) (iCall zipD fs) := by
  refine ⟨_, pi_zipA hg hm ha.run hs hpl, fun W δ S σ H R er hr p => ⟨W, δ, S, er, hr, (Post.bind (R1 := RVs X.K) p).imp fun v H1 ⟨W1, d, S1, l1, r1, q1, p1⟩ => ?_⟩⟩
  unfold zipD at p1
  split at p1
  · obtain ⟨u, u', hu, rq, rq'⟩ := VRs.two r1; subst hu
    cases rq with
    | tup h1 h2 =>
      cases rq' with
      | tup h3 h4 =>
        exact ⟨_, _, _, _, rfl, .inr ⟨same_tup q1.fz h1, same_tup q1.fz h3, p1 W1 _ H1 (.refl _) (walkM_pair (walk_zipT' rfl) rfl h2 h4 fun W' S' H' le hr' => ⟨same_tup hr'.fz (same_tup le.z h1), same_tup hr'.fz (same_tup le.z h3)⟩) q1⟩⟩
  · obtain ⟨u, u', hu, rq, rq'⟩ := VRs.two r1; subst hu
    cases rq with
    | lst h1 h2 =>
      cases rq' with
      | lst h3 h4 =>
        exact ⟨_, _, _, _, rfl, .inl ⟨SqL.of (q1.fz _ _ h1), SqL.of (q1.fz _ _ h3), p1 W1 _ H1 (.refl _) (walkM_pair (walk_zip rfl) rfl h2 h4 fun W' S' H' le hr' => ⟨SqL.of (hr'.fz _ _ (le.z _ _ h1)), SqL.of (hr'.fz _ _ (le.z _ _ h3))⟩) q1⟩⟩
  · exact p1.elim

/-! ### for, while -/
def forM (t : TgF) (body : SM) : List D → SM
  | [] => fun δ S => .nx δ S
  | x :: xs => fun δ S => match t x δ with
    | none => .bad
    | some δ1 => match body δ1 S with
      | .nx δ2 S2 => forM t body xs δ2 S2
      | .ct δ2 S2 => forM t body xs δ2 S2
      | .bk δ2 S2 => .nx δ2 S2
      | r => r
def sFor (src : Env' → M (List D)) (t : TgF) (body : SM) : SM := fun δ S => match src δ S with
  | .ok xs S1 => forM t body xs δ S1
  | .exc C fs S1 => .exc C fs δ S1
  | .bad => .bad
theorem for_turns {t : TgF} {body : SM} {g : TG} {tb : TS} {is : List Nat} {W0 : Wd} {xs : List D} {J : It} (w : WalkM K T W0 xs J)
    (hg : ∀ v σ H Q, (∃ W d δ S δ', VR K W d v ∧ ER K W δ σ ∧ HR K T W S H ∧ t d δ = some δ' ∧ ∀ σ', ER K W δ' σ' → (∀ vs : List Nat, (∀ i ∈ is, i ∈ vs) → L2.wipe σ' vs = L2.wipe σ vs) → Q σ' H) → g v σ H Q)
    (hb : ∀ E σ H, tS K T Wx body E σ H → tb E σ H) {E : Ends} {σ : L2.St} {H : Hp} {W1 : Wd} {δ : Env'} {S : Store} (le : W0.le0 W1) (er : ER K W1 δ σ) (hr : HR K T W1 S H) (p : PostS K T Wx W1 (forM t body xs δ S) E) :
    ∃ Wv : Nat → Nat → L2.St → Hp → Prop, (∃ m, Wv 0 m σ H) ∧ ∀ i m σ H, Wv i m σ H →
      (J.stop i H ∧ E.nx σ H) ∨ (J.go i H ∧ ∃ N : L2.St → Hp → Prop, (∀ σ' H', N σ' H' → ∃ m', m' < m ∧ Wv (i + 1) m' σ' H') ∧ ∀ x H', J.yld i H x H' → g x σ H' fun σ2 H2 => tb { E with nx := N, ct := N, bk := E.nx } σ2 H2) := by
  let Inv'_m : Nat → L2.St → Hp → Prop := fun i σ H => ∃ W δ S, W0.le0 W ∧ ER K W δ σ ∧ HR K T W S H ∧ PostS K T Wx W (forM t body (xs.drop i) δ S) E
  refine ⟨fun i m σ H => m = xs.length - i ∧ i ≤ xs.length ∧ Inv'_m i σ H, ⟨xs.length, by simp, Nat.zero_le _, W1, δ, S, le, er, hr, by simpa using p⟩, ?_⟩
  rintro i m σ H ⟨rfl, hi_m, W, δ, S, le, er, hr, p⟩
  by_cases hlt : i < xs.length
  · refine .inr ⟨w.go i W S H hlt le hr, Inv'_m (i + 1), fun σ' H' p'_m => ⟨xs.length - (i + 1), by omega, rfl, hlt, p'_m⟩, fun x H' y_m => ?_⟩
    obtain ⟨W2_m, d, l2_m, hd_m, rv_m, hr2_m⟩ := w.yld i W S H x H' hlt le hr y_m
    have ed_m : xs.drop i = d :: xs.drop (i + 1) := by
      rw [List.getElem?_eq_getElem hlt] at hd_m
      cases hd_m
      exact List.drop_eq_getElem_cons hlt
    rw [ed_m] at p
    unfold forM at p
    refine hg _ _ _ _ ?_
    cases q : t d δ with
    | none => rw [q] at p; exact p.elim
    | some δ1_m =>
      rw [q] at p
      dsimp only at p
      refine ⟨W2_m, d, δ, S, δ1_m, rv_m, er.mono l2_m, hr2_m, q, fun σ2 er2_m _ => hb _ _ _ ⟨W2_m, δ1_m, S, er2_m, hr2_m, ?_⟩⟩
      cases qb : body δ1_m S with
      | nx δ2_m S2_m => rw [qb] at p; exact fun W'_m σ' H''_m l_m x y_m => ⟨W'_m, δ2_m, S2_m, le.trans (l2_m.tole0.trans l_m.tole0), x, y_m, p.mono (l2_m.trans l_m)⟩
      | ct δ2_m S2_m => rw [qb] at p; exact fun W'_m σ' H''_m l_m x y_m => ⟨W'_m, δ2_m, S2_m, le.trans (l2_m.tole0.trans l_m.tole0), x, y_m, p.mono (l2_m.trans l_m)⟩
      | bk δ2_m S2_m => rw [qb] at p; exact p.mono l2_m
      | rt d2_m S2_m => rw [qb] at p; exact p.mono l2_m
      | exc C_m fs δ2_m S2_m => rw [qb] at p; exact p.mono l2_m
      | bad => rw [qb] at p; exact p.elim
  · have ends_ : i = xs.length := by omega
    subst ends_
    rw [List.drop_length] at p
    exact .inl ⟨w.stop W S H le hr, p W σ H (.refl _) er hr⟩
theorem psm_for {iter : Expr} {body : List Stmt} {src : Env' → M (List D)} {t : TgF} {is : List Nat} {gb : SM} (hp : PassesOwn (model X.prog X.w) X.A X.env X.xe) (hc : X.calm = true) (hi : PIm X T Wx tg iter src) (hg : PGm X T tg is t) (hb : PSsm X T Wx body gb)
    (hs : ∀ x, foldedSetIterable iter X.env x = pure x := by intro _; rfl) : PSm X T Wx (.For tg iter body [] pos) (sFor src t gb) := by
  obtain ⟨wi, hw, hi⟩ := hi.ex
  refine ⟨ps_imp (ps_for hp hc hw hg.run hb.run hs) fun E σ H ⟨W, δ, S, er, hr, p⟩ => ?_⟩
  refine hi W δ S σ H _ er hr ?_
  unfold sFor at p
  cases q : src δ S with
  | bad => rw [q] at p; exact p
  | exc C fs S1 => rw [q] at p; exact fun W' dx H' l x y => p W' σ dx H' l (er.mono l) x y
  | ok xs S1 =>
    rw [q] at p
    exact fun W' J H' l w hr' => for_turns w (fun _ _ _ _ h => h) (fun _ _ _ h => h) (.refl _) (er.mono l) hr' (p.mono l)
def whileM (c : Env' → M Bool) (body : SM) : Nat → SM
  | 0 => fun _ _ => .bad
  | n + 1 => fun δ S => match c δ S with
    | .ok true S1 => match body δ S1 with
      | .nx δ2 S2 => whileM c body n δ2 S2
      | .ct δ2 S2 => whileM c body n δ2 S2
      | .bk δ2 S2 => .nx δ2 S2
      | r => r
    | .ok false S1 => .nx δ S1
    | .exc C fs S1 => .exc C fs δ S1
    | .bad => .bad
theorem psm_while (n : Nat) {c : Expr} {body : List Stmt} {tc : Env' → M Bool} {gb : SM} (hp : PassesOwn (model X.prog X.w) X.A X.env X.xe) (hc : PTm X T Wx c tc) (hb : PSsm X T Wx body gb) : PSm X T Wx (.While c body [] pos) (whileM tc gb n) := by
  refine ⟨ps_imp (ps_while hp hc.run hb.run) fun E_m σ_m H_m ⟨W, δ_m, S_m, er_m, hr_m, p⟩ => ?_⟩
  refine ⟨fun m_m σ_m H_m => ∃ W δ_m S_m, ER X.K W δ_m σ_m ∧ HR X.K T W S_m H_m ∧ PostS X.K T Wx W (whileM tc gb m_m δ_m S_m) E_m, ⟨n, W, δ_m, S_m, er_m, hr_m, p⟩, ?_⟩
  rintro m_m σ_m H_m ⟨W, δ_m, S_m, er_m, hr_m, p⟩
  cases m_m with
  | zero => exact p.elim
  | succ m_m =>
    unfold whileM at p
    refine ⟨W, δ_m, S_m, er_m, hr_m, ?_⟩
    cases q : tc δ_m S_m with
    | bad => rw [q] at p; exact p
    | exc C_m fs S1_m => rw [q] at p; exact fun W'_m dx_m H'_m l_m x_m y_m => p W'_m σ_m dx_m H'_m l_m (er_m.mono l_m) x_m y_m
    | ok k_m S1_m =>
      rw [q] at p
      intro W'_m v_m H'_m l_m x_m y_m
      cases x_m
      cases k_m with
      | true =>
        rw [if_pos rfl]
        dsimp only at p
        refine ⟨fun σ_m H_m => ∃ W δ_m S_m, ER X.K W δ_m σ_m ∧ HR X.K T W S_m H_m ∧ PostS X.K T Wx W (whileM tc gb m_m δ_m S_m) E_m, fun σ'_m H'_m h_m => ⟨m_m, Nat.lt_succ_self _, h_m⟩, W'_m, δ_m, S1_m, er_m.mono l_m, y_m, ?_⟩
        cases qb : gb δ_m S1_m with
        | nx δ2_m S2_m => rw [qb] at p; exact fun W2_m σ'_m H''_m l2_m x_m y_m => ⟨W2_m, δ2_m, S2_m, x_m, y_m, p.mono (l_m.trans l2_m)⟩
        | ct δ2_m S2_m => rw [qb] at p; exact fun W2_m σ'_m H''_m l2_m x_m y_m => ⟨W2_m, δ2_m, S2_m, x_m, y_m, p.mono (l_m.trans l2_m)⟩
        | bk δ2_m S2_m => rw [qb] at p; exact p.mono l_m
        | rt d2_m S2_m => rw [qb] at p; exact p.mono l_m
        | exc C_m fs δ2_m S2_m => rw [qb] at p; exact p.mono l_m
        | bad => rw [qb] at p; exact p.elim
      | false =>
        rw [if_neg Bool.false_ne_true]; exact p W'_m σ_m H'_m l_m (er_m.mono l_m) y_m

/-! ### list comprehensions -/
abbrev W0x : WX := fun _ _ _ _ => False
/-- what raises is no answer here -/
def noX {α : Type} : Res α → Res α
  | .ok a S => .ok a S
  | _ => .bad
def lcM (t : TgF) (tt : Env' → M Bool) (te : Env' → M D) (δ0 : Env') : List D → List D → M (List D)
  | [], acc => fun S => .ok acc S
  | x :: xs, acc => fun S => match t x δ0 with
    | none => .bad
    | some δ1 => match tt δ1 S with
      | .ok true S1 => match te δ1 S1 with
        | .ok y S2 => if acc.length < sizeLine then lcM t tt te δ0 xs (acc ++ [y]) S2 else .bad
        | _ => .bad
      | .ok false S1 => lcM t tt te δ0 xs acc S1
      | _ => .bad
def eLc (src : Env' → M (List D)) (t : TgF) (tt : Env' → M Bool) (te : Env' → M D) (own : List Nat) : Env' → M D := fun δ => (src δ).bind fun xs => (lcM t tt te (wipeD δ own) xs []).bind fun ys => M.pure (.lst ys)
structure PTsm (X : Cx) (T : Tx) (ifs : List Expr) (f : Env' → M Bool) : Prop where
  run : PTs X ifs (tB X.K T W0x f)
theorem pts_imp {ifs : List Expr} {t t' : TT} (h : PTs X ifs t) (i : ∀ σ H Q, t' σ H Q → t σ H Q) : PTs X ifs t' := ⟨fun pins s σ H Q I q => h.run pins s σ H Q I (i _ _ _ q)⟩
def bYes : Env' → M Bool := fun _ => M.pure true
theorem ptsm_nil : PTsm X T [] bYes := ⟨pts_imp pts_nil fun σ H Q ⟨W, δ, S, er, hr, p⟩ => p W true H (.refl _) rfl hr⟩
theorem ptsm_one {c : Expr} {tf : Env' → M Bool} (h : PTm X T W0x c tf) : PTsm X T [c] tf := ⟨pts_one h.run⟩
theorem lc_turns {t : TgF} {g : TG} {tt : TT} {te : TE} {ft : Env' → M Bool} {fe : Env' → M D} {is own : List Nat} {W0 : Wd} {xs : List D} {J : It} (w : WalkM K T W0 xs J) (his : ∀ i ∈ is, i ∈ own)
    (hg : ∀ v σ H Q, (∃ W d δ S δ', VR K W d v ∧ ER K W δ σ ∧ HR K T W S H ∧ t d δ = some δ' ∧ ∀ σ', ER K W δ' σ' → (∀ vs : List Nat, (∀ i ∈ is, i ∈ vs) → L2.wipe σ' vs = L2.wipe σ vs) → Q σ' H) → g v σ H Q)
    (ht : ∀ σ H Q, tB K T W0x ft σ H Q → tt σ H Q) (he : ∀ σ H Q, tE K T W0x fe σ H Q → te σ H Q)
    {σ : L2.St} {H1 : Hp} {Dd : Addr} {Q : VK} {δ : Env'} {S : Store} (er : ER K W0 δ σ) (hr : HR K T W0 S H1) (hD : H1 Dd = none)
    (p : Post K T Wx W0 σ (RV K) (((lcM t ft fe (wipeD δ own) xs []).bind fun ys => M.pure (.lst ys)) S) Q) :
    ∃ Wv : Nat → Nat → Hp → Prop, (∃ m, Wv 0 m (upd H1 Dd (.lst []))) ∧ ∀ i m H, Wv i m H →
      (J.stop i H ∧ Q (.ref Dd) H) ∨ (J.go i H ∧ ∃ Nx : Hp → Prop, (∀ H', Nx H' → ∃ m', m' < m ∧ Wv (i + 1) m' H') ∧ ∀ x H', J.yld i H x H' → g x (L2.wipe σ own) H' fun σ2 H2 => L2.wipe σ2 own = L2.wipe σ own ∧ tt σ2 H2 fun b H3 =>
        if b = true then te σ2 H3 fun y H4 => ∃ acc, H4 Dd = some (.lst acc) ∧ acc.length < sizeLine ∧ Nx (upd H4 Dd (.lst (acc ++ [y]))) else Nx H3) := by
  have h0_m : W0.P Dd = none := hr.pf.free hD
  -- the world of turn i: what is pinned is W0's and the new list
  let In_m : Nat → Hp → Prop := fun i H => ∃ W S acc vs, W0.le0 W ∧ W.P = upd W0.P Dd (.lst vs) ∧ VRs K W acc vs ∧ HR K T W S H ∧
    Post K T Wx W0 σ (RV K) (((lcM t ft fe (wipeD δ own) (xs.drop i) acc).bind fun ys => M.pure (.lst ys)) S) Q
  refine ⟨fun i m H => m = xs.length - i ∧ i ≤ xs.length ∧ In_m i H, ⟨xs.length, by simp, Nat.zero_le _, W0.pin Dd (.lst []), S, [], [], Wd.le_pin, rfl, .nil, hr.pin hD, by simpa using p⟩, ?_⟩
  rintro i m H ⟨rfl, hi_m, W, S, acc, vs, le_m, eP_m, rv_m, hr, p⟩
  by_cases hlt : i < xs.length
  · refine .inr ⟨w.go i W S H hlt le_m hr, In_m (i + 1), fun H' p'_m => ⟨xs.length - (i + 1), by omega, rfl, hlt, p'_m⟩, fun x H' y => ?_⟩
    obtain ⟨W2_m, d, l2_m, hd_m, rx_m, hr2_m⟩ := w.yld i W S H x H' hlt le_m hr y
    have ed_m : xs.drop i = d :: xs.drop (i + 1) := by
      rw [List.getElem?_eq_getElem hlt] at hd_m
      cases hd_m
      exact List.drop_eq_getElem_cons hlt
    rw [ed_m] at p
    unfold M.bind lcM at p
    refine hg _ _ _ _ ?_
    cases q_m : t d (wipeD δ own) with
    | none => rw [q_m] at p; exact p.elim
    | some δ1_m =>
      rw [q_m] at p
      dsimp only at p
      refine ⟨W2_m, d, wipeD δ own, S, δ1_m, rx_m, ((er.mono0 le_m).mono l2_m).wipe own, hr2_m, q_m, fun σ2 er2_m hw_m => ⟨?_, ht _ _ _ ⟨W2_m, δ1_m, S, er2_m, hr2_m, ?_⟩⟩⟩
      · have hww_m : L2.wipe (L2.wipe σ own) own = L2.wipe σ own := by
          have key_m : ∀ (vs : List Nat) (τ_m : L2.St), (∀ j_m ∈ vs, τ_m[j_m]? = some none ∨ τ_m[j_m]? = none) → L2.wipe τ_m vs = τ_m := by
            intro vs
            induction vs with
            | nil => intro τ_m _; rfl
            | cons v vs ih_m =>
              intro τ_m h_m
              unfold L2.wipe
              rw [ih_m τ_m fun j_m hj_m => h_m j_m (List.mem_cons_of_mem _ hj_m)]
              rcases h_m v (List.mem_cons_self ..) with q_m | q_m
              · obtain ⟨hl_m, q_m⟩ := List.getElem?_eq_some_iff.mp q_m
                conv => rhs; rw [← List.set_getElem_self (as := τ_m) hl_m, q_m]
              · exact List.set_eq_of_length_le (List.getElem?_eq_none_iff.mp q_m)
          have wn_m : ∀ (vs : List Nat) (τ_m : L2.St) (j_m : Nat), j_m ∈ vs → (L2.wipe τ_m vs)[j_m]? = some none ∨ (L2.wipe τ_m vs)[j_m]? = none := by
            intro vs
            induction vs with
            | nil => intro τ_m j_m h_m; cases h_m
            | cons v vs ih_m =>
              intro τ_m j_m h_m
              unfold L2.wipe
              by_cases c : j_m = v
              · subst c
                by_cases hl_m : j_m < (L2.wipe τ_m vs).length
                · exact .inl (List.getElem?_set_self hl_m)
                · exact .inr (List.getElem?_eq_none (by simpa using hl_m))
              · rw [List.getElem?_set_ne (Ne.symm c)]
                exact ih_m τ_m j_m (by simpa [c] using h_m)
          exact key_m own _ fun j_m hj_m => wn_m own σ j_m hj_m
        rw [hw_m own his, hww_m]
      · cases qt : ft δ1_m S with
        | bad => rw [qt] at p; exact p
        | exc C_m fs S1_m => rw [qt] at p; exact p.elim
        | ok k_m S1_m =>
          rw [qt] at p
          intro W3_m b H3 l3_m eb_m hr3_m
          cases eb_m
          cases k_m with
          | false =>
            rw [if_neg Bool.false_ne_true]; have lw_m := l2_m.tole0.trans l3_m.tole0
            exact ⟨W3_m, S1_m, acc, vs, le_m.trans lw_m, by rw [l3_m.p, l2_m.p, eP_m], rv_m.mono0 lw_m, hr3_m, p⟩
          | true =>
            rw [if_pos rfl]
            dsimp only at p
            refine he _ _ _ ⟨W3_m, δ1_m, S1_m, er2_m.mono l3_m, hr3_m, ?_⟩
            cases qe : fe δ1_m S1_m with
            | bad => rw [qe] at p; exact p
            | exc C_m fs S2_m => rw [qe] at p; exact p.elim
            | ok yd_m S2_m =>
              rw [qe] at p
              dsimp only at p
              intro W4_m yv_m H4 l4_m ry_m hr4_m
              have lw_m := (l2_m.tole0.trans l3_m.tole0).trans l4_m.tole0
              have eP4_m : W4_m.P = upd W0.P Dd (.lst vs) := by rw [l4_m.p, l3_m.p, l2_m.p, eP_m]
              have atD_m : W4_m.P Dd = some (.lst vs) := by rw [eP4_m]; exact upd_same
              by_cases c : acc.length < sizeLine
              · rw [if_pos c] at p
                refine ⟨vs, hr4_m.pf _ _ atD_m, by rw [← rv_m.length]; exact c, W4_m.pin Dd (.lst (vs ++ [yv_m])), S2_m, acc ++ [yd_m], vs ++ [yv_m], (le_m.trans lw_m).trans Wd.le_pin, ?_, (rv_m.mono0 (lw_m.trans Wd.le_pin)).append (.cons (ry_m.mono0 Wd.le_pin) .nil), hr4_m.repin atD_m ⟨fun _ => nofun, fun _ => nofun⟩ ⟨fun _ => nofun, fun _ => nofun⟩, p⟩
                show upd W4_m.P Dd (.lst (vs ++ [yv_m])) = _
                rw [eP4_m, upd_upd]
              · rw [if_neg c] at p; exact p.elim
  · have ends_ : i = xs.length := by omega
    subst ends_
    rw [List.drop_length] at p
    have atD_m : W.P Dd = some (.lst vs) := by rw [eP_m]; exact upd_same
    have hP_m : ∀ b u_m, W0.P b = some u_m → W.P b = some u_m := fun b u_m hb_m => by rw [eP_m]; exact (upd_ne (ne_of_none hb_m h0_m)).trans hb_m
    have hz_m : W.Z Dd = none := by
      cases q_m : W.Z Dd with
      | none => rfl
      | some u_m => have := hr.pz _ _ q_m; rw [atD_m] at this; cases this
    have hr'_m := hr.settle atD_m h0_m hP_m (show Fz (.lst vs) from trivial)
    have lez_m : W.le0 ⟨upd W.Z Dd (.lst vs), W.ρ, W0.P, W.sx⟩ := ⟨fun b u_m hb_m => (upd_ne (ne_of_none hb_m hz_m)).trans hb_m, fun _ _ q_m => q_m, fun _ h_m => h_m⟩
    refine .inl ⟨w.stop W S H le_m hr, ?_⟩
    exact p ⟨upd W.Z Dd (.lst vs), W.ρ, W0.P, W.sx⟩ _ H ⟨le_m.trans lez_m, rfl⟩ (.lst upd_same (rv_m.mono0 lez_m)) hr'_m
theorem pem_lc {elt iter : Expr} {ifs : List Expr} {scope : Scope} {own : List (Str × Nat)} {src : Env' → M (List D)} {t : TgF} {is : List Nat} {ft : Env' → M Bool} {fe : Env' → M D} (hc : X.calm = true) (hN : X.N.Nodup) (hi : PIm X T Wx tg iter src) (ok : BlkOk X.N X.env.scope scope own)
    (his : ∀ i ∈ is, i ∈ own.map (·.2))
    (hg : ∀ (s : Shared) (H : Hp) (C : Addr) (cl : List (Str × Addr)) (fp : List Addr), PGm (X.blk s H scope (compEnvC scope cl C X.env) fp) T tg is t)
    (ht : ∀ (s : Shared) (H : Hp) (C : Addr) (cl : List (Str × Addr)) (fp : List Addr), PTsm (X.blk s H scope (compEnvC scope cl C X.env) fp) T ifs ft)
    (he : ∀ (s : Shared) (H : Hp) (C : Addr) (cl : List (Str × Addr)) (fp : List Addr), PEm (X.blk s H scope (compEnvC scope cl C X.env) fp) T W0x elt fe) (hs : ∀ x, foldedSetIterable iter X.env x = pure x := by intro _; rfl) :
    PEm X T Wx (.ListComp elt [⟨tg, iter, ifs, 0⟩] scope pos) (eLc src t ft fe (own.map (·.2))) := by
  obtain ⟨wi, hw, hi⟩ := hi.ex
  refine ⟨pe_imp (pe_lc (g := fun v σ H Q => ∃ W d δ S δ', VR X.K W d v ∧ ER X.K W δ σ ∧ HR X.K T W S H ∧ t d δ = some δ' ∧ ∀ σ', ER X.K W δ' σ' → (∀ vs : List Nat, (∀ i ∈ is, i ∈ vs) → L2.wipe σ' vs = L2.wipe σ vs) → Q σ' H) (tt := tB X.K T W0x ft) (te := tE X.K T W0x fe) hc hN hw ok (fun s H C cl fp => (hg s H C cl fp).run) (fun s H C cl fp => (ht s H C cl fp).run) (fun s H C cl fp => (he s H C cl fp).run) hs) fun σ H Q ⟨W, δ, S, er, hr, p⟩ => ?_⟩
  refine hi W δ S σ H _ er hr ((Post.bind (R1 := RI X.K T) p).imp fun J H1 ⟨W1, xs, S1, l1, w, hr1, p1⟩ => fun Dd hD => ?_)
  exact lc_turns w his (fun _ _ _ _ h => h) (fun _ _ _ h => h) (fun _ _ _ h => h) (er.mono l1) hr1 hD p1
theorem psm_setLc {i : Nat} {y : Str} {py : Pos} {elt iter : Expr} {ifs : List Expr} {scope : Scope} {own : List (Str × Nat)} {spos : Pos} {src : Env' → M (List D)} {t : TgF} {is : List Nat} {ft : Env' → M Bool} {fe : Env' → M D} (hc : X.calm = true) (hN : X.N.Nodup) (hy : X.N[i]? = some y) (hyl : X.env.scope.names.lookup y = some .local)
    (hsw : swapsWith (.ListComp elt [⟨tg, iter, ifs, 0⟩] scope pos) (some (.Name y py)) spos.line X.env = pure true) (hi : PIm X T Wx tg iter src) (ok : BlkOk X.N X.env.scope scope own)
    (his : ∀ i ∈ is, i ∈ own.map (·.2))
    (hg : ∀ (s : Shared) (H : Hp) (C : Addr) (cl : List (Str × Addr)) (fp : List Addr), PGm (X.blk s H scope (compEnvC scope cl C X.env) fp) T tg is t)
    (ht : ∀ (s : Shared) (H : Hp) (C : Addr) (cl : List (Str × Addr)) (fp : List Addr), PTsm (X.blk s H scope (compEnvC scope cl C X.env) fp) T ifs ft)
    (he : ∀ (s : Shared) (H : Hp) (C : Addr) (cl : List (Str × Addr)) (fp : List Addr), PEm (X.blk s H scope (compEnvC scope cl C X.env) fp) T W0x elt fe) (hs : ∀ x, foldedSetIterable iter X.env x = pure x := by intro _; rfl) :
    PSm X T Wx (.Assign [.Name y py] (.ListComp elt [⟨tg, iter, ifs, 0⟩] scope pos) spos) (sAsg (eLc src t ft fe (own.map (·.2))) (gN i)) := by
  obtain ⟨wi, hw, hi⟩ := hi.ex
  refine ⟨ps_imp (ps_setLc (g := fun v σ H Q => ∃ W d δ S δ', VR X.K W d v ∧ ER X.K W δ σ ∧ HR X.K T W S H ∧ t d δ = some δ' ∧ ∀ σ', ER X.K W δ' σ' → (∀ vs : List Nat, (∀ i ∈ is, i ∈ vs) → L2.wipe σ' vs = L2.wipe σ vs) → Q σ' H) (tt := tB X.K T W0x ft) (te := tE X.K T W0x fe) hc hN hy hyl hsw hw ok (fun s H C cl fp => (hg s H C cl fp).run) (fun s H C cl fp => (ht s H C cl fp).run) (fun s H C cl fp => (he s H C cl fp).run) hs) fun E σ H ⟨W, δ, S, er, hr, p⟩ => ?_⟩
  have p' := p.sE er
  refine hi W δ S σ H _ er hr ((Post.bind (R1 := RI X.K T) p').imp fun J H1 ⟨W1, xs, S1, l1, w, hr1, p1⟩ => fun Dd hD => ?_)
  refine lc_turns (g := fun v σ H Q => ∃ W d δ S δ', VR X.K W d v ∧ ER X.K W δ σ ∧ HR X.K T W S H ∧ t d δ = some δ' ∧ ∀ σ', ER X.K W δ' σ' → (∀ vs : List Nat, (∀ i ∈ is, i ∈ vs) → L2.wipe σ' vs = L2.wipe σ vs) → Q σ' H) (tt := tB X.K T W0x ft) (te := tE X.K T W0x fe) (Q := fun x H1 => gName i x σ H1 E.nx) w his (fun _ _ _ _ h => h) (fun _ _ _ h => h) (fun _ _ _ h => h) (er.mono l1) hr1 hD (p1.imp fun v H2 ⟨W2, d, S2, l2, r2, q2, p2⟩ => ?_)
  exact p2 W2 _ H2 (.refl _) ((er.mono l2).set r2 i) q2
end
end MM
end
section
set_option Elab.async false
set_option linter.all false
set_option maxRecDepth 100000
set_option maxHeartbeats 1048576
namespace MM
open PySem PySem.Spec PySem.W PyProof.Rows L2

/-! ### room, with no repr under way -/
structure RoomG (k : Nat) (A : Around) : Prop where
  r : Room k A
  g : A.guards = some []
theorem RoomG.mono {j k : Nat} {A : Around} (r : RoomG k A) (h : j ≤ k) : RoomG j A := ⟨r.r.mono h, r.g⟩
theorem RoomG.deeper {k : Nat} {A : Around} (r : RoomG (k + 1) A) (env : Env) : RoomG k (A.deeper env) := ⟨r.r.deeper env, r.g⟩
theorem RoomG.make {k : Nat} {A : Around} (r : RoomG (k + 1) A) (C : Addr) (us : List Value) (kw : List (Str × Value)) : RoomG k (A.under (.builtin "type.__call__" ⟨.ref C :: us, kw⟩)) := ⟨r.r.make C us kw, by
  show pushGuards (Code.guards (.builtin "type.__call__" ⟨.ref C :: us, kw⟩)) A.guards = _
  rw [r.g]
  rfl⟩
/-! ### the promise of a def -/
structure FnG (P : Program) (w : World) (K : PySem.W.Frag) (mg : Str → Option Value) (base : Heap) (CX : CXT) (k : Nat) (f : Addr) (fd : FuncData) (ps : List Str) (sp : Sp) : Prop where
  len : ∀ (vs : List V) (H : Hp) (Q : VK) (E : XK), sp vs H Q E → vs.length = ps.length
  run : ∀ (A : Around) (outer : List Env) (s : Shared) (H : Hp) (args : Args) (us : List Value) (vs : List V) (Q : VK) (E : XK), RoomG k A → Env0 P w K mg base A outer s H → BindsTo s fd args (ps.zip us) → Vals vs us → sp vs H Q E → codeAny (model P w) A (.call (.ref f) args) (CR CX outer P w H s Q E) s
theorem FnG.mono {P : Program} {w : World} {K : PySem.W.Frag} {mg : Str → Option Value} {base : Heap} {CX : CXT} {j k : Nat} {f : Addr} {fd : FuncData} {ps : List Str} {sp : Sp} (F : FnG P w K mg base CX j f fd ps sp) (h : j ≤ k) :
    FnG P w K mg base CX k f fd ps sp := ⟨F.len, fun A outer s H args us vs Q E hr => F.run A outer s H args us vs Q E (hr.mono h)⟩
theorem fnG_of {CX : CXT} {P : Program} {w : World} {K : PySem.W.Frag} {mg : Str → Option Value} {base : Heap} {k : Nat} {f : Addr} {name qual : Str} {params : Arguments} {body : List Stmt} {scope : Scope} {dV kV doc pm cdv ct oc : Value} {an od : Option Addr}
    {osl : Array (Option Value)} {N ps : List Str} {sp : Sp} (lk : K.lookup f = some ⟨oc, od, .func (PySem.W.fnOf name qual params body scope dV kV doc pm an cdv ct), osl⟩) (hcd : PySem.W.codeIn K cdv qual = true) (S : FnScope N ps scope) (len : ∀ vs H Q E, sp vs H Q E → vs.length = ps.length)
    (hbody : ∀ (A : Around) (outer : List Env) (s : Shared) (H : Hp) (vs : List V) (Q : VK) (E : XK), RoomG k (A.deeper (envOfC qual scope s.heap.objs.size f cdv)) → sp vs H Q E →
      ∃ t, PSs (cxOf CX P w K mg base N qual scope f cdv A outer s H E) body t ∧ t { nx := fun _ H'_m => Q .non H'_m, rt := Q } (start N vs) H) :
    FnG P w K mg base CX (k + 1) f (PySem.W.fnOf name qual params body scope dV kV doc pm an cdv ct) ps sp :=
  ⟨len, fun A outer s H args_m us_m vs Q E hr_m e0_m hb_m r_m hsp_m => LamX.run_ofS lk hcd S hr_m.r e0_m hb_m r_m (len _ _ _ _ hsp_m) fun _ => hbody A outer s H vs Q E (hr_m.deeper _) hsp_m⟩
/-- a run's wish -/
def spM (K : PySem.W.Frag) (T : Tx) (n : Nat) (F : List D → M D) : Sp := fun vs H Q E => ∃ W ds S, ds.length = n ∧ VRs K W ds vs ∧ HR K T W S H ∧ Post K T (fun c d _ H => E c d H) W [] (RV K) (F ds S) Q
abbrev FnM (P : Program) (w : World) (K : PySem.W.Frag) (mg : Str → Option Value) (base : Heap) (T : Tx) (k : Nat) (f : Addr) (fd : FuncData) (ps : List Str) (F : List D → M D) : Prop := FnG P w K mg base (L2.CX P w) k f fd ps (spM K T ps.length F)
/-- the slots at the entry -/
def startE (n : Nat) (ds : List D) : Env' := ds.map some ++ List.replicate (n - ds.length) none
def bodyM (r : SR) : Res D := match r with
  | .nx _ S => .ok .non S
  | .rt d S => .ok d S
  | .exc C fs _ S => .exc C fs S
  | _ => .bad
def defM (n : Nat) (g : SM) : List D → M D := fun ds S => bodyM (g (startE n ds) S)
theorem ER.start {K : PySem.W.Frag} {W : Wd} {ds : List D} {vs : List V} (r : VRs K W ds vs) (N : List Str) : ER K W (startE N.length ds) (L2.start N vs) := by
  have l_m := r.length
  refine ⟨by unfold startE L2.start; simp [l_m], fun i d_m h_m => ?_⟩
  unfold startE at h_m
  by_cases hi : i < ds.length
  · rw [List.getElem?_append_left (by simpa using hi), List.getElem?_map] at h_m
    cases e : ds[i]? with
    | none => rw [e] at h_m; cases h_m
    | some d'_m =>
      rw [e] at h_m
      cases h_m
      obtain ⟨v_m, hv_m, rv_m⟩ := r.get' e
      refine .inr ⟨v_m, ?_, rv_m⟩
      unfold L2.start
      rw [List.getElem?_append_left (by simpa [l_m] using hi), List.getElem?_map, hv_m]
      rfl
  · rw [List.getElem?_append_right (by simpa using hi), List.getElem?_replicate] at h_m
    split at h_m <;> cases h_m
theorem Post.body {K : PySem.W.Frag} {T : Tx} {W : Wd} {r : SR} {Q : VK} {E : XK} (p : Post K T (fun c d _ H => E c d H) W [] (RV K) (bodyM r) Q) : PostS K T (fun c d _ H => E c d H) W r { nx := fun _ H' => Q .non H', rt := Q } := by
  cases r with
  | nx δ S => exact fun W' σ H l _ x => p W' _ H l .non x
  | rt d S => exact p
  | exc C fs δ S => exact fun W' σ dx H l _ x y => p W' dx H l x y
  | bk δ S => exact p.elim
  | ct δ S => exact p.elim
  | bad => exact p
theorem fnM_of {P : Program} {w : World} {K : PySem.W.Frag} {mg : Str → Option Value} {base : Heap} {T : Tx} {k : Nat} {f : Addr} {name qual : Str} {params : Arguments} {body : List Stmt} {scope : Scope} {dV kV doc pm cdv ct oc : Value} {an od : Option Addr}
    {osl : Array (Option Value)} {N ps : List Str} {g : SM} (lk : K.lookup f = some ⟨oc, od, .func (PySem.W.fnOf name qual params body scope dV kV doc pm an cdv ct), osl⟩) (hcd : PySem.W.codeIn K cdv qual = true) (S : FnScope N ps scope)
    (hbody : ∀ (A : Around) (outer : List Env) (s : Shared) (H : Hp) (E : XK), RoomG k (A.deeper (envOfC qual scope s.heap.objs.size f cdv)) →
      PSsm (cxOf (L2.CX P w) P w K mg base N qual scope f cdv A outer s H E) T (fun c d _ H => E c d H) body g) :
    FnM P w K mg base T (k + 1) f (PySem.W.fnOf name qual params body scope dV kV doc pm an cdv ct) ps (defM N.length g) := by
  refine fnG_of lk hcd S (fun vs H Q E ⟨W, ds, S', hl, rv, _, _⟩ => by rw [← rv.length]; exact hl) fun A outer s H vs Q E hr ⟨W, ds, S', hl, rv, hh, p⟩ => ⟨_, (hbody A outer s H E hr).run, W, startE N.length ds, S', ER.start rv N, hh, ?_⟩
  exact Post.body p
/-- what goes out of a def's body -/
theorem takesM {P : Program} {w : World} {K : PySem.W.Frag} {mg : Str → Option Value} {base : Heap} {N : List Str} {qual : Str} {scope : Scope} {f : Addr} {cd : Value} {A : Around} {outer : List Env} {s : Shared} {H : Hp} {E : XK} :
    Takes (cxOf (L2.CX P w) P w K mg base N qual scope f cd A outer s H E) (fun c d _ H => E c d H) := takes_of rfl rfl rfl rfl

/-! ### calls -/
section
variable {X : Cx} {T : Tx} {Wx : WX} {k i n : Nat} {f C : Addr} {fd : FuncData} {ps ks : List Str} {sp : Sp} {F : List D → M D} {x m : Str} {p pos apos : Pos} {e o : Expr} {es : List Expr} {fo : Env' → M D} {fs fk : Env' → M (List D)} {kws : List Keyword}
theorem run_fnG {E : XK} {pins : List (Addr × Obj)} {σ : L2.St} {H : Hp} {s : Shared} {Q : VK} {us : List Value} {vs : List V} {args : Args} (F : FnG X.prog X.w X.K X.mg X.base (L2.CX X.prog X.w) k f fd ps sp) (hr : RoomG k X.A) (hx : PassesAt (L2.CX X.prog X.w) X σ E)
    (I : Inv X pins σ H s) (r : Vals vs us) (hb : us.length = ps.length → BindsTo s fd args (ps.zip us)) (h : sp vs H Q E) : codeAny (model X.prog X.w) X.A (.call (.ref f) args) (fun r s' => match r with
      | .ok (.ret u) => EP X pins σ Q u s'
      | .ok _ => False
      | .error e => X.xe e s') s := by
  have hl_m : us.length = ps.length := by rw [← r.length]; exact F.len _ _ _ _ h
  refine codeAny_mono (F.run X.A X.stack s H args us vs Q E hr I.env0 (hb hl_m) r h) fun r s' hq_m => ?_
  cases r with
  | error e => exact hx pins H s e s' I hq_m
  | ok fl_m =>
    cases fl_m with
    | ret u => exact I.after hq_m
    | next => exact False.elim hq_m
    | brk => exact False.elim hq_m
    | cont => exact False.elim hq_m
theorem callG {E : XK} {pins : List (Addr × Obj)} {σ : L2.St} {H : Hp} {s : Shared} {Q : VK} {us ws : List Value} {kw : List (Str × Value)} {vs : List V} (F : FnG X.prog X.w X.K X.mg X.base (L2.CX X.prog X.w) k f fd ps sp) (hr : RoomG k X.A) (hx : PassesAt (L2.CX X.prog X.w) X σ E)
    (I : Inv X pins σ H s) (r : Vals vs us) (hb : us.length = ps.length → BindsTo s fd ⟨ws, kw⟩ (ps.zip us)) (h : sp vs H Q E) : wpAny (model X.prog X.w) X.A (call (.ref f) ws kw) (EP X pins σ Q) X.xe s := by
  refine wpAny_call (codeAny_mono (run_fnG F hr hx I r hb h) fun r s' hq => ?_)
  cases r with
  | error e => exact hq
  | ok fl =>
    cases fl with
    | ret u => exact hq
    | next => exact False.elim hq
    | brk => exact False.elim hq
    | cont => exact False.elim hq
theorem bindsAll {s : Shared} {us : List Value} (b : Binds X.K fd ps []) (KX : X.K.In s.heap) (hl : us.length = ps.length) : BindsTo s fd ⟨us, []⟩ (ps.zip us) := by
  have := b s us KX (by rw [List.append_nil]; exact hl)
  rwa [List.append_nil] at this
/-- a call with n arguments -/
def cM (n : Nat) (F : List D → M D) : List D → M D := fun ds => M.ask (ds.length = n) (F ds)
theorem spM_of {K : PySem.W.Frag} {W : Wd} {S : Store} {H : Hp} {ds : List D} {vs : List V} {σ : L2.St} {Q : VK} (hr : HR K T W S H) (r : VRs K W ds vs) (h : Post K T Wx W σ (RV K) (cM n F ds S) Q) : spM K T n F vs H Q (WE Wx σ) := by
  unfold cM at h
  obtain ⟨c, h⟩ := Post.ask h
  refine ⟨W, ds, S, c, r, hr, ?_⟩
  cases q : F ds S with
  | ok a S' => rw [q] at h; exact h
  | exc C fs S' => rw [q] at h; exact h
  | bad => rw [q] at h; exact h
theorem pem_call (F1 : FnM X.prog X.w X.K X.mg X.base T k f fd ps F) (hr : RoomG k X.A) (hg : Gl X x) (hm : X.mg x = some (.ref f)) (hk : PySem.W.keepIn X.K (.ref f) = true) (hb : Binds X.K fd ps []) (tk : Takes X Wx)
    (ha : PAm X T Wx (e :: es) fs) (hn : ps.length = n := by rfl) (hdb : (x == ("__debug__" : Str)) = false := by decide) (he : starEach (e :: es) X.env = (false, eval e X.env) :: starEach es X.env := by rfl) (hpl : (backTo pos (starEach es X.env)).any (·.1) = false := by rfl) :
    PEm X T Wx (.Call (.Name x p) (e :: es) [] pos) (eCall (cM n F) fs) := by
  subst hn
  refine ⟨⟨fun pins_m s_m σ_m H_m Q_m I_m ⟨W, δ_m, S_m, er_m, hh_m, h_m⟩ => ?_⟩⟩
  refine wpAny_Call_Name_kw (ld_glob I_m hg hm ?_ hdb)
  refine PySem.W.callWith_K (h₀ := X.base) I_m.ok.mod.kin hk (thn (ha.run.run pos pins_m s_m σ_m H_m _ I_m ⟨W, δ_m, S_m, er_m, hh_m, Post.bind (R1 := RVs X.K) h_m⟩) fun us_m s1_m ⟨vs_m, H1_m, I1_m, r_m, W1_m, ds_m, S1_m, l1_m, rv_m, hr1_m, p1_m⟩ => ⟨I1_m.kIn, ?_⟩) he hpl
  exact callG F1 hr (passAt tk σ_m) I1_m r_m (bindsAll hb I1_m.kIn) (spM_of hr1_m rv_m p1_m)
theorem pem_call0 (F1 : FnM X.prog X.w X.K X.mg X.base T k f fd ps F) (hr : RoomG k X.A) (hg : Gl X x) (hm : X.mg x = some (.ref f)) (hk : PySem.W.keepIn X.K (.ref f) = true) (hb : Binds X.K fd ps []) (tk : Takes X Wx) (hn : ps.length = n := by rfl)
    (hdb : (x == ("__debug__" : Str)) = false := by decide) : PEm X T Wx (.Call (.Name x p) [] [] pos) (eCall (cM n F) aNil) := by
  subst hn
  refine ⟨⟨fun pins_m s_m σ_m H_m Q_m I_m ⟨W, δ_m, S_m, er_m, hh_m, h_m⟩ => ?_⟩⟩
  refine wpAny_Call_Name_kw (ld_glob I_m hg hm ?_ hdb)
  exact PySem.W.callWith_K0 I_m.kIn hk (callG (us := []) F1 hr (passAt tk σ_m) I_m .nil (bindsAll hb I_m.kIn) (spM_of hh_m .nil (show Post X.K T Wx W σ_m (RV X.K) (cM ps.length F [] S_m) Q_m from h_m)))
/-- keywords only -/
structure PKm (X : Cx) (T : Tx) (Wx : WX) (kws : List Keyword) (f : Env' → M (List D)) : Prop where
  run : PK X kws (tAr X.K T Wx f)
theorem pk_imp {X : Cx} {e : List Keyword} {t t' : TA} (h : PK X e t) (i : ∀ σ H Q, t' σ H Q → t σ H Q) : PK X e t' := ⟨fun pos pins s σ H Q I q => h.run pos pins s σ H Q I (i _ _ _ q)⟩
theorem pkm_nil : PKm X T Wx [] aNil := ⟨pk_imp pk_nil fun _ H _ ⟨W, _, _, _, hr, p⟩ => p W _ H (.refl W) .nil hr⟩
theorem pkm_cons {nm : Option Str} {kpos : Pos} {f : Env' → M D} (ha : PEm X T Wx e f) (hr : PKm X T Wx kws fs) : PKm X T Wx (⟨nm, e, kpos⟩ :: kws) (aCons f fs) := by
  refine ⟨pk_imp (pk_cons ha.run hr.run) fun σ H Q ⟨W, δ, S, er, hr, p⟩ => ?_⟩
  refine ⟨W, δ, S, er, hr, (Post.bind (R1 := RV X.K) p).imp fun v H1 ⟨W1, d, S1, l1, r1, q1, p1⟩ => ⟨W1, δ, S1, er.mono l1, q1, (Post.bind (R1 := RVs X.K) p1).imp fun vs H2 ⟨W2, ds, S2, l2, r2, q2, p2⟩ => ?_⟩⟩
  exact p2 W2 _ H2 (.refl _) (.cons (r1.mono l2) r2) q2
theorem pem_callK0 (F1 : FnM X.prog X.w X.K X.mg X.base T k f fd ps F) (hr : RoomG k X.A) (hg : Gl X x) (hm : X.mg x = some (.ref f)) (hk : PySem.W.keepIn X.K (.ref f) = true) (tk : Takes X Wx)
    (hb : ∀ (s : Shared) (us : List Value), X.K.In s.heap → us.length = ps.length → BindsTo s fd ⟨[], ks.zip us⟩ (ps.zip us))
    (ha : PKm X T Wx kws fs) (hall : (backToKw pos (keywordEach kws X.env)).all (·.1.isSome) = true := by rfl) (hks : (backToKw pos (keywordEach kws X.env)).filterMap (·.1) = ks := by rfl) (hn : ps.length = n := by rfl)
    (hdb : (x == ("__debug__" : Str)) = false := by decide) (hpl : ((backTo pos (starEach [] X.env)).any (·.1) || (backToKw pos (keywordEach kws X.env)).any (·.1.isNone)) = false := by rfl) :
    PEm X T Wx (.Call (.Name x p) [] kws pos) (eCall (cM n F) fs) := by
  subst hn
  refine ⟨⟨fun pins_m s σ_m H_m Q_m I_m ⟨W, δ_m, S_m, er_m, hh_m, h_m⟩ => ?_⟩⟩
  refine wpAny_Call_Name_kw (ld_glob I_m hg hm ?_ hdb)
  refine PySem.W.callWith_KW0 (h₀ := X.base) I_m.ok.mod.kin hk hall (thn (ha.run.run pos pins_m s σ_m H_m _ I_m ⟨W, δ_m, S_m, er_m, hh_m, Post.bind (R1 := RVs X.K) h_m⟩) fun us s1_m ⟨vs_m, H1_m, I1_m, r_m, W1_m, ds_m, S1_m, l1_m, rv_m, hr1_m, p1_m⟩ => ⟨I1_m.kIn, ?_⟩) hpl
  rw [hks]
  exact callG (us := us) F1 hr (passAt tk σ_m) I1_m r_m (hb s1_m us I1_m.kIn) (spM_of hr1_m rv_m p1_m)
/-- f stands in slot i -/
theorem pem_callL (F1 : FnM X.prog X.w X.K X.mg X.base T k f fd ps F) (hr : RoomG k X.A) (hk : PySem.W.keepIn X.K (.ref f) = true) (hb : Binds X.K fd ps []) (tk : Takes X Wx) (ha : PAm X T Wx (e :: es) fs) (hn : ps.length = n := by rfl)  (he : starEach (e :: es) X.env = (false, eval e X.env) :: starEach es X.env := by rfl) (hpl : (backTo pos (starEach es X.env)).any (·.1) = false := by rfl)
    {pins : List (Addr × Obj)} {s : Shared} {σ : L2.St} {H : Hp} {Q : VK} (I : Inv X pins σ H s) (h_m : tE X.K T Wx (eCall (cM n F) fs) σ H Q) : wpAny (model X.prog X.w) X.A (callWith pos (.ref f) [] (backTo pos (starEach (e :: es) X.env)) []) (EP X pins σ Q) X.xe s := by
  subst hn
  obtain ⟨W, δ_m, S_m, er_m, hh_m, h_m⟩ := h_m
  refine PySem.W.callWith_K (h₀ := X.base) I.ok.mod.kin hk (thn (ha.run.run pos pins s σ H _ I ⟨W, δ_m, S_m, er_m, hh_m, Post.bind (R1 := RVs X.K) h_m⟩) fun us_m s1_m ⟨vs_m, H1_m, I1_m, r_m, W1_m, ds_m, S1_m, l1_m, rv_m, hr1_m, p1_m⟩ => ⟨I1_m.kIn, ?_⟩) he hpl
  exact callG F1 hr (passAt tk σ) I1_m r_m (bindsAll hb I1_m.kIn) (spM_of hr1_m rv_m p1_m)
/-- of several defs that a slot may hold -/
structure HeldM (P : Program) (w : World) (K : PySem.W.Frag) (mg : Str → Option Value) (base : Heap) (T : Tx) (k : Nat) (n : Nat) (f : Addr) (F : List D → M D) : Prop where
  ex : ∃ (fd : FuncData) (ps : List Str), FnM P w K mg base T k f fd ps F ∧ PySem.W.keepIn K (.ref f) = true ∧ Binds K fd ps [] ∧ ps.length = n
/-- the i-th slot's def is called: tab tells which -/
def adrOf : Option (Option D) → Option Addr
  | some (some (.adr f)) => some f
  | _ => none
def eCallA (tab : Addr → Option (List D → M D)) (i n : Nat) (fs : Env' → M (List D)) : Env' → M D := fun δ => ((adrOf δ[i]?).bind tab).elim M.bad fun F => eCall (cM n F) fs δ
theorem adrOf_some {o : Option (Option D)} {f : Addr} (h : adrOf o = some f) : o = some (some (.adr f)) := by
  unfold adrOf at h
  split at h
  · cases h; rfl
  · cases h
theorem pem_callA {tab : Addr → Option (List D → M D)} (hA : ∀ f F, tab f = some F → HeldM X.prog X.w X.K X.mg X.base T k n f F) (hr : RoomG k X.A) (hN : X.N[i]? = some x) (hv : Vis X.env.scope x) (tk : Takes X Wx) (ha : PAm X T Wx (e :: es) fs) (hdb : (x == ("__debug__" : Str)) = false := by decide) (hcd : (x == ("__classdict__" : Str)) = false := by decide)
    (he : starEach (e :: es) X.env = (false, eval e X.env) :: starEach es X.env := by rfl) (hpl : (backTo pos (starEach es X.env)).any (·.1) = false := by rfl) : PEm X T Wx (.Call (.Name x p) (e :: es) [] pos) (eCallA tab i n fs) := by
  refine ⟨⟨fun pins_m s_m σ_m H_m Q_m I_m ⟨W_m, δ_m, S_m, er_m, hh_m, h_m⟩ => ?_⟩⟩
  unfold eCallA at h_m
  cases hi : adrOf δ_m[i]? with
  | none => rw [hi] at h_m; exact h_m.elim
  | some f =>
    rw [hi] at h_m
    cases hF : tab f with
    | none => rw [show (some f).bind tab = none from hF] at h_m; exact h_m.elim
    | some F =>
      rw [show (some f).bind tab = some F from hF] at h_m
      obtain ⟨fd, ps, F1_m, hk_m, hb_m, hn_m⟩ := (hA f F hF).ex
      rcases er_m.2 i _ (adrOf_some hi) with ⟨z_m, _⟩ | ⟨v_m, hv1_m, hv2_m⟩
      · cases z_m
      cases hv2_m
      refine wpAny_Call_Name_kw (thn ((pe_var (pos := p) hN hv hdb hcd).run pins_m s_m σ_m H_m (fun v_m H1_m => v_m = .ref f ∧ H1_m = H_m) I_m ⟨.ref f, hv1_m, rfl, rfl⟩) fun u_m s1_m ⟨v_m, H1_m, I1_m, r1_m, q1_m⟩ => ?_)
      obtain ⟨rfl, rfl⟩ := q1_m
      cases r1_m
      exact pem_callL F1_m hr hk_m hb_m tk ha hn_m he hpl I1_m ⟨W_m, δ_m, S_m, er_m, hh_m, h_m⟩
end
end MM
end
section
set_option Elab.async false
set_option linter.all false
set_option maxRecDepth 100000
set_option maxHeartbeats 1048576
namespace MM
open PySem PySem.Spec PySem.W PyProof.Rows L2

/-! ### dicts that never change again -/
def keyD : D → Option Key
  | .int i => some (.inl i)
  | .str x => some (.inr x)
  | _ => none
def keyB : Key → D
  | .inl i => .int i
  | .inr x => .str x
def putD (kvs : List (Key × D)) (k : Key) (d : D) : List (Key × D) :=
  if (kvs.any fun kv => decide (kv.1 = k)) = true then kvs.map (fun kv => if kv.1 = k then (kv.1, d) else kv) else kvs ++ [(k, d)]
def dlk : List Key → List D → Key → Option D
  | k :: ks, d :: ds, x => if k = x then some d else dlk ks ds x
  | _, _, _ => none
section
variable {K : PySem.W.Frag} {T : Tx} {W : Wd}
theorem keyD_ok {d : D} {v : V} {k : Key} (h : keyD d = some k) (r : VR K W d v) : v = kV k := by
  cases d <;> first | (cases h; cases r; rfl) | cases h
theorem keyB_ok (k : Key) : VR K W (keyB k) (kV k) := by
  cases k with
  | inl i => exact .int i
  | inr x => exact .str x
theorem FR.append {kvs kvs' : List (Key × D)} {kws kws' : List (Key × V)} (r : FR K W kvs kws) (r' : FR K W kvs' kws') : FR K W (kvs ++ kvs') (kws ++ kws') := by
  induction r with
  | nil => exact r'
  | cons h t ih => exact .cons h ih
theorem FR.any {kvs : List (Key × D)} {kws : List (Key × V)} (r : FR K W kvs kws) (k : Key) : (kvs.any fun kv => decide (kv.1 = k)) = (kws.any fun kv => decide (kv.1 = k)) := by
  induction r with
  | nil => rfl
  | cons h_m t_m ih_m => rw [List.any_cons, List.any_cons, ih_m, h_m.1]
theorem FR.put {kvs : List (Key × D)} {kws : List (Key × V)} (r : FR K W kvs kws) (k : Key) {d : D} {v : V} (rv : VR K W d v) : FR K W (putD kvs k d) (putK kws k v) := by
  unfold putD putK
  rw [r.any k]
  by_cases c : (kws.any fun kv => decide (kv.1 = k)) = true
  · rw [if_pos c, if_pos c]
    clear c
    induction r with
    | nil => exact .nil
    | @cons a b l m h t ih =>
      refine .cons ?_ ih
      obtain ⟨a1, a2⟩ := a
      obtain ⟨b1, b2⟩ := b
      obtain ⟨h1, h2⟩ := h
      dsimp only at h1 h2
      subst h1
      dsimp only
      by_cases q : a1 = k
      · rw [if_pos q, if_pos q]; exact ⟨rfl, rv⟩
      · rw [if_neg q, if_neg q]; exact ⟨rfl, h2⟩
  · rw [if_neg c, if_neg c]
    exact r.append (.cons ⟨rfl, rv⟩ .nil)
theorem FR.split {kvs : List (Key × D)} {kws : List (Key × V)} (r : FR K W kvs kws) : kws = (kvs.map (·.1)).zip (kws.map (·.2)) ∧ (kvs.map (·.1)).length = (kws.map (·.2)).length ∧ VRs K W (kvs.map (·.2)) (kws.map (·.2)) := by
  induction r with
  | nil => exact ⟨rfl, rfl, .nil⟩
  | @cons a b l m h t ih =>
    obtain ⟨i1, i2, i3⟩ := ih
    refine ⟨?_, by simpa using i2, .cons h.2 i3⟩
    show b :: m = (a.1, b.2) :: (l.map (·.1)).zip (m.map (·.2))
    rw [← i1, h.1]
theorem dlk_ok (x : Key) {ds : List D} {vs : List V} {ks : List Key} (hl : ks.length = vs.length) (r : VRs K W ds vs) : (dlk ks ds x = none ∧ valV (ks.zip vs) x = none) ∨ ∃ d v, dlk ks ds x = some d ∧ valV (ks.zip vs) x = some v ∧ VR K W d v := by
  induction ks generalizing ds vs with
  | nil =>
    refine .inl ⟨?_, rfl⟩
    cases ds <;> rfl
  | cons k ks ih =>
    cases r with
    | nil => simp at hl
    | @cons d v ds vs h t =>
      by_cases c : k = x
      · refine .inr ⟨d, v, by unfold dlk; rw [if_pos c], valV_pos (p := (k, v)) c, h⟩
      · rcases ih (by simpa using hl) t with ⟨h1, h2⟩ | ⟨d', v', h1, h2, h3⟩
        · exact .inl ⟨by unfold dlk; rw [if_neg c]; exact h1, (valV_neg (p := (k, v)) c).trans h2⟩
        · exact .inr ⟨d', v', by unfold dlk; rw [if_neg c]; exact h1, (valV_neg (p := (k, v)) c).trans h2, h3⟩
end
/-- x in d, x not in d -/
def dInP : D → D → Option Bool
  | x, .dct ks ds => (keyD x).map fun k => (dlk ks ds k).isSome
  | _, _ => none
def dIn : D → D → M D := fun x d => M.get ((dInP x d).map D.bl)
def dNotIn : D → D → M D := fun x d => M.get ((dInP x d).map fun b => D.bl (!b))
/-- d[x] -/
def dGet : D → D → M D := fun d x => M.get (match d with
  | .dct ks ds => (keyD x).bind fun k => dlk ks ds k
  | _ => none)
section
variable {X : Cx} {T : Tx} {Wx : WX} {W : Wd} {tg e a b iter : Expr} {f g : Env' → M D} {pos : Pos}
theorem dInP_ok {K : PySem.W.Frag} {S : Store} {H : Hp} {x d : D} {y u : V} {k : Bool} (hr : HR K T W S H) (h : dInP x d = some k) (r1 : VR K W x y) (r2 : VR K W d u) : ∃ a o, u = .ref a ∧ DGet H a y o ∧ o.isSome = k := by
  unfold dInP at h
  split at h
  · rename_i x ks_m ds_m
    simp only [Option.map_eq_some_iff] at h; obtain ⟨key_m, h1_m, h2_m⟩ := h
    cases r2 with
    | dct hz_m hl_m rs_m =>
      have ey_m := keyD_ok h1_m r1
      subst ey_m
      refine ⟨_, _, rfl, .inl ⟨_, key_m, .inr ⟨_, hr.fz _ _ hz_m⟩, rfl, rfl⟩, ?_⟩
      rcases dlk_ok key_m hl_m rs_m with ⟨q1_m, q2_m⟩ | ⟨d'_m, v'_m, q1_m, q2_m, _⟩
      · rw [q2_m, ← h2_m, q1_m]; rfl
      · rw [q2_m, ← h2_m, q1_m]; rfl
  · cases h
theorem opM_dIn (hu : X.A.units + 1 < cLine) : OpM X T (compareOp .In) dIn := by
  refine ⟨fun y_m u_m H_m Q_m => ∃ a o_m, u_m = .ref a ∧ DGet H_m a y_m o_m ∧ Q_m (.bl o_m.isSome) H_m, fun pins_m s_m σ_m H_m x_m y_m v_m u_m Q_m I_m rx_m ry_m ⟨a, o_m, e, g, q_m⟩ => ?_, fun W S_m H_m d_m d'_m v_m v'_m Q_m σ_m Wx hr_m r1_m r2_m p_m => ?_⟩
  · subst e
    obtain rfl : u_m = Value.ref a := ry_m
    exact d_in hu I_m g rx_m fun s3_m I3_m => ⟨.bl o_m.isSome, H_m, I3_m, rfl, q_m⟩
  · unfold dIn at p_m
    cases q_m : dInP d_m d'_m with
    | none => rw [q_m] at p_m; exact p_m.elim
    | some k_m =>
      rw [q_m] at p_m
      obtain ⟨a, o_m, e1_m, e2_m, e3_m⟩ := dInP_ok hr_m q_m r1_m r2_m
      refine ⟨a, o_m, e1_m, e2_m, ?_⟩
      rw [e3_m]
      exact p_m W _ H_m (.refl _) (.bl k_m) hr_m
theorem opM_dNotIn (hu : X.A.units + 1 < cLine) : OpM X T (compareOp .NotIn) dNotIn := by
  refine ⟨fun y_m u_m H_m Q_m => ∃ a o_m, u_m = .ref a ∧ DGet H_m a y_m o_m ∧ Q_m (.bl (!o_m.isSome)) H_m, fun pins_m s_m σ_m H_m x_m y_m v_m u_m Q_m I_m rx_m ry_m ⟨a, o_m, e, g, q_m⟩ => ?_, fun W S_m H_m d_m d'_m v_m v'_m Q_m σ_m Wx hr_m r1_m r2_m p_m => ?_⟩
  · subst e
    obtain rfl : u_m = Value.ref a := ry_m
    exact d_notIn hu I_m g rx_m fun s3_m I3_m => ⟨.bl (!o_m.isSome), H_m, I3_m, rfl, q_m⟩
  · unfold dNotIn at p_m
    cases q_m : dInP d_m d'_m with
    | none => rw [q_m] at p_m; exact p_m.elim
    | some k_m =>
      rw [q_m] at p_m
      obtain ⟨a, o_m, e1_m, e2_m, e3_m⟩ := dInP_ok hr_m q_m r1_m r2_m
      refine ⟨a, o_m, e1_m, e2_m, ?_⟩
      rw [e3_m]
      exact p_m W _ H_m (.refl _) (.bl (!k_m)) hr_m
theorem pem_dget (hu : X.A.units + 1 < cLine) (ha : PEm X T Wx a f) (hb : PEm X T Wx b g) (hs : NoSl b := by intro _ _; rfl) : PEm X T Wx (.Subscript a b pos) (e2 dGet f g) := by
  refine ⟨pe_imp (pe_dget hu ha.run hb.run hs) fun σ H Q ⟨W, δ, S, er, hr, p⟩ => ?_⟩
  refine ⟨W, δ, S, er, hr, (Post.bind (R1 := RV X.K) p).imp fun v H1 ⟨W1, d, S1, l1, r1, q1, p1⟩ => ?_⟩
  refine ⟨W1, δ, S1, er.mono l1, q1, (Post.bind (R1 := RV X.K) p1).imp fun vs H2 ⟨W2, d2, S2, l2, r2, q2, p2⟩ => ?_⟩
  unfold dGet at p2
  cases d with
  | dct ks ds =>
    cases hk : keyD d2 with
    | none => simp only [hk] at p2; exact p2.elim
    | some key =>
      simp only [hk] at p2
      cases r1 with
      | dct hz hl rs =>
        have ey := keyD_ok hk r2
        subst ey
        rcases dlk_ok key hl (rs.mono l2) with ⟨c1, c2⟩ | ⟨d', v', c1, c2, c3⟩
        · rw [show (some key).bind (fun k => dlk ks ds k) = none from c1] at p2; exact p2.elim
        · rw [show (some key).bind (fun k => dlk ks ds k) = some d' from c1] at p2
          exact ⟨_, v', rfl, .inl ⟨_, key, .inr ⟨_, q2.fz _ _ (l2.z _ _ hz)⟩, rfl, c2.symm⟩, p2 W2 _ H2 (.refl _) c3 q2⟩
  | _ => exact p2.elim
/-- for k in d -/
theorem walkM_keys {K : PySem.W.Frag} {ad : Addr} {od : Obj} {ks : List Key} {vs : List V} (h : W.Z ad = some (.frz od (.dK (ks.zip vs)))) (hl : ks.length = vs.length) : WalkM K T W (ks.map keyB) (Itk ad od (ks.zip vs)) := by
  have l : (ks.zip vs).length = ks.length := by simp; omega
  refine ⟨fun i W' S H hi le hr => ⟨hr.fz _ _ (le.z _ _ h), by simp at hi; omega⟩, fun W' S H le hr => ⟨hr.fz _ _ (le.z _ _ h), by simp; omega⟩, fun i W' S H x H' hi le hr ⟨e1, k, v, e2, e3⟩ => ?_⟩
  subst e1
  subst e3
  refine ⟨W', keyB k, .refl _, ?_, keyB_ok k, hr⟩
  have := List.getElem?_zip_eq_some.mp e2
  rw [List.getElem?_map, this.1]
  rfl
def keysD (d : D) : M (List D) := match d with
  | .dct ks _ => M.pure (ks.map keyB)
  | _ => M.bad
def iKeyM (f : Env' → M D) : Env' → M (List D) := fun δ => (f δ).bind keysD
theorem pim_keys (he : PEm X T Wx e f) : PIm X T Wx tg e (iKeyM f) := by
  refine ⟨_, pi_keys he.run, fun W δ S σ H R er hr p => ⟨W, δ, S, er, hr, (Post.bind (R1 := RV X.K) p).imp fun v H1 ⟨W1, d, S1, l1, r1, q1, p1⟩ => ?_⟩⟩
  unfold keysD at p1
  cases d with
  | dct ks ds =>
    cases r1 with
    | dct hz hl rs => exact ⟨_, _, rfl, .inl ⟨_, q1.fz _ _ hz, p1 W1 _ H1 (.refl _) (walkM_keys hz hl) q1⟩⟩
  | _ => exact p1.elim

/-! ### a dict comprehension, its dict never written again -/
def tFreeze (t : TE) : TE := fun σ H Q => t σ H fun v H1 => ∃ d u, v = .ref d ∧ H1 d = some u ∧ Mut (some u) ∧ ∀ od, Q v (upd H1 d (.frz od u))
theorem pe_freeze {e : Expr} {t : TE} (h : PE X e t) : PE X e (tFreeze t) := by
  refine ⟨fun pins_m s_m σ_m H_m Q_m I_m hw_m => ?_⟩
  refine thn (h.run pins_m s_m σ_m H_m _ I_m hw_m) fun v_m s1_m ⟨x_m, H1_m, I2_m, r_m, d_m, u_m, e1_m, e2_m, mu_m, q_m⟩ => ?_
  obtain ⟨od_m, I3_m⟩ := I2_m.lock e2_m mu_m
  exact ⟨x_m, _, I3_m, r_m, q_m od_m⟩
def dcM (t : TgF) (tt : Env' → M Bool) (tk te : Env' → M D) (δ0 : Env') : List D → List (Key × D) → M (List (Key × D))
  | [], acc => fun S => .ok acc S
  | x :: xs, acc => fun S => match t x δ0 with
    | none => .bad
    | some δ1 => match tt δ1 S with
      | .ok true S1 => match tk δ1 S1 with
        | .ok y S2 => match keyD y with
          | some k => match te δ1 S2 with
            | .ok z S3 => if acc.length < sizeLine then dcM t tt tk te δ0 xs (putD acc k z) S3 else .bad
            | _ => .bad
          | none => .bad
        | _ => .bad
      | .ok false S1 => dcM t tt tk te δ0 xs acc S1
      | _ => .bad
def dctOf (kvs : List (Key × D)) : D := .dct (kvs.map (·.1)) (kvs.map (·.2))
def eDc (src : Env' → M (List D)) (t : TgF) (tt : Env' → M Bool) (tk te : Env' → M D) (own : List Nat) : Env' → M D := fun δ => (src δ).bind fun xs => (dcM t tt tk te (wipeD δ own) xs []).bind fun ys => M.pure (dctOf ys)
theorem wipe_wipe (σ : L2.St) (own : List Nat) : L2.wipe (L2.wipe σ own) own = L2.wipe σ own := by
  have key : ∀ (vs : List Nat) (τ : L2.St), (∀ j ∈ vs, τ[j]? = some none ∨ τ[j]? = none) → L2.wipe τ vs = τ := by
    intro vs
    induction vs with
    | nil => intro τ _; rfl
    | cons v vs ih =>
      intro τ h
      unfold L2.wipe
      rw [ih τ fun j hj => h j (List.mem_cons_of_mem _ hj)]
      rcases h v (List.mem_cons_self ..) with q | q
      · obtain ⟨hl, q⟩ := List.getElem?_eq_some_iff.mp q
        conv => rhs; rw [← List.set_getElem_self (as := τ) hl, q]
      · exact List.set_eq_of_length_le (List.getElem?_eq_none_iff.mp q)
  have wn : ∀ (vs : List Nat) (τ : L2.St) (j : Nat), j ∈ vs → (L2.wipe τ vs)[j]? = some none ∨ (L2.wipe τ vs)[j]? = none := by
    intro vs
    induction vs with
    | nil => intro τ j h; cases h
    | cons v vs ih =>
      intro τ j h
      unfold L2.wipe
      by_cases c : j = v
      · subst c
        by_cases hl : j < (L2.wipe τ vs).length
        · exact .inl (List.getElem?_set_self hl)
        · exact .inr (List.getElem?_eq_none (by simpa using hl))
      · rw [List.getElem?_set_ne (Ne.symm c)]
        exact ih τ j (by simpa [c] using h)
  exact key own _ fun j hj => wn own σ j hj
theorem dc_ok {own : List (Str × Nat)} {src : Env' → M (List D)} {t : TgF} {is : List Nat} {ft : Env' → M Bool} {fk fe : Env' → M D} {wi : TI} (hi : ∀ (W : Wd) (δ : Env') (S : Store) (σ : L2.St) (H : Hp) (R : It → Hp → Prop), ER X.K W δ σ → HR X.K T W S H → Post X.K T Wx W σ (RI X.K T) (src δ S) R → wi σ H R)
    (his : ∀ i ∈ is, i ∈ own.map (·.2)) {W : Wd} {δ : Env'} {S : Store} {σ : L2.St} {H : Hp} {Q : VK} (er : ER X.K W δ σ) (hr : HR X.K T W S H) (p : Post X.K T Wx W σ (RV X.K) (eDc src t ft fk fe (own.map (·.2)) δ S) Q) :
    tFreeze (tDc wi (fun v σ H Q => ∃ W d δ S δ', VR X.K W d v ∧ ER X.K W δ σ ∧ HR X.K T W S H ∧ t d δ = some δ' ∧ ∀ σ', ER X.K W δ' σ' → (∀ vs : List Nat, (∀ i ∈ is, i ∈ vs) → L2.wipe σ' vs = L2.wipe σ vs) → Q σ' H) (tB X.K T W0x ft) (tE X.K T W0x fk) (tE X.K T W0x fe) (own.map (·.2))) σ H Q := by
  refine hi W δ S σ H _ er hr ((Post.bind (R1 := RI X.K T) p).imp fun J_m H1_m ⟨W0_m, xs_m, S1_m, l1_m, w_m, hr1_m, p1_m⟩ => fun Dd_m hD_m => ?_)
  have er0_m := er.mono l1_m
  generalize hown_m : own.map (·.2) = ow at *
  have h0_m : W0_m.P Dd_m = none := hr1_m.pf.free hD_m
  let In_m : Nat → Hp → Prop := fun i H => ∃ W S acc_m kws_m, W0_m.le0 W ∧ W.P = upd W0_m.P Dd_m (.dK kws_m) ∧ FR X.K W acc_m kws_m ∧ HR X.K T W S H ∧
    Post X.K T Wx W0_m σ (RV X.K) (((dcM t ft fk fe (wipeD δ ow) (xs_m.drop i) acc_m).bind fun ys_m => M.pure (dctOf ys_m)) S) Q
  refine ⟨fun i m_m H => m_m = xs_m.length - i ∧ i ≤ xs_m.length ∧ In_m i H, ⟨xs_m.length, by simp, Nat.zero_le _, W0_m.pin Dd_m (.dK []), S1_m, [], [], Wd.le_pin, rfl, .nil, hr1_m.pin hD_m, by simpa using p1_m⟩, ?_⟩
  rintro i m_m H ⟨rfl, hi, W, S, acc_m, kws_m, le_m, eP_m, rv_m, hr, p⟩
  by_cases hlt : i < xs_m.length
  · refine .inr ⟨w_m.go i W S H hlt le_m hr, In_m (i + 1), fun H'_m p'_m => ⟨xs_m.length - (i + 1), by omega, rfl, hlt, p'_m⟩, fun x_m H'_m y_m => ?_⟩
    obtain ⟨W2_m, d, l2_m, hd_m, rx_m, hr2_m⟩ := w_m.yld i W S H x_m H'_m hlt le_m hr y_m
    have ed_m : xs_m.drop i = d :: xs_m.drop (i + 1) := by
      rw [List.getElem?_eq_getElem hlt] at hd_m
      cases hd_m
      exact List.drop_eq_getElem_cons hlt
    rw [ed_m] at p
    unfold M.bind dcM at p
    cases q_m : t d (wipeD δ ow) with
    | none => rw [q_m] at p; exact p.elim
    | some δ1_m =>
      rw [q_m] at p
      dsimp only at p
      refine ⟨W2_m, d, wipeD δ ow, S, δ1_m, rx_m, ((er0_m.mono0 le_m).mono l2_m).wipe ow, hr2_m, q_m, fun σ2_m er2_m hw_m => ⟨?_, W2_m, δ1_m, S, er2_m, hr2_m, ?_⟩⟩
      · rw [hw_m ow his, wipe_wipe]
      · cases qt : ft δ1_m S with
        | bad => rw [qt] at p; exact p
        | exc C_m fs_m S1_m => rw [qt] at p; exact p.elim
        | ok k_m S1_m =>
          rw [qt] at p
          intro W3_m b H3_m l3_m eb_m hr3_m
          cases eb_m
          cases k_m with
          | false =>
            rw [if_neg Bool.false_ne_true]; have lw_m := l2_m.tole0.trans l3_m.tole0
            exact ⟨W3_m, S1_m, acc_m, kws_m, le_m.trans lw_m, by rw [l3_m.p, l2_m.p, eP_m], rv_m.mono0 lw_m, hr3_m, p⟩
          | true =>
            rw [if_pos rfl]
            dsimp only at p
            refine ⟨W3_m, δ1_m, S1_m, er2_m.mono l3_m, hr3_m, ?_⟩
            cases qk : fk δ1_m S1_m with
            | bad => rw [qk] at p; exact p
            | exc C_m fs_m S2_m => rw [qk] at p; exact p.elim
            | ok yk_m S2_m =>
              rw [qk] at p
              dsimp only at p
              intro W4_m yv_m H4_m l4_m ry_m hr4_m
              cases qd : keyD yk_m with
              | none => rw [qd] at p; exact p.elim
              | some key_m =>
                rw [qd] at p
                dsimp only at p
                refine ⟨W4_m, δ1_m, S2_m, (er2_m.mono l3_m).mono l4_m, hr4_m, ?_⟩
                cases qe : fe δ1_m S2_m with
                | bad => rw [qe] at p; exact p
                | exc C_m fs_m S3_m => rw [qe] at p; exact p.elim
                | ok z_m S3_m =>
                  rw [qe] at p
                  dsimp only at p
                  intro W5_m zv_m H5_m l5_m rz_m hr5_m
                  have lw_m := ((l2_m.tole0.trans l3_m.tole0).trans l4_m.tole0).trans l5_m.tole0
                  have eP5_m : W5_m.P = upd W0_m.P Dd_m (.dK kws_m) := by rw [l5_m.p, l4_m.p, l3_m.p, l2_m.p, eP_m]
                  have atD_m : W5_m.P Dd_m = some (.dK kws_m) := by rw [eP5_m]; exact upd_same
                  by_cases c : acc_m.length < sizeLine
                  · rw [if_pos c] at p
                    refine ⟨kws_m, key_m, keyD_ok qd ry_m, hr5_m.pf _ _ atD_m, by rw [← Paired.length rv_m]; exact c, W5_m.pin Dd_m (.dK (putK kws_m key_m zv_m)), S3_m, putD acc_m key_m z_m, putK kws_m key_m zv_m, (le_m.trans lw_m).trans Wd.le_pin, ?_, (rv_m.mono0 (lw_m.trans Wd.le_pin)).put key_m (rz_m.mono0 Wd.le_pin), hr5_m.repin atD_m ⟨fun _ => nofun, fun _ => nofun⟩ ⟨fun _ => nofun, fun _ => nofun⟩, p⟩
                    show upd W5_m.P Dd_m (.dK (putK kws_m key_m zv_m)) = _
                    rw [eP5_m, upd_upd]
                  · rw [if_neg c] at p; exact p.elim
  · have e : i = xs_m.length := by omega
    subst e
    rw [List.drop_length] at p
    have atD_m : W.P Dd_m = some (.dK kws_m) := by rw [eP_m]; exact upd_same
    refine .inl ⟨w_m.stop W S H le_m hr, Dd_m, .dK kws_m, rfl, hr.pf _ _ atD_m, trivial, fun od_m => ?_⟩
    have hrp_m := hr.repin (o' := .frz od_m (.dK kws_m)) atD_m ⟨fun _ => nofun, fun _ => nofun⟩ ⟨fun _ => nofun, fun _ => nofun⟩
    have hP_m : ∀ b u_m, W0_m.P b = some u_m → (W.pin Dd_m (.frz od_m (.dK kws_m))).P b = some u_m := fun b u_m hb_m => by
      have hne_m := ne_of_none hb_m h0_m
      show upd W.P Dd_m _ b = _
      rw [upd_ne hne_m, eP_m, upd_ne hne_m]
      exact hb_m
    have hz_m : W.Z Dd_m = none := by
      cases q_m : W.Z Dd_m with
      | none => rfl
      | some u_m => have := hr.pz _ _ q_m; rw [atD_m] at this; cases this
    have hr'_m := hrp_m.settle (p := Dd_m) (o := .frz od_m (.dK kws_m)) (P0 := W0_m.P) upd_same h0_m hP_m (show Fz (.frz od_m (.dK kws_m)) from trivial)
    have lez_m : W.le0 ⟨upd W.Z Dd_m (.frz od_m (.dK kws_m)), W.ρ, W0_m.P, W.sx⟩ := ⟨fun b u_m hb_m => (upd_ne (ne_of_none hb_m hz_m)).trans hb_m, fun _ _ q_m => q_m, fun _ h_m => h_m⟩
    obtain ⟨s1_m, s2_m, s3_m⟩ := (rv_m.mono0 lez_m).split
    refine p ⟨upd W.Z Dd_m (.frz od_m (.dK kws_m)), W.ρ, W0_m.P, W.sx⟩ _ _ ⟨le_m.trans lez_m, rfl⟩ (.dct (od := od_m) (show upd W.Z Dd_m (.frz od_m (.dK kws_m)) Dd_m = _ from ?_) s2_m s3_m) hr'_m
    rw [upd_same, ← s1_m]
theorem pem_dc {kx vx : Expr} {ifs : List Expr} {scope : Scope} {own : List (Str × Nat)} {src : Env' → M (List D)} {t : TgF} {is : List Nat} {ft : Env' → M Bool} {fk fe : Env' → M D} (hc : X.calm = true) (hN : X.N.Nodup) (hi : PIm X T Wx tg iter src) (ok : BlkOk X.N X.env.scope scope own)
    (his : ∀ i ∈ is, i ∈ own.map (·.2))
    (hg : ∀ (s : Shared) (H : Hp) (C : Addr) (cl : List (Str × Addr)) (fp : List Addr), PGm (X.blk s H scope (compEnvC scope cl C X.env) fp) T tg is t)
    (ht : ∀ (s : Shared) (H : Hp) (C : Addr) (cl : List (Str × Addr)) (fp : List Addr), PTsm (X.blk s H scope (compEnvC scope cl C X.env) fp) T ifs ft)
    (hk : ∀ (s : Shared) (H : Hp) (C : Addr) (cl : List (Str × Addr)) (fp : List Addr), PEm (X.blk s H scope (compEnvC scope cl C X.env) fp) T W0x kx fk)
    (he : ∀ (s : Shared) (H : Hp) (C : Addr) (cl : List (Str × Addr)) (fp : List Addr), PEm (X.blk s H scope (compEnvC scope cl C X.env) fp) T W0x vx fe) (hs : ∀ x, foldedSetIterable iter X.env x = pure x := by intro _; rfl) :
    PEm X T Wx (.DictComp kx vx [⟨tg, iter, ifs, 0⟩] scope pos) (eDc src t ft fk fe (own.map (·.2))) := by
  obtain ⟨wi, hw, hi⟩ := hi.ex
  exact ⟨pe_imp (pe_freeze (pe_dc (g := fun v σ H Q => ∃ W d δ S δ', VR X.K W d v ∧ ER X.K W δ σ ∧ HR X.K T W S H ∧ t d δ = some δ' ∧ ∀ σ', ER X.K W δ' σ' → (∀ vs : List Nat, (∀ i ∈ is, i ∈ vs) → L2.wipe σ' vs = L2.wipe σ vs) → Q σ' H) (tt := tB X.K T W0x ft) (tk := tE X.K T W0x fk) (tv := tE X.K T W0x fe) hc hN hw ok (fun s H C cl fp => (hg s H C cl fp).run) (fun s H C cl fp => (ht s H C cl fp).run) (fun s H C cl fp => (hk s H C cl fp).run) (fun s H C cl fp => (he s H C cl fp).run) hs)) fun σ H Q ⟨W, δ, S, er, hr, p⟩ => dc_ok hi his er hr p⟩
/-- name = {k: v for ..} on one line -/
theorem ps_setDcF {i : Nat} {y : Str} {py : Pos} {kx vx : Expr} {ifs : List Expr} {scope : Scope} {own : List (Str × Nat)} {spos : Pos} {wi : TI} {g : TG} {tt : TT} {tk tv : TE} (hc : X.calm = true) (hN : X.N.Nodup) (hy : X.N[i]? = some y) (hyl : X.env.scope.names.lookup y = some .local)
    (hsw : swapsWith (.DictComp kx vx [⟨tg, iter, ifs, 0⟩] scope pos) (some (.Name y py)) spos.line X.env = pure true) (hi : PI X tg iter wi) (ok : BlkOk X.N X.env.scope scope own) (hg : ∀ (s : Shared) (H : Hp) (C : Addr) (cl : List (Str × Addr)) (fp : List Addr), PG (X.blk s H scope (compEnvC scope cl C X.env) fp) tg g) (ht : ∀ (s : Shared) (H : Hp) (C : Addr) (cl : List (Str × Addr)) (fp : List Addr), PTs (X.blk s H scope (compEnvC scope cl C X.env) fp) ifs tt) (hk : ∀ (s : Shared) (H : Hp) (C : Addr) (cl : List (Str × Addr)) (fp : List Addr), PE (X.blk s H scope (compEnvC scope cl C X.env) fp) kx tk) (he : ∀ (s : Shared) (H : Hp) (C : Addr) (cl : List (Str × Addr)) (fp : List Addr), PE (X.blk s H scope (compEnvC scope cl C X.env) fp) vx tv) (hs : ∀ x, foldedSetIterable iter X.env x = pure x := by intro _; rfl) :
    PS X (.Assign [.Name y py] (.DictComp kx vx [⟨tg, iter, ifs, 0⟩] scope pos) spos) (fun D σ_m H => tFreeze (tDc wi g tt tk tv (own.map (·.2))) σ_m H fun x H1_m => D.nx (σ_m.set i (some x)) H1_m) := by
  refine ⟨fun pins_m s σ_m H D I_m h_m => ?_⟩; rw [exec_Assign_Name_used _ _ _ _ hsw]; refine wpAny_bind (wpAny_standAt (wpAny_bind ?_))
  show wpAny _ X.A (do let _ ← comprehension (.DictComp kx vx [⟨tg, iter, ifs, 0⟩] scope pos) scope X.env (firstIterPos [⟨tg, iter, ifs, 0⟩] pos) newDict false (eval iter X.env) (some (assign (.Name y py) X.env))) _ _ s
  have h_m : tDc wi g tt tk tv (own.map (·.2)) σ_m H (fun x H1_m => ∃ d_m u_m, x = .ref d_m ∧ H1_m d_m = some u_m ∧ Mut (some u_m) ∧ ∀ od_m, D.nx (σ_m.set i (some x)) (upd H1_m d_m (.frz od_m u_m))) := h_m
  refine wpAny_bind (thn (dc_core (Qf := fun _ s'_m => SP X pins_m D .next s'_m) hc hN I_m hi ok hg ht hk he hs h_m fun L_m C s'_m m_m H'_m I'_m q_m hn_m f => ?_) fun _ s'_m hq_m => wpAny_pure (wpAny_pure hq_m))
  show wpAny _ _ (assign (.Name y py) X.env (.ref L_m)) _ _ _
  refine wpAny_assign_Name (store_ok2 (v := V.ref L_m) I'_m hN hy (.inl hyl) rfl (fun s2_m I2_m ⟨a, sb_m, ha_m⟩ => ?_) (.inr hyl))
  obtain ⟨f0_m, f1_m, f2_m, f3_m, f4_m, f5_m⟩ := f
  have haC_m : C ≠ a := by
    rcases ha_m with z_m | z_m
    · rw [z_m]; exact f1_m
    · exact fun e => f4_m y a z_m e.symm
  refine ⟨m_m, hn_m.sameBut sb_m haC_m, fun h3_m sb3_m => ?_⟩
  obtain ⟨d_m, u_m, e1_m, e2_m, mu_m, q_m⟩ := q_m
  obtain ⟨od_m, I3_m⟩ := (I2_m.turned (t' := s2_m.toks) (fun b o_m hb_m e => (sb3_m.2 b hb_m).trans e) f0_m f1_m f3_m f4_m f5_m).lock e2_m mu_m
  exact ⟨_, _, I3_m, q_m od_m⟩
theorem psm_setDc {i : Nat} {y : Str} {py : Pos} {spos : Pos} {kx vx : Expr} {ifs : List Expr} {scope : Scope} {own : List (Str × Nat)} {src : Env' → M (List D)} {t : TgF} {is : List Nat} {ft : Env' → M Bool} {fk fe : Env' → M D} (hy : X.N[i]? = some y) (hyl : X.env.scope.names.lookup y = some .local)
    (hsw : swapsWith (.DictComp kx vx [⟨tg, iter, ifs, 0⟩] scope pos) (some (.Name y py)) spos.line X.env = pure true) (hc : X.calm = true) (hN : X.N.Nodup) (hi : PIm X T Wx tg iter src) (ok : BlkOk X.N X.env.scope scope own)
    (his : ∀ i ∈ is, i ∈ own.map (·.2))
    (hg : ∀ (s : Shared) (H : Hp) (C : Addr) (cl : List (Str × Addr)) (fp : List Addr), PGm (X.blk s H scope (compEnvC scope cl C X.env) fp) T tg is t)
    (ht : ∀ (s : Shared) (H : Hp) (C : Addr) (cl : List (Str × Addr)) (fp : List Addr), PTsm (X.blk s H scope (compEnvC scope cl C X.env) fp) T ifs ft)
    (hk : ∀ (s : Shared) (H : Hp) (C : Addr) (cl : List (Str × Addr)) (fp : List Addr), PEm (X.blk s H scope (compEnvC scope cl C X.env) fp) T W0x kx fk)
    (he : ∀ (s : Shared) (H : Hp) (C : Addr) (cl : List (Str × Addr)) (fp : List Addr), PEm (X.blk s H scope (compEnvC scope cl C X.env) fp) T W0x vx fe) (hs : ∀ x, foldedSetIterable iter X.env x = pure x := by intro _; rfl) :
    PSm X T Wx (.Assign [.Name y py] (.DictComp kx vx [⟨tg, iter, ifs, 0⟩] scope pos) spos) (sAsg (eDc src t ft fk fe (own.map (·.2))) (gN i)) := by
  obtain ⟨wi, hw, hi⟩ := hi.ex
  refine ⟨ps_imp (ps_setDcF (g := fun v σ H Q => ∃ W d δ S δ', VR X.K W d v ∧ ER X.K W δ σ ∧ HR X.K T W S H ∧ t d δ = some δ' ∧ ∀ σ', ER X.K W δ' σ' → (∀ vs : List Nat, (∀ i ∈ is, i ∈ vs) → L2.wipe σ' vs = L2.wipe σ vs) → Q σ' H) (tt := tB X.K T W0x ft) (tk := tE X.K T W0x fk) (tv := tE X.K T W0x fe) hc hN hy hyl hsw hw ok (fun s H C cl fp => (hg s H C cl fp).run) (fun s H C cl fp => (ht s H C cl fp).run) (fun s H C cl fp => (hk s H C cl fp).run) (fun s H C cl fp => (he s H C cl fp).run) hs) fun E σ H ⟨W, δ, S, er, hr, p⟩ => ?_⟩
  refine dc_ok hi his er hr ((p.sE er).imp fun v H2 ⟨W2, d, S2, l2, r2, q2, p2⟩ => ?_)
  exact p2 W2 _ H2 (.refl _) ((er.mono l2).set r2 i) q2
end
end MM
end
section
set_option Elab.async false
set_option linter.all false
set_option maxRecDepth 100000
set_option maxHeartbeats 1048576
namespace MM
open PySem PySem.Spec PySem.W PyProof.Rows L2

/-! ### instances -/
def putFD (f : Str) (d : D) : List (Str × D) → List (Str × D)
  | [] => [(f, d)]
  | (g, x) :: r => if g = f then (g, d) :: r else (g, x) :: putFD f d r
section
variable {K : PySem.W.Frag} {T : Tx} {W : Wd} {S : Store} {H : Hp}
theorem FR.putF {fs : List (Str × D)} {gs : List (Str × V)} (r : FR K W fs gs) (f : Str) {d : D} {v : V} (h : VR K W d v) : FR K W (putFD f d fs) (L2.putF f v gs) := by
  induction r with
  | nil => exact .cons ⟨rfl, h⟩ .nil
  | @cons a b l m h1 t ih =>
    obtain ⟨a1, a2⟩ := a
    obtain ⟨b1, b2⟩ := b
    obtain ⟨e1, e2⟩ := h1
    dsimp only at e1 e2
    subst e1
    show FR K W (if a1 = f then (a1, d) :: l else (a1, a2) :: putFD f d l) (if a1 = f then (a1, v) :: m else (a1, b2) :: L2.putF f v m)
    by_cases c : a1 = f
    · rw [if_pos c, if_pos c]; exact .cons ⟨rfl, h⟩ t
    · rw [if_neg c, if_neg c]; exact .cons ⟨rfl, e2⟩ ih
theorem FR.look {fs : List (Str × D)} {gs : List (Str × V)} (r : FR K W fs gs) (f : Str) : (fs.lookup f = none ∧ gs.lookup f = none) ∨ ∃ d v, fs.lookup f = some d ∧ gs.lookup f = some v ∧ VR K W d v := by
  induction r with
  | nil => exact Or.inl (And.intro rfl rfl)
  | @cons a_m b_m l_m m h_m t_m ih_m =>
    obtain ⟨a1_m, a2_m⟩ := a_m
    obtain ⟨b1_m, b2_m⟩ := b_m
    obtain ⟨e1_m, e2_m⟩ := h_m
    dsimp only at e1_m e2_m
    subst e1_m
    by_cases c : f = a1_m
    · subst c
      exact .inr ⟨a2_m, b2_m, by simp [List.lookup], by simp [List.lookup], e2_m⟩
    · have e : (f == a1_m) = false := by simpa using c
      simpa [List.lookup, e] using ih_m
/-- an untracked place is taken -/
theorem HR.side (h : HR K T W S H) {p : Addr} {o : HO} (e : H p = none) : HR K T W S (upd H p o) := by
  have ne : ∀ n a, W.ρ n = some a → a ≠ p := fun n a ha z => by
    obtain ⟨⟨w, q, _⟩, _⟩ := h.al n a ha
    rw [z, e] at q; cases q
  refine ⟨fun b u hb => (upd_ne (ne_of_none hb (h.znone e))).trans (h.fz _ _ hb), h.zk, fun n u hn hd => ?_, h.inj, fun n a ha => ?_, tabs_upd h.tb (.inl e), fun b u hb => (upd_ne (ne_of_none hb (h.pf.free e))).trans (h.pf _ _ hb), h.pd, h.pz, h.xc, h.pk⟩
  · obtain ⟨a, h1, h2, h3⟩ := h.ob n u hn hd
    exact ⟨a, h1, h2, h3.mono (.refl _) (upd_ne (ne n a h1))⟩
  · obtain ⟨⟨w, q1, q2⟩, l⟩ := h.al n a ha
    exact ⟨⟨w, (upd_ne (ne n a ha)).trans q1, q2⟩, l⟩
theorem HR.ins_at (hr : HR K T W S H) {n : Nat} {a C : Addr} {fs : List (Str × D)} (h : W.ρ n = some a) (q : S[n]? = some (.ins C fs)) : ∃ dx gs, H a = some (.ins C dx gs) ∧ FR K W fs gs ∧ W.Z a = none := by
  obtain ⟨a', e1, e2, dx, gs, e3, e4⟩ := hr.ob n _ q nofun
  rw [h] at e1; cases e1
  exact ⟨dx, gs, e3, e4, e2⟩
end
/-- the instance of the class at C that d is -/
def insOf (C : Addr) (S : Store) : D → Option (Nat × List (Str × D))
  | .ref n => match S[n]? with
    | some (.ins C' fs) => if C' = C then some (n, fs) else none
    | _ => none
  | _ => none
theorem insOf_ok {C : Addr} {S : Store} {d : D} {n : Nat} {fs : List (Str × D)} (h : insOf C S d = some (n, fs)) : d = .ref n ∧ S[n]? = some (.ins C fs) := by
  unfold insOf at h
  split at h
  · rename_i m
    split at h
    · rename_i C' gs q
      by_cases c : C' = C
      · rw [if_pos c] at h; cases h; subst c; exact ⟨rfl, q⟩
      · rw [if_neg c] at h; cases h
    · cases h
  · cases h
/-- o.f -/
def fldD (C : Addr) (f : Str) : D → M D := fun d S => match (insOf C S d).bind fun q => q.2.lookup f with
  | some y => .ok y S
  | none => .bad
/-- o.f = y -/
def setF (C : Addr) (f : Str) (d y : D) : M Unit := fun S => match insOf C S d with
  | some (n, fs) => if fs.length < 1000 then .ok () (S.set n (.ins C (putFD f y fs))) else .bad
  | none => .bad
def sB' (m : Env' → M Unit) : SM := fun δ S => match m δ S with
  | .ok _ S1 => .nx δ S1
  | .exc C fs S1 => .exc C fs δ S1
  | .bad => .bad
def sFldM (C : Addr) (f : Str) (fv fo : Env' → M D) : SM := sB' fun δ => (fv δ).bind fun y => (fo δ).bind fun o => setF C f o y
/-- o.f op= y -/
def sAugM (C : Addr) (f : Str) (g : D → D → M D) (fo fv : Env' → M D) : SM := sB' fun δ => (fo δ).bind fun o => (fldD C f o).bind fun x => (fv δ).bind fun y => (g x y).bind fun z => setF C f o z
section
variable {X : Cx} {T : Tx} {Wx : WX} {e o value : Expr} {f g fo fv : Env' → M D} {pos pos' tpos apos : Pos} {C : Addr} {n m : Str}
theorem pem_fld (c : Cls X.K C) (hn : NoAttr X.K C n) (ha : PEm X T Wx e f) (hb : attributeBase e n X.env (eval e X.env) = eval e X.env := by rfl) : PEm X T Wx (.Attribute e n pos) (e1 (fldD C n) f) := by
  refine ⟨pe_imp (pe_fld ha.run hb) fun σ H Q ⟨W, δ, S, er, hr, p⟩ => ?_⟩
  refine ⟨W, δ, S, er, hr, (Post.bind (R1 := RV X.K) p).imp fun v H1 ⟨W1, d, S1, l1, r1, q1, p1⟩ => ?_⟩
  unfold fldD at p1
  cases hi : insOf C S1 d with
  | none => rw [hi] at p1; exact p1.elim
  | some q =>
    obtain ⟨k, fs⟩ := q
    obtain ⟨rfl, hS⟩ := insOf_ok hi
    rw [hi] at p1
    cases r1 with
    | ref hρ =>
      obtain ⟨dx, gs, h1, h2, h3⟩ := q1.ins_at hρ hS
      rcases h2.look n with ⟨l1', l2'⟩ | ⟨d', v', l1', l2', l3'⟩
      · rw [show (some (k, fs)).bind (fun q => q.2.lookup n) = none from l1'] at p1; exact p1.elim
      · rw [show (some (k, fs)).bind (fun q => q.2.lookup n) = some d' from l1'] at p1
        exact ⟨_, C, dx, gs, v', rfl, h1, c, hn, l2', p1 W1 _ H1 (.refl _) l3' q1⟩
theorem PostS.sB' {K : PySem.W.Frag} {W : Wd} {δ : Env'} {S : Store} {E : Ends} {σ : L2.St} {m : Env' → M Unit} (er : ER K W δ σ) (p : PostS K T Wx W (MM.sB' m δ S) E) :
    Post K T Wx W σ (fun _ _ (_ : Unit) => True) (m δ S) fun _ H1 => ∃ W1 S1, W.le W1 ∧ HR K T W1 S1 H1 ∧ E.nx σ H1 := by
  unfold MM.sB' at p
  cases q : m δ S with
  | ok d S1 => rw [q] at p; exact fun W' v H' l x y => ⟨W', S1, l, y, p W' σ H' l (er.mono l) y⟩
  | exc C fs S1 => rw [q] at p; exact fun W' dx H' l x y => p W' σ dx H' l (er.mono l) x y
  | bad => rw [q] at p; exact p
theorem setF_ok {K : PySem.W.Frag} {W : Wd} {S : Store} {H : Hp} {d y : D} {u v : V} {σ : L2.St} {Q : Unit → Hp → Prop} (hr : HR K T W S H) (r1 : VR K W d u) (r2 : VR K W y v) (p : Post K T Wx W σ (fun _ _ (_ : Unit) => True) (setF C n d y S) Q) :
    ∃ a dx gs, u = .ref a ∧ H a = some (.ins C dx gs) ∧ gs.length < 1000 ∧ Q () (upd H a (.ins C dx (L2.putF n v gs))) := by
  unfold setF at p
  cases hi : insOf C S d with
  | none => rw [hi] at p; exact p.elim
  | some q =>
    obtain ⟨k, fs⟩ := q
    obtain ⟨rfl, hS⟩ := insOf_ok hi
    rw [hi] at p
    dsimp only at p
    cases r1 with
    | @ref _ a hρ =>
      obtain ⟨dx, gs, h1, h2, h3⟩ := hr.ins_at hρ hS
      by_cases c : fs.length < 1000
      · rw [if_pos c] at p
        refine ⟨a, dx, gs, rfl, h1, by rw [← Paired.length h2]; exact c, p W () _ (.refl _) trivial ?_⟩
        exact hr.write hρ h3 hS nofun ⟨fun _ => nofun, fun _ => nofun⟩ ⟨dx, _, upd_same, h2.putF n r2⟩
      · rw [if_neg c] at p; exact p.elim
theorem psm_fld (c : Cls X.K C) (hn : NoAttr X.K C n) (ha : PEm X T Wx o fo) (hv : PEm X T Wx value fv) (hs : swapsWith value (some (.Attribute o n pos')) pos.line X.env = pure false := by rfl) : PSm X T Wx (.Assign [.Attribute o n pos'] value pos) (sFldM C n fv fo) := by
  refine ⟨ps_imp (ps_fld ha.run hv.run hs) fun E σ H ⟨W, δ, S, er, hr, p⟩ => ?_⟩
  have p1 := p.sB' er
  refine ⟨W, δ, S, er, hr, (Post.bind (R1 := RV X.K) p1).imp fun v H1 ⟨W1, d, S1, l1, r1, q1, p2⟩ => ?_⟩
  refine ⟨W1, δ, S1, er.mono l1, q1, (Post.bind (R1 := RV X.K) p2).imp fun u H2 ⟨W2, d2, S2, l2, r2, q2, p3⟩ => ?_⟩
  obtain ⟨a, dx, gs, e1, e2, e3, W3, S3, l3, q3, nx⟩ := setF_ok q2 r2 (r1.mono l2) p3
  exact ⟨a, C, dx, gs, e1, e2, c, hn, e3, nx⟩
theorem inop_of {op : Operator} {gg : D → D → M D} (oo : OpM X T (inplaceOp op) gg) : ∃ r : R2, InOp X op r ∧ ∀ (W : Wd) (S : Store) (H : Hp) (d d' : D) (v v' : V) (Q : VK) (σ : L2.St) (Wx : WX), HR X.K T W S H → VR X.K W d v → VR X.K W d' v' → Post X.K T Wx W σ (RV X.K) (gg d d' S) Q → r v v' H Q := by
  obtain ⟨r, h1, h2⟩ := oo
  exact ⟨r, fun pins s σ H x y u v Q I rx ry q => h1 pins s σ H x y u v Q I rx ry q, h2⟩
theorem psm_fldaug {op : Operator} {gg : D → D → M D} (c : Cls X.K C) (hn : NoAttr X.K C n) (oo : OpM X T (inplaceOp op) gg) (ha : PEm X T Wx o fo) (hv : PEm X T Wx value fv) : PSm X T Wx (.AugAssign (.Attribute o n tpos) op value pos) (sAugM C n gg fo fv) := by
  obtain ⟨r, ho, h2⟩ := inop_of oo
  refine ⟨ps_imp (ps_fldaug ha.run hv.run ho) fun E σ H ⟨W, δ, S, er, hr, p⟩ => ?_⟩
  have p1 := p.sB' er
  refine ⟨W, δ, S, er, hr, (Post.bind (R1 := RV X.K) p1).imp fun v H1 ⟨W1, d, S1, l1, r1, q1, p2⟩ => ?_⟩
  have p3 := Post.bind (R1 := RV X.K) p2
  unfold fldD at p3
  cases hi : insOf C S1 d with
  | none => rw [hi] at p3; exact p3.elim
  | some q =>
    obtain ⟨k, fs⟩ := q
    obtain ⟨rfl, hS⟩ := insOf_ok hi
    rw [hi] at p3
    have r1' := r1
    cases r1 with
    | @ref _ a hρ =>
      obtain ⟨dx, gs, g1, g2, g3⟩ := q1.ins_at hρ hS
      rcases g2.look n with ⟨l1', l2'⟩ | ⟨d', v', l1', l2', l3'⟩
      · rw [show (some (k, fs)).bind (fun q => q.2.lookup n) = none from l1'] at p3; exact p3.elim
      · rw [show (some (k, fs)).bind (fun q => q.2.lookup n) = some d' from l1'] at p3
        refine ⟨a, C, dx, gs, v', rfl, g1, c, hn, l2', ?_⟩
        obtain ⟨W1', x, S1', w1, w2, w3, w4⟩ := p3 W1 v' H1 (.refl _) l3' q1
        refine ⟨W1', δ, S1', (er.mono l1).mono w1, w3, (Post.bind (R1 := RV X.K) w4).imp fun y H2 ⟨W2, d2, S2, l2, r2, q2, p5⟩ => ?_⟩
        refine h2 W2 S2 H2 x d2 v' y _ σ Wx q2 (w2.mono l2) r2 ((Post.bind (R1 := RV X.K) p5).imp fun z H3 ⟨W3, d3, S3, l3, r3, q3, p6⟩ => ?_)
        obtain ⟨a', dx', gs', e1, e2, e3, W4, S4, l4, q4, nx⟩ := setF_ok q3 (((r1'.mono w1).mono l2).mono l3) r3 p6
        cases e1
        exact ⟨dx', gs', e2, e3, nx⟩
end
/-! ### methods -/
/-- o.m(..): nothing of o's own hides m -/
def metM (C : Addr) (m : Str) (n : Nat) (F : List D → M D) (fo : Env' → M D) (fs : Env' → M (List D)) : Env' → M D := fun δ => (fo δ).bind fun o => M.bind (fun S => match (insOf C S o).bind fun q => if (q.2.lookup m).isNone then some () else none with
  | some _ => .ok () S
  | none => .bad) fun _ => (fs δ).bind fun ds => cM n F (o :: ds)
/-- C(..) -/
def mkM (C : Addr) (n : Nat) (F : List D → M D) : List D → M D := fun ds S => match cM n F (.ref S.length :: ds) (S ++ [.ins C []]) with
  | .ok .non S1 => .ok (.ref S.length) S1
  | .exc C fs S1 => .exc C fs S1
  | _ => .bad
section
variable {X : Cx} {T : Tx} {Wx : WX} {e o : Expr} {es : List Expr} {f g fo : Env' → M D} {fs : Env' → M (List D)} {pos p apos : Pos} {C fa : Addr} {m x : Str} {k n : Nat} {fd : FuncData} {ps : List Str} {F : List D → M D} {pl : Sem Bool}
theorem met_look {K : PySem.W.Frag} {W : Wd} {S : Store} {H : Hp} {d : D} {u : V} {σ : L2.St} {Q : Unit → Hp → Prop} (hr : HR K T W S H) (r : VR K W d u)
    (p : Post K T Wx W σ (fun _ _ (_ : Unit) => True) (match (insOf C S d).bind fun q => if (q.2.lookup m).isNone then some () else none with | some _ => Res.ok () S | none => .bad) Q) :
    ∃ a dx gs, u = .ref a ∧ H a = some (.ins C dx gs) ∧ gs.lookup m = none ∧ Q () H := by
  cases hi : insOf C S d with
  | none => rw [hi] at p; exact p.elim
  | some q =>
    obtain ⟨k, fs⟩ := q
    obtain ⟨rfl, hS⟩ := insOf_ok hi
    rw [hi] at p
    cases r with
    | @ref _ a hρ =>
      obtain ⟨dx, gs, h1, h2, h3⟩ := hr.ins_at hρ hS
      rcases h2.look m with ⟨l1, l2⟩ | ⟨d', v', l1, l2, l3⟩
      · rw [show (some (k, fs)).bind (fun q => if (q.2.lookup m).isNone then some () else none) = some () by simp [l1]] at p
        exact ⟨a, dx, gs, rfl, h1, l2, p W () H (.refl _) trivial hr⟩
      · rw [show (some (k, fs)).bind (fun q => if (q.2.lookup m).isNone then some () else none) = none by simp [l1]] at p
        exact p.elim
theorem pem_meth (ho : PEm X T Wx o fo) (c : Cls X.K C) (hm : Meth X.K C m fa) (F1 : FnM X.prog X.w X.K X.mg X.base T k fa fd ps F) (hr : RoomG k X.A) (hb : Binds X.K fd ps []) (tk : Takes X Wx) (ha : PAm X T Wx (e :: es) fs) (hn : ps.length = n := by rfl) (hst : starEach (e :: es) X.env = (false, eval e X.env) :: starEach es X.env := by rfl) (hpl : (backTo pos (starEach es X.env)).any (·.1) = false := by rfl) (ht : eval (.Call (.Attribute o m apos) (e :: es) [] pos) X.env = (do
      let ov_m ← eval o X.env
      standAt apos.atName
      let (f, first) ← holding [ov_m] (getMethod ov_m m pl); callWith pos f first (backTo pos (starEach (e :: es) X.env)) (backToKw pos (keywordEach [] X.env))) := by rfl) :
    PEm X T Wx (.Call (.Attribute o m apos) (e :: es) [] pos) (metM C m n F fo fs) := by
  subst hn
  refine ⟨⟨fun pins_m s_m σ_m H Q_m I_m ⟨W, δ_m, S, er_m, hh_m, h_m⟩ => ?_⟩⟩
  refine PySem.W.methodCall_KW (pl := pl) (thn (ho.run.run pins_m s_m σ_m H _ I_m ⟨W, δ_m, S, er_m, hh_m, Post.bind (R1 := RV X.K) h_m⟩) fun u_m s1_m ⟨v_m, H1_m, I1_m, rx_m, W1_m, d_m, S1_m, l1_m, r1_m, q1_m, p1_m⟩ => ?_) ht
  obtain ⟨a_m, dx_m, gs_m, ev_m, ea_m, l_m, W2_m, d2_m, S2_m, l2_m, _, q2_m, p2_m⟩ := met_look q1_m r1_m (Post.bind (R1 := fun _ _ (_ : Unit) => True) p1_m)
  subst ev_m
  obtain rfl : u_m = Value.ref a_m := rx_m
  refine getmeth_ok I1_m ea_m c hm l_m ?_
  refine PySem.W.callWith_K (first := [.ref a_m]) (h₀ := X.base) I_m.ok.mod.kin hm.kp (thn (ha.run.run pos pins_m s1_m σ_m H1_m _ I1_m ⟨W2_m, δ_m, S2_m, (er_m.mono l1_m).mono l2_m, q2_m, Post.bind (R1 := RVs X.K) p2_m⟩) fun us_m s2_m ⟨vs_m, H2_m, I2_m, r_m, W3_m, ds_m, S3_m, l3_m, rv_m, hr3_m, p3_m⟩ => ⟨I2_m.kIn, ?_⟩) hst hpl
  exact callG (us := .ref a_m :: us_m) (vs := .ref a_m :: vs_m) F1 hr (passAt tk σ_m) I2_m (.cons rfl r_m) (bindsAll hb I2_m.kIn) (spM_of hr3_m (.cons ((r1_m.mono l2_m).mono l3_m) rv_m) p3_m)
theorem pem_meth0 (ho : PEm X T Wx o fo) (c : Cls X.K C) (hm : Meth X.K C m fa) (F1 : FnM X.prog X.w X.K X.mg X.base T k fa fd ps F) (hr : RoomG k X.A) (hb : Binds X.K fd ps []) (tk : Takes X Wx) (hn : ps.length = n := by rfl) (ht : eval (.Call (.Attribute o m apos) [] [] pos) X.env = (do
      let ov_m ← eval o X.env
      standAt apos.atName
      let (f, first) ← holding [ov_m] (getMethod ov_m m pl); callWith pos f first (backTo pos (starEach [] X.env)) (backToKw pos (keywordEach [] X.env))) := by rfl) :
    PEm X T Wx (.Call (.Attribute o m apos) [] [] pos) (metM C m n F fo aNil) := by
  subst hn
  refine ⟨⟨fun pins_m s_m σ_m H Q_m I_m ⟨W, δ_m, S, er_m, hh_m, h_m⟩ => ?_⟩⟩
  refine PySem.W.methodCall_KW (pl := pl) (thn (ho.run.run pins_m s_m σ_m H _ I_m ⟨W, δ_m, S, er_m, hh_m, Post.bind (R1 := RV X.K) h_m⟩) fun u_m s1_m ⟨v_m, H1_m, I1_m, rx_m, W1_m, d_m, S1_m, l1_m, r1_m, q1_m, p1_m⟩ => ?_) ht
  obtain ⟨a_m, dx_m, gs_m, ev_m, ea_m, l_m, W2_m, d2_m, S2_m, l2_m, _, q2_m, p2_m⟩ := met_look q1_m r1_m (Post.bind (R1 := fun _ _ (_ : Unit) => True) p1_m)
  subst ev_m
  obtain rfl : u_m = Value.ref a_m := rx_m
  refine getmeth_ok I1_m ea_m c hm l_m ?_
  exact PySem.W.callWith_K0 (first := [.ref a_m]) I1_m.kIn hm.kp (callG (us := [.ref a_m]) (vs := [.ref a_m]) F1 hr (passAt tk σ_m) I1_m (.cons rfl .nil) (bindsAll hb I1_m.kIn) (spM_of q2_m (.cons (r1_m.mono l2_m) .nil) p2_m))
theorem pem_make (M : Mk X.K C fa) (F1 : FnM X.prog X.w X.K X.mg X.base T k fa fd ps F) (hr : RoomG (k + 1) X.A) (hg : Gl X x) (hm : X.mg x = some (.ref C)) (hb : Binds X.K fd ps []) (tk : Takes X Wx)
    (ha : PAm X T Wx (e :: es) fs) (hn : ps.length = n := by rfl) (hdb : (x == ("__debug__" : Str)) = false := by decide) (he : starEach (e :: es) X.env = (false, eval e X.env) :: starEach es X.env := by rfl) (hpl : (backTo pos (starEach es X.env)).any (·.1) = false := by rfl) :
    PEm X T Wx (.Call (.Name x p) (e :: es) [] pos) (eCall (mkM C n F) fs) := by
  subst hn
  refine ⟨⟨fun pins_m s_m σ_m H Q_m I_m ⟨W, δ_m, S, er_m, hh_m, h_m⟩ => ?_⟩⟩
  refine wpAny_Call_Name_kw (ld_glob I_m hg hm ?_ hdb)
  refine PySem.W.callWith_K (h₀ := X.base) I_m.ok.mod.kin M.kp (thn (ha.run.run pos pins_m s_m σ_m H _ I_m ⟨W, δ_m, S, er_m, hh_m, Post.bind (R1 := RVs X.K) h_m⟩) fun us_m s1_m ⟨vs_m, H1_m, I1_m, r_m, W1_m, ds_m, S1_m, l1_m, rv_m, hr1_m, p1_m⟩ => ⟨I1_m.kIn, ?_⟩) he hpl
  have hx1_m : H1_m (s1_m.heap.objs.size + 1) = none := I1_m.hok.fresh (Nat.le_succ _)
  have hx0_m : H1_m s1_m.heap.objs.size = none := I1_m.hok.fresh (Nat.le_refl _)
  have I2_m := Inv.made (C := C) I1_m
  have hrS_m := hr1_m.side (o := .own (s1_m.heap.objs.size + 1)) hx0_m
  have hx1'_m : upd H1_m s1_m.heap.objs.size (.own (s1_m.heap.objs.size + 1)) (s1_m.heap.objs.size + 1) = none := (upd_ne (Nat.succ_ne_self _)).trans hx1_m
  have le2_m := hrS_m.le_put (p := s1_m.heap.objs.size + 1)
  have hr2_m := hrS_m.put (o := .ins C []) (u := .ins C s1_m.heap.objs.size []) hx1'_m ⟨fun _ => nofun, fun _ => nofun⟩ fun W'_m _ => ⟨_, [], upd_same, .nil⟩
  have hself_m : VR X.K (W1_m.put S1_m.length (s1_m.heap.objs.size + 1)) (.ref S1_m.length) (.ref (s1_m.heap.objs.size + 1)) := .ref (show (if S1_m.length = S1_m.length then some (s1_m.heap.objs.size + 1) else W1_m.ρ S1_m.length) = _ from if_pos rfl)
  have p2_m : Post X.K T Wx (W1_m.put S1_m.length (s1_m.heap.objs.size + 1)) σ_m (RV X.K) (cM ps.length F (.ref S1_m.length :: ds_m) (S1_m ++ [.ins C []])) (fun v_m H2_m => v_m = .non ∧ Q_m (.ref (s1_m.heap.objs.size + 1)) H2_m) := by
    have p1'_m : Post X.K T Wx W1_m σ_m (RV X.K) (match cM ps.length F (.ref S1_m.length :: ds_m) (S1_m ++ [.ins C []]) with
      | .ok .non S1' => Res.ok (.ref S1_m.length) S1'
      | .exc C fs S1_m => .exc C fs S1_m
      | _ => .bad) Q_m := p1_m
    cases q : cM ps.length F (.ref S1_m.length :: ds_m) (S1_m ++ [.ins C []]) with
    | bad => rw [q] at p1'_m; exact p1'_m
    | exc C'_m fs'_m S'_m => rw [q] at p1'_m; exact fun W'_m dx_m H'_m l_m x y_m => p1'_m W'_m dx_m H'_m (le2_m.trans l_m) x y_m
    | ok d_m S'_m =>
      rw [q] at p1'_m
      cases d_m with
      | non => exact fun W'_m v_m H'_m l_m x y_m => by cases x; exact ⟨rfl, p1'_m W'_m _ H'_m (le2_m.trans l_m) (hself_m.mono l_m) y_m⟩
      | _ => exact p1'_m.elim
  have sp_m := spM_of (Wx := Wx) (σ := σ_m) hr2_m (.cons hself_m (rv_m.mono le2_m)) p2_m
  have r2_m : Vals (V.ref (s1_m.heap.objs.size + 1) :: vs_m) (Value.ref (s1_m.heap.objs.size + 1) :: us_m) := .cons rfl r_m
  have hl_m : (Value.ref (s1_m.heap.objs.size + 1) :: us_m).length = ps.length := by rw [← Paired.length r2_m]; exact F1.len _ _ _ _ sp_m
  refine wpAny_call (make_map (f := fa) I1_m.kIn M.makes M.init (beq_iff_eq.mp M.fn) (codeAny_mono (F1.run _ X.stack _ _ ⟨Value.ref (s1_m.heap.objs.size + 1) :: us_m, []⟩ (Value.ref (s1_m.heap.objs.size + 1) :: us_m) _ _ _ (hr.make C us_m [])
    (I2_m.env0.make C us_m []) (bindsAll hb I2_m.kIn hl_m) r2_m sp_m) fun r_m s'_m hq'_m => ?_))
  cases r_m with
  | error er'_m => exact passAt tk σ_m pins_m _ _ er'_m s'_m I2_m hq'_m
  | ok fl_m =>
    cases fl_m with
    | ret u_m =>
      obtain ⟨v_m, H'_m, I3_m, rv'_m, ev_m, q3_m⟩ := I2_m.after hq'_m
      subst ev_m
      exact ⟨rv'_m, ⟨V.ref (s1_m.heap.objs.size + 1), H'_m, I3_m, rfl, q3_m⟩⟩
    | next => exact False.elim hq'_m
    | brk => exact False.elim hq'_m
    | cont => exact False.elim hq'_m
end
end MM
end
section
set_option Elab.async false
set_option linter.all false
set_option maxRecDepth 100000
set_option maxHeartbeats 2097152
namespace MM
open PySem PySem.Spec PySem.W PyProof.Rows L2

/-! ### an own exception is made and raised -/
section
variable {X : Cx} {T : Tx} {Wx : WX} {e : Expr} {es : List Expr} {ta : TA} {fs : Env' → M (List D)} {p p1 p2 pos : Pos} {B x : Str} {CB C fI : Addr}
/-- B.__init__(self, ..), B a class of the text -/
theorem pe_ownveinit {pl : Sem Bool} (hg : Gl X B) (hm : X.mg B = some (.ref CB)) (rd : PySem.W.readsIn X.K CB (.type "type") = true) (ga : PySem.W.specialIn X.K (.ref CB) "__getattribute__" = some (some (.builtin "type.__getattribute__")))
    (fc : PySem.W.findCls X.K (.ref CB) (.type "type") "__init__" = some (.val (.builtin "ValueError.__init__"))) (ha : PA X (e :: es) ta) (hdb : (B == ("__debug__" : Str)) = false := by decide)
    (hc : eval (.Call (.Attribute (.Name B p1) "__init__" p2) (e :: es) [] pos) X.env = (do
      let ov_m ← eval (.Name B p1) X.env
      standAt p2.atName
      let (f, first) ← holding [ov_m] (getMethod ov_m "__init__" pl)
      callWith pos f first (backTo pos (starEach (e :: es) X.env)) (backToKw pos (keywordEach [] X.env))) := by rfl) (he : starEach (e :: es) X.env = (false, eval e X.env) :: starEach es X.env := by rfl) (hpl : (backTo pos (starEach es X.env)).any (·.1) = false := by rfl) :
    PE X (.Call (.Attribute (.Name B p1) "__init__" p2) (e :: es) [] pos) (tVeI X.K ta) := by
  refine ⟨fun pins_m s_m σ_m H_m Q_m I_m h_m => ?_⟩
  refine PySem.W.methodCall_KW (ld_glob I_m hg hm ?_ hdb) hc
  refine PySem.W.method_cls I_m.kIn ga (PySem.W.cls_value I_m.kIn rd fc (by decide +kernel) ?_); show wpAny _ _ (callWith pos (Value.builtin "ValueError.__init__") [] (backTo pos (starEach (e :: es) X.env)) []) _ _ _
  refine PyProof.Rows.callWith_method1 (thn (ha.run pos pins_m _ σ_m H_m _ (I_m.tok _) h_m) fun us_m s1_m ⟨vs_m, H1_m, I1_m, r1_m, a_m, C, ws_m, ev_m, hl_m, T, ea_m, q_m⟩ => ?_) he hpl
  subst ev_m
  cases r1_m with
  | @cons _ u0_m _ ur_m ra_m rw'_m =>
    obtain rfl : u0_m = Value.ref a_m := ra_m
    have hlen_m : ur_m.length ≤ sizeLine := by
      rw [← Paired.length rw'_m, sizeLine_eq]
      omega
    exact oinit_ok T I1_m ea_m hlen_m fun s'_m J_m => ⟨.non, H1_m, J_m, rfl, q_m⟩
/-- what the __init__ of such a class does: its fields by the arguments -/
def spInit (K : PySem.W.Frag) (fl : List Str) : Sp := fun vs H Q _ => ∃ (a C : Addr) (ys : List V), vs = .ref a :: ys ∧ ys.length = fl.length ∧ OexC K C ∧ (∀ f ∈ fl, PySem.W.findIn K (.ref C) f = some none) ∧ H a = some (exo a C none) ∧
  ∀ dx, H dx = none → dx ≠ a → Q .non (upd (upd H dx (exd dx (fl.zip ys).reverse)) a (exo a C (some dx)))
/-- C(..), C's __init__ a def of the text -/
theorem pmkG_oex {k : Nat} {fd : FuncData} {ps fl : List Str} (T1 : OexC X.K C) (hno : ∀ f ∈ fl, PySem.W.findIn X.K (.ref C) f = some none) (iC : PySem.W.findIn X.K (.ref C) "__init__" = some (some (.ref fI))) (tI : PySem.W.typeIn X.K (.ref fI) = some (.type "function"))
    (F1 : FnG X.prog X.w X.K X.mg X.base (L2.CX X.prog X.w) k fI fd ps (spInit X.K fl)) (hr : RoomG (k + 1) X.A) (hb : Binds X.K fd ps []) (hg : Gl X x) (hm : X.mg x = some (.ref C)) (ha : PA X (e :: es) ta) (hdb : (x == ("__debug__" : Str)) = false := by decide) (he : starEach (e :: es) X.env = (false, eval e X.env) :: starEach es X.env := by rfl) (hpl : (backTo pos (starEach es X.env)).any (·.1) = false := by rfl) :
    PMk X (.Call (.Name x p) (e :: es) [] pos) (fun σ_m H_m Q_m => ta σ_m H_m fun vs_m H1_m => vs_m.length = fl.length ∧ fl.length ≤ 1000 ∧ ∀ d_m, H1_m d_m = none → Q_m (.ref C) (some d_m) (upd H1_m d_m (.xd (fl.zip vs_m).reverse))) := by
  intro pins_m s_m σ_m H_m Q_m I_m h_m
  obtain ⟨nm_m, q_m, N_m, bs_m, bm_m, sn_m, sub_m, ab_m, col_m, dd_m, k0_m, k1_m, k2_m, k3_m, k5_m, hC_m, hbm_m⟩ := T1.cls
  refine wpAny_Call_Name_kw (ld_glob I_m hg hm ?_ hdb)
  refine PySem.W.callWith_K (h₀ := X.base) I_m.ok.mod.kin T1.kC (thn (ha.run pos pins_m s_m σ_m H_m _ I_m h_m) fun us_m s1_m ⟨vs_m, H1_m, I1_m, r1_m, hz_m, hz2_m, q1_m⟩ => ⟨I1_m.kIn, ?_⟩) he hpl
  show wpAny _ _ (call (.ref C) us_m) _ _ _
  obtain ⟨hp_m, g_m, dr_m, tk_m, os_m⟩ := s1_m
  have hsz_m : hp_m.objs.size ≤ hp_m.objs.size + 1 := Nat.le_succ _
  have hn_m : H1_m (hp_m.objs.size + 1) = none := I1_m.hok.fresh hsz_m
  have kk_m : ∀ b_m o_m, hp_m.get? b_m = some o_m → ((hp_m.push (PySem.W.kdv_tup us_m)).push (PySem.HandSPX.excO C hp_m.objs.size)).get? b_m = some o_m := fun b_m o_m e => Heap.get?_push_of_some _ (Heap.get?_push_of_some _ e)
  have hget_m : ((hp_m.push (PySem.W.kdv_tup us_m)).push (PySem.HandSPX.excO C hp_m.objs.size)).get? (hp_m.objs.size + 1) = some (PySem.HandSPX.excO C hp_m.objs.size) := by heap_get
  have I2_m : Inv X pins_m σ_m (upd H1_m (hp_m.objs.size + 1) (exo (hp_m.objs.size + 1) C none)) ⟨(hp_m.push (PySem.W.kdv_tup us_m)).push (PySem.HandSPX.excO C hp_m.objs.size), g_m, dr_m, tk_m, os_m⟩ :=
    I1_m.laid (t' := tk_m) (a := hp_m.objs.size + 1) (o := exo (hp_m.objs.size + 1) C none) (h' := (hp_m.push (PySem.W.kdv_tup us_m)).push (PySem.HandSPX.excO C hp_m.objs.size)) kk_m hsz_m (exo_ok hget_m)
  generalize hea_m : hp_m.objs.size + 1 = a at *
  let Q2_m : VK := fun v_m H2_m => v_m = .non ∧ ∃ (d_m : Addr) (fs : List (Str × V)), H2_m a = some (exo a C (some d_m)) ∧ H2_m d_m = some (exd d_m fs) ∧ H1_m d_m = none ∧ Q_m (.ref C) (some d_m) (upd (del H2_m a) d_m (.xd fs))
  have hq_m : spInit X.K fl (.ref a :: vs_m) (upd H1_m a (exo a C none)) Q2_m (fun _ _ _ => False) := by
    refine ⟨a, C, vs_m, rfl, hz_m, T1, hno, upd_same, fun dx_m h1_m h2_m => ⟨rfl, dx_m, _, upd_same, (upd_ne h2_m).trans upd_same, (by rw [upd_ne h2_m] at h1_m; exact h1_m), ?_⟩⟩
    have h3_m : H1_m dx_m = none := by rw [upd_ne h2_m] at h1_m; exact h1_m
    have ee_m : upd (del (upd (upd (upd H1_m a (exo a C none)) dx_m (exd dx_m (fl.zip vs_m).reverse)) a (exo a C (some dx_m))) a) dx_m (.xd (fl.zip vs_m).reverse) = upd H1_m dx_m (.xd (fl.zip vs_m).reverse) := by
      funext b_m
      by_cases hb : b_m = dx_m
      · rw [hb, upd_same, upd_same]
      · rw [upd_ne hb, upd_ne hb]
        by_cases hb2 : b_m = a
        · rw [hb2, del_same, hn_m]
        · rw [del_ne hb2, upd_ne hb2, upd_ne hb, upd_ne hb2]
    rw [ee_m]
    exact q1_m dx_m h3_m
  have r2_m : Vals (V.ref a :: vs_m) (Value.ref a :: us_m) := .cons rfl r1_m
  have hl_m : (Value.ref a :: us_m).length = ps.length := by
    rw [← Paired.length r2_m]
    exact F1.len _ _ _ _ hq_m
  have hus_m : us_m.length ≤ sizeLine := by
    rw [← Paired.length r1_m, sizeLine_eq]
    omega
  have bnd_m := bindsAll hb I2_m.kIn hl_m
  subst hea_m
  refine wpAny_call (PySem.HandSPX.call_own F.excBase_ValueError (fun Y_m => PySem.HandSPX.refsVE_contains Y_m bm_m hbm_m) (I1_m.kIn _ _ hC_m) (PySem.W.looks_findIn I1_m.kIn iC) (fun self_m => PySem.W.bind_fn I1_m.kIn self_m tI) hus_m
    (codeAny_mono (F1.run _ X.stack _ _ ⟨Value.ref (hp_m.objs.size + 1) :: us_m, []⟩ (Value.ref (hp_m.objs.size + 1) :: us_m) _ _ (fun _ _ _ => False) (hr.make C us_m []) (I2_m.env0.make C us_m []) bnd_m r2_m hq_m) fun r_m s'_m hq'_m => ?_))
  cases r_m with
  | error er_m => exact (passL pins_m σ_m _ _ er_m s'_m I2_m hq'_m)
  | ok fl'_m =>
    cases fl'_m with
    | ret u_m =>
      obtain ⟨v_m, H2_m, os2_m, bare2_m, un2_m, hok2_m, rv_m, ev_m, d_m, fs, ea_m, ed_m, hd1_m, q2_m⟩ := hq'_m
      subst ev_m
      obtain ⟨h2_m, g2_m, d2_m, t2_m, os'_m⟩ := s'_m
      exact ⟨rv_m, mk_end (raises_own T1.exC T1.tyC) I1_m hsz_m kk_m un2_m hok2_m os2_m bare2_m ea_m ed_m hd1_m q2_m⟩
    | next => exact False.elim hq'_m
    | brk => exact False.elim hq'_m
    | cont => exact False.elim hq'_m
theorem FR.zip {K : PySem.W.Frag} {W : Wd} : ∀ (fl : List Str) {ds : List D} {vs : List V}, VRs K W ds vs → FR K W (fl.zip ds) (fl.zip vs)
  | [], _, _, _ => by simp only [List.zip_nil_left]; exact .nil
  | f :: fl, _, _, .nil => .nil
  | f :: fl, _, _, .cons h r => .cons ⟨rfl, h⟩ (FR.zip fl r)
theorem FR.app {K : PySem.W.Frag} {W : Wd} {a a' : List (Str × D)} {b b' : List (Str × V)} (r : FR K W a b) (r' : FR K W a' b') : FR K W (a ++ a') (b ++ b') := by
  induction r with
  | nil => exact r'
  | cons h t ih => exact .cons h ih
theorem FR.rev {K : PySem.W.Frag} {W : Wd} {a : List (Str × D)} {b : List (Str × V)} (r : FR K W a b) : FR K W a.reverse b.reverse := by
  induction r with
  | nil => exact .nil
  | cons h t ih => rw [List.reverse_cons, List.reverse_cons]; exact ih.app (.cons h .nil)
/-- raise C(..) -/
def sRaise (C : Addr) (fl : List Str) (fs : Env' → M (List D)) : SM := fun δ S => match fs δ S with
  | .ok ds S1 => if ds.length = fl.length then .exc C (fl.zip ds).reverse δ S1 else .bad
  | .exc C' fs' S1 => .exc C' fs' δ S1
  | .bad => .bad
theorem psm_raise {k : Nat} {fd : FuncData} {ps fl : List Str} (T1 : OexC X.K C) (hno : ∀ f ∈ fl, PySem.W.findIn X.K (.ref C) f = some none) (iC : PySem.W.findIn X.K (.ref C) "__init__" = some (some (.ref fI))) (tI : PySem.W.typeIn X.K (.ref fI) = some (.type "function"))
    (F1 : FnG X.prog X.w X.K X.mg X.base (L2.CX X.prog X.w) k fI fd ps (spInit X.K fl)) (hr : RoomG (k + 1) X.A) (hb : Binds X.K fd ps []) (hg : Gl X x) (hm : X.mg x = some (.ref C)) (hcalm : X.calm = true) (tk : Takes X Wx) (ha : PAm X T Wx (e :: es) fs) (hsz : fl.length ≤ 1000 := by decide)
    {rpos : Pos} (hdb : (x == ("__debug__" : Str)) = false := by decide) (he : starEach (e :: es) X.env = (false, eval e X.env) :: starEach es X.env := by rfl) (hpl : (backTo pos (starEach es X.env)).any (·.1) = false := by rfl) :
    PSm X T Wx (.Raise (some (.Call (.Name x p) (e :: es) [] pos)) none rpos) (sRaise C fl fs) := by
  refine ⟨ps_imp (ps_raise hcalm tk (pmkG_oex T1 hno iC tI F1 hr hb hg hm ha.run hdb he hpl)) fun E σ H ⟨W, δ, S, er, hh, p⟩ => ?_⟩
  refine ⟨W, δ, S, er, hh, ?_⟩
  unfold sRaise at p
  cases q : fs δ S with
  | bad => rw [q] at p; exact p
  | exc C' fs' S1 => rw [q] at p; exact fun W' dx H' l x y => p W' σ dx H' l (er.mono l) x y
  | ok ds S1 =>
    rw [q] at p
    dsimp only at p
    intro W' vs H' l rv hr'
    by_cases c : ds.length = fl.length
    · rw [if_pos c] at p
      refine ⟨by rw [← rv.length]; exact c, hsz, fun d hd => ?_⟩
      have le := Wd.le_lay (o := .xd (fl.zip vs).reverse) (hr'.znone hd)
      have h3 := hr'.lay (o := .xd (fl.zip vs).reverse) hd trivial
      exact p _ σ (some d) _ (l.trans le) (er.mono (l.trans le)) ⟨d, _, rfl, upd_same, (FR.zip fl (rv.mono le)).rev⟩ h3
    · rw [if_neg c] at p; exact p.elim
end

/-! ### try, several clauses, with names or without -/
abbrev Clv := Value × Option Nat × (Addr → Value → Option Addr → TS)
def endN (i : Nat) (D : Ends) : Ends := { nx := fun σ' H' => D.nx (σ'.set i none) H', rt := D.rt, bk := fun σ' H' => D.bk (σ'.set i none) H', ct := fun σ' H' => D.ct (σ'.set i none) H' }
def wManyN (K : PySem.W.Frag) (Wout : WX) (D : Ends) : List Clv → WX
  | [] => Wout
  | (c, none, ts) :: r => fun cls d σ H => ∃ b, PySem.W.exmOne K cls c = some b ∧ (b = true → ∀ a, H a = none → ts a cls d D σ H) ∧ (b = false → wManyN K Wout D r cls d σ H)
  | (c, some i, ts) :: r => fun cls d σ H => ∃ b, PySem.W.exmOne K cls c = some b ∧ (b = true → ∀ a, H a = none → ts a cls d (endN i D) (σ.set i (some (.ref a))) H) ∧ (b = false → wManyN K Wout D r cls d σ H)
inductive HdsN (X : Cx) : List ExceptHandler → List Clv → Prop
  | nil : HdsN X [] []
  | cons {x : Str} {c : Value} {ts : Addr → Value → Option Addr → TS} {b₀ : Stmt} {suite : List Stmt} {np pos' : Pos} {hds : List ExceptHandler} {l : List Clv} (hc : Names X x c)
      (hsu : ∀ (a : Addr) (oe : Obj) (cls : Value) (d : Option Addr) (pn : List (Addr × Obj)), Zc cls d oe → (∃ vs, oe.data = .fields vs) → PSs (X.suite a ((a, oe) :: pn)) (b₀ :: suite) (ts a cls d)) (r : HdsN X hds l) :
      HdsN X (.ExceptHandler (some (.Name x np)) none (b₀ :: suite) pos' :: hds) ((c, none, ts) :: l)
  | named {x n : Str} {i : Nat} {c : Value} {ts : Addr → Value → Option Addr → TS} {b₀ : Stmt} {suite : List Stmt} {np pos' : Pos} {hds : List ExceptHandler} {l : List Clv} (hc : Names X x c) (hi : X.N[i]? = some n) (hln : X.env.kindOf n = some .local)
      (hsu : ∀ (a : Addr) (oe : Obj) (cls : Value) (d : Option Addr) (pn : List (Addr × Obj)), Zc cls d oe → (∃ vs, oe.data = .fields vs) → PSs (X.suite a ((a, oe) :: pn)) (b₀ :: suite) (ts a cls d)) (r : HdsN X hds l) :
      HdsN X (.ExceptHandler (some (.Name x np)) (some n) (b₀ :: suite) pos' :: hds) ((c, some i, ts) :: l)
section
variable {X : Cx} {body : List Stmt} {h₀ : ExceptHandler} {hds : List ExceptHandler} {l : List Clv} {pos : Pos} {tb : WX → TS} {Wout : WX}
theorem ps_try_manyN (hs : X.stack = X.env :: X.outer) (hf : X.env.frame = some X.env.locals) (hN : X.N.Nodup) (tk : Takes X Wout) (hb : ∀ (W : WX) (pn : List (Addr × Obj)) (xe : Value → Shared → Prop), Takes (X.tr pn xe) W → PassesOwn (model X.prog X.w) X.A X.env xe → PSs (X.tr pn xe) body (tb W))
    (hh : HdsN X (h₀ :: hds) l) : PS X (.Try body (h₀ :: hds) [] [] pos) (fun D σ H => tb (wManyN X.K Wout D l) D σ H) := by
  refine ⟨fun pins_m s_m σ H D I_m h_m => ?_⟩
  have ok := I_m.ok
  have hfr_m : X.A.frames = some (X.env :: X.outer) := by rw [ok.frames, hs]
  refine wpAny_Try_except ?_
  refine wpAny_mono ((hb (wManyN X.K Wout D l) (X.pn ++ pins_m) (fun e s₁_m => wpAny (model X.prog X.w) X.A (noteFrame e X.env) (fun _ s₂_m => wpAny (model X.prog X.w) X.A (setFlight e none) (fun _ s₃_m =>
    wpAny (model X.prog X.w) X.A (handleBy e X.env (h₀ :: hds)) (SP X pins_m D) X.xe s₃_m) X.xe s₂_m) X.xe s₁_m) (fun u_m s'_m xx_m => ?_) PassesOwn.looking).run [] s_m σ H D (I_m.toTry _) h_m) (fun f_m s1_m hsp_m => ?_) (fun e s1_m he_m => he_m)
  · obtain ⟨a_m, B, sI_m, pins'_m, σ'_m, H'_m, cls_m, d_m, rfl, J'_m, nb_m, up_m, sky_m, na_m, os_m, ag_m, w⟩ := xx_m
    have J_m : Inv X pins_m σ'_m H'_m sI_m := J'_m.ofTry ok
    have sky'_m : Sky B (X.env :: X.outer) a_m (Zc cls_m d_m) X.env.locals s'_m.heap := by rw [← hs]; exact sky_m
    show wpAny (model X.prog X.w) X.A (noteFrame (.ref a_m) X.env) _ _ _
    refine Sky.land Zc.steady hfr_m hf sky'_m fun h3_m fl3_m up3_m => ?_
    have J3_m : Inv X pins_m σ'_m H'_m { s'_m with heap := h3_m } := J_m.landed nb_m fl3_m.1 (up_m.trans up3_m) os_m ag_m
    obtain ⟨oe3_m, vs3_m, he3_m, hz3_m, hd3_m⟩ := fl3_m.there
    have notFr_m : ∀ {h_m : Heap} {o_m : Obj} {vs_m : Array Value}, h_m.FunFrames B (X.env :: X.outer) → h_m.get? a_m = some o_m → o_m.data = .fields vs_m → a_m ∉ frs (X.env :: X.outer) := fun {h_m o_m vs_m} ff_m e dd_m hm_m => by
      obtain ⟨_, o'_m, e'_m, hnf_m⟩ := ff_m.mem hm_m
      rw [e] at e'_m; cases e'_m
      exact hnf_m _ dd_m
    have nfr_m := notFr_m fl3_m.2.2.1 he3_m hd3_m
    have nL_m : a_m ≠ X.env.locals := fun z_m => nfr_m (List.mem_filterMap.mpr ⟨X.env, List.mem_cons_self, by rw [hf, z_m]⟩)
    have nF_m : a_m ∉ X.fs := fun hm_m => by
      obtain ⟨e, he_m, q_m⟩ := List.mem_filterMap.mp hm_m
      exact nfr_m (List.mem_filterMap.mpr ⟨e, List.mem_cons_of_mem _ he_m, q_m⟩)
    have S3_m := J3_m.suite he3_m hd3_m na_m nL_m nF_m
    have LT_m : PySem.W.Looks (model X.prog X.w) h3_m (typeOf (.ref a_m)) cls_m := fun A Q_m E_m s_m k_m q_m => wpAny_typeOf_ref (k_m _ _ he3_m) (by rw [hz3_m.1]; exact q_m)
    have test_m : ∀ {x : Str} {c_m : Value} {np_m : Pos} {Q_m : Value → Shared → Prop} {E_m : Value → Shared → Prop}, Names X x c_m → Q_m c_m { s'_m with heap := h3_m } → wpAny (model X.prog X.w) (X.A.mark (some (.ref a_m))) (eval (.Name x np_m) X.env) Q_m E_m { s'_m with heap := h3_m } := fun {x c_m np_m Q_m E_m} hc_m q_m => by
      obtain ⟨hg_m, hdbg_m, hm_m | ⟨hm_m, hv_m, hnn_m⟩⟩ := hc_m
      · exact ld_glob (X := X.suite a_m ((a_m, oe3_m) :: (X.pn ++ pins_m))) S3_m hg_m hm_m q_m hdbg_m
      · exact ld_blt (X := X.suite a_m ((a_m, oe3_m) :: (X.pn ++ pins_m))) S3_m hg_m hm_m hv_m q_m hnn_m hdbg_m
    have go_m : ∀ {hds'_m : List ExceptHandler} {l'_m : List Clv}, HdsN X hds'_m l'_m → wManyN X.K Wout D l'_m cls_m d_m σ'_m H'_m →
        wpAny (model X.prog X.w) X.A (handleBy (.ref a_m) X.env hds'_m) (SP X pins_m D) X.xe { s'_m with heap := h3_m } := by
      intro hds'_m l'_m hk_m
      induction hk_m with
      | nil =>
        intro w
        refine wpAny_handleBy_nil ?_
        obtain ⟨k1_m, k2_m, k3_m, oe_m, vs_m, T, oT_m, ts'_m, he_m, hz_m, hd_m, h1_m, hr_m⟩ := id fl3_m
        unfold PySem.passOn
        refine wpAny_bind (wpAny_field he_m hd_m h1_m ?_); rw [if_neg (show ¬ ((Value.ref T == Value.none) = true) from by simp)]
        have fin_m : wpAny (model X.prog X.w) X.A (setFlight (.ref a_m) X.env.frame) (fun _ s4_m => wpAny (model X.prog X.w) X.A (throw (.ref a_m) : Sem Flow) (SP X pins_m D) X.xe s4_m) X.xe { s'_m with heap := h3_m } := by
          rw [hf]
          refine HandSPX.setFlight_upZ fl3_m fun h4_m hh4_m up4_m => wpAny_throw (tk _ _ ?_)
          exact ⟨a_m, B, sI_m, pins_m, σ'_m, H'_m, cls_m, d_m, rfl, J_m, nb_m, (up_m.trans up3_m).trans up4_m, .inr (.inr (by rw [hs]; exact hh4_m)), na_m, os_m, ag_m, w⟩
        first
          | exact wpAny_bind (wpAny_pure (wpAny_bind fin_m))
          | exact wpAny_bind fin_m
      | @cons x c_m ts_m b₀_m suite_m np_m pos'_m hds2_m l2_m hc_m hsu_m r_m ih_m =>
        intro w
        obtain ⟨b_m, hb1_m, hyes_m, hno_m⟩ := w
        refine wpAny_handleBy_cons (codeAny_handlers_test ?_) (by intro q_m; cases q_m)
        have LM_m := PySem.W.exm_one (M := model X.prog X.w) (J3_m.kIn) LT_m hb1_m
        refine test_m hc_m (LM_m.here ?_)
        cases b_m with
        | true =>
          refine codeAny_handlers_suite ?_; refine HandSPX.lands_againZ fl3_m fun h4_m fl4_m up4_m => ?_
          have J4_m : Inv X pins_m σ'_m H'_m { s'_m with heap := h4_m } := J_m.landed nb_m fl4_m.1 ((up_m.trans up3_m).trans up4_m) os_m ag_m
          obtain ⟨oe4_m, vs4_m, he4_m, hz4_m, hd4_m⟩ := fl4_m.there
          have S4_m := J4_m.suite he4_m hd4_m na_m nL_m nF_m
          refine wpAny_mono ((hsu_m a_m oe4_m cls_m d_m (X.pn ++ pins_m) hz4_m ⟨_, hd4_m⟩).run [] _ _ H'_m _ S4_m (hyes_m rfl a_m na_m)) (fun f_m s6_m hsp_m => ?_) (fun _ _ z_m => False.elim z_m)
          cases f_m with
          | next => obtain ⟨σ6_m, H6_m, S6_m, q6_m⟩ := hsp_m; exact ⟨_, _, S6_m.unsuite ok, q6_m⟩
          | brk => obtain ⟨σ6_m, H6_m, S6_m, q6_m⟩ := hsp_m; exact ⟨_, _, S6_m.unsuite ok, q6_m⟩
          | cont => obtain ⟨σ6_m, H6_m, S6_m, q6_m⟩ := hsp_m; exact ⟨_, _, S6_m.unsuite ok, q6_m⟩
          | ret u_m => obtain ⟨v6_m, σ6_m, H6_m, S6_m, r6_m, q6_m⟩ := hsp_m; exact ⟨_, _, _, S6_m.unsuite ok, r6_m, q6_m⟩
        | false =>
          show wpAny _ X.A (handleBy (.ref a_m) X.env hds2_m) _ _ _
          exact ih_m (hno_m rfl)
      | @named x n_m i_m c_m ts_m b₀_m suite_m np_m pos'_m hds2_m l2_m hc_m hi_m hln_m hsu_m r_m ih_m =>
        intro w
        obtain ⟨b_m, hb1_m, hyes_m, hno_m⟩ := w
        refine wpAny_handleBy_cons (codeAny_handlers_test ?_) (by intro q_m; cases q_m)
        have LM_m := PySem.W.exm_one (M := model X.prog X.w) (J3_m.kIn) LT_m hb1_m
        refine test_m hc_m (LM_m.here ?_)
        cases b_m with
        | true =>
          refine codeAny_handlers_suite_as ?_; refine HandSPX.lands_againZ fl3_m fun h4_m fl4_m up4_m => ?_
          have J4_m : Inv X pins_m σ'_m H'_m { s'_m with heap := h4_m } := J_m.landed nb_m fl4_m.1 ((up_m.trans up3_m).trans up4_m) os_m ag_m
          obtain ⟨oe4_m, vs4_m, he4_m, hz4_m, hd4_m⟩ := fl4_m.there
          have S4_m := J4_m.suite he4_m hd4_m na_m nL_m nF_m
          have hloc_m : Loc X.env.scope n_m := .inl hln_m
          refine store_ok (X := X.suite a_m ((a_m, oe4_m) :: (X.pn ++ pins_m))) (v := .ref a_m) S4_m hN hi_m hloc_m rfl (fun s5_m S5_m => ?_) (.inr hln_m)
          refine wpAny_mono ((hsu_m a_m oe4_m cls_m d_m (X.pn ++ pins_m) hz4_m ⟨_, hd4_m⟩).run [] s5_m _ H'_m _ S5_m (hyes_m rfl a_m na_m)) (fun f_m s6_m hsp_m => ?_) (fun _ _ z_m => False.elim z_m)
          have end__m : ∀ {σ6_m : L2.St} {H6_m : Hp} {Q_m : Shared → Prop}, Inv (X.suite a_m ((a_m, oe4_m) :: (X.pn ++ pins_m))) [] σ6_m H6_m s6_m → (∀ s7_m, Inv X pins_m (σ6_m.set i_m none) H6_m s7_m → Q_m s7_m) →
              wpAny (model X.prog X.w) X.A (do bindName X.env n_m .none; unbindBehindTheSuite X.env n_m pos'_m) (fun _ s7_m => Q_m s7_m) X.xe s6_m := fun {σ6_m H6_m Q_m} S6_m hq_m => gone_ok (S6_m.unsuite ok) hN hi_m hln_m hq_m
          cases f_m with
          | next => obtain ⟨σ6_m, H6_m, S6_m, q6_m⟩ := hsp_m; exact end__m S6_m fun s7_m J7_m => ⟨_, _, J7_m, q6_m⟩
          | brk => obtain ⟨σ6_m, H6_m, S6_m, q6_m⟩ := hsp_m; exact end__m S6_m fun s7_m J7_m => ⟨_, _, J7_m, q6_m⟩
          | cont => obtain ⟨σ6_m, H6_m, S6_m, q6_m⟩ := hsp_m; exact end__m S6_m fun s7_m J7_m => ⟨_, _, J7_m, q6_m⟩
          | ret u_m => obtain ⟨v6_m, σ6_m, H6_m, S6_m, r6_m, q6_m⟩ := hsp_m; exact end__m S6_m fun s7_m J7_m => ⟨_, _, _, J7_m, r6_m, q6_m⟩
        | false =>
          show wpAny _ X.A (handleBy (.ref a_m) X.env hds2_m) _ _ _
          exact ih_m (hno_m rfl)
    exact go_m hh w
  · cases f_m with
    | next => obtain ⟨σ'_m, H'_m, J'_m, q_m⟩ := hsp_m; exact wpAny_execs_nil ⟨σ'_m, H'_m, J'_m.ofTry ok, q_m⟩
    | brk => obtain ⟨σ'_m, H'_m, J'_m, q_m⟩ := hsp_m; exact ⟨σ'_m, H'_m, J'_m.ofTry ok, q_m⟩
    | cont => obtain ⟨σ'_m, H'_m, J'_m, q_m⟩ := hsp_m; exact ⟨σ'_m, H'_m, J'_m.ofTry ok, q_m⟩
    | ret u_m => obtain ⟨v_m, σ'_m, H'_m, J'_m, r_m, q_m⟩ := hsp_m; exact ⟨v_m, σ'_m, H'_m, J'_m.ofTry ok, r_m, q_m⟩
end
end MM
end
section
set_option Elab.async false
set_option linter.all false
set_option maxRecDepth 100000
set_option maxHeartbeats 2097152
namespace MM
open PySem PySem.Spec PySem.W PyProof.Rows L2

/-! ### the __init__ of an own exception: its readings -/
section
variable {K : PySem.W.Frag} {txt f1 f2 : Str}
def tIn1 (K : PySem.W.Frag) (txt f1 : Str) : TS := tSeq (tDrop (tVeI K (tCons (tVar 0) (tCons (tC (.str txt)) tNil)))) (tOst K f1 (tVar 0) (tVar 1))
def tIn2 (K : PySem.W.Frag) (txt f1 f2 : Str) : TS := tSeq (tDrop (tVeI K (tCons (tVar 0) (tCons (tC (.str txt)) tNil)))) (tSeq (tOst K f1 (tVar 0) (tVar 1)) (tOst K f2 (tVar 0) (tVar 2)))
theorem upd_comm {H : Hp} {a b : Addr} {o u : HO} (h : a ≠ b) : upd (upd H a o) b u = upd (upd H b u) a o := by
  funext c
  by_cases e1 : c = a
  · subst e1
    rw [upd_ne h, upd_same, upd_same]
  · by_cases e2 : c = b
    · subst e2; rw [upd_same, upd_ne e1, upd_same]
    · rw [upd_ne e2, upd_ne e1, upd_ne e1, upd_ne e2]
theorem pure_in1 {N : List Str} {vs : List V} {H : Hp} {Q : VK} {E : XK} (h : spInit K [f1] vs H Q E) : tIn1 K txt f1 { nx := fun _ H' => Q .non H', rt := Q } (L2.start N vs) H := by
  obtain ⟨a, C, ys, rfl, hl, hC, hno, ha, q⟩ := h
  match ys, hl with
  | [y], _ =>
    refine ⟨_, rfl, _, _, _, rfl, by simp, hC, ha, ?_⟩
    refine ⟨_, rfl, _, rfl, a, C, rfl, hC, hno _ (by simp), .inl ⟨ha, fun dx h1 h2 => ?_⟩⟩
    exact q dx h1 h2
theorem pure_in2 {N : List Str} {vs : List V} {H : Hp} {Q : VK} {E : XK} (h : spInit K [f1, f2] vs H Q E) : tIn2 K txt f1 f2 { nx := fun _ H' => Q .non H', rt := Q } (L2.start N vs) H := by
  obtain ⟨a, C, ys, rfl, hl, hC, hno, ha, q⟩ := h
  match ys, hl with
  | [y, z], _ =>
    refine ⟨_, rfl, _, _, _, rfl, by simp, hC, ha, ?_⟩
    refine ⟨_, rfl, _, rfl, a, C, rfl, hC, hno _ (by simp), .inl ⟨ha, fun dx h1 h2 => ?_⟩⟩
    refine ⟨_, rfl, _, rfl, a, C, rfl, hC, hno _ (by simp), .inr ⟨dx, [(f1, y)], upd_same, (upd_ne h2).trans upd_same, by simp, ?_⟩⟩
    have e : upd (upd (upd H dx (exd dx [(f1, y)])) a (exo a C (some dx))) dx (exd dx [(f2, z), (f1, y)]) = upd (upd H dx (exd dx [(f2, z), (f1, y)])) a (exo a C (some dx)) := by
      rw [upd_comm (Ne.symm h2), upd_upd]
    show Q .non (upd (upd (upd H dx (exd dx [(f1, y)])) a (exo a C (some dx))) dx (exd dx [(f2, z), (f1, y)]))
    rw [e]
    exact q dx h1 h2
end

/-! ### try .. except .., as plain runs -/
structure Cl where
  c : Value
  i : Option Nat
  g : Addr → List (Str × D) → SM
def unX : Option D → Option D
  | some .exn => none
  | o => o
def outX (i : Option Nat) (δ : Env') : Env' := match i with
  | some i => (δ.map unX).set i none
  | none => δ.map unX
def inX (i : Option Nat) (δ : Env') : Env' := match i with
  | some i => (δ.map unX).set i (some .exn)
  | none => δ.map unX
def exitX (i : Option Nat) : SR → SR
  | .nx δ S => .nx (outX i δ) S
  | .bk δ S => .bk (outX i δ) S
  | .ct δ S => .ct (outX i δ) S
  | .rt d S => .rt d S
  | _ => .bad
def hdM (K : PySem.W.Frag) : List Cl → Addr → List (Str × D) → SM
  | [], C, fs => fun δ S => .exc C fs δ S
  | cl :: r, C, fs => fun δ S => match PySem.W.exmOne K (.ref C) cl.c with
    | some true => exitX cl.i (cl.g C fs (inX cl.i δ) S)
    | some false => hdM K r C fs δ S
    | none => .bad
def tryM (K : PySem.W.Frag) (body : SM) (cls : List Cl) : SM := fun δ S => match body δ S with
  | .exc C fs δ1 S1 => hdM K cls C fs δ1 S1
  | r => r
section
variable {K : PySem.W.Frag} {T : Tx} {Wx : WX} {W : Wd} {S : Store} {H : Hp} {X : Cx}
/-- the world of a suite -/
def Wd.inx (W : Wd) (a : Addr) : Wd := ⟨W.Z, W.ρ, W.P, some a⟩
def Wd.outx (W W0 : Wd) : Wd := ⟨W.Z, W.ρ, W.P, W0.sx⟩
mutual
theorem VR.nos : ∀ {d : D} {v : V}, VR K W d v → VR K ⟨W.Z, W.ρ, W.P, none⟩ d v
  | _, _, .non => .non
  | _, _, .bl b => .bl b
  | _, _, .int i => .int i
  | _, _, .str x => .str x
  | _, _, .ty n => .ty n
  | _, _, .adr a => .adr a
  | _, _, .ref h => .ref h
  | _, _, .tup h r => .tup h (VRs.nos r)
  | _, _, .lst h r => .lst h (VRs.nos r)
  | _, _, .frn h r => .frn h (VRs.nos r)
  | _, _, .dct h l r => .dct h l (VRs.nos r)
theorem VRs.nos : ∀ {ds : List D} {vs : List V}, VRs K W ds vs → VRs K ⟨W.Z, W.ρ, W.P, none⟩ ds vs
  | _, _, .nil => .nil
  | _, _, .cons h r => .cons (VR.nos h) (VRs.nos r)
end
theorem VR.sxm {W W' : Wd} (hz : W.Z = W'.Z) (hr : W.ρ = W'.ρ) {d : D} {v : V} (h : VR K W d v) : VR K W' d v :=
  h.nos.mono0 ⟨hz ▸ Same.refl _, hr ▸ fun _ _ h => h, fun a h => by cases h⟩
theorem VRs.sxm {W W' : Wd} (hz : W.Z = W'.Z) (hr : W.ρ = W'.ρ) {d : List D} {v : List V} (h : VRs K W d v) : VRs K W' d v :=
  h.nos.mono0 ⟨hz ▸ Same.refl _, hr ▸ fun _ _ h => h, fun a h => by cases h⟩
theorem FR.sxm {κ : Type} {W W' : Wd} (hz : W.Z = W'.Z) (hr : W.ρ = W'.ρ) {fs : List (κ × D)} {gs : List (κ × V)} (r : FR K W fs gs) : FR K W' fs gs := Paired.mapP r fun _ _ h => ⟨h.1, h.2.sxm hz hr⟩
theorem HR.sxm {W' : Wd} {T' : Tx} (h : HR K T W S H) (hz : W.Z = W'.Z) (hr : W.ρ = W'.ρ) (hp : W.P = W'.P) (ht : T.tabs = T'.tabs) (xc : XC K T' W') : HR K T' W' S H := by
  refine ⟨hz ▸ h.fz, hz ▸ h.zk, fun n o hn hd => ?_, hr ▸ h.inj, hr ▸ h.al, ht ▸ h.tb, hp ▸ h.pf, hr ▸ hp ▸ h.pd, hz ▸ hp ▸ h.pz, xc, hp ▸ h.pk⟩
  obtain ⟨a, h1, h2, h3⟩ := h.ob n o hn hd
  refine ⟨a, hr ▸ h1, hz ▸ h2, ?_⟩
  cases o with
  | dead => trivial
  | lst ds => obtain ⟨vs, e, r⟩ := h3; exact ⟨vs, e, r.sxm hz hr⟩
  | dct ds => obtain ⟨vs, e, r⟩ := h3; exact ⟨vs, e, r.sxm hz hr⟩
  | ins C ds => obtain ⟨dx, vs, e, r⟩ := h3; exact ⟨dx, vs, e, r.sxm hz hr⟩
theorem unX_ne {o : Option D} {d : D} (h : unX o = some d) : o = some d ∧ d ≠ .exn := by
  unfold unX at h
  split at h
  · cases h
  · rename_i h1
    refine ⟨h, fun z => ?_⟩
    subst z
    exact h1 h
theorem ER.un {W W' : Wd} (hz : W.Z = W'.Z) (hr : W.ρ = W'.ρ) {δ : Env'} {σ : L2.St} (er : ER K W δ σ) : ER K W' (δ.map unX) σ := by
  refine ⟨by simpa using er.1, fun i d h => ?_⟩
  rw [List.getElem?_map] at h
  cases q : δ[i]? with
  | none => rw [q] at h; cases h
  | some o =>
    rw [q] at h
    obtain ⟨h1, h2⟩ := unX_ne (Option.some.inj h)
    subst h1
    rcases er.2 i d q with ⟨z, _⟩ | ⟨v, e1, e2⟩
    · exact absurd z h2
    · exact .inr ⟨v, e1, e2.sxm hz hr⟩
theorem ER.inX {W : Wd} {a : Addr} {δ : Env'} {σ : L2.St} (er : ER K W δ σ) (i : Nat) : ER K (W.inx a) (MM.inX (some i) δ) (σ.set i (some (.ref a))) := by
  have e1 := ER.un (W := W) (W' := W.inx a) rfl rfl er
  refine ⟨by show ((δ.map unX).set i (some .exn)).length = _; simpa using e1.1, fun j d h => ?_⟩
  have h' : ((δ.map unX).set i (some .exn))[j]? = some (some d) := h
  by_cases q : j = i
  · subst q
    have hl : j < (δ.map unX).length := by
      have := (List.getElem?_eq_some_iff.mp h').1
      simpa using this
    rw [List.getElem?_set_self hl] at h'
    cases h'
    exact .inl ⟨rfl, a, rfl, List.getElem?_set_self (e1.1 ▸ hl)⟩
  · rw [List.getElem?_set_ne (Ne.symm q)] at h' ⊢
    exact e1.2 j d h'
theorem ER.inX0 {W : Wd} {a : Addr} {δ : Env'} {σ : L2.St} (er : ER K W δ σ) : ER K (W.inx a) (MM.inX none δ) σ := ER.un (W := W) (W' := W.inx a) rfl rfl er
/-- how a suite's end is told outside -/
theorem PostS.exit {i : Option Nat} {W W1 : Wd} {T' : Tx} {a : Addr} {r : SR} {E : Ends} (hxc : XC K T W) (hT : T.ex = none) (ht : T'.tabs = T.tabs) (hle : W1 = W.inx a) (p : PostS K T Wx W (exitX i r) E) :
    PostS K T' W0x W1 r (match i with | some i => endN i E | none => E) := by
  subst hle
  have le : ∀ W' : Wd, (W.inx a).le W' → W.le (W'.outx W) := fun W' l => ⟨⟨l.z, l.r, fun _ h => h⟩, l.p⟩
  have xc : ∀ W' : Wd, (W.inx a).le W' → XC K T (W'.outx W) := fun W' l => ⟨(fun q hq => by rw [hT] at hq; cases hq), fun W0 h0 => (hxc.2 W0 h0).trans (le W' l).tole0⟩
  have en : ∀ {W' : Wd} {δ : Env'} {σ : L2.St}, ER K W' δ σ → ∀ k, ER K (W'.outx W) ((δ.map unX).set k none) (σ.set k none) := fun {W'} {δ} {σ} er k => (ER.un (W := W') (W' := W'.outx W) rfl rfl er).gone k
  have en0 : ∀ {W' : Wd} {δ : Env'} {σ : L2.St}, ER K W' δ σ → ER K (W'.outx W) (δ.map unX) σ := fun {W'} {δ} {σ} er => ER.un (W := W') (W' := W'.outx W) rfl rfl er
  cases r with
  | nx δ S =>
    cases i with
    | none => exact fun W' σ H l er hr => p (W'.outx W) σ H (le _ l) (en0 er) (HR.sxm (W' := W'.outx W) (T' := T) hr rfl rfl rfl ht (xc _ l))
    | some k => exact fun W' σ H l er hr => p (W'.outx W) (σ.set k none) H (le _ l) (en er k) (HR.sxm (W' := W'.outx W) (T' := T) hr rfl rfl rfl ht (xc _ l))
  | bk δ S =>
    cases i with
    | none => exact fun W' σ H l er hr => p (W'.outx W) σ H (le _ l) (en0 er) (HR.sxm (W' := W'.outx W) (T' := T) hr rfl rfl rfl ht (xc _ l))
    | some k => exact fun W' σ H l er hr => p (W'.outx W) (σ.set k none) H (le _ l) (en er k) (HR.sxm (W' := W'.outx W) (T' := T) hr rfl rfl rfl ht (xc _ l))
  | ct δ S =>
    cases i with
    | none => exact fun W' σ H l er hr => p (W'.outx W) σ H (le _ l) (en0 er) (HR.sxm (W' := W'.outx W) (T' := T) hr rfl rfl rfl ht (xc _ l))
    | some k => exact fun W' σ H l er hr => p (W'.outx W) (σ.set k none) H (le _ l) (en er k) (HR.sxm (W' := W'.outx W) (T' := T) hr rfl rfl rfl ht (xc _ l))
  | rt d S =>
    cases i with
    | none => exact fun W' v H l rv hr => p (W'.outx W) v H (le _ l) (VR.sxm (W := W') (W' := W'.outx W) rfl rfl rv) (HR.sxm (W' := W'.outx W) (T' := T) hr rfl rfl rfl ht (xc _ l))
    | some k => exact fun W' v H l rv hr => p (W'.outx W) v H (le _ l) (VR.sxm (W := W') (W' := W'.outx W) rfl rfl rv) (HR.sxm (W' := W'.outx W) (T' := T) hr rfl rfl rfl ht (xc _ l))
  | exc C fs δ S => exact p.elim
  | bad => exact p.elim

/-! ### the rule -/
abbrev Tx.sub (T : Tx) (q : Ex) : Tx := ⟨T.tabs, some q, none⟩
def tsOf (X : Cx) (T : Tx) (cl : Cl) : Clv := (cl.c, cl.i, fun a cls d E σ H => ∃ (C : Addr) (fs : List (Str × D)) (dx : Addr), cls = .ref C ∧ d = some dx ∧ tS X.K (T.sub ⟨a, C, dx, fs⟩) W0x (cl.g C fs) E σ H)
inductive HdsM (X : Cx) (T : Tx) : List ExceptHandler → List Cl → Prop
  | nil : HdsM X T [] []
  | cons {x : Str} {c : Value} {g : Addr → List (Str × D) → SM} {b₀ : Stmt} {suite : List Stmt} {np pos' : Pos} {hds : List ExceptHandler} {l : List Cl} (hc : Names X x c)
      (hsu : ∀ (a : Addr) (oe : Obj) (C dx : Addr) (fs : List (Str × D)) (pn : List (Addr × Obj)), Zc (.ref C) (some dx) oe → (∃ vs, oe.data = .fields vs) → PSsm (X.suite a ((a, oe) :: pn)) (T.sub ⟨a, C, dx, fs⟩) W0x (b₀ :: suite) (g C fs)) (r : HdsM X T hds l) :
      HdsM X T (.ExceptHandler (some (.Name x np)) none (b₀ :: suite) pos' :: hds) (⟨c, none, g⟩ :: l)
  | named {x n : Str} {i : Nat} {c : Value} {g : Addr → List (Str × D) → SM} {b₀ : Stmt} {suite : List Stmt} {np pos' : Pos} {hds : List ExceptHandler} {l : List Cl} (hc : Names X x c) (hi : X.N[i]? = some n) (hln : X.env.kindOf n = some .local)
      (hsu : ∀ (a : Addr) (oe : Obj) (C dx : Addr) (fs : List (Str × D)) (pn : List (Addr × Obj)), Zc (.ref C) (some dx) oe → (∃ vs, oe.data = .fields vs) → PSsm (X.suite a ((a, oe) :: pn)) (T.sub ⟨a, C, dx, fs⟩) W0x (b₀ :: suite) (g C fs)) (r : HdsM X T hds l) :
      HdsM X T (.ExceptHandler (some (.Name x np)) (some n) (b₀ :: suite) pos' :: hds) (⟨c, some i, g⟩ :: l)
theorem HdsM.n {hds : List ExceptHandler} {l : List Cl} (h : HdsM X T hds l) : HdsN X hds (l.map (tsOf X T)) := by
  induction h with
  | nil => exact .nil
  | cons hc hsu r ih =>
    refine .cons hc (fun a oe cls d pn hz hf => ?_) ih
    refine ⟨fun pins s σ H E I ⟨C, fs, dx, e1, e2, h⟩ => ?_⟩
    subst e1; subst e2
    exact (hsu a oe C dx fs pn hz hf).run.run pins s σ H E I h
  | named hc hi hln hsu r ih =>
    refine .named hc hi hln (fun a oe cls d pn hz hf => ?_) ih
    refine ⟨fun pins s σ H E I ⟨C, fs, dx, e1, e2, h⟩ => ?_⟩
    subst e1; subst e2
    exact (hsu a oe C dx fs pn hz hf).run.run pins s σ H E I h
theorem hdM_ok {D' : Ends} (hT : T.ex = none) {C : Addr} {fs : List (Str × D)} {δ : Env'} {S : Store} {σ : L2.St} {dx : Option Addr} {H : Hp} (er : ER X.K W δ σ) (xr : XR X.K W fs dx H) (hr : HR X.K T W S H) :
    ∀ {l : List Cl}, PostS X.K T Wx W (hdM X.K l C fs δ S) D' → wManyN X.K Wx D' (l.map (tsOf X T)) (.ref C) dx σ H
  | [], p => p W σ dx H (.refl _) er xr hr
  | ⟨c, i, g⟩ :: l, p => by
    unfold hdM at p
    dsimp only at p
    obtain ⟨d, gs, rfl, e1, e2⟩ := xr
    have xc : ∀ a, XC X.K (T.sub ⟨a, C, d, fs⟩) (W.inx a) := fun a => by
      refine ⟨fun q hq => ?_, fun W0 h0 => by cases h0⟩
      cases hq
      exact ⟨rfl, gs, e1, FR.sxm (W := W) (W' := W.inx a) rfl rfl e2⟩
    cases hb : PySem.W.exmOne X.K (.ref C) c with
    | none => rw [hb] at p; exact p.elim
    | some b =>
      rw [hb] at p
      cases i with
      | none =>
        refine ⟨b, hb, fun hy a ha => ?_, fun hn => ?_⟩
        · subst hy
          exact ⟨C, fs, d, rfl, rfl, W.inx a, inX none δ, S, er.inX0, HR.sxm (W' := W.inx a) (T' := T.sub ⟨a, C, d, fs⟩) hr rfl rfl rfl rfl (xc a), PostS.exit (T' := T.sub ⟨a, C, d, fs⟩) (a := a) (i := none) hr.xc hT rfl rfl p⟩
        · subst hn; exact hdM_ok hT er ⟨d, gs, rfl, e1, e2⟩ hr p
      | some i =>
        refine ⟨b, hb, fun hy a ha => ?_, fun hn => ?_⟩
        · subst hy
          exact ⟨C, fs, d, rfl, rfl, W.inx a, inX (some i) δ, S, er.inX i, HR.sxm (W' := W.inx a) (T' := T.sub ⟨a, C, d, fs⟩) hr rfl rfl rfl rfl (xc a), PostS.exit (T' := T.sub ⟨a, C, d, fs⟩) (a := a) (i := some i) hr.xc hT rfl rfl p⟩
        · subst hn; exact hdM_ok hT er ⟨d, gs, rfl, e1, e2⟩ hr p
theorem psm_try {body : List Stmt} {h₀ : ExceptHandler} {hds : List ExceptHandler} {l : List Cl} {pos : Pos} {gb : SM} (hT : T.ex = none) (hs : X.stack = X.env :: X.outer) (hf : X.env.frame = some X.env.locals) (hN : X.N.Nodup) (tk : Takes X Wx)
    (hb : ∀ (W : WX) (pn : List (Addr × Obj)) (xe : Value → Shared → Prop), Takes (X.tr pn xe) W → PassesOwn (model X.prog X.w) X.A X.env xe → PSsm (X.tr pn xe) T W body gb)
    (hh : HdsM X T (h₀ :: hds) l) : PSm X T Wx (.Try body (h₀ :: hds) [] [] pos) (tryM X.K gb l) := by
  refine ⟨ps_imp (ps_try_manyN (tb := fun W => tS X.K T W gb) hs hf hN tk (fun W pn xe tkx po => (hb W pn xe tkx po).run) hh.n) fun E σ H ⟨W, δ, S, er, hr, p⟩ => ⟨W, δ, S, er, hr, ?_⟩⟩
  unfold tryM at p
  cases q : gb δ S with
  | nx δ1 S1 => rw [q] at p; exact p
  | bk δ1 S1 => rw [q] at p; exact p
  | ct δ1 S1 => rw [q] at p; exact p
  | rt d S1 => rw [q] at p; exact p
  | bad => rw [q] at p; exact p
  | exc C fs δ1 S1 =>
    rw [q] at p
    exact fun W' σ' dx H' le er' xr hr' => hdM_ok hT er' xr hr' (p.mono le)
end
end MM
end
section
set_option Elab.async false
set_option linter.all false
set_option maxRecDepth 100000
set_option maxHeartbeats 4194304
namespace PySem.W
open PyProof.Rows PySem.Calls PySem.Spec PySem
section
variable {prog : Program} {w : World} {A : Around} {E : Value → Shared → Prop} {s : Shared} {K : Frag} {x D : Addr} {ox : Obj} {od : Option Obj}
theorem mm_findObj {C : Addr} {name : Str} {a g : Value} (hc : (clsIn K C).isSome = true) (ha : findIn K (.ref C) name = some (some a)) (hg : specialIn K a "__get__" = some (some g)) (ht : takesIn K a = some true) : findObj K C od name = some (.bind g a) := by
  obtain ⟨cd_m, hc⟩ := Option.isSome_iff_exists.mp hc
  unfold findObj; rw [hc, Option.bind_some, ha, Option.bind_some]
  simp [hg, ht]
theorem mm_classE {Q : Option Value → Shared → Prop} (hga : findIn K (.ref D) "__getattribute__" = some (some (.builtin "BaseException.__getattribute__"))) (hgt : findIn K (.ref D) "__getattr__" = some none) (hsub : subIn K (.ref D) (.type "BaseException") = some true) (hdct : hasDictIn K D = true) (ha : findIn K (.ref D) "__class__" = some (some (.builtin "object.__class__"))) (hn : specialIn K (.builtin "object.__class__") "__get__" = some (some (.builtin "getset_descriptor.__get__"))) (htk : takesIn K (.builtin "object.__class__") = some true) (hm : mroIn K D (.type "object") = some true)
    (X : K.In s.heap) (I : InstAt s.heap x ox D od) (h : Q (some (.ref D)) { s with toks := s.toks + 1 }) : wpAny (model prog w) A (getAttr? (.ref x) "__class__") Q E s := by
  have hf_m : findObj K D od "__class__" = some (.bind (.builtin "getset_descriptor.__get__") (.builtin "object.__class__")) := mm_findObj (by obtain ⟨cd_m, hc_m, _⟩ := any_some hdct; rw [hc_m]; rfl) ha hn htk
  obtain ⟨hp_m, g_m, d_m, t_m, os_m⟩ := s
  have L0_m := I.type (M := model prog w)
  have L1_m := looks_findIn (M := model prog w) X hga
  have L2_m := looks_findIn (M := model prog w) X hgt
  have L3_m := looks_find (M := model prog w) X I hf_m
  have sub_m : Looks (model prog w) hp_m (isInstance (.ref x) (.type "BaseException")) true := L0_m.andThen (looks_subIn X hsub)
  have hx0_m : (false && onTheHeap (Value.builtin "BaseException.__getattribute__")) = false := rfl
  have hx2_m : (Value.builtin "BaseException.__getattribute__" == Value.builtin "object.__getattribute__") = false := by decide +kernel
  have hx1_m : (onTheHeap (Value.ref D) && Value.builtin "BaseException.__getattribute__" == Value.builtin "object.__getattribute__") = false := by rw [hx2_m]; rfl
  unfold getAttr? getAttrBy? getAttrBy; refine wpAny_bind (wpAny_mkText (wpAny_bind (wpAny_attempt (wpAny_holding (wpAny_bind (L0_m.at (wpAny_bind (L1_m.at ?_)))))))); show wpAny _ _ (if (onTheHeap (Value.ref D) && Value.builtin "BaseException.__getattribute__" == Value.builtin "object.__getattribute__") = true then _ else _) _ _ _
  rw [hx1_m, if_neg Bool.false_ne_true]; unfold getAttrByItsOwn hookBefore
  refine wpAny_bind ?_; rw [if_pos (show onTheHeap (Value.ref D) = true from rfl)]
  refine L2_m.at ?_; refine wpAny_bind (wpAny_attempt (wpAny_holding ?_))
  unfold callGetattribute
  rw [hx0_m, if_neg Bool.false_ne_true]
  unfold boundAndCalled; rw [PySem.F.excAttr_ValueError.ga.bind (.ref x)]; refine wpAny_bind (wpAny_pure ?_)
  show wpAny _ _ (call (.builtin "BaseException.__getattribute__") [.ref x, .str "__class__" t_m]) _ _ _; refine wpAny_call (codeAny_call_builtin PySem.F.excAttr_ValueError.ga.plain PySem.F.entry_bexc_ga ?_)
  refine @check_slot (model prog w) _ _ ⟨hp_m, g_m, d_m, t_m + 1, os_m⟩ "BaseException.__getattribute__" "BaseException" "__getattribute__" (.ref x) [.str "__class__" t_m] [] _ (by decide +kernel) (by decide +kernel) sub_m (PySem.F.args_bexc_ga (.ref x) (.str "__class__" t_m)) ?_; unfold Builtin.«object.__getattribute__»
  refine wpAny_bind (wpAny_of_eq (a := ((Value.ref x : Value), [Value.str "__class__" t_m])) (by first | rfl | (simp only [slotArgs]; rfl)) ?_)
  refine wpAny_bind (wpAny_pure (wpAny_bind (L0_m.at (wpAny_bind (L3_m.at ?_))))); show wpAny _ _ (holding [Value.builtin "object.__class__"] (call (.builtin "getset_descriptor.__get__") [.builtin "object.__class__", .ref x, .ref D]) >>= ret) _ _ _
  refine wpAny_bind (wpAny_holding (wpAny_call (class_get (s := ⟨hp_m, g_m, d_m, t_m + 1, os_m⟩) (ox := ox) (od := od) X I hm ?_)))
  refine wpAny_pure ?_; show wpAny _ _ (handedOut (.ref D)) _ _ _; rw [handedOut_of (v := .ref D) rfl]
  first
    | exact wpAny_pure <| wpAny_pure h
    | exact wpAny_pure h
    | exact wpAny_pure <| wpAny_bind <| wpAny_pure <| wpAny_pure h
theorem mm_kitx (hga : findIn K (.ref D) "__getattribute__" = some (some (.builtin "BaseException.__getattribute__"))) (hgt : findIn K (.ref D) "__getattr__" = some none) (hsub : subIn K (.ref D) (.type "BaseException") = some true) (hdct : hasDictIn K D = true) (ha : findIn K (.ref D) "__class__" = some (some (.builtin "object.__class__"))) (hn : specialIn K (.builtin "object.__class__") "__get__" = some (some (.builtin "getset_descriptor.__get__"))) (htk : takesIn K (.builtin "object.__class__") = some true) (hm : mroIn K D (.type "object") = some true) :
    KitX K (.ref x) (.ref D) (fun h => ∃ od, InstAt h x ox D od) where
  ty := fun _ _ _ ⟨_, I_m⟩ => I_m.type
  it := fun _ _ X _ => by
    obtain ⟨cdD_m, hcD_m, _⟩ := any_some hdct
    unfold clsIn at hcD_m
    split at hcD_m
    · rename_i c'_m d'_m cd'_m sl'_m ho_m
      intro A'_m Q'_m E'_m s'_m k_m q_m
      unfold isType loadHead
      exact wpAny_bind (wpAny_loadPart (k_m _ _ (X _ _ ho_m)) (wpAny_pure q_m))
    · cases hcD_m
  ne := fun h tp_m dd_m its_m n sl_m X htp_m => by
    obtain ⟨cdD_m, hcD_m, _⟩ := any_some hdct
    refine Bool.eq_false_iff.mpr fun q_m => ?_
    have e_m : D = tp_m := Value.ref.inj (beq_iff_eq.mp q_m)
    subst e_m
    unfold clsIn at hcD_m
    split at hcD_m
    · rename_i c'_m d'_m cd'_m sl'_m ho_m
      have z_m := (X _ _ ho_m).symm.trans htp_m
      cases z_m
    · cases hcD_m
  ca := fun X ⟨_, I_m⟩ k_m => mm_classE hga hgt hsub hdct ha hn htk hm X I_m k_m
end
end PySem.W
namespace MM
open PySem PySem.Spec PySem.W PyProof.Rows L2

/-! ### in a suite: e.f, isinstance(e, ..) -/
def isExn : Option (Option D) → Bool
  | some (some .exn) => true
  | _ => false
theorem isExn_ok {o : Option (Option D)} (h : isExn o = true) : o = some (some .exn) := by
  unfold isExn at h
  split at h
  · rfl
  · cases h
def xfM (K : PySem.W.Frag) (C : Addr) (fs : List (Str × D)) (i : Nat) (n : Str) : Env' → M D := fun δ => if (isExn δ[i]? && (xfB K C && decide (PySem.W.findIn K (.ref C) n = some none))) = true then M.get (fs.lookup n) else M.bad
def excB (K : PySem.W.Frag) (D : Addr) : Bool := decide (PySem.W.findIn K (.ref D) "__class__" = some (some (.builtin "object.__class__"))) && (decide (PySem.W.specialIn K (.builtin "object.__class__") "__get__" = some (some (.builtin "getset_descriptor.__get__"))) &&
  (decide (PySem.W.takesIn K (.builtin "object.__class__") = some true) && decide (PySem.W.mroIn K D (.type "object") = some true)))
theorem excB_ok {K : PySem.W.Frag} {D : Addr} (h1 : xfB K D = true) (h : excB K D = true) : ExcC K D := by
  have X := xfB_ok h1
  unfold excB at h; simp only [Bool.and_eq_true, decide_eq_true_eq] at h
  exact ⟨X.ga, X.gg, X.exC, X.hdC, h.1, h.2.1, h.2.2.1, h.2.2.2⟩
/-- a class as a value -/
def clsV : D → Option Value
  | .adr a => some (.ref a)
  | .ty n => some (.type n)
  | _ => none
def clsVs : List D → Option (List Value)
  | [] => some []
  | d :: r => (clsV d).bind fun v => (clsVs r).map (v :: ·)
def kitD (K : PySem.W.Frag) (C : Addr) (d : D) : Option Bool := match d with
  | .tup ds => (clsVs ds).bind fun vs => PySem.W.kitAny K (.ref C) vs
  | d => (clsV d).bind fun v => PySem.W.kitOne K (.ref C) v
def isxM (K : PySem.W.Frag) (C : Addr) (i : Nat) (f : Env' → M D) : Env' → M D := fun δ => if (isExn δ[i]? && (xfB K C && excB K C)) = true then (f δ).bind fun d => M.get ((kitD K C d).map D.bl) else M.bad
section
variable {K : PySem.W.Frag} {W : Wd} {S : Store} {H : Hp} {T : Tx}
theorem clsV_ok {d : D} {v : V} {u : Value} {c : Value} (h : clsV d = some c) (r : VR K W d v) (ru : RelV v u) : u = c := by
  cases r with
  | adr a => cases h; exact ru
  | ty n => cases h; exact ru
  | _ => cases h
theorem clsVs_ok : ∀ {ds : List D} {vs : List V} {us : List Value} {cs : List Value}, clsVs ds = some cs → VRs K W ds vs → Vals vs us → us = cs
  | [], _, _, _, h, .nil, .nil => by cases h; rfl
  | d :: ds, _, _, _, h, .cons r rs, .cons x xs => by
    unfold clsVs at h
    simp only [Option.bind_eq_some_iff, Option.map_eq_some_iff] at h
    obtain ⟨v, h1, cs, h2, rfl⟩ := h
    rw [clsV_ok h1 r x, clsVs_ok h2 rs xs]
end
/-- isinstance(e, c) -/
def rIsX (K : PySem.W.Frag) (D a : Addr) : List V → Hp → VK → Prop := fun xs H Q => ∃ (c : V) (b : Bool), xs = [.ref a, c] ∧ ((∃ cv, (∀ u, RelV c u → u = cv) ∧ PySem.W.kitOne K (.ref D) cv = some b) ∨ ∃ t vs, c = .ref t ∧ SqT K H t vs ∧ ∀ us, Vals vs us → PySem.W.kitAny K (.ref D) us = some b) ∧ Q (.bl b) H
theorem call_isX {X : Cx} {a D dx : Addr} {oe : Obj} {pn : List (Addr × Obj)} (C : ExcC X.K D) (hz : Zc (.ref D) (some dx) oe) (hf : ∃ vs, oe.data = .fields vs) :
    CallR (X.suite a ((a, oe) :: pn)) (.builtin "isinstance") (fun xs H Q => (∃ gs, H dx = some (.xd gs)) ∧ rIsX X.K D a xs H Q) := by
  intro pins_m s σ_m H xs us_m Q I_m r_m ⟨⟨gs, hd_m⟩, h_m⟩
  obtain ⟨c, b_m, rfl, hc_m, q_m⟩ := h_m
  cases r_m with
  | cons rx_m rr_m =>
    cases rr_m with
    | cons rt_m rr_m =>
      cases rr_m
      cases rx_m
      obtain ⟨hget_m, _⟩ := I_m.pin (a, oe) (List.mem_append.mpr (.inl List.mem_cons_self))
      obtain ⟨vs, hv_m⟩ := hf
      have hx_m : ObjOk X.prog X.w H s.heap dx (.xd gs) := I_m.hok dx _ hd_m
      obtain ⟨mA_m, hns_m, hr_m⟩ := hx_m
      obtain ⟨od, ho_m, hl_m⟩ := lookIn_ns hns_m
      have J_m : PySem.W.InstAt s.heap a oe D (some od) := by
        obtain ⟨oc_m, odd_m, oda_m, osl_m⟩ := oe
        obtain ⟨h1_m, h2_m⟩ := hz
        dsimp only at h1_m h2_m hv_m
        subst h1_m h2_m hv_m
        exact ⟨hget_m, rfl, rfl, ho_m⟩
      have Z_m := PySem.W.mm_kitx (K := X.K) (x := a) (ox := oe) C.hg C.hk C.hs C.hd C.ha C.hn C.ht C.hm
      rcases hc_m with ⟨cv_m, hcv_m, e_m⟩ | ⟨t_m, ws_m, rfl, ht_m, e_m⟩
      · have ec_m := hcv_m _ rt_m
        subst ec_m
        exact PySem.W.kia_one Z_m I_m.kIn ⟨_, J_m⟩ e_m (fun z_m => nomatch z_m) fun tk_m => ⟨.bl b_m, H, I_m.kept (t' := tk_m) fun _ _ z_m => z_m, rfl, q_m⟩
      · cases rt_m
        obtain ⟨its_m, rv_m, ⟨o_m, h1_m, h2_m, n, h3_m⟩, hzz_m⟩ := I_m.tuple ht_m
        obtain ⟨oc_m, odd_m, oda_m, osl_m⟩ := o_m
        dsimp only at h2_m h3_m
        subst h2_m h3_m
        exact PySem.W.kia_tup Z_m I_m.kIn ⟨_, J_m⟩ h1_m (e_m its_m rv_m) (fun z_m => nomatch z_m) fun tk_m => ⟨.bl b_m, H, I_m.kept (t' := tk_m) fun _ _ z_m => z_m, rfl, q_m⟩
section
variable {X : Cx} {T : Tx} {Wx : WX} {a C dx : Addr} {fs : List (Str × D)} {oe : Obj} {pn : List (Addr × Obj)} {i : Nat} {x n : Str} {p p1 pos : Pos} {c : Expr} {f : Env' → M D}
theorem pem_xf (hz : Zc (.ref C) (some dx) oe) (hf : ∃ vs, oe.data = .fields vs) (hN : X.N[i]? = some x) (hv : Vis X.env.scope x) (hd : (x == ("__debug__" : Str)) = false := by decide) (hcd : (x == ("__classdict__" : Str)) = false := by decide)
    (hb : attributeBase (.Name x p) n X.env (eval (.Name x p) X.env) = eval (.Name x p) X.env := by rfl) : PEm (X.suite a ((a, oe) :: pn)) (T.sub ⟨a, C, dx, fs⟩) Wx (.Attribute (.Name x p) n pos) (xfM X.K C fs i n) := by
  refine ⟨⟨fun pins s σ H Q I ⟨W, δ, S, er, hr, h⟩ => ?_⟩⟩
  unfold xfM at h
  by_cases c : (isExn δ[i]? && (xfB X.K C && decide (PySem.W.findIn X.K (.ref C) n = some none))) = true
  · have c' := c
    simp only [Bool.and_eq_true, decide_eq_true_eq] at c'
    obtain ⟨c1, c2, c3⟩ := c'
    have h' : Post X.K (T.sub ⟨a, C, dx, fs⟩) Wx W σ (RV X.K) (M.get (fs.lookup n) S) Q := by rw [if_pos c] at h; exact h
    obtain ⟨hsx, gs, hz1, hz2⟩ := hr.xc.1 ⟨a, C, dx, fs⟩ rfl
    rcases er.2 i _ (isExn_ok c1) with ⟨_, a', e1, e2⟩ | ⟨v, _, e2⟩
    · rw [hsx] at e1
      cases e1
      rcases hz2.look n with ⟨l1, l2⟩ | ⟨d', v', l1, l2, l3⟩
      · dsimp only at l1; rw [l1] at h'; exact h'.elim
      · dsimp only at l1
        rw [l1] at h'
        exact (pe_xf (X := X) (a := a) (xfB_ok c2) c3 hz hf (pe_var (X := X.suite a ((a, oe) :: pn)) (i := i) hN hv hd hcd) hb).run pins s σ H Q I ⟨.ref a, e2, rfl, rfl, dx, gs, v', rfl, hr.fz _ _ hz1, l2, h' W _ H (.refl _) l3 hr⟩
    · cases e2
  · rw [if_neg c] at h; exact h.elim
theorem pem_isx (hz : Zc (.ref C) (some dx) oe) (hf : ∃ vs, oe.data = .fields vs) (hg : Gl X "isinstance") (hm : X.mg "isinstance" = none) (hN : X.N[i]? = some x) (hv : Vis X.env.scope x) (hc : PEm (X.suite a ((a, oe) :: pn)) (T.sub ⟨a, C, dx, fs⟩) Wx c f) (hd : (x == ("__debug__" : Str)) = false := by decide) (hcd : (x == ("__classdict__" : Str)) = false := by decide)
    (hs1 : starEach [.Name x p1, c] X.env = (false, eval (.Name x p1) X.env) :: starEach [c] X.env := by rfl) (hs2 : starEach [c] X.env = (false, eval c X.env) :: starEach [] X.env := by rfl)
    (hpl : (backTo pos (starEach [c] X.env)).any (·.1) = false := by rfl) :
    PEm (X.suite a ((a, oe) :: pn)) (T.sub ⟨a, C, dx, fs⟩) Wx (.Call (.Name "isinstance" p) [.Name x p1, c] [] pos) (isxM X.K C i f) := by
  refine ⟨⟨fun pins_m s σ_m H Q_m I_m ⟨W, δ_m, S, er_m, hr_m, h_m⟩ => ?_⟩⟩
  unfold isxM at h_m
  by_cases cc : (isExn δ_m[i]? && (xfB X.K C && excB X.K C)) = true
  · rw [if_pos cc] at h_m
    have c'_m := cc
    simp only [Bool.and_eq_true] at c'_m
    obtain ⟨c1_m, c2_m, c3_m⟩ := c'_m
    obtain ⟨hsx_m, gs_m, hz1_m, hz2_m⟩ := hr_m.xc.1 ⟨a, C, dx, fs⟩ rfl
    rcases er_m.2 i _ (isExn_ok c1_m) with ⟨_, a'_m, e1_m, e2_m⟩ | ⟨v_m, _, e2_m⟩
    · rw [hsx_m] at e1_m
      cases e1_m
      refine (pe_callB (X := X.suite a ((a, oe) :: pn)) (call_isX (X := X) (a := a) (excB_ok c2_m c3_m) hz hf) hg hm PyProof.Rows.Boot.«isinstance»
        (pa_cons (pe_var (X := X.suite a ((a, oe) :: pn)) (i := i) hN hv hd hcd) (pa_cons hc.run pa_nil hs2) hs1) (by decide) (by decide) hs1 hpl).run pins_m s σ_m H Q_m I_m ?_
      refine ⟨.ref a, e2_m, W, δ_m, S, er_m, hr_m, (Post.bind (R1 := RV X.K) h_m).imp fun v_m H1_m ⟨W1_m, d_m, S1_m, l1_m, r1_m, hr1_m, p1⟩ => ?_⟩
      have p1'_m : Post X.K (T.sub ⟨a, C, dx, fs⟩) Wx W1_m σ_m (RV X.K) (M.get ((kitD X.K C d_m).map D.bl) S1_m) Q_m := p1
      refine ⟨⟨gs_m, hr1_m.fz _ _ (l1_m.z _ _ hz1_m)⟩, ?_⟩
      cases hk : kitD X.K C d_m with
      | none => rw [hk] at p1'_m; exact p1'_m.elim
      | some b_m =>
        rw [hk] at p1'_m
        refine ⟨v_m, b_m, rfl, ?_, p1'_m W1_m _ H1_m (.refl _) (.bl b_m) hr1_m⟩
        cases d_m with
        | tup ds_m =>
          unfold kitD at hk
          dsimp only at hk
          simp only [Option.bind_eq_some_iff] at hk
          obtain ⟨cs_m, k1_m, k2_m⟩ := hk
          cases r1_m with
          | tup ht_m rs_m => exact .inr ⟨_, _, rfl, same_tup hr1_m.fz ht_m, fun us_m hu_m => by rw [clsVs_ok k1_m rs_m hu_m]; exact k2_m⟩
        | adr z_m =>
          unfold kitD at hk
          cases r1_m
          exact .inl ⟨_, fun u_m ru_m => ru_m, hk⟩
        | ty z_m =>
          unfold kitD at hk
          cases r1_m
          exact .inl ⟨_, fun u_m ru_m => ru_m, hk⟩
        | _ => cases hk
    · cases e2_m
  · rw [if_neg cc] at h_m; exact h_m.elim
end
end MM
end
section
set_option Elab.async false
set_option linter.all false
set_option maxRecDepth 100000
set_option maxHeartbeats 2097152
namespace MM
open PySem PySem.Spec PySem.W PyProof.Rows L2 LamX

/-! ### a lambda handed to a def that calls it -/
section
variable {X : Cx} {pins : List (Addr × Obj)} {σ : L2.St} {H HZ : Hp} {s s1 : Shared} {T T' : Tx} {K : PySem.W.Frag} {W : Wd} {S : Store}
/-- x(), in the def that got the lambda -/
theorem pe_actG {CXg : CXT} {Eg : XK} {Ng : List Str} {qg : Str} {sg : Scope} {g f c' : Addr} {cdg pm ctv : Value} {params : Arguments} {body : Expr} {scope : Scope} {k i : Nat} {a : Str} {pn : List (Addr × Obj)} {xe : Value → Shared → Prop} {Wz : WX} {tb : XK → TE} {p1 p2 : Pos} (I : Inv X pins σ H s) (L : LamS X.env.scope scope) (hf : s.heap.get? f = some (PySem.W.kla_obj "<lambda>" (X.env.qual ++ "<lambda>") params body scope (cloFrom X.env.cells scope.names []) pm c' ctv)) (hfn : H f = none) (hfr : f ∉ frs X.stack) (hbind : bindArgs (PySem.W.kla_fn "<lambda>" (X.env.qual ++ "<lambda>") params body scope (cloFrom X.env.cells scope.names []) pm (.ref c') ctv) ⟨[], []⟩ = pure [])
    (tk : Takes ((cxOf CXg X.prog X.w X.K X.mg X.base Ng qg sg g cdg X.A X.stack s H Eg).tr pn xe) Wz) (hr : RoomG (k + 1) (X.A.deeper (envOfC qg sg s.heap.objs.size g cdg)))
    (hbody : ∀ (A : Around) (outer : List Env) (s : Shared) (H : Hp) (E : XK), RoomG k (A.deeper (lamEnv X scope s.heap.objs.size f c')) → PE (lamCx X A outer s H E scope f c') body (tb E)) (hN : Ng[i]? = some a) (hv : Vis sg a) (hd : (a == ("__debug__" : Str)) = false := by decide) (hcd : (a == ("__classdict__" : Str)) = false := by decide) : PE ((cxOf CXg X.prog X.w X.K X.mg X.base Ng qg sg g cdg X.A X.stack s H Eg).tr pn xe) (.Call (.Name a p1) [] [] p2)
      (fun σZ_m HZ Q_m => σZ_m[i]? = some (some (.ref f)) ∧ HZ c' = some (CodeO c' (X.env.qual ++ "<lambda>")) ∧ tb (WE Wz σZ_m) σ HZ Q_m) := by
  refine ⟨fun pinsZ_m sZ_m σZ_m HZ Q_m IZ_m h_m => ?_⟩
  obtain ⟨hs_m, hc_m, ht_m⟩ := h_m
  refine wpAny_Call_Name_kw (thn ((pe_var (pos := p1) (i := i) hN hv hd hcd).run pinsZ_m sZ_m σZ_m HZ (fun v_m H1_m => v_m = .ref f ∧ H1_m = HZ) IZ_m ⟨.ref f, hs_m, rfl, rfl⟩) fun u_m s1 ⟨v_m, H1_m, I1_m, r1_m, q1_m⟩ => ?_)
  obtain ⟨ev_m, eH_m⟩ := q1_m
  subst ev_m
  rw [eH_m] at I1_m
  obtain rfl : u_m = Value.ref f := r1_m
  have of1_m : s1.heap.get? f = some (PySem.W.kla_obj "<lambda>" (X.env.qual ++ "<lambda>") params body scope (cloFrom X.env.cells scope.names []) pm c' ctv) := I1_m.base.keep f _ hf hfn hfr (fun z_m => nomatch (show f ∈ ([] : List Addr) from z_m))
  refine PySem.W.callWith_F0 ⟨_, _, _, _, of1_m⟩ ?_
  have un_m : Un (frs X.stack) [] H HZ s.heap s1.heap := I1_m.base
  obtain ⟨⟨oc_m, vs_m, t_m, hoc_m, hdc_m, hvc_m⟩, _, _⟩ := I1_m.hok c' _ hc_m
  have rc_m : codeAny (model X.prog X.w) (X.A.deeper (envOfC qg sg s.heap.objs.size g cdg)) (.call (.ref f) ⟨[], []⟩) (CR (L2.CX X.prog X.w) (envOfC qg sg s.heap.objs.size g cdg :: X.stack) X.prog X.w HZ s1 Q_m (WE Wz σZ_m)) s1 := by
    refine PySem.W.kla_callFunE hr.r.depth of1_m rfl L.co L.gen rfl ⟨c', oc_m, vs_m, t_m, rfl, hoc_m, hdc_m, hvc_m⟩ ?_
    rw [hbind]
    refine wpAny_pure (wpAny_newFunctionEnv (fun y_m hy_m => (L.own y_m hy_m).2) (fun y_m hy_m => absurd hy_m (by simp)) (fun h₁_m hns_m hsb_m => ⟨I1_m.nolimit.fresh _ hsb_m, ?_⟩) L.kind); show codeAny _ _ (.expr body (lamEnv X scope s1.heap.objs.size f c')) _ _
    have kp_m : ∀ b_m o_m, s1.heap.get? b_m = some o_m → h₁_m.get? b_m = some o_m := fun b_m o_m e_m => hsb_m.extBut b_m o_m (Nat.ne_of_lt (Heap.lt_size e_m)) (Heap.get?_push_of_some _ e_m)
    have J_m : Inv (lamCx X (X.A.deeper (envOfC qg sg s.heap.objs.size g cdg)) (envOfC qg sg s.heap.objs.size g cdg :: X.stack) s1 HZ (WE Wz σZ_m) scope f c') [] σ HZ { s1 with heap := h₁_m, toks := s1.toks + ([] : List (Str × Value)).length } :=
      lam_start2 I L I1_m.env0 hr.r.hd un_m hns_m kp_m
    refine PySem.W.kla_codeExpr (wpAny_mono ((hbody _ _ s1 HZ (WE Wz σZ_m) (hr.deeper _)).run [] _ _ HZ Q_m J_m ht_m) (fun v_m s'_m hq_m => ?_) fun e_m s'_m hq_m => hq_m)
    obtain ⟨w'_m, H'_m, J'_m, rv_m, q_m⟩ := hq_m
    exact ⟨w'_m, H'_m, J'_m.os, J'_m.bare, J'_m.base, J'_m.hok, rv_m, q_m⟩
  refine wpAny_call (codeAny_mono rc_m fun r_m s'_m hq_m => ?_)
  cases r_m with
  | error e_m => exact passAt tk σZ_m pinsZ_m HZ s1 e_m s'_m I1_m hq_m
  | ok fl_m =>
    cases fl_m with
    | ret u_m => exact I1_m.after hq_m
    | next => exact False.elim hq_m
    | brk => exact False.elim hq_m
    | cont => exact False.elim hq_m

/-! ### worlds -/
theorem extN_or {H1 : Hp} {a : Addr} (e : ExtN H H1) : ∀ {o : SO}, o ≠ .dead → OR K W H a o → OR K W H1 a o
  | .dead, h, _ => absurd rfl h
  | .lst _, _, ⟨vs, q, r⟩ => ⟨vs, e _ _ q (fun _ => nofun), r⟩
  | .dct _, _, ⟨vs, q, r⟩ => ⟨vs, e _ _ q (fun _ => nofun), r⟩
  | .ins _ _, _, ⟨dx, vs, q, r⟩ => ⟨dx, vs, e _ _ q (fun _ => nofun), r⟩
theorem HR.ext {H1 : Hp} (h : HR K T W S H) (e : ExtN H H1) (t : LamX.Tabs T.tabs H1) : HR K T W S H1 := by
  refine ⟨fun b o hb => e _ _ (h.fz _ _ hb) fun ps z => ?_, h.zk, fun n o hn hd => ?_, h.inj, fun n a ha => ?_, t, fun b o hb => e _ _ (h.pf _ _ hb) (h.pk _ _ hb).1, h.pd, h.pz, h.xc, h.pk⟩
  · have := h.zk _ _ hb
    rw [z] at this
    exact this
  · obtain ⟨a, h1, h2, h3⟩ := h.ob n o hn hd
    exact ⟨a, h1, h2, extN_or e hd h3⟩
  · obtain ⟨⟨o, h1, h2, h3⟩, h4⟩ := h.al n a ha
    exact ⟨⟨o, e _ _ h1 h2, h2, h3⟩, h4⟩
/-- what stands already is noted as frozen -/
theorem HR.note {p : Addr} {φ : Heap → Prop} (h : HR K T W S H) (e : H p = some (.ext φ)) : ∃ W1 : Wd, W.le W1 ∧ W1.sx = W.sx ∧ HR K T W1 S H ∧ W1.Z p = some (.ext φ) := by
  have hp : W.P p = none := by
    cases q : W.P p with
    | none => rfl
    | some o =>
      have := h.pf _ _ q
      rw [e] at this
      cases this
      exact absurd rfl ((h.pk _ _ q).2 _)
  cases q : W.Z p with
  | some o =>
    have := h.fz _ _ q
    rw [e] at this
    cases this
    exact ⟨W, .refl _, rfl, h, q⟩
  | none =>
    have le : W.le (W.lay p (.ext φ)) := Wd.le_lay q
    have nz : ∀ b u, (W.lay p (.ext φ)).Z b = some u → (b = p ∧ u = .ext φ) ∨ (b ≠ p ∧ W.Z b = some u) := fun b u hb => by
      have hb' : upd W.Z p (.ext φ) b = some u := hb
      by_cases c : b = p
      · subst c; rw [upd_same] at hb'; cases hb'; exact .inl ⟨rfl, rfl⟩
      · rw [upd_ne c] at hb'; exact .inr ⟨c, hb'⟩
    refine ⟨W.lay p (.ext φ), le, rfl, ⟨fun b u hb => ?_, fun b u hb => ?_, fun n o hn hd => ?_, h.inj, h.al, h.tb, h.pf, h.pd, fun b u hb => ?_, h.xc.mono le.tole0, h.pk⟩, upd_same⟩
    · rcases nz b u hb with ⟨rfl, rfl⟩ | ⟨_, z⟩
      · exact e
      · exact h.fz _ _ z
    · rcases nz b u hb with ⟨rfl, rfl⟩ | ⟨_, z⟩
      · trivial
      · exact h.zk _ _ z
    · obtain ⟨a, h1, h2, h3⟩ := h.ob n o hn hd
      refine ⟨a, h1, ?_, h3.mono le.tole0 rfl⟩
      have ne : a ≠ p := fun z => by
        obtain ⟨⟨w, q1, _, q2⟩, _⟩ := h.al n a h1
        rw [z, e] at q1
        cases q1
        exact q2 _ rfl
      exact (upd_ne ne).trans h2
    · rcases nz b u hb with ⟨rfl, rfl⟩ | ⟨_, z⟩
      · exact hp
      · exact h.pz _ _ z
/-- a contract under other tables' company -/
theorem spM_tx {n : Nat} {F : List D → M D} (ht : T.tabs = T'.tabs) (h1 : T.ex = none) (h2 : T.w0 = none) {vs : List V} {Q : VK} {E : XK} (h : spM K T' n F vs H Q E) : spM K T n F vs H Q E := by
  obtain ⟨W, ds, S, hl, rv, hr, p⟩ := h
  have xcT : ∀ W' : Wd, XC K T W' := fun W' => ⟨fun q hq => (by rw [h1] at hq; cases hq), fun W0 h0 => (by rw [h2] at h0; cases h0)⟩
  refine ⟨W, ds, S, hl, rv, hr.sxm rfl rfl rfl ht.symm (xcT _), ?_⟩
  cases q : F ds S with
  | ok a S' => rw [q] at p; exact fun W' v H' l x y => p W' v H' l x (y.sxm rfl rfl rfl ht (hr.xc.mono l.tole0))
  | exc C fs S' => rw [q] at p; exact fun W' dx H' l x y => p W' dx H' l x (y.sxm rfl rfl rfl ht (hr.xc.mono l.tole0))
  | bad => rw [q] at p; exact p
theorem FnG.tx {P : Program} {w : World} {K : PySem.W.Frag} {mg : Str → Option Value} {base : Heap} {k n : Nat} {f : Addr} {fd : FuncData} {ps : List Str} {F : List D → M D} (G : FnG P w K mg base (L2.CX P w) k f fd ps (spM K T n F)) (ht : T.tabs = T'.tabs) (h1 : T.ex = none) (h2 : T.w0 = none) :
    FnG P w K mg base (L2.CX P w) k f fd ps (spM K T' n F) :=
  ⟨fun vs H Q E h => G.len vs H Q E (spM_tx ht h1 h2 h), fun A outer s H args us vs Q E hr e0 hb r h => G.run A outer s H args us vs Q E hr e0 hb r (spM_tx ht h1 h2 h)⟩
end

/-! ### the rule -/
/-- the def that got the lambda calls it: its value is what th tells -/
def eThunk (i : Nat) (th : M D) : Env' → M D := fun δ => if isExn δ[i]? = true then th else M.bad
abbrev cxM (P : Program) (w : World) (K : PySem.W.Frag) (mg : Str → Option Value) (base : Heap) (N : List Str) (q : Str) (sc : Scope) (f : Addr) (cd : Value) (A : Around) (outer : List Env) (s : Shared) (H : Hp) (E : XK) : Cx := cxOf (L2.CX P w) P w K mg base N q sc f cd A outer s H E
/-- the contract of a def that calls what it got -/
def GivesM (P : Program) (w : World) (K : PySem.W.Frag) (mg : Str → Option Value) (base : Heap) (T : Tx) (k : Nat) (Ng : List Str) (x : Str) (sg : Scope) (g : Addr) (cdg : Value) (bg : List Stmt) (a : Str) (gG : M D → SM) : Prop :=
  ∀ (A : Around) (outer : List Env) (s : Shared) (H : Hp) (E : XK) (T' : Tx) (th : M D), T'.tabs = T.tabs → T'.ex = none → RoomG k (A.deeper (envOfC x sg s.heap.objs.size g cdg)) →
    (∀ (W : WX) (pn : List (Addr × Obj)) (xe : Value → Shared → Prop) (p1 p2 : Pos), Takes ((cxM P w K mg base Ng x sg g cdg A outer s H E).tr pn xe) W → PEm ((cxM P w K mg base Ng x sg g cdg A outer s H E).tr pn xe) T' W (.Call (.Name a p1) [] [] p2) (eThunk 0 th)) →
    PSsm (cxM P w K mg base Ng x sg g cdg A outer s H E) T' (fun c d _ H => E c d H) bg (gG th)
def startX (n : Nat) : Env' := some .exn :: List.replicate (n - 1) none
def eLam (n : Nat) (gG : M D → SM) (fb : Env' → M D) : Env' → M D := fun δ S => bodyM (gG (fb (δ.map unX)) (startX n) S)
section
variable {X : Cx} {T : Tx} {Wx : WX}
theorem pem_lamcall {x a : Str} {g c P : Addr} {k : Nat} {pg : Arguments} {bg : List Stmt} {sg : Scope} {dV kV doc pm cdv ct oc : Value} {an od : Option Addr} {osl : Array (Option Value)} {Ng : List Str} {gG : M D → SM} {fb : Env' → M D}
    {params : Arguments} {body : Expr} {scope : Scope} {p lpos pos : Pos} (hT : T.ex = none) (hg : Gl X x) (hm : X.mg x = some (.ref g)) (hk : PySem.W.keepIn X.K (.ref g) = true) (lk : X.K.lookup g = some ⟨oc, od, .func (PySem.W.fnOf x x pg bg sg dV kV doc pm an cdv ct), osl⟩) (hcg : PySem.W.codeIn X.K cdv x = true) (hb : L2.Binds X.K (PySem.W.fnOf x x pg bg sg dV kV doc pm an cdv ct) [a] []) (Sg : FnScope Ng [a] sg) (hNg : Ng[0]? = some a) (hva : Vis sg a)
    (hG : GivesM X.prog X.w X.K X.mg X.base T (k + 1) Ng x sg g cdv bg a gG)
    (TB : TabB X.base X.mg c P) (hcode : X.env.code = .ref c) (hmT : (P, X.env.qual ++ "<lambda>") ∈ T.tabs) (hu : ∀ p ∈ T.tabs, p.1 = P → p.2 = X.env.qual ++ "<lambda>") (hr : RoomG (k + 2) X.A) (tk : Takes X Wx) (L : LamS X.env.scope scope) (hdef : defaultsOf params X.env = ([], [])) (hbind : ∀ (q : Str) (cl : List (Str × Addr)) (pm cv ctv : Value), bindArgs (PySem.W.kla_fn "<lambda>" q params body scope cl pm cv ctv) ⟨[], []⟩ = pure [])
    (hbody : ∀ (A : Around) (outer : List Env) (s : Shared) (H : Hp) (E : XK) (f c' : Addr) (T' : Tx), T'.tabs = T.tabs → T'.ex = none → RoomG k (A.deeper (lamEnv X scope s.heap.objs.size f c')) → PEm (lamCx X A outer s H E scope f c') T' (fun c d _ H => E c d H) body fb)
    (hdb : (x == ("__debug__" : Str)) = false := by decide) (hd_m : (a == ("__debug__" : Str)) = false := by decide) (hcd : (a == ("__classdict__" : Str)) = false := by decide) :
    PEm X T Wx (.Call (.Name x p) [.Lambda params body scope lpos] [] pos) (eLam Ng.length gG fb) := by
  refine ⟨⟨fun pins s σ H Q_m I_m ⟨W, δ_m, S, er_m, hh_m, h_m⟩ => ?_⟩⟩
  refine wpAny_Call_Name_kw (ld_glob I_m hg hm ?_ hdb)
  refine PySem.W.callWith_K (h₀ := X.base) I_m.ok.mod.kin hk ?_ (by rfl) (by rfl); show wpAny _ _ (spliced ((false, eval (.Lambda params body scope lpos) X.env) :: backTo pos (starEach [] X.env))) _ _ s
  refine Calls.spliced_cons (lam_make2 I_m TB hcode hmT hu hh_m.tb hdef (L.has I_m.ok) fun f c' pm'_m ctv H1_m s'_m I1_m eN_m T1_m hf_m hfn_m hfr_m hco_m => ?_)
  refine Calls.spliced_nil ⟨I1_m.kIn, ?_⟩
  obtain ⟨W1_m, l1_m, esx_m, hh1_m, hz1_m⟩ := (hh_m.ext eN_m T1_m).note hco_m
  let W2_m : Wd := W1_m.inx f
  let T' : Tx := ⟨T.tabs, none, some W2_m⟩
  have xc2_m : XC X.K T' W2_m := by
    refine ⟨fun q hq_m => ?_, fun W0_m h0_m => ?_⟩
    · exact nomatch (show (none : Option Ex) = some q from hq_m)
    · have e_m : W2_m = W0_m := Option.some.inj h0_m
      rw [← e_m]
      exact .refl _
  have hh2_m : HR X.K T' W2_m S H1_m := HR.sxm (W' := W2_m) (T' := T') hh1_m rfl rfl rfl rfl xc2_m
  have act_m : ∀ (W : WX) (pn_m : List (Addr × Obj)) (xe_m : Value → Shared → Prop) (p1_m p2_m : Pos), Takes ((cxM X.prog X.w X.K X.mg X.base Ng x sg g cdv X.A X.stack s'_m H1_m (WE Wx σ)).tr pn_m xe_m) W →
      PEm ((cxM X.prog X.w X.K X.mg X.base Ng x sg g cdv X.A X.stack s'_m H1_m (WE Wx σ)).tr pn_m xe_m) T' W (.Call (.Name a p1_m) [] [] p2_m) (eThunk 0 (fb (δ_m.map unX))) := fun Wz_m pn_m xe_m p1_m p2_m tkz_m => by
    refine ⟨⟨fun pinsZ_m sZ_m σZ_m HZ QZ_m IZ_m ⟨WZ_m, δZ_m, SZ_m, erZ_m, hrZ_m, hZ_m⟩ => ?_⟩⟩
    unfold eThunk at hZ_m
    by_cases cx : isExn δZ_m[0]? = true
    · rw [if_pos cx] at hZ_m
      have leZ_m : W2_m.le0 WZ_m := hrZ_m.xc.2 W2_m rfl
      have es_m : WZ_m.sx = some f := leZ_m.s f rfl
      rcases erZ_m.2 0 _ (isExn_ok cx) with ⟨_, a'_m, e1_m, e2_m⟩ | ⟨v_m, _, e2_m⟩
      · rw [es_m] at e1_m
        cases e1_m
        refine (pe_actG (tb := fun E => tE X.K T' (fun c d _ H => E c d H) fb) I1_m L hf_m hfn_m hfr_m (hbind _ _ _ _ _) tkz_m (hr.deeper _) (fun A outer s H E hr2_m => (hbody A outer s H E f c' T' rfl rfl hr2_m).run) hNg hva hd_m hcd).run pinsZ_m sZ_m σZ_m HZ QZ_m IZ_m ⟨e2_m, hrZ_m.fz _ _ (leZ_m.z _ _ hz1_m), WZ_m, δ_m.map unX, SZ_m, ?_, hrZ_m, ?_⟩
        · exact (ER.un (W := W1_m) (W' := W2_m) rfl rfl (er_m.mono l1_m)).mono0 leZ_m
        · cases q : fb (δ_m.map unX) SZ_m with
          | ok d S'_m => rw [q] at hZ_m; exact hZ_m
          | exc C_m fs_m S'_m => rw [q] at hZ_m; exact hZ_m
          | bad => rw [q] at hZ_m; exact hZ_m
      · cases e2_m
    · rw [if_neg cx] at hZ_m; exact hZ_m.elim
  have rc_m : codeAny (model X.prog X.w) X.A (.call (.ref g) ⟨[.ref f], []⟩) (CR (L2.CX X.prog X.w) X.stack X.prog X.w H1_m s'_m Q_m (WE Wx σ)) s'_m := by
    refine run_ofS (N := Ng) (ps := [a]) (us := [.ref f]) (vs := [.ref f]) lk hcg Sg hr.r I1_m.env0 (hb s'_m [.ref f] I1_m.kIn rfl) (.cons rfl .nil) rfl fun hr'_m => ?_
    refine ⟨_, (hG X.A X.stack s'_m H1_m (WE Wx σ) T' (fb (δ_m.map unX)) rfl rfl (hr.deeper _) act_m).run, W2_m, startX Ng.length, S, ?_, hh2_m, ?_⟩
    · have hn_m : 0 < Ng.length := (List.getElem?_eq_some_iff.mp hNg).1
      refine ⟨by unfold startX L2.start; simp, fun i_m d hd_m => ?_⟩
      unfold startX at hd_m
      cases i_m with
      | zero => cases hd_m; exact .inl ⟨rfl, f, rfl, rfl⟩
      | succ j_m =>
        simp only [List.getElem?_cons_succ, List.getElem?_replicate] at hd_m
        split at hd_m <;> cases hd_m
    · have h'_m : Post X.K T Wx W σ (RV X.K) (bodyM (gG (fb (δ_m.map unX)) (startX Ng.length) S)) Q_m := h_m
      have le_m : ∀ W'_m : Wd, W2_m.le W'_m → W.le (W'_m.outx W) := fun W'_m l_m => ⟨⟨l1_m.z.trans l_m.z, fun n_m x q => l_m.r n_m x (l1_m.r n_m x q), fun _ h_m => h_m⟩, l_m.p.trans l1_m.p⟩
      have xc_m : ∀ W'_m : Wd, W2_m.le W'_m → XC X.K T (W'_m.outx W) := fun W'_m l_m => hh_m.xc.mono (le_m W'_m l_m).tole0
      cases q : gG (fb (δ_m.map unX)) (startX Ng.length) S with
      | nx δ'_m S'_m => rw [q] at h'_m; exact fun W'_m σ'_m H'_m l_m _ x => h'_m (W'_m.outx W) _ H'_m (le_m _ l_m) .non (HR.sxm (W' := W'_m.outx W) (T' := T) x rfl rfl rfl rfl (xc_m _ l_m))
      | rt d S'_m => rw [q] at h'_m; exact fun W'_m v_m H'_m l_m rv_m x => h'_m (W'_m.outx W) _ H'_m (le_m _ l_m) (VR.sxm (W := W'_m) (W' := W'_m.outx W) rfl rfl rv_m) (HR.sxm (W' := W'_m.outx W) (T' := T) x rfl rfl rfl rfl (xc_m _ l_m))
      | bk δ'_m S'_m => rw [q] at h'_m; exact h'_m.elim
      | ct δ'_m S'_m => rw [q] at h'_m; exact h'_m.elim
      | bad => rw [q] at h'_m; exact h'_m.elim
      | exc C_m fs_m δ'_m S'_m =>
        rw [q] at h'_m
        exact fun W'_m σ'_m dx_m H'_m l_m _ ⟨d, gs_m, e1_m, e2_m, e3_m⟩ x => h'_m (W'_m.outx W) dx_m H'_m (le_m _ l_m) ⟨d, gs_m, e1_m, e2_m, FR.sxm (W := W'_m) (W' := W'_m.outx W) rfl rfl e3_m⟩ (HR.sxm (W' := W'_m.outx W) (T' := T) x rfl rfl rfl rfl (xc_m _ l_m))
  refine wpAny_call (codeAny_mono rc_m fun r_m s2_m hq_m => ?_)
  cases r_m with
  | error e_m => exact passAt tk σ pins H1_m s'_m e_m s2_m I1_m hq_m
  | ok fl_m =>
    cases fl_m with
    | ret u_m => exact I1_m.after hq_m
    | next => exact False.elim hq_m
    | brk => exact False.elim hq_m
    | cont => exact False.elim hq_m
end
end MM
end
section
set_option Elab.async false
set_option linter.all false
set_option maxRecDepth 100000
set_option maxHeartbeats 2097152
namespace MM
open PySem PySem.Spec PySem.W PyProof.Rows L2 LamX
theorem no_exc {P : Program} {w : World} {outer : List Env} {H : Hp} {s s' : Shared} {e : Value} (h : L2.CX P w outer H s (fun _ _ _ => False) e s') : False := by
  obtain ⟨_, _, _, _, _, _, _, _, _, _, _, _, z_m⟩ := h
  exact z_m
/-! ### the end of a law row (the road of HandS.EndTab.law_callTs, for contracts with no repr under way) -/
theorem law_callG {P : Program} {w : World} {K : PySem.W.Frag} {mg mb : Str → Option Value} {k : Nat} {fa a : Addr} {cs : List (Addr × Addr)} {fd : FuncData} {x : Str} {sp : Sp} {s₁ : Shared} {vs : List Value} {ns : List Int} (KX : K.In s₁.heap) (hns : s₁.heap.Ns mainGlobals mg) (hb : s₁.heap.Ns builtinsNs mb) (hbb : ∀ x : Str, x ≠ "__name__" → mb x = bootBuiltins x) (hlim : s₁.heap.NoLimit) (hg : s₁.gens = #[]) (hT : ∀ p ∈ cs, s₁.heap.get? p.2 = some { cls := .none, data := .fields #[] }) (nT : ∀ p ∈ cs, K.lookup p.2 = none) (C : ∀ p ∈ cs, PySem.W.CodeHd s₁.heap p.1 p.2)
    (hbm : ∃ (bm_m : Addr) (ob_m : Obj), mg "__builtins__" = some (.ref bm_m) ∧ bm_m ≠ builtinsNs ∧ s₁.heap.get? bm_m = some ob_m ∧ ob_m.cls = .type "module" ∧ ob_m.dict = some builtinsNs ∧ ob_m.data = .plain)
    (ha : s₁.heap.get? a = some { cls := .type "list", data := .seq vs.toArray }) (hi : IntsAre vs ns) (hl : ns.length ≤ sizeLine) (hr : RoomG k callerA)
    (F : ∀ base : Heap, K.In base → base.Ns mainGlobals mg → (∀ p ∈ cs, TabB base mg p.1 p.2) → FnG P w K mg base (L2.CX P w) k fa fd [x] sp) (hbind : ∀ (s : Shared) (u_m : Value), BindsTo s fd ⟨[u_m], []⟩ [(x, u_m)])
    (hsp : ∀ H_m : Hp, (∀ p ∈ cs, H_m p.2 = some (.tbl #[])) → SqL K H_m a (ns.map V.int) → sp [.ref a] H_m (fun v_m _ => v_m = .bl true) fun _ _ _ => False) :
    codeAny (model P w) callerA (.call (.ref fa) ⟨[.ref a], []⟩) (fun r_m s'_m => r_m = .ok (.ret (.bool true)) ∧ OldK s₁.heap s'_m.heap ∧ s'_m.os = s₁.os ∧ AllBare s'_m.gens) s₁ := by
  have rv_m := vals_ints hi
  have lenV_m := hi.length
  have isT_m : ∀ b_m : Addr, b_m ∈ cs.map (·.2) → s₁.heap.get? b_m = some { cls := .none, data := .fields #[] } := fun b_m hb => by
    obtain ⟨p, hp_m, e_m⟩ := List.mem_map.mp hb
    rw [← e_m]
    exact hT p hp_m
  have aT_m : a ∉ cs.map (·.2) := fun z_m => by
    have q_m := isT_m a z_m
    rw [ha] at q_m
    have z'_m : Data.seq vs.toArray _ = Data.fields #[] := congrArg Obj.data (Option.some.inj q_m)
    cases z'_m
  have memT_m : ∀ p ∈ cs, p.2 ∈ cs.map (·.2) := fun p hp_m => List.mem_map.mpr ⟨p, hp_m, rfl⟩
  -- tracked: the tables, and at most the script
  have core_m : ∀ H_m : Hp, (∀ p ∈ cs, H_m p.2 = some (.tbl #[])) → (∀ b_m, H_m b_m = none ∨ b_m ∈ cs.map (·.2) ∨ ∃ o_m xs_m, H_m b_m = some (.frz o_m (.lst xs_m))) → SqL K H_m a (ns.map V.int) → HOk P w H_m s₁.heap → (∀ b_m, H_m b_m ≠ none → b_m = a ∨ b_m ∈ cs.map (·.2)) → (H_m a ≠ none → K.lookup a = none) →
      codeAny (model P w) callerA (.call (.ref fa) ⟨[.ref a], []⟩) (fun r_m s'_m => r_m = .ok (.ret (.bool true)) ∧ OldK s₁.heap s'_m.heap ∧ s'_m.os = s₁.os ∧ AllBare s'_m.gens) s₁ := by
    intro H_m hH_m hO_m hS_m hok_m hA_m hK_m
    have base_of_m : ∀ {b_m : Addr} {o_m : Obj}, s₁.heap.get? b_m = some o_m → H_m b_m = none → (hidT s₁.heap H_m).get? b_m = some o_m := fun e_m n_m => hidT_get e_m n_m
    have noD_m : ∀ {b_m : Addr} {o_m : Obj}, s₁.heap.get? b_m = some o_m → (∀ vs n_m, o_m.data ≠ .seq vs n_m) → o_m.data ≠ .fields #[] → H_m b_m = none := fun {b_m o_m} e_m h1_m h2_m => by
      cases q_m : H_m b_m with
      | none => rfl
      | some u_m =>
        rcases hA_m b_m (by rw [q_m]; simp) with e'_m | e'_m
        · rw [e'_m, ha] at e_m
          cases e_m
          exact (h1_m _ _ rfl).elim
        · rw [isT_m b_m e'_m] at e_m
          cases e_m
          exact (h2_m rfl).elim
    have noA_m : ∀ {b_m : Addr} {o_m : Obj} {es_m : Array DictEntry} {ep_m : Nat}, s₁.heap.get? b_m = some o_m → o_m.data = .dict es_m ep_m → H_m b_m = none := fun {b_m o_m es_m ep_m} e_m d_m => by
      refine noD_m e_m (fun vs n_m z_m => ?_) fun z_m => ?_
      · rw [d_m] at z_m
        cases z_m
      · rw [d_m] at z_m
        cases z_m
    have nsK_m : ∀ {b_m : Addr} {m_m : Str → Option Value}, s₁.heap.Ns b_m m_m → (hidT s₁.heap H_m).Ns b_m m_m := fun {b_m m_m} ⟨o_m, es_m, ep_m, e_m, d_m, r_m⟩ => ⟨o_m, es_m, ep_m, base_of_m e_m (noA_m e_m d_m), d_m, r_m⟩
    have hKb_m : K.In (hidT s₁.heap H_m) := fun b_m o_m e_m => base_of_m (KX b_m o_m e_m) (by
      cases q_m : H_m b_m with
      | none => rfl
      | some u_m =>
        rcases hA_m b_m (by rw [q_m]; simp) with e'_m | e'_m
        · rw [e'_m] at e_m q_m
          rw [hK_m (by rw [q_m]; simp)] at e_m
          cases e_m
        · obtain ⟨p, hp_m, ep_m⟩ := List.mem_map.mp e'_m
          rw [← ep_m, nT p hp_m] at e_m
          cases e_m)
    have hM_m : L2.Mod K mg (hidT s₁.heap H_m) := ⟨hKb_m, nsK_m hns, ⟨mb, nsK_m hb, hbb⟩, let ⟨mc_m, h1_m, h2_m⟩ := hlim; ⟨mc_m, nsK_m h1_m, h2_m⟩⟩
    have TB_m : ∀ p ∈ cs, TabB (hidT s₁.heap H_m) mg p.1 p.2 := fun p hp_m => by
      have hTp_m := hT p hp_m
      refine ⟨?_, ?_, fun z_m => ?_⟩
      · obtain ⟨o_m, us_m, file_m, tf_m, flags_m, tg_m, inF_m, text_m, tt_m, e1_m, r1_m, r2_m, r3_m, r4_m, r5_m, r6_m, r7_m, r8_m, hne_m⟩ := C p hp_m
        refine ⟨o_m, us_m, file_m, tf_m, flags_m, tg_m, inF_m, text_m, tt_m, base_of_m e1_m (noD_m e1_m (fun vs n_m z_m => ?_) fun z_m => ?_), r1_m, r2_m, r3_m, r4_m, r5_m, r6_m, r7_m, r8_m, hne_m⟩
        · rw [r2_m] at z_m
          cases z_m
        · rw [r2_m] at z_m
          cases z_m
          simp at r3_m
      · obtain ⟨bm_m, ob_m, b1_m, b2_m, b3_m, b4_m, b5_m, b6_m⟩ := hbm
        have nG_m : bm_m ≠ mainGlobals := fun q_m => by
          obtain ⟨o_m, es_m, ep_m, e_m, hd_m, _⟩ := hns
          rw [q_m, e_m] at b3_m
          cases b3_m
          rw [hd_m] at b6_m
          cases b6_m
        have nP_m : bm_m ≠ p.2 := fun q_m => by
          rw [q_m, hTp_m] at b3_m
          cases b3_m
          cases b6_m
        refine ⟨bm_m, ob_m, b1_m, b2_m, nG_m, nP_m, base_of_m b3_m (noD_m b3_m (fun vs n_m z_m => ?_) fun z_m => ?_), b4_m, b5_m, b6_m⟩
        · rw [b6_m] at z_m
          cases z_m
        · rw [b6_m] at z_m
          cases z_m
      · obtain ⟨o_m, es_m, ep_m, e_m, hd_m, _⟩ := hns
        rw [z_m, hTp_m] at e_m
        cases e_m
        cases hd_m
    have e0_m : Env0 P w K mg (hidT s₁.heap H_m) callerA [] s₁ H_m := ⟨rfl, hM_m, fun b_m o_m e_m => of_hidT e_m, Nat.le_of_eq (hidT_size _ _), trivial, fun b_m hb => absurd (show b_m ∈ ([] : List Addr) from hb) (by simp), hok_m, .of_eq hg⟩
    refine codeAny_mono ((F _ hKb_m (nsK_m hns) TB_m).run callerA [] s₁ H_m ⟨[.ref a], []⟩ [.ref a] [.ref a] _ _ hr e0_m (hbind s₁ (.ref a)) (.cons rfl .nil) (hsp H_m hH_m hS_m)) fun r_m s'_m h_m => ?_
    cases r_m with
    | error e_m => exact (no_exc h_m).elim
    | ok fl_m =>
      cases fl_m with
      | next => exact False.elim h_m
      | brk => exact False.elim h_m
      | cont => exact False.elim h_m
      | ret u_m =>
        obtain ⟨v_m, H'_m, os_m, bare_m, un_m, hok'_m, r'_m, q_m⟩ := h_m
        have q'_m : v_m = .bl true := q_m
        subst q'_m
        obtain rfl : u_m = Value.bool true := r'_m
        have key_m : ∀ b_m o_m, b_m ∉ cs.map (·.2) → s₁.heap.get? b_m = some o_m → s'_m.heap.get? b_m = some o_m := fun b_m o_m nb_m e_m => by
          cases q_m : H_m b_m with
          | none => exact un_m.keep b_m o_m e_m q_m (by intro z_m; exact absurd (show b_m ∈ ([] : List Addr) from z_m) (by simp)) (by simp)
          | some u_m =>
            rcases hO_m b_m with z_m | z_m | ⟨ob_m, xs_m, z_m⟩
            · rw [q_m] at z_m; cases z_m
            · exact absurd z_m nb_m
            · have z2_m := un_m.frzs b_m ob_m _ z_m
              obtain ⟨e1_m, _⟩ := hok_m b_m _ z_m
              obtain ⟨e2_m, _⟩ := hok'_m b_m _ z2_m
              rw [e_m] at e1_m; cases e1_m
              exact e2_m
        have grown_m : ∀ p ∈ cs, ∃ more_m : Array Value, s'_m.heap.get? p.2 = some { cls := .none, data := .fields more_m } := fun p hp_m => by
          obtain ⟨more_m, z_m⟩ := un_m.tbls p.2 #[] (hH_m p hp_m)
          exact ⟨_, hok'_m p.2 _ z_m⟩
        refine ⟨rfl, ⟨fun b_m o_m e_m => ?_, fun b_m o_m e_m => ?_⟩, os_m, bare_m⟩
        · by_cases hb : b_m ∈ cs.map (·.2)
          · obtain ⟨p, hp_m, ep_m⟩ := List.mem_map.mp hb
            obtain ⟨more_m, hm_m⟩ := grown_m p hp_m
            rw [← ep_m] at e_m ⊢
            rw [hT p hp_m] at e_m
            cases e_m
            exact .inr (.inl ⟨((C p hp_m).tab (hT p hp_m)).isCodeTable, rfl, #[], more_m, rfl, by rw [Array.empty_append]; exact hm_m⟩)
          · exact .inl (key_m b_m o_m hb e_m)
        · by_cases hb : b_m ∈ cs.map (·.2)
          · obtain ⟨p, hp_m, ep_m⟩ := List.mem_map.mp hb
            obtain ⟨more_m, hm_m⟩ := grown_m p hp_m
            rw [← ep_m]
            exact ⟨_, hm_m⟩
          · exact ⟨o_m, key_m b_m o_m hb e_m⟩
  cases hk : K.lookup a with
  | some o_m =>
    have e_m := KX a o_m hk
    rw [ha] at e_m
    cases e_m
    refine core_m (fun b_m => if b_m ∈ cs.map (·.2) then some (.tbl #[]) else none) (fun p hp_m => if_pos (memT_m p hp_m)) (fun b_m => ?_) (.inr ⟨_, vs.toArray, _, hk, rfl, rfl, rfl, by rw [List.size_toArray, lenV_m]; exact hl, by simpa using rv_m⟩) (fun b_m u_m z_m => ?_) (fun b_m z_m => ?_) fun z_m => absurd (show (if a ∈ cs.map (·.2) then some (HO.tbl #[]) else none) = none from if_neg aT_m) z_m
    · by_cases hb : b_m ∈ cs.map (·.2)
      · exact .inr (.inl hb)
      · exact .inl (if_neg hb)
    · by_cases hb : b_m ∈ cs.map (·.2)
      · have z'_m := (if_pos hb).symm.trans z_m
        cases z'_m
        exact isT_m b_m hb
      · have z'_m := (if_neg hb).symm.trans z_m
        cases z'_m
    · by_cases hb : b_m ∈ cs.map (·.2)
      · exact .inr hb
      · exact absurd (if_neg hb) z_m
  | none =>
    refine core_m (fun b_m => if b_m = a then some (.frz { cls := .type "list", data := .seq vs.toArray } (.lst (ns.map V.int))) else if b_m ∈ cs.map (·.2) then some (.tbl #[]) else none) (fun p hp_m => (if_neg (show ¬ p.2 = a from fun z_m => aT_m (by rw [← z_m]; exact memT_m p hp_m))).trans (if_pos (memT_m p hp_m))) (fun b_m => ?_)
      (.inl (.inr ⟨{ cls := .type "list", data := .seq vs.toArray }, if_pos rfl⟩)) (fun b_m u_m z_m => ?_) (fun b_m z_m => ?_) fun _ => hk
    · by_cases hb : b_m = a
      · exact Or.inr (Or.inr ⟨_, _, if_pos hb⟩)
      · by_cases hb2 : b_m ∈ cs.map (·.2)
        · exact .inr (.inl hb2)
        · exact Or.inl ((if_neg hb).trans (if_neg hb2))
    · by_cases hb : b_m = a
      · have z'_m := (if_pos hb).symm.trans z_m
        cases z'_m
        rw [hb]
        exact ⟨ha, by rw [List.length_map]; exact hl, vs, _, rv_m, ha⟩
      · have z1_m := (if_neg hb).symm.trans z_m
        by_cases hb2 : b_m ∈ cs.map (·.2)
        · have z'_m := (if_pos hb2).symm.trans z1_m
          cases z'_m
          exact isT_m b_m hb2
        · have z'_m := (if_neg hb2).symm.trans z1_m
          cases z'_m
    · by_cases hb : b_m = a
      · exact .inl hb
      · by_cases hb2 : b_m ∈ cs.map (·.2)
        · exact .inr hb2
        · exact absurd ((if_neg hb).trans (if_neg hb2)) z_m
def LawAtG (l : PySem.W.OpenLaw) (w : World) (K : PySem.W.Frag) (k n : Nat) (x : Str) (mg : Str → Option Value) (fa : Addr) (h : Heap) : Prop := ∃ (fd : FuncData) (cs : List (Addr × Addr)) (sp : Sp), (∀ p ∈ cs, h.get? p.2 = some { cls := .none, data := .fields #[] }) ∧ (∀ p ∈ cs, K.lookup p.2 = none) ∧ (∀ p ∈ cs, PySem.W.CodeHd h p.1 p.2) ∧ (∀ (s : Shared) (u : Value), BindsTo s fd ⟨[u], []⟩ [(x, u)]) ∧
    (∀ (H : Hp) (a : Addr) (ns : List Int), ns.length ≤ n → (∀ z ∈ ns, Builtin.Int.intBits z ≤ 1048576) → (∀ p ∈ cs, H p.2 = some (.tbl #[])) → SqL K H a (ns.map V.int) → sp [.ref a] H (fun v_m _ => v_m = .bl true) fun _ _ _ => False) ∧
    ∀ base : Heap, K.In base → base.Ns mainGlobals mg → (∀ p ∈ cs, TabB base mg p.1 p.2) → FnG l.prog w K mg base (L2.CX l.prog w) k fa fd [x] sp
theorem walk_G {l : PySem.W.OpenLaw} {n k : Nat} {q : Program} {loose : List Str} {XP : (Str → Option Value) → Heap → Prop} {YP : World → Heap → Prop} {d : DefRec} {x : Str}
    (hn : l.most = some n) (hn2 : n ≤ sizeLine) (hdf : d.params.defaults = []) (hr : RoomG k callerA)
    (F : ∀ (w : World) (mg : Str → Option Value) (fa : Addr) (h : Heap), YP w h → h.Ns mainGlobals mg → mg d.name = some (.ref fa) → ∃ K : PySem.W.Frag, K.In h ∧ LawAtG l w K k n x mg fa h) : PySem.W.WalkO q loose XP YP l.row.toRowW d [] (fun f vs => PySem.call f vs) := by
  refine Att.attach_callB hn hdf fun w s₀_m s₁_m mg mb_m fa o_m pm_m cd_m doc_m a_m vs ns_m G_m Y_m ho_m hd_m hcd_m hmg_m hobj_m hints_m hlen_m hbits_m hg_m => ?_
  obtain ⟨K, KX_m, fd_m, cs_m, sp_m, hT_m, nT_m, C_m, hb_m, hsp_m, hF_m⟩ := F w mg fa _ Y_m G_m.T.g hmg_m
  exact law_callG KX_m G_m.T.g G_m.T.b G_m.T.builtins G_m.T.nolimit hg_m hT_m nT_m C_m G_m.T.bmain hobj_m hints_m (Nat.le_trans hlen_m hn2) hr hF_m hb_m (fun H_m hH_m hS_m => hsp_m H_m a_m ns_m hlen_m hbits_m hH_m hS_m)
end MM
end
section
set_option Elab.async false
set_option linter.all false
set_option maxRecDepth 100000
set_option maxHeartbeats 2097152
namespace MM
open PySem PySem.Spec PySem.W PyProof.Rows L2 LamX He

/-! ### defs, methods, classes as packages -/
structure CalG (P : Program) (w : World) (K : PySem.W.Frag) (mg : Str → Option Value) (base : Heap) (T : Tx) (k : Nat) (x : Str) (n : Nat) (F : List D → M D) : Prop where
  ex : ∃ (f : Addr) (fd : FuncData) (ps : List Str), FnM P w K mg base T k f fd ps F ∧ mg x = some (.ref f) ∧ PySem.W.keepIn K (.ref f) = true ∧ Binds K fd ps [] ∧ ps.length = n ∧
    f = ga K x ∧ ∀ (s : Shared) (us : List Value), us.length = ps.length → BindsTo s fd ⟨[], ps.zip us⟩ (ps.zip us)
/-- .. with its parameters' names told -/
structure CalK (P : Program) (w : World) (K : PySem.W.Frag) (mg : Str → Option Value) (base : Heap) (T : Tx) (k : Nat) (x : Str) (ps : List Str) (F : List D → M D) : Prop where
  ex : ∃ (f : Addr) (fd : FuncData), FnM P w K mg base T k f fd ps F ∧ mg x = some (.ref f) ∧ PySem.W.keepIn K (.ref f) = true ∧ Binds K fd ps [] ∧
    f = ga K x ∧ ∀ (s : Shared) (us : List Value), us.length = ps.length → BindsTo s fd ⟨[], ps.zip us⟩ (ps.zip us)
structure MetG (P : Program) (w : World) (K : PySem.W.Frag) (mg : Str → Option Value) (base : Heap) (T : Tx) (k : Nat) (C : Addr) (m : Str) (n : Nat) (F : List D → M D) : Prop where
  ex : ∃ (f : Addr) (fd : FuncData) (ps : List Str), Cls K C ∧ Meth K C m f ∧ FnM P w K mg base T k f fd ps F ∧ Binds K fd ps [] ∧ ps.length = n
structure MakG (P : Program) (w : World) (K : PySem.W.Frag) (mg : Str → Option Value) (base : Heap) (T : Tx) (k : Nat) (x : Str) (C : Addr) (n : Nat) (F : List D → M D) : Prop where
  ex : ∃ (f : Addr) (fd : FuncData) (ps : List Str), Mk K C f ∧ mg x = some (.ref C) ∧ FnM P w K mg base T k f fd ps F ∧ Binds K fd ps [] ∧ ps.length = n
/-- an own exception over ValueError, its fields by its __init__ -/
structure ExcG (P : Program) (w : World) (K : PySem.W.Frag) (mg : Str → Option Value) (base : Heap) (k : Nat) (x : Str) (C : Addr) (fl : List Str) : Prop where
  ex : ∃ (f : Addr) (fd : FuncData) (ps : List Str), OexC K C ∧ (∀ n ∈ fl, PySem.W.findIn K (.ref C) n = some none) ∧ PySem.W.findIn K (.ref C) "__init__" = some (some (.ref f)) ∧ PySem.W.typeIn K (.ref f) = some (.type "function") ∧
    FnG P w K mg base (L2.CX P w) k f fd ps (spInit K fl) ∧ Binds K fd ps [] ∧ mg x = some (.ref C)
section
variable {P : Program} {w : World} {K : PySem.W.Frag} {mg : Str → Option Value} {base : Heap} {T : Tx} {k : Nat} {x qual : Str} {params : Arguments} {body : List Stmt} {scope : Scope} {f : Addr} {fd : FuncData} {N ps : List Str} {g : SM} {C : Addr}
theorem funD_fn (F : FunD K x qual params body scope [] [] f fd) (S : FnScope N ps scope)
    (hbody : ∀ (cdv : Value) (A : Around) (outer : List Env) (s : Shared) (H : Hp) (E : XK), fd.code = cdv → RoomG k (A.deeper (envOfC qual scope s.heap.objs.size f cdv)) →
      PSsm (cxOf (L2.CX P w) P w K mg base N qual scope f cdv A outer s H E) T (fun c d _ H => E c d H) body g) : FnM P w K mg base T (k + 1) f fd ps (defM N.length g) := by
  obtain ⟨oc_m, od_m, dV_m, kV_m, doc_m, pm_m, an_m, cdv, ct_m, osl_m, rfl, lk_m, hcd_m, _, _⟩ := F.ex
  exact fnM_of lk_m hcd_m S fun A outer s H E hr_m => hbody cdv A outer s H E rfl hr_m
theorem funD_kw (F : FunD K x qual params body scope [] [] f fd) (h : ∀ (kV doc pm : Value) (an : Option Addr) (cdv ct : Value) (us : List Value), us.length = ps.length → bindArgs (PySem.W.fnOf x qual params body scope .none kV doc pm an cdv ct) ⟨[], ps.zip us⟩ = pure (ps.zip us)) :
    ∀ (s : Shared) (us : List Value), us.length = ps.length → BindsTo s fd ⟨[], ps.zip us⟩ (ps.zip us) := by
  obtain ⟨oc_m, od_m, dV_m, kV, doc, pm, an, cdv, ct, osl_m, rfl, lk_m, hcd_m, hD_m, hK_m⟩ := F.ex
  rcases hD_m with ⟨_, rfl⟩ | ⟨e, _⟩
  · exact fun s us hl_m => .of_eq (h kV doc pm an cdv ct us hl_m)
  · exact absurd rfl e
theorem calK_of (F : FunD K x x params body scope [] [] (ga K x) fd) (hm : mg x = some (.ref (ga K x))) (S : FnScope N ps scope)
    (hb : ∀ (kV doc pm : Value) (an : Option Addr) (cdv ct : Value) (us : List Value), us.length = ps.length → bindArgs (PySem.W.fnOf x x params body scope .none kV doc pm an cdv ct) ⟨us, []⟩ = pure (ps.zip us))
    (hkw : ∀ (kV doc pm : Value) (an : Option Addr) (cdv ct : Value) (us : List Value), us.length = ps.length → bindArgs (PySem.W.fnOf x x params body scope .none kV doc pm an cdv ct) ⟨[], ps.zip us⟩ = pure (ps.zip us))
    (hbody : ∀ (cdv : Value) (A : Around) (outer : List Env) (s : Shared) (H : Hp) (E : XK), fd.code = cdv → RoomG k (A.deeper (envOfC x scope s.heap.objs.size (ga K x) cdv)) →
      PSsm (cxOf (L2.CX P w) P w K mg base N x scope (ga K x) cdv A outer s H E) T (fun c d _ H => E c d H) body g) : CalK P w K mg base T (k + 1) x ps (defM N.length g) :=
  ⟨_, fd, funD_fn F S hbody, hm, F.kp, F.bindsN hb, rfl, funD_kw F hkw⟩
theorem CalK.cal {F : List D → M D} (c : CalK P w K mg base T k x ps F) : CalG P w K mg base T k x ps.length F := by
  obtain ⟨f, fd, h1, h2, h3, h4, h5, h6⟩ := c.ex
  exact ⟨f, fd, ps, h1, h2, h3, h4, rfl, h5, h6⟩
theorem CalK.tx {T' : Tx} {F : List D → M D} (c : CalK P w K mg base T k x ps F) (ht : T.tabs = T'.tabs) (h1 : T.ex = none) (h2 : T.w0 = none) : CalK P w K mg base T' k x ps F := by
  obtain ⟨f, fd, g1, g2, g3, g4, g5, g6⟩ := c.ex
  exact ⟨f, fd, FnG.tx g1 ht h1 h2, g2, g3, g4, g5, g6⟩
theorem CalK.held {F : List D → M D} (c : CalK P w K mg base T k x ps F) : HeldM P w K mg base T k ps.length (ga K x) F := by
  obtain ⟨f, fd, g1, g2, g3, g4, rfl, g6⟩ := c.ex
  exact ⟨fd, ps, g1, g3, g4, rfl⟩
theorem HeldM.mono {n j : Nat} {f : Addr} {F : List D → M D} (c : HeldM P w K mg base T k n f F) (h : k ≤ j) : HeldM P w K mg base T j n f F := by
  obtain ⟨fd, ps, g1, g2, g3, g4⟩ := c.ex
  exact ⟨fd, ps, g1.mono h, g2, g3, g4⟩
theorem metG_of {m : Str} (c : Cls K C) (hm : Meth K C m f) (F : FunD K m qual params body scope [] [] f fd) (S : FnScope N ps scope)
    (hb : ∀ (kV doc pm : Value) (an : Option Addr) (cdv ct : Value) (us : List Value), us.length = ps.length → bindArgs (PySem.W.fnOf m qual params body scope .none kV doc pm an cdv ct) ⟨us, []⟩ = pure (ps.zip us))
    (hbody : ∀ (cdv : Value) (A : Around) (outer : List Env) (s : Shared) (H : Hp) (E : XK), fd.code = cdv → RoomG k (A.deeper (envOfC qual scope s.heap.objs.size f cdv)) →
      PSsm (cxOf (L2.CX P w) P w K mg base N qual scope f cdv A outer s H E) T (fun c d _ H => E c d H) body g) : MetG P w K mg base T (k + 1) C m ps.length (defM N.length g) :=
  ⟨f, fd, ps, c, hm, funD_fn F S hbody, F.bindsN hb, rfl⟩
theorem makG_of (M : Mk K C f) (hm : mg x = some (.ref C)) (F : FunD K "__init__" qual params body scope [] [] f fd) (S : FnScope N ps scope)
    (hb : ∀ (kV doc pm : Value) (an : Option Addr) (cdv ct : Value) (us : List Value), us.length = ps.length → bindArgs (PySem.W.fnOf "__init__" qual params body scope .none kV doc pm an cdv ct) ⟨us, []⟩ = pure (ps.zip us))
    (hbody : ∀ (cdv : Value) (A : Around) (outer : List Env) (s : Shared) (H : Hp) (E : XK), fd.code = cdv → RoomG k (A.deeper (envOfC qual scope s.heap.objs.size f cdv)) →
      PSsm (cxOf (L2.CX P w) P w K mg base N qual scope f cdv A outer s H E) T (fun c d _ H => E c d H) body g) : MakG P w K mg base T (k + 1) x C ps.length (defM N.length g) :=
  ⟨f, fd, ps, M, hm, funD_fn F S hbody, F.bindsN hb, rfl⟩
theorem excG_of {fl : List Str} {t : TS} (hC : OexC K C) (hno : ∀ n ∈ fl, PySem.W.findIn K (.ref C) n = some none) (iC : PySem.W.findIn K (.ref C) "__init__" = some (some (.ref f))) (tI : PySem.W.typeIn K (.ref f) = some (.type "function")) (hm : mg x = some (.ref C))
    (F : FunD K "__init__" qual params body scope [] [] f fd) (S : FnScope N ps scope) (hl : ps.length = fl.length + 1)
    (hb : ∀ (kV doc pm : Value) (an : Option Addr) (cdv ct : Value) (us : List Value), us.length = ps.length → bindArgs (PySem.W.fnOf "__init__" qual params body scope .none kV doc pm an cdv ct) ⟨us, []⟩ = pure (ps.zip us))
    (hbody : ∀ (cdv : Value) (A : Around) (outer : List Env) (s : Shared) (H : Hp) (E : XK), PSs (cxOf (L2.CX P w) P w K mg base N qual scope f cdv A outer s H E) body t)
    (hp : ∀ (vs : List V) (H : Hp) (Q : VK) (E : XK), spInit K fl vs H Q E → t { nx := fun _ H'_m => Q .non H'_m, rt := Q } (L2.start N vs) H) : ExcG P w K mg base (k + 1) x C fl := by
  refine ⟨f, fd, ps, hC, hno, iC, tI, ?_, F.bindsN hb, hm⟩
  obtain ⟨oc_m, od_m, dV_m, kV, doc, pm, an, cdv, ct, osl_m, rfl, lk_m, hcd_m, _, _⟩ := F.ex
  exact fnG_of lk_m hcd_m S (fun vs H Q E ⟨a_m, C, ys_m, e, hl'_m, _⟩ => by rw [e, hl]; simpa using hl'_m) fun A outer s H vs Q E hr_m h => ⟨t, hbody cdv A outer s H E, hp vs H Q E h⟩
end

/-! ### calls of packages -/
section
variable {X : Cx} {T : Tx} {Wx : WX} {j k n : Nat} {x m : Str} {C : Addr} {F : List D → M D} {p pos apos : Pos} {e o : Expr} {es : List Expr} {fo : Env' → M D} {fs : Env' → M (List D)} {kws : List Keyword} {ps : List Str} {pl : Sem Bool}
theorem cem (c : CalK X.prog X.w X.K X.mg X.base T j x ps F) (hr : RoomG k X.A) (hg : Gl X x) (tk : Takes X Wx) (ha : PAm X T Wx (e :: es) fs) (h : j ≤ k := by decide) (hdb : (x == ("__debug__" : Str)) = false := by decide)
    (he : starEach (e :: es) X.env = (false, eval e X.env) :: starEach es X.env := by rfl) (hpl : (backTo pos (starEach es X.env)).any (·.1) = false := by rfl) : PEm X T Wx (.Call (.Name x p) (e :: es) [] pos) (eCall (cM ps.length F) fs) := by
  obtain ⟨f, fd, h1, h2, h3, h4, h5, h6⟩ := c.ex
  exact pem_call h1 (hr.mono h) hg h2 h3 h4 tk ha rfl hdb he hpl
theorem cem0 (c : CalK X.prog X.w X.K X.mg X.base T j x ps F) (hr : RoomG k X.A) (hg : Gl X x) (tk : Takes X Wx) (h : j ≤ k := by decide) (hdb : (x == ("__debug__" : Str)) = false := by decide) : PEm X T Wx (.Call (.Name x p) [] [] pos) (eCall (cM ps.length F) aNil) := by
  obtain ⟨f, fd, h1, h2, h3, h4, h5, h6⟩ := c.ex
  exact pem_call0 h1 (hr.mono h) hg h2 h3 h4 tk rfl hdb
theorem cemK (c : CalK X.prog X.w X.K X.mg X.base T j x ps F) (hr : RoomG k X.A) (hg : Gl X x) (tk : Takes X Wx) (ha : PKm X T Wx kws fs) (hks : (backToKw pos (keywordEach kws X.env)).filterMap (·.1) = ps := by rfl) (h : j ≤ k := by decide) (hall : (backToKw pos (keywordEach kws X.env)).all (·.1.isSome) = true := by rfl)
    (hdb : (x == ("__debug__" : Str)) = false := by decide) (hpl : ((backTo pos (starEach [] X.env)).any (·.1) || (backToKw pos (keywordEach kws X.env)).any (·.1.isNone)) = false := by rfl) : PEm X T Wx (.Call (.Name x p) [] kws pos) (eCall (cM ps.length F) fs) := by
  obtain ⟨f, fd, h1, h2, h3, h4, h5, h6⟩ := c.ex
  exact pem_callK0 h1 (hr.mono h) hg h2 h3 tk (fun s us _ hl => h6 s us hl) ha hall hks rfl hdb hpl
theorem mem_ (c : MetG X.prog X.w X.K X.mg X.base T j C m n F) (hr : RoomG k X.A) (ho : PEm X T Wx o fo) (tk : Takes X Wx) (ha : PAm X T Wx (e :: es) fs) (h : j ≤ k := by decide) (hst : starEach (e :: es) X.env = (false, eval e X.env) :: starEach es X.env := by rfl) (hpl : (backTo pos (starEach es X.env)).any (·.1) = false := by rfl) (ht : eval (.Call (.Attribute o m apos) (e :: es) [] pos) X.env = (do
      let ov_m ← eval o X.env
      standAt apos.atName
      let (f, first) ← holding [ov_m] (getMethod ov_m m (plainOf o X.env))
      callWith pos f first (backTo pos (starEach (e :: es) X.env)) (backToKw pos (keywordEach [] X.env))) := by rfl) : PEm X T Wx (.Call (.Attribute o m apos) (e :: es) [] pos) (metM C m n F fo fs) := by
  obtain ⟨f, fd, ps, h1_m, h2_m, h3_m, h4_m, h5_m⟩ := c.ex
  exact pem_meth ho h1_m h2_m h3_m (hr.mono h) h4_m tk ha h5_m hst hpl ht
theorem mem0 (c : MetG X.prog X.w X.K X.mg X.base T j C m n F) (hr : RoomG k X.A) (ho : PEm X T Wx o fo) (tk : Takes X Wx) (h : j ≤ k := by decide) (ht : eval (.Call (.Attribute o m apos) [] [] pos) X.env = (do
      let ov_m ← eval o X.env
      standAt apos.atName
      let (f, first) ← holding [ov_m] (getMethod ov_m m (plainOf o X.env))
      callWith pos f first (backTo pos (starEach [] X.env)) (backToKw pos (keywordEach [] X.env))) := by rfl) : PEm X T Wx (.Call (.Attribute o m apos) [] [] pos) (metM C m n F fo aNil) := by
  obtain ⟨f, fd, ps, h1_m, h2_m, h3_m, h4_m, h5_m⟩ := c.ex
  exact pem_meth0 ho h1_m h2_m h3_m (hr.mono h) h4_m tk h5_m ht
theorem kem (c : MakG X.prog X.w X.K X.mg X.base T j x C n F) (hr : RoomG k X.A) (hg : Gl X x) (tk : Takes X Wx) (ha : PAm X T Wx (e :: es) fs) (h : j + 1 ≤ k := by decide) (hdb : (x == ("__debug__" : Str)) = false := by decide)
    (he : starEach (e :: es) X.env = (false, eval e X.env) :: starEach es X.env := by rfl) (hpl : (backTo pos (starEach es X.env)).any (·.1) = false := by rfl) : PEm X T Wx (.Call (.Name x p) (e :: es) [] pos) (eCall (mkM C n F) fs) := by
  obtain ⟨f, fd, ps, h1, h2, h3, h4, h5⟩ := c.ex
  exact pem_make h1 h3 (hr.mono h) hg h2 h4 tk ha h5 hdb he hpl
theorem rem_ {fl : List Str} {rpos : Pos} (c : ExcG X.prog X.w X.K X.mg X.base j x C fl) (hr : RoomG k X.A) (hg : Gl X x) (hcalm : X.calm = true) (tk : Takes X Wx) (ha : PAm X T Wx (e :: es) fs) (h : j + 1 ≤ k := by decide) (hsz : fl.length ≤ 1000 := by decide) (hdb : (x == ("__debug__" : Str)) = false := by decide)
    (he : starEach (e :: es) X.env = (false, eval e X.env) :: starEach es X.env := by rfl) (hpl : (backTo pos (starEach es X.env)).any (·.1) = false := by rfl) : PSm X T Wx (.Raise (some (.Call (.Name x p) (e :: es) [] pos)) none rpos) (sRaise C fl fs) := by
  obtain ⟨f, fd, ps, h1, h2, h3, h4, h5, h6, h7⟩ := c.ex
  exact psm_raise h1 h2 h3 h4 h5 (hr.mono h) h6 hg h7 hcalm tk ha hsz hdb he hpl
end

/-! ### the Hook -/
/-- the table of a code object -/
def tabAt (K : PySem.W.Frag) (c : Addr) : Addr := match K.lookup c with
  | some ⟨_, _, .fields vs, _⟩ => (match vs.getD 11 Value.none with
    | Value.ref P => P
    | _ => 0)
  | _ => 0
/-- a def's code object and its table -/
def codeTab (K : PySem.W.Frag) (p : Str × Option Str) : Addr × Addr := match K.lookup (fAd K p) with
  | some ⟨_, _, .func code_of, _⟩ => (match code_of.code with
    | Value.ref c => (c, tabAt K c)
    | _ => (0, 0))
  | _ => (0, 0)
def emptyTab : Option Obj → Bool
  | some ⟨.none, none, .fields vs, sl⟩ => vs.isEmpty && sl.isEmpty
  | _ => false
theorem emptyTab_ok {o : Option Obj} (h : emptyTab o = true) : o = some { cls := .none, data := .fields #[] } := by
  unfold emptyTab at h
  split at h
  · rename_i vs sl
    rw [Bool.and_eq_true] at h
    have e1 : vs = #[] := Array.isEmpty_iff.mp h.1
    have e2 : sl = #[] := Array.isEmpty_iff.mp h.2
    subst e1 e2
    rfl
  · cases h
def codeHdB (o : Option Obj) (c P : Addr) : Bool := match o with
  | some ⟨.type "code", _, .fields vs, _⟩ => decide (vs[11]? = some (Value.ref P)) && (match vs.getD 18 .none with
    | .str _ _ => true
    | _ => false) && (match vs.getD 7 .none with
    | .int _ _ => true
    | _ => false) && (match vs.getD 9 .none with
    | .bool _ => true
    | _ => false) && (match vs.getD 10 .none with
    | .int _ _ => true
    | _ => false) && !decide (c = P)
  | _ => false
theorem codeHdB_ok {h : Heap} {c P : Addr} (e : codeHdB (h.get? c) c P = true) : PySem.W.CodeHd h c P := by
  unfold codeHdB at e
  split at e
  · rename_i od_m vs_m sl_m ho_m
    simp only [Bool.and_eq_true, decide_eq_true_eq, Bool.not_eq_true', decide_eq_false_iff_not] at e
    obtain ⟨⟨⟨⟨⟨e1_m, e2_m⟩, e3_m⟩, e4_m⟩, e5_m⟩, e6_m⟩ := e
    have g11_m : vs_m.getD 11 .none = .ref P := by rw [Array.getD_eq_getD_getElem?, e1_m]; rfl
    split at e2_m
    · rename_i file_m tf_m q2_m
      split at e3_m
      · rename_i flags_m tg_m q3_m
        split at e4_m
        · rename_i inF_m q4_m
          split at e5_m
          · rename_i text_m tt_m q5_m
            exact ⟨_, vs_m, file_m, tf_m, flags_m, tg_m, inF_m, text_m, tt_m, ho_m, rfl, rfl, e1_m, g11_m, q2_m, q3_m, q4_m, q5_m, e6_m⟩
          · cases e5_m
        · cases e4_m
      · cases e3_m
    · cases e2_m
  · cases e
abbrev AlM : Type := Bool × List FnW
/-- what the end leans on: facts of K, the defs, the tables -/
def obsM (n : Nat) (lm : List (Str × Option Str)) (fs : List (PySem.W.Frag → Bool)) (fn : List DefD) (g : Addr → Option Obj) : AlM :=
  let as := PySem.cStatics :: asD g n
  let ps := lm.map fun p => codeTab (frG g as) p
  let K := frG g (as.filter fun a => !(ps.any fun p => decide (p.2 = a)))
  (ps.all (fun p => emptyTab (g p.2) && (codeHdB (g p.1) p.1 p.2 && (K.lookup p.2).isNone)) && (decide ((lm.map fun p => (codeTab K p).1) = ps.map (·.1)) && ((fs.all fun f => f K) && fn.all fun d => d.ok K)), fn.map fun d => fnW K d.at_)
structure SaysM (lm : List (Str × Option Str)) (fs : List (PySem.W.Frag → Bool)) (fn : List DefD) (K : PySem.W.Frag) (h : Heap) (cs : List (Addr × Addr)) : Prop where
  kin : K.In h
  tab : ∀ p ∈ cs, h.get? p.2 = some { cls := .none, data := .fields #[] }
  nT : ∀ p ∈ cs, K.lookup p.2 = none
  hd : ∀ p ∈ cs, PySem.W.CodeHd h p.1 p.2
  ecs : cs.map (·.1) = lm.map fun p => (codeTab K p).1
  efs : (fs.all fun f => f K) = true
  efn : (fn.all fun d => d.ok K) = true
  val : (fn.map fun d => fnW K d.at_) = fn.map DefD.val
def valM (fn : List DefD) : AlM := (true, fn.map DefD.val)
theorem CodeHd.keep {h h' : Heap} {c P : Addr} (k : ∀ b o, h.get? b = some o → h'.get? b = some o) (x : PySem.W.CodeHd h c P) : PySem.W.CodeHd h' c P := by
  obtain ⟨o, vs, file, tf, flags, tg, inF, text, tt, e, r⟩ := x
  exact ⟨o, vs, file, tf, flags, tg, inF, text, tt, k _ _ e, r⟩
theorem obsM_says {n : Nat} {lm : List (Str × Option Str)} {fs : List (PySem.W.Frag → Bool)} {fn : List DefD} {h : Heap} (e : obsM n lm fs fn h.get? = valM fn) : ∃ K cs, SaysM lm fs fn K h cs := by
  unfold obsM valM at e
  simp only [Prod.mk.injEq, Bool.and_eq_true, decide_eq_true_eq, List.all_eq_true] at e
  obtain ⟨⟨h1, h2, h3, h4⟩, h5⟩ := e
  refine ⟨_, _, frG_in, fun p hp => emptyTab_ok (h1 p hp).1, fun p hp => ?_, fun p hp => codeHdB_ok (h1 p hp).2.1, h2.symm, List.all_eq_true.mpr h3, List.all_eq_true.mpr h4, h5⟩
  exact Option.isNone_iff_eq_none.mp (h1 p hp).2.2
def hookM (n : Nat) (lm : List (Str × Option Str)) (fs : List (PySem.W.Frag → Bool)) (fn : List DefD) : PySem.W.Hook where
  α := AlM
  obs := fun s => obsM n lm fs fn s.heap.get?
  val := fun _ => valM fn
  says := fun _ h => ∃ K cs, SaysM lm fs fn K h cs
  of := fun _ _ e => obsM_says e
  keeps := fun _ _ _ ⟨K, cs, c⟩ k => ⟨K, cs, PySem.W.Frag.In.keeps c.kin k, fun p hp => k _ _ (c.tab p hp), c.nT, fun p hp => CodeHd.keep k (c.hd p hp), c.ecs, c.efs, c.efn, c.val⟩
theorem obsM_eq {n : Nat} {lm : List (Str × Option Str)} {fs : List (PySem.W.Frag → Bool)} {fn : List DefD} {g : Addr → Option Obj} {s : Shared} (h : ∀ a, g a = s.heap.get? a) : obsM n lm fs fn g = (hookM n lm fs fn).obs s := by
  have e : g = s.heap.get? := funext h; rw [e] <;> rfl
section
variable {lm : List (Str × Option Str)} {fs : List (PySem.W.Frag → Bool)} {fn : List DefD} {K : PySem.W.Frag} {h : Heap} {cs : List (Addr × Addr)}
theorem SaysM.fact (c : SaysM lm fs fn K h cs) (i : Nat) {f : PySem.W.Frag → Bool} (e : fs[i]? = some f := by rfl) : f K = true := List.all_eq_true.mp c.efs f (List.mem_of_getElem? e)
theorem SaysM.def_ (c : SaysM lm fs fn K h cs) (i : Nat) {d : DefD} (e : fn[i]? = some d := by rfl) : ∃ fd, FunD K d.name d.qual d.params d.body d.scope (d.dvs K) (d.kws K) (fAd K d.at_) fd := by
  have e2 : (fn.map fun d => fnW K d.at_)[i]? = (fn.map DefD.val)[i]? := by rw [c.val]
  rw [List.getElem?_map, List.getElem?_map, e] at e2
  exact DefD.funD (Option.some.inj e2) (List.all_eq_true.mp c.efn d (List.mem_of_getElem? e))
def isRefV : Value → Bool
  | .ref _ => true
  | _ => false
/-- the code object of the i-th def that makes lambdas -/
theorem codeTab_of {p : Str × Option Str} {cd : Value} {fd : FuncData} {x qual : Str} {params : Arguments} {body : List Stmt} {scope : Scope} {dvs : List V} {kws : List (Str × V)} (F : FunD K x qual params body scope dvs kws (fAd K p) fd) (hc : fd.code = cd) (hn : isRefV cd = true) : cd = .ref (codeTab K p).1 := by
  obtain ⟨oc_m, od_m, dV_m, kV_m, doc_m, pm_m, an_m, cdv_m, ct_m, osl_m, rfl, lk_m, hcd_m, _, _⟩ := F.ex
  subst hc
  unfold codeTab
  rw [lk_m]
  show cdv_m = _
  cases cdv_m with
  | ref c_m => rfl
  | _ => cases hn
end
end MM
end
section
set_option Elab.async false
set_option linter.all false
set_option maxRecDepth 100000
set_option maxHeartbeats 2097152
namespace MM
open PySem PySem.Spec PySem.W PyProof.Rows L2 LamX He

/-! ### short words for derivations -/
theorem pvm {X : Cx} {T : Tx} {Wx : WX} (i : Nat) {x : Str} {pos : Pos} (hN : X.N[i]? = some x := by rfl) (hv : Vis X.env.scope x := by first | exact Or.inl rfl | exact Or.inr (Or.inl rfl) | exact Or.inr (Or.inr rfl)) (hd : (x == ("__debug__" : Str)) = false := by decide)
    (hcd : (x == ("__classdict__" : Str)) = false := by decide) : PEm X T Wx (.Name x pos) (eVar i) := pem_var hN hv hd hcd
theorem pgn {X : Cx} {T : Tx} (i : Nat) {x : Str} {pos : Pos} (hN : X.N.Nodup) (hi : X.N[i]? = some x := by rfl) (hx : Loc X.env.scope x := by first | exact Or.inl rfl | exact Or.inr rfl) (hf : X.fn x = true ∨ X.env.scope.names.lookup x = some .local := by first | exact .inl rfl | exact .inr rfl | assumption) : PGm X T (.Name x pos) [i] (gN i) := pgm_name hN hi hx hf
/-- a look at a block's names -/
def blkC (N : List Str) (sc scope : Scope) (own : List (Str × Nat)) : Bool := -- names of a block
  decide (scope.kind = .function) && (scope.names.all (fun y_m => decide (scope.names.lookup y_m.1 = some y_m.2)) && (own.all (fun p_m => decide (N[p_m.2]? = some p_m.1)) &&
    (scope.names.all (fun y_m => !decide (y_m.2 = .free) || (decide (sc.names.lookup y_m.1 = some .cell) || decide (sc.names.lookup y_m.1 = some .free))) && scope.names.all fun y_m => !(decide (y_m.2 = .local) || decide (y_m.2 = .cell)) || (decide (y_m.1 ∈ own.map (·.1)) || !decide (y_m.1 ∈ N)))))
theorem blk_by {N : List Str} {sc scope : Scope} {own : List (Str × Nat)} (h : blkC N sc scope own = true) : BlkOk N sc scope own := by
  unfold blkC at h
  simp only [Bool.and_eq_true, decide_eq_true_eq, List.all_eq_true, Bool.or_eq_true, Bool.not_eq_true', decide_eq_false_iff_not] at h
  obtain ⟨h1, h2, h3, h4, h5⟩ := h
  refine ⟨h1, h2, h3, fun y hy e => ?_, fun y hy e => ?_⟩
  · rcases h4 y hy with z | z
    · exact absurd e z
    · exact z
  · rcases h5 y hy with z | z
    · rw [Bool.or_eq_false_iff, decide_eq_false_iff_not, decide_eq_false_iff_not] at z
      rcases e with e | e
      · exact absurd e z.1
      · exact absurd e z.2
    · exact z
theorem scope_by {N P : List Str} {sc : Scope} (h : C8.scC N P sc = true) : FnScope N P sc := C8.fnScope_by h
/-! ### the module's constants -/
section
variable {mg : Str → Option Value} {K : PySem.W.Frag} {h : Heap}
theorem kd_str (X : K.In h) (G : h.Ns mainGlobals mg) {x z : Str} (c : (Fa.str x z).ok K = true) : Kd K mg x (.str z) := by
  obtain ⟨t, e⟩ := str_ok X G c
  exact ⟨_, .str z, e, ⟨t, rfl⟩, fun W => .str z⟩
theorem kd_int (X : K.In h) (G : h.Ns mainGlobals mg) {x : Str} {z : Int} (c : (Fa.int x z).ok K = true) : Kd K mg x (.int z) := by
  obtain ⟨t, e⟩ := int_ok X G c
  exact ⟨_, .int z, e, ⟨t, rfl⟩, fun W => .int z⟩
theorem kd_strs (X : K.In h) (G : h.Ns mainGlobals mg) {x : Str} {zs : List Str} (c : (Fa.glo x).ok K = true) (c2 : tupB K x (zs.map Dv.str) = true) : Kd K mg x (.tup (zs.map D.str)) := by
  refine ⟨_, .ref (ga K x), glo_ok X G c, rfl, fun W => .tup (vs := zs.map V.str) ?_ (VRs.strs zs)⟩
  have := tupB_ok c2 W.Z
  rwa [List.map_map, show (Dv.v K ∘ Dv.str) = V.str from rfl] at this
end
/-! ### own exceptions -/
def oexB (K : PySem.W.Frag) (C : Addr) : Bool := (match K.lookup C with
  | some ⟨.type "type", _, .cls cd, slots⟩ => (match cd.mro, slots.toList with
    | .ref C' :: bm, [_, _, _, _, some (.builtin n), _] => C' == C && (n == "ValueError.__new__" && (!cd.hasDel && (cd.hasDict && PySem.HandSPX.refsVE bm)))
    | _, _ => false)
  | _ => false) && (decide (PySem.W.findIn K (.ref C) "__setattr__" = some (some (.builtin "object.__setattr__"))) && (decide (PySem.W.subIn K (.ref C) (.type "BaseException") = some true) && (decide (PySem.W.typeIn K (.ref C) = some (.type "type")) && PySem.W.keepIn K (.ref C))))
theorem oexB_ok {K : PySem.W.Frag} {C : Addr} (h : oexB K C = true) : OexC K C := by
  unfold oexB at h; simp only [Bool.and_eq_true, decide_eq_true_eq] at h
  obtain ⟨q_m, h2_m, h3_m, h4_m, h5_m⟩ := h
  refine ⟨?_, h2_m, h3_m, h4_m, h5_m⟩
  split at q_m
  · rename_i dd_m cd_m sl_m ho_m
    split at q_m
    · rename_i C'_m bm_m k0_m k1_m k2_m k3_m n_m k5_m hm_m hs_m
      simp only [Bool.and_eq_true, beq_iff_eq, Bool.not_eq_true'] at q_m
      obtain ⟨rfl, rfl, hdel_m, hdc_m, ht_m⟩ := q_m
      obtain ⟨nm_m, bs_m, mro_m, ns_m, qn_m, hd_m, sn_m, sub_m, ab_m, col_m, del_m⟩ := cd_m
      dsimp only at hm_m hdel_m hdc_m
      subst hm_m hdel_m hdc_m
      have hsl_m : sl_m = #[k0_m, k1_m, k2_m, k3_m, some (.builtin "ValueError.__new__"), k5_m] := by
        obtain ⟨l_m⟩ := sl_m
        simp only at hs_m
        rw [hs_m]
      subst hsl_m
      exact ⟨nm_m, qn_m, ns_m, bs_m, bm_m, sn_m, sub_m, ab_m, col_m, dd_m, k0_m, k1_m, k2_m, k3_m, k5_m, ho_m, ht_m⟩
    · cases q_m
  · cases q_m
/-- the class x is an own exception of the fields fl, its __init__ a def -/
def exB (x : Str) (fl : List Str) : PySem.W.Frag → Bool := fun K => oexB K (ga K x) && ((fl.all fun n => decide (PySem.W.findIn K (.ref (ga K x)) n = some none)) && (decide (PySem.W.findIn K (.ref (ga K x)) "__init__" = some (some (.ref (ma K (ga K x) "__init__")))) && decide (PySem.W.typeIn K (.ref (ma K (ga K x) "__init__")) = some (.type "function"))))
/-- the base's __init__ is read off the base -/
def baseB (x : Str) : PySem.W.Frag → Bool := fun K => PySem.W.readsIn K (ga K x) (.type "type") && (decide (PySem.W.specialIn K (.ref (ga K x)) "__getattribute__" = some (some (.builtin "type.__getattribute__"))) && (match PySem.W.findCls K (.ref (ga K x)) (.type "type") "__init__" with
  | some (.val v) => decide (v = .builtin "ValueError.__init__")
  | _ => false))
section
variable {K : PySem.W.Frag} {P : Program} {w : World} {mg : Str → Option Value} {base : Heap} {x qual : Str} {fl : List Str} {params : Arguments} {body : List Stmt} {scope : Scope} {fd : FuncData} {N ps : List Str} {t : TS}
theorem excG_by (h : exB x fl K = true) (hm : mg x = some (.ref (ga K x))) (F : FunD K "__init__" qual params body scope [] [] (ma K (ga K x) "__init__") fd) (S : FnScope N ps scope) (hl : ps.length = fl.length + 1)
    (hb : ∀ (kV doc pm : Value) (an : Option Addr) (cdv ct : Value) (us : List Value), us.length = ps.length → bindArgs (PySem.W.fnOf "__init__" qual params body scope .none kV doc pm an cdv ct) ⟨us, []⟩ = pure (ps.zip us))
    (hbody : ∀ (cdv : Value) (A : Around) (outer : List Env) (s : Shared) (H : Hp) (E : XK), PSs (cxOf (L2.CX P w) P w K mg base N qual scope (ma K (ga K x) "__init__") cdv A outer s H E) body t)
    (hp : ∀ (vs : List V) (H : Hp) (Q : VK) (E : XK), spInit K fl vs H Q E → t { nx := fun _ H' => Q .non H', rt := Q } (L2.start N vs) H) : ExcG P w K mg base 1 x (ga K x) fl := by
  unfold exB at h
  simp only [Bool.and_eq_true, decide_eq_true_eq, List.all_eq_true] at h
  obtain ⟨h1, h2, h3, h4⟩ := h
  exact excG_of (oexB_ok h1) h2 h3 h4 hm F S hl hb hbody hp
variable {X : Cx} {e : Expr} {es : List Expr} {ta : TA} {p1 p2 pos : Pos} {B : Str}
theorem pe_base (h : baseB B X.K = true) (hg : Gl X B) (hm : X.mg B = some (.ref (ga X.K B))) (ha : PA X (e :: es) ta) (hdb : (B == ("__debug__" : Str)) = false := by decide)
    (hc : eval (.Call (.Attribute (.Name B p1) "__init__" p2) (e :: es) [] pos) X.env = (do
      let ov_m ← eval (.Name B p1) X.env
      standAt p2.atName
      let (f, first) ← holding [ov_m] (getMethod ov_m "__init__" (plainOf (.Name B p1) X.env))
      callWith pos f first (backTo pos (starEach (e :: es) X.env)) (backToKw pos (keywordEach [] X.env))) := by rfl) (he : starEach (e :: es) X.env = (false, eval e X.env) :: starEach es X.env := by rfl) (hpl : (backTo pos (starEach es X.env)).any (·.1) = false := by rfl) :
    PE X (.Call (.Attribute (.Name B p1) "__init__" p2) (e :: es) [] pos) (tVeI X.K ta) := by
  unfold baseB at h; simp only [Bool.and_eq_true, decide_eq_true_eq] at h
  refine pe_ownveinit hg hm h.1 h.2.1 ?_ ha hdb hc he hpl
  have h3_m := h.2.2
  split at h3_m
  · rename_i v_m q_m
    rw [q_m, of_decide_eq_true h3_m]
  · cases h3_m
end
end MM
namespace MM
open PySem PySem.Spec PySem.W PyProof.Rows L2 LamX He
abbrev eqD := pOp shal fun p q => .bl (PyData.eqv p q)
abbrev neD := pOp shal fun p q => .bl (!PyData.eqv p q)
abbrev ltD := pOp ordOk fun p q => .bl (PySem.W.dataLt p q)
abbrev gtD := pOp ordOk fun p q => .bl (PySem.W.dataLt q p)
abbrev leD := pOp ordOk fun p q => .bl (!PySem.W.dataLt q p)
abbrev geD := pOp ordOk fun p q => .bl (!PySem.W.dataLt p q)
abbrev inD := pOp inOk fun p q => .bl (inP p q)
abbrev ninD := pOp inOk fun p q => .bl (!inP p q)
end MM
namespace MM
open PySem PySem.Spec PySem.W PyProof.Rows L2 LamX He
def addI : D → D → M D := fun x y => match x, y with
  | .int i, .int j => M.pure (.int (i + j))
  | _, _ => M.bad
theorem inM_addI {X : Cx} {T : Tx} : OpM X T (inplaceOp .Add) addI := by
  refine ⟨rAdd, fun pins s σ H x y v u Q I rx ry q => in_add pins s σ H x y v u Q I rx ry q, fun W S H d d' v v' Q σ Wx hr r1 r2 p => ?_⟩
  unfold addI at p
  split at p
  · cases r1; cases r2
    exact ⟨_, _, rfl, rfl, p W _ H (.refl _) (.int _) hr⟩
  · exact p.elim
end MM
end
section
set_option Elab.async false
set_option linter.all false
set_option maxRecDepth 100000
set_option maxHeartbeats 1048576
namespace K84
open PySem PySem.Spec PySem.W PyProof.Rows L2 LamX He MM
abbrev top (i : Nat) : Stmt := PySem.Challenge.pw_mustmays_k84_house_words.main.body.getD i (.Pass ⟨0, 0, 0, 0⟩)
abbrev s_listed_words : Stmt := top 3
abbrev N_listed_words : List Str := ["words", "sign"]
abbrev P_listed_words : List Str := ["words", "sign"]
def d_listed_words : DefD := ⟨("listed_words", none), "listed_words", "listed_words", defArgs s_listed_words, defBody s_listed_words, defScope s_listed_words, [], []⟩
theorem sc_listed_words : FnScope N_listed_words P_listed_words (defScope s_listed_words) := scope_by (by decide +kernel)
abbrev s_house_word : Stmt := top 4
abbrev N_house_word : List Str := ["house", "hands", "bridges", "own", "hand", "rules", "one", "other"]
abbrev P_house_word : List Str := ["house"]
def d_house_word : DefD := ⟨("house_word", none), "house_word", "house_word", defArgs s_house_word, defBody s_house_word, defScope s_house_word, [], []⟩
theorem sc_house_word : FnScope N_house_word P_house_word (defScope s_house_word) := scope_by (by decide +kernel)
abbrev s_is_word : Stmt := top 9
abbrev N_is_word : List Str := ["thing", "sign"]
abbrev P_is_word : List Str := ["thing"]
def d_is_word : DefD := ⟨("is_word", none), "is_word", "is_word", defArgs s_is_word, defBody s_is_word, defScope s_is_word, [], []⟩
theorem sc_is_word : FnScope N_is_word P_is_word (defScope s_is_word) := scope_by (by decide +kernel)
abbrev s_are_rising : Stmt := top 23
abbrev N_are_rising : List Str := ["some", "one", "other"]
abbrev P_are_rising : List Str := ["some"]
def d_are_rising : DefD := ⟨("are_rising", none), "are_rising", "are_rising", defArgs s_are_rising, defBody s_are_rising, defScope s_are_rising, [], []⟩
theorem sc_are_rising : FnScope N_are_rising P_are_rising (defScope s_are_rising) := scope_by (by decide +kernel)
abbrev s_is_rules : Stmt := top 25
abbrev N_is_rules : List Str := ["thing", "one"]
abbrev P_is_rules : List Str := ["thing"]
def d_is_rules : DefD := ⟨("is_rules", none), "is_rules", "is_rules", defArgs s_is_rules, defBody s_is_rules, defScope s_is_rules, [], []⟩
theorem sc_is_rules : FnScope N_is_rules P_is_rules (defScope s_is_rules) := scope_by (by decide +kernel)
abbrev s_is_pair_of_two : Stmt := top 26
abbrev N_is_pair_of_two : List Str := ["thing", "is_first", "is_second"]
abbrev P_is_pair_of_two : List Str := ["thing", "is_first", "is_second"]
def d_is_pair_of_two : DefD := ⟨("is_pair_of_two", none), "is_pair_of_two", "is_pair_of_two", defArgs s_is_pair_of_two, defBody s_is_pair_of_two, defScope s_is_pair_of_two, [], []⟩
theorem sc_is_pair_of_two : FnScope N_is_pair_of_two P_is_pair_of_two (defScope s_is_pair_of_two) := scope_by (by decide +kernel)
abbrev s_are_hands : Stmt := top 27
abbrev N_are_hands : List Str := ["thing", "one"]
abbrev P_are_hands : List Str := ["thing"]
def d_are_hands : DefD := ⟨("are_hands", none), "are_hands", "are_hands", defArgs s_are_hands, defBody s_are_hands, defScope s_are_hands, [], []⟩
theorem sc_are_hands : FnScope N_are_hands P_are_hands (defScope s_are_hands) := scope_by (by decide +kernel)
abbrev s_is_draft : Stmt := top 28
abbrev N_is_draft : List Str := ["thing", "bridges", "one"]
abbrev P_is_draft : List Str := ["thing"]
def d_is_draft : DefD := ⟨("is_draft", none), "is_draft", "is_draft", defArgs s_is_draft, defBody s_is_draft, defScope s_is_draft, [], []⟩
theorem sc_is_draft : FnScope N_is_draft P_is_draft (defScope s_is_draft) := scope_by (by decide +kernel)
abbrev s_rules_bar : Stmt := top 29
abbrev N_rules_bar : List Str := ["rules"]
abbrev P_rules_bar : List Str := ["rules"]
def d_rules_bar : DefD := ⟨("rules_bar", none), "rules_bar", "rules_bar", defArgs s_rules_bar, defBody s_rules_bar, defScope s_rules_bar, [], []⟩
theorem sc_rules_bar : FnScope N_rules_bar P_rules_bar (defScope s_rules_bar) := scope_by (by decide +kernel)
abbrev s_is_house : Stmt := top 30
abbrev N_is_house : List Str := ["thing", "hands", "bridges", "names", "hand", "rules", "one", "other"]
abbrev P_is_house : List Str := ["thing"]
def d_is_house : DefD := ⟨("is_house", none), "is_house", "is_house", defArgs s_is_house, defBody s_is_house, defScope s_is_house, [], []⟩
theorem sc_is_house : FnScope N_is_house P_is_house (defScope s_is_house) := scope_by (by decide +kernel)
abbrev s_need_rules : Stmt := top 31
abbrev N_need_rules : List Str := ["truth", "word", "hand"]
abbrev P_need_rules : List Str := ["truth", "word", "hand"]
def d_need_rules : DefD := ⟨("need_rules", none), "need_rules", "need_rules", defArgs s_need_rules, defBody s_need_rules, defScope s_need_rules, [], []⟩
theorem sc_need_rules : FnScope N_need_rules P_need_rules (defScope s_need_rules) := scope_by (by decide +kernel)
abbrev s_need_bridge : Stmt := top 32
abbrev N_need_bridge : List Str := ["by_hand", "one", "other", "hand", "word"]
abbrev P_need_bridge : List Str := ["by_hand", "one", "other"]
def d_need_bridge : DefD := ⟨("need_bridge", none), "need_bridge", "need_bridge", defArgs s_need_bridge, defBody s_need_bridge, defScope s_need_bridge, [], []⟩
theorem sc_need_bridge : FnScope N_need_bridge P_need_bridge (defScope s_need_bridge) := scope_by (by decide +kernel)
abbrev s_bridged_from : Stmt := top 33
abbrev N_bridged_from : List Str := ["bridges", "hand", "found", "left", "here", "one", "other"]
abbrev P_bridged_from : List Str := ["bridges", "hand"]
def d_bridged_from : DefD := ⟨("bridged_from", none), "bridged_from", "bridged_from", defArgs s_bridged_from, defBody s_bridged_from, defScope s_bridged_from, [], []⟩
theorem sc_bridged_from : FnScope N_bridged_from P_bridged_from (defScope s_bridged_from) := scope_by (by decide +kernel)
abbrev s_lets_draft : Stmt := top 34
abbrev N_lets_draft : List Str := ["draft", "hands", "bridges", "by_hand", "hand", "rules", "word", "one", "other"]
abbrev P_lets_draft : List Str := ["draft"]
def d_lets_draft : DefD := ⟨("lets_draft", none), "lets_draft", "lets_draft", defArgs s_lets_draft, defBody s_lets_draft, defScope s_lets_draft, [], []⟩
theorem sc_lets_draft : FnScope N_lets_draft P_lets_draft (defScope s_lets_draft) := scope_by (by decide +kernel)
abbrev s_rule_in : Stmt := top 36
abbrev N_rule_in : List Str := ["word"]
abbrev P_rule_in : List Str := ["word"]
def d_rule_in : DefD := ⟨("rule_in", none), "rule_in", "rule_in", defArgs s_rule_in, defBody s_rule_in, defScope s_rule_in, [], []⟩
theorem sc_rule_in : FnScope N_rule_in P_rule_in (defScope s_rule_in) := scope_by (by decide +kernel)
abbrev s_parts_by : Stmt := top 37
abbrev N_parts_by : List Str := ["word", "sign", "reader", "found", "part"]
abbrev P_parts_by : List Str := ["word", "sign", "reader"]
def d_parts_by : DefD := ⟨("parts_by", none), "parts_by", "parts_by", defArgs s_parts_by, defBody s_parts_by, defScope s_parts_by, [], []⟩
theorem sc_parts_by : FnScope N_parts_by P_parts_by (defScope s_parts_by) := scope_by (by decide +kernel)
abbrev s_rules_in : Stmt := top 38
abbrev N_rules_in : List Str := ["word", "hand", "colon", "rest", "rules"]
abbrev P_rules_in : List Str := ["word"]
def d_rules_in : DefD := ⟨("rules_in", none), "rules_in", "rules_in", defArgs s_rules_in, defBody s_rules_in, defScope s_rules_in, [], []⟩
theorem sc_rules_in : FnScope N_rules_in P_rules_in (defScope s_rules_in) := scope_by (by decide +kernel)
abbrev s_bridge_in : Stmt := top 39
abbrev N_bridge_in : List Str := ["word", "one", "sign", "other"]
abbrev P_bridge_in : List Str := ["word"]
def d_bridge_in : DefD := ⟨("bridge_in", none), "bridge_in", "bridge_in", defArgs s_bridge_in, defBody s_bridge_in, defScope s_bridge_in, [], []⟩
theorem sc_bridge_in : FnScope N_bridge_in P_bridge_in (defScope s_bridge_in) := scope_by (by decide +kernel)
abbrev s_house_in : Stmt := top 40
abbrev N_house_in : List Str := ["word", "first", "sign", "rest", "hands", "bridges"]
abbrev P_house_in : List Str := ["word"]
def d_house_in : DefD := ⟨("house_in", none), "house_in", "house_in", defArgs s_house_in, defBody s_house_in, defScope s_house_in, [], []⟩
theorem sc_house_in : FnScope N_house_in P_house_in (defScope s_house_in) := scope_by (by decide +kernel)
abbrev s_WordTaker_init : Stmt := inClass (top 41) 0
abbrev N_WordTaker_init : List Str := ["self", "place", "text"]
abbrev P_WordTaker_init : List Str := ["self", "place", "text"]
def d_WordTaker_init : DefD := ⟨("WordTaker", some "__init__"), "__init__", "WordTaker.__init__", defArgs s_WordTaker_init, defBody s_WordTaker_init, defScope s_WordTaker_init, [], []⟩
theorem sc_WordTaker_init : FnScope N_WordTaker_init P_WordTaker_init (defScope s_WordTaker_init) := scope_by (by decide +kernel)
abbrev s_WordTaker_refuse : Stmt := inClass (top 41) 1
abbrev N_WordTaker_refuse : List Str := ["self"]
abbrev P_WordTaker_refuse : List Str := ["self"]
def d_WordTaker_refuse : DefD := ⟨("WordTaker", some "refuse"), "refuse", "WordTaker.refuse", defArgs s_WordTaker_refuse, defBody s_WordTaker_refuse, defScope s_WordTaker_refuse, [], []⟩
theorem sc_WordTaker_refuse : FnScope N_WordTaker_refuse P_WordTaker_refuse (defScope s_WordTaker_refuse) := scope_by (by decide +kernel)
abbrev s_WordTaker_is_over : Stmt := inClass (top 41) 2
abbrev N_WordTaker_is_over : List Str := ["self"]
abbrev P_WordTaker_is_over : List Str := ["self"]
def d_WordTaker_is_over : DefD := ⟨("WordTaker", some "is_over"), "is_over", "WordTaker.is_over", defArgs s_WordTaker_is_over, defBody s_WordTaker_is_over, defScope s_WordTaker_is_over, [], []⟩
theorem sc_WordTaker_is_over : FnScope N_WordTaker_is_over P_WordTaker_is_over (defScope s_WordTaker_is_over) := scope_by (by decide +kernel)
abbrev s_WordTaker_take_by : Stmt := inClass (top 41) 4
abbrev N_WordTaker_take_by : List Str := ["self", "reader", "found"]
abbrev P_WordTaker_take_by : List Str := ["self", "reader"]
def d_WordTaker_take_by : DefD := ⟨("WordTaker", some "take_by"), "take_by", "WordTaker.take_by", defArgs s_WordTaker_take_by, defBody s_WordTaker_take_by, defScope s_WordTaker_take_by, [], []⟩
theorem sc_WordTaker_take_by : FnScope N_WordTaker_take_by P_WordTaker_take_by (defScope s_WordTaker_take_by) := scope_by (by decide +kernel)
abbrev s_WordTaker_ask_end : Stmt := inClass (top 41) 9
abbrev N_WordTaker_ask_end : List Str := ["self"]
abbrev P_WordTaker_ask_end : List Str := ["self"]
def d_WordTaker_ask_end : DefD := ⟨("WordTaker", some "ask_end"), "ask_end", "WordTaker.ask_end", defArgs s_WordTaker_ask_end, defBody s_WordTaker_ask_end, defScope s_WordTaker_ask_end, [], []⟩
theorem sc_WordTaker_ask_end : FnScope N_WordTaker_ask_end P_WordTaker_ask_end (defScope s_WordTaker_ask_end) := scope_by (by decide +kernel)
abbrev s_read_house : Stmt := top 42
abbrev N_read_house : List Str := ["text", "taker", "found"]
abbrev P_read_house : List Str := ["text"]
def d_read_house : DefD := ⟨("read_house", none), "read_house", "read_house", defArgs s_read_house, defBody s_read_house, defScope s_read_house, [], []⟩
theorem sc_read_house : FnScope N_read_house P_read_house (defScope s_read_house) := scope_by (by decide +kernel)
abbrev s_law_feed : Stmt := top 44
abbrev N_law_feed : List Str := ["_law_script"]
abbrev P_law_feed : List Str := ["_law_script"]
def d_law_feed : DefD := ⟨("_law_feed", none), "_law_feed", "_law_feed", defArgs s_law_feed, defBody s_law_feed, defScope s_law_feed, [], []⟩
theorem sc_law_feed : FnScope N_law_feed P_law_feed (defScope s_law_feed) := scope_by (by decide +kernel)
abbrev s_law_draw : Stmt := top 45
abbrev N_law_draw : List Str := ["_law_feed_here", "_law_bound", "_law_found", "_law_at", "_law_cell", "_law_first"]
abbrev P_law_draw : List Str := ["_law_feed_here", "_law_bound"]
def d_law_draw : DefD := ⟨("_law_draw", none), "_law_draw", "_law_draw", defArgs s_law_draw, defBody s_law_draw, defScope s_law_draw, [], []⟩
theorem sc_law_draw : FnScope N_law_draw P_law_draw (defScope s_law_draw) := scope_by (by decide +kernel)
abbrev s_NoRules_init : Stmt := inClass (top 14) 0
abbrev N_NoRules_init : List Str := ["self", "word", "hand"]
abbrev P_NoRules_init : List Str := ["self", "word", "hand"]
def d_NoRules_init : DefD := ⟨("NoRules", some "__init__"), "__init__", "NoRules.__init__", defArgs s_NoRules_init, defBody s_NoRules_init, defScope s_NoRules_init, [], []⟩
theorem sc_NoRules_init : FnScope N_NoRules_init P_NoRules_init (defScope s_NoRules_init) := scope_by (by decide +kernel)
abbrev s_NoText_init : Stmt := inClass (top 17) 0
abbrev N_NoText_init : List Str := ["self", "line", "word"]
abbrev P_NoText_init : List Str := ["self", "line", "word"]
def d_NoText_init : DefD := ⟨("NoText", some "__init__"), "__init__", "NoText.__init__", defArgs s_NoText_init, defBody s_NoText_init, defScope s_NoText_init, [], []⟩
theorem sc_NoText_init : FnScope N_NoText_init P_NoText_init (defScope s_NoText_init) := scope_by (by decide +kernel)
abbrev s_law_said : Stmt := top 46
abbrev N_law_said : List Str := ["_law_ask", "_law_found", "e"]
abbrev P_law_said : List Str := ["_law_ask"]
def d_law_said : DefD := ⟨("_law_said", none), "_law_said", "_law_said", defArgs s_law_said, defBody s_law_said, defScope s_law_said, [], []⟩
theorem sc_law_said : FnScope N_law_said P_law_said (defScope s_law_said) := scope_by (by decide +kernel)
abbrev s_law_home : Stmt := top 47
abbrev N_law_home : List Str := ["_law_feed_here", "_law_menu", "_law_folk", "_law_pairs", "_law_ways", "_law_who", "_law_mate"]
abbrev P_law_home : List Str := ["_law_feed_here"]
def d_law_home : DefD := ⟨("_law_home", none), "_law_home", "_law_home", defArgs s_law_home, defBody s_law_home, defScope s_law_home, [], []⟩
theorem sc_law_home : FnScope N_law_home P_law_home (defScope s_law_home) := scope_by (by decide +kernel)
abbrev s_law_home_word : Stmt := top 48
abbrev N_law_home_word : List Str := ["_law_home_here", "_law_pairs", "_law_ways", "_law_who", "_law_rules_now", "_law_pair"]
abbrev P_law_home_word : List Str := ["_law_home_here"]
def d_law_home_word : DefD := ⟨("_law_home_word", none), "_law_home_word", "_law_home_word", defArgs s_law_home_word, defBody s_law_home_word, defScope s_law_home_word, [], []⟩
theorem sc_law_home_word : FnScope N_law_home_word P_law_home_word (defScope s_law_home_word) := scope_by (by decide +kernel)
abbrev s_law_any_home : Stmt := top 49
abbrev N_law_any_home : List Str := ["_law_feed_here", "_law_menu", "_law_folk", "_law_pairs", "_law_ways", "_law_who", "_law_mate"]
abbrev P_law_any_home : List Str := ["_law_feed_here"]
def d_law_any_home : DefD := ⟨("_law_any_home", none), "_law_any_home", "_law_any_home", defArgs s_law_any_home, defBody s_law_any_home, defScope s_law_any_home, [], []⟩
theorem sc_law_any_home : FnScope N_law_any_home P_law_any_home (defScope s_law_any_home) := scope_by (by decide +kernel)
abbrev s_law_home_in : Stmt := top 50
abbrev N_law_home_in : List Str := ["_law_page", "_law_halves", "_law_pairs", "_law_ways", "_law_part", "_law_both", "_law_home_here"]
abbrev P_law_home_in : List Str := ["_law_page"]
def d_law_home_in : DefD := ⟨("_law_home_in", none), "_law_home_in", "_law_home_in", defArgs s_law_home_in, defBody s_law_home_in, defScope s_law_home_in, [], []⟩
theorem sc_law_home_in : FnScope N_law_home_in P_law_home_in (defScope s_law_home_in) := scope_by (by decide +kernel)
abbrev s_law_read : Stmt := top 51
abbrev N_law_read : List Str := ["_law_words", "_law_found", "e", "_law_others"]
abbrev P_law_read : List Str := ["_law_words"]
def d_law_read : DefD := ⟨("_law_read", none), "_law_read", "_law_read", defArgs s_law_read, defBody s_law_read, defScope s_law_read, [], []⟩
theorem sc_law_read : FnScope N_law_read P_law_read (defScope s_law_read) := scope_by (by decide +kernel)
abbrev s_law_read_due : Stmt := top 52
abbrev N_law_read_due : List Str := ["_law_page", "_law_parts", "_law_home_here"]
abbrev P_law_read_due : List Str := ["_law_page"]
def d_law_read_due : DefD := ⟨("_law_read_due", none), "_law_read_due", "_law_read_due", defArgs s_law_read_due, defBody s_law_read_due, defScope s_law_read_due, [], []⟩
theorem sc_law_read_due : FnScope N_law_read_due P_law_read_due (defScope s_law_read_due) := scope_by (by decide +kernel)
abbrev s_law_bent_word : Stmt := top 53
abbrev N_law_bent_word : List Str := ["_law_feed_here", "_law_page", "_law_spot", "_law_way", "_law_sign"]
abbrev P_law_bent_word : List Str := ["_law_feed_here", "_law_page"]
def d_law_bent_word : DefD := ⟨("_law_bent_word", none), "_law_bent_word", "_law_bent_word", defArgs s_law_bent_word, defBody s_law_bent_word, defScope s_law_bent_word, [], []⟩
theorem sc_law_bent_word : FnScope N_law_bent_word P_law_bent_word (defScope s_law_bent_word) := scope_by (by decide +kernel)
abbrev s_law : Stmt := top 54
abbrev N_law : List Str := ["_law_script", "_law_feed_here", "_law_lap", "_law_home_here", "_law_page", "_law_turn", "_law_found"]
abbrev P_law : List Str := ["_law_script"]
def d_law : DefD := ⟨("law", none), "law", "law", defArgs s_law, defBody s_law, defScope s_law, [], []⟩
theorem sc_law : FnScope N_law P_law (defScope s_law) := scope_by (by decide +kernel)
def lamB : PySem.W.Frag → Bool := fun K => match K.lookup (fAd K ("_law_home", none)) with
  | some ⟨_, _, .func fd, _⟩ => isRefV fd.code
  | _ => false
def fn : List DefD := [d_listed_words, d_house_word, d_is_word, d_are_rising, d_is_rules, d_is_pair_of_two, d_are_hands, d_is_draft, d_rules_bar, d_is_house, d_need_rules, d_need_bridge, d_bridged_from, d_lets_draft, d_rule_in, d_parts_by, d_rules_in, d_bridge_in, d_house_in, d_WordTaker_init, d_WordTaker_refuse, d_WordTaker_is_over, d_WordTaker_take_by, d_WordTaker_ask_end, d_read_house, d_law_feed, d_law_draw, d_NoRules_init, d_NoText_init, d_law_said, d_law_home, d_law_home_word, d_law_any_home, d_law_home_in, d_law_read, d_law_read_due, d_law_bent_word, d_law]
def fs : List (PySem.W.Frag → Bool) := [
  fun K => (Fa.free "len").ok K,
  fun K => (Fa.free "isinstance").ok K,
  fun K => (Fa.free "tuple").ok K,
  fun K => (Fa.free "str").ok K,
  fun K => (Fa.free "all").ok K,
  fun K => (Fa.free "sorted").ok K,
  fun K => (Fa.free "repr").ok K,
  fun K => (Fa.free "zip").ok K,
  fun K => (Fa.free "range").ok K,
  fun K => (Fa.free "ValueError").ok K,
  fun K => (Fa.free "list").ok K,
  fun K => (Fa.glo "listed_words").ok K,
  fun K => (Fa.glo "house_word").ok K,
  fun K => (Fa.glo "is_word").ok K,
  fun K => (Fa.glo "are_rising").ok K,
  fun K => (Fa.glo "is_rules").ok K,
  fun K => (Fa.glo "is_pair_of_two").ok K,
  fun K => (Fa.glo "are_hands").ok K,
  fun K => (Fa.glo "is_draft").ok K,
  fun K => (Fa.glo "rules_bar").ok K,
  fun K => (Fa.glo "is_house").ok K,
  fun K => (Fa.glo "need_rules").ok K,
  fun K => (Fa.glo "need_bridge").ok K,
  fun K => (Fa.glo "bridged_from").ok K,
  fun K => (Fa.glo "lets_draft").ok K,
  fun K => (Fa.glo "rule_in").ok K,
  fun K => (Fa.glo "parts_by").ok K,
  fun K => (Fa.glo "rules_in").ok K,
  fun K => (Fa.glo "bridge_in").ok K,
  fun K => (Fa.glo "house_in").ok K,
  fun K => (Fa.glo "read_house").ok K,
  fun K => (Fa.glo "_law_feed").ok K,
  fun K => (Fa.glo "_law_draw").ok K,
  fun K => (Fa.glo "_law_said").ok K,
  fun K => (Fa.glo "_law_home").ok K,
  fun K => (Fa.glo "_law_home_word").ok K,
  fun K => (Fa.glo "_law_any_home").ok K,
  fun K => (Fa.glo "_law_home_in").ok K,
  fun K => (Fa.glo "_law_read").ok K,
  fun K => (Fa.glo "_law_read_due").ok K,
  fun K => (Fa.glo "_law_bent_word").ok K,
  fun K => (Fa.glo "law").ok K,
  fun K => (Fa.glo "MustError").ok K,
  fun K => (Fa.glo "LackError").ok K,
  fun K => (Fa.glo "NoPaper").ok K,
  fun K => (Fa.glo "NoRules").ok K,
  fun K => (Fa.glo "NoMore").ok K,
  fun K => (Fa.glo "NoShowing").ok K,
  fun K => (Fa.glo "NoText").ok K,
  fun K => (Fa.glo "NoRow").ok K,
  fun K => (Fa.glo "NoHand").ok K,
  fun K => (Fa.glo "NoName").ok K,
  fun K => (Fa.glo "NoStep").ok K,
  fun K => (Fa.glo "WordTaker").ok K,
  fun K => (Fa.str "NOTHING" "-").ok K,
  fun K => (Fa.str "LETTERS" "abcdefghijklmnopqrstuvwxyz").ok K,
  fun K => (Fa.int "LONGEST" 8).ok K,
  fun K => (Fa.glo "LET_WORDS").ok K,
  fun K => tupB K "LET_WORDS" ((["back", "ends", "on", "round", "self", "step"] : List Str).map Dv.str),
  fun K => (Fa.cls "WordTaker").ok K,
  fun K => (Fa.mkr "WordTaker").ok K,
  fun K => (Fa.noat "WordTaker" "line_number").ok K,
  fun K => (Fa.noat "WordTaker" "parts").ok K,
  fun K => (Fa.noat "WordTaker" "taken").ok K,
  fun K => (Fa.meth "WordTaker" "refuse").ok K,
  fun K => (Fa.meth "WordTaker" "is_over").ok K,
  fun K => (Fa.meth "WordTaker" "take_by").ok K,
  fun K => (Fa.meth "WordTaker" "ask_end").ok K,
  baseB "MustError",
  exB "NoRules" ["word", "hand"],
  exB "NoText" ["line", "word"],
  fun K => xfB K (ga K "NoRules") && excB K (ga K "NoRules"),
  fun K => xfB K (ga K "NoText") && excB K (ga K "NoText"),
  fun K => decide (PySem.W.exmOne K (.ref (ga K "NoRules")) (.ref (ga K "NoPaper")) = some false),
  fun K => decide (PySem.W.exmOne K (.ref (ga K "NoRules")) (.ref (ga K "NoRules")) = some true),
  fun K => decide (PySem.W.exmOne K (.ref (ga K "NoRules")) (.ref (ga K "NoMore")) = some false),
  fun K => decide (PySem.W.exmOne K (.ref (ga K "NoRules")) (.ref (ga K "NoHand")) = some false),
  fun K => decide (PySem.W.exmOne K (.ref (ga K "NoRules")) (.ref (ga K "NoName")) = some false),
  fun K => decide (PySem.W.exmOne K (.ref (ga K "NoRules")) (.ref (ga K "NoStep")) = some false),
  fun K => decide (PySem.W.exmOne K (.ref (ga K "NoText")) (.ref (ga K "MustError")) = some true),
  fun K => decide (PySem.W.kitOne K (.ref (ga K "NoText")) (.ref (ga K "LackError")) = some false),
  fun K => decide (PySem.W.kitOne K (.ref (ga K "NoText")) (.ref (ga K "NoMore")) = some false),
  fun K => decide (PySem.W.kitOne K (.ref (ga K "NoText")) (.ref (ga K "NoPaper")) = some false),
  fun K => decide (PySem.W.kitOne K (.ref (ga K "NoText")) (.ref (ga K "NoRow")) = some false),
  fun K => decide (PySem.W.kitOne K (.ref (ga K "NoText")) (.ref (ga K "NoRules")) = some false),
  fun K => decide (PySem.W.kitOne K (.ref (ga K "NoText")) (.ref (ga K "NoShowing")) = some false),
  fun K => decide (PySem.W.kitOne K (.ref (ga K "NoText")) (.ref (ga K "NoText")) = some true),
  fun K => decide (PySem.W.kitOne K (.ref (ga K "NoText")) (.type "ValueError") = some true),
  lamB,
  fun K => !decide (ga K "rules_in" = ga K "bridge_in"),
  fun K => !decide (ga K "is_word" = ga K "is_rules")]
def lm : List (Str × Option Str) := [("_law_home", none)]
abbrev Sy (K : PySem.W.Frag) (h : Heap) (cs : List (Addr × Addr)) : Prop := SaysM lm fs fn K h cs
variable {P : Program} {w : World} {K : PySem.W.Frag} {h : Heap} {cs : List (Addr × Addr)} {mg : Str → Option Value} {base : Heap} {T : Tx}
theorem m_len (c : Sy K h cs) (G : h.Ns mainGlobals mg) : mg "len" = none := free_ok c.kin G (c.fact 0 : (Fa.free "len").ok K = true)
theorem m_isinstance (c : Sy K h cs) (G : h.Ns mainGlobals mg) : mg "isinstance" = none := free_ok c.kin G (c.fact 1 : (Fa.free "isinstance").ok K = true)
theorem m_tuple (c : Sy K h cs) (G : h.Ns mainGlobals mg) : mg "tuple" = none := free_ok c.kin G (c.fact 2 : (Fa.free "tuple").ok K = true)
theorem m_str (c : Sy K h cs) (G : h.Ns mainGlobals mg) : mg "str" = none := free_ok c.kin G (c.fact 3 : (Fa.free "str").ok K = true)
theorem m_all (c : Sy K h cs) (G : h.Ns mainGlobals mg) : mg "all" = none := free_ok c.kin G (c.fact 4 : (Fa.free "all").ok K = true)
theorem m_sorted (c : Sy K h cs) (G : h.Ns mainGlobals mg) : mg "sorted" = none := free_ok c.kin G (c.fact 5 : (Fa.free "sorted").ok K = true)
theorem m_repr (c : Sy K h cs) (G : h.Ns mainGlobals mg) : mg "repr" = none := free_ok c.kin G (c.fact 6 : (Fa.free "repr").ok K = true)
theorem m_zip (c : Sy K h cs) (G : h.Ns mainGlobals mg) : mg "zip" = none := free_ok c.kin G (c.fact 7 : (Fa.free "zip").ok K = true)
theorem m_range (c : Sy K h cs) (G : h.Ns mainGlobals mg) : mg "range" = none := free_ok c.kin G (c.fact 8 : (Fa.free "range").ok K = true)
theorem m_ValueError (c : Sy K h cs) (G : h.Ns mainGlobals mg) : mg "ValueError" = none := free_ok c.kin G (c.fact 9 : (Fa.free "ValueError").ok K = true)
theorem m_list (c : Sy K h cs) (G : h.Ns mainGlobals mg) : mg "list" = none := free_ok c.kin G (c.fact 10 : (Fa.free "list").ok K = true)
theorem g_listed_words (c : Sy K h cs) (G : h.Ns mainGlobals mg) : mg "listed_words" = some (.ref (ga K "listed_words")) := glo_ok c.kin G (c.fact 11 : (Fa.glo "listed_words").ok K = true)
theorem g_house_word (c : Sy K h cs) (G : h.Ns mainGlobals mg) : mg "house_word" = some (.ref (ga K "house_word")) := glo_ok c.kin G (c.fact 12 : (Fa.glo "house_word").ok K = true)
theorem g_is_word (c : Sy K h cs) (G : h.Ns mainGlobals mg) : mg "is_word" = some (.ref (ga K "is_word")) := glo_ok c.kin G (c.fact 13 : (Fa.glo "is_word").ok K = true)
theorem g_are_rising (c : Sy K h cs) (G : h.Ns mainGlobals mg) : mg "are_rising" = some (.ref (ga K "are_rising")) := glo_ok c.kin G (c.fact 14 : (Fa.glo "are_rising").ok K = true)
theorem g_is_rules (c : Sy K h cs) (G : h.Ns mainGlobals mg) : mg "is_rules" = some (.ref (ga K "is_rules")) := glo_ok c.kin G (c.fact 15 : (Fa.glo "is_rules").ok K = true)
theorem g_is_pair_of_two (c : Sy K h cs) (G : h.Ns mainGlobals mg) : mg "is_pair_of_two" = some (.ref (ga K "is_pair_of_two")) := glo_ok c.kin G (c.fact 16 : (Fa.glo "is_pair_of_two").ok K = true)
theorem g_are_hands (c : Sy K h cs) (G : h.Ns mainGlobals mg) : mg "are_hands" = some (.ref (ga K "are_hands")) := glo_ok c.kin G (c.fact 17 : (Fa.glo "are_hands").ok K = true)
theorem g_is_draft (c : Sy K h cs) (G : h.Ns mainGlobals mg) : mg "is_draft" = some (.ref (ga K "is_draft")) := glo_ok c.kin G (c.fact 18 : (Fa.glo "is_draft").ok K = true)
theorem g_rules_bar (c : Sy K h cs) (G : h.Ns mainGlobals mg) : mg "rules_bar" = some (.ref (ga K "rules_bar")) := glo_ok c.kin G (c.fact 19 : (Fa.glo "rules_bar").ok K = true)
theorem g_is_house (c : Sy K h cs) (G : h.Ns mainGlobals mg) : mg "is_house" = some (.ref (ga K "is_house")) := glo_ok c.kin G (c.fact 20 : (Fa.glo "is_house").ok K = true)
theorem g_need_rules (c : Sy K h cs) (G : h.Ns mainGlobals mg) : mg "need_rules" = some (.ref (ga K "need_rules")) := glo_ok c.kin G (c.fact 21 : (Fa.glo "need_rules").ok K = true)
theorem g_need_bridge (c : Sy K h cs) (G : h.Ns mainGlobals mg) : mg "need_bridge" = some (.ref (ga K "need_bridge")) := glo_ok c.kin G (c.fact 22 : (Fa.glo "need_bridge").ok K = true)
theorem g_bridged_from (c : Sy K h cs) (G : h.Ns mainGlobals mg) : mg "bridged_from" = some (.ref (ga K "bridged_from")) := glo_ok c.kin G (c.fact 23 : (Fa.glo "bridged_from").ok K = true)
theorem g_lets_draft (c : Sy K h cs) (G : h.Ns mainGlobals mg) : mg "lets_draft" = some (.ref (ga K "lets_draft")) := glo_ok c.kin G (c.fact 24 : (Fa.glo "lets_draft").ok K = true)
theorem g_rule_in (c : Sy K h cs) (G : h.Ns mainGlobals mg) : mg "rule_in" = some (.ref (ga K "rule_in")) := glo_ok c.kin G (c.fact 25 : (Fa.glo "rule_in").ok K = true)
theorem g_parts_by (c : Sy K h cs) (G : h.Ns mainGlobals mg) : mg "parts_by" = some (.ref (ga K "parts_by")) := glo_ok c.kin G (c.fact 26 : (Fa.glo "parts_by").ok K = true)
theorem g_rules_in (c : Sy K h cs) (G : h.Ns mainGlobals mg) : mg "rules_in" = some (.ref (ga K "rules_in")) := glo_ok c.kin G (c.fact 27 : (Fa.glo "rules_in").ok K = true)
theorem g_bridge_in (c : Sy K h cs) (G : h.Ns mainGlobals mg) : mg "bridge_in" = some (.ref (ga K "bridge_in")) := glo_ok c.kin G (c.fact 28 : (Fa.glo "bridge_in").ok K = true)
theorem g_house_in (c : Sy K h cs) (G : h.Ns mainGlobals mg) : mg "house_in" = some (.ref (ga K "house_in")) := glo_ok c.kin G (c.fact 29 : (Fa.glo "house_in").ok K = true)
theorem g_read_house (c : Sy K h cs) (G : h.Ns mainGlobals mg) : mg "read_house" = some (.ref (ga K "read_house")) := glo_ok c.kin G (c.fact 30 : (Fa.glo "read_house").ok K = true)
theorem g_law_feed (c : Sy K h cs) (G : h.Ns mainGlobals mg) : mg "_law_feed" = some (.ref (ga K "_law_feed")) := glo_ok c.kin G (c.fact 31 : (Fa.glo "_law_feed").ok K = true)
theorem g_law_draw (c : Sy K h cs) (G : h.Ns mainGlobals mg) : mg "_law_draw" = some (.ref (ga K "_law_draw")) := glo_ok c.kin G (c.fact 32 : (Fa.glo "_law_draw").ok K = true)
theorem g_law_said (c : Sy K h cs) (G : h.Ns mainGlobals mg) : mg "_law_said" = some (.ref (ga K "_law_said")) := glo_ok c.kin G (c.fact 33 : (Fa.glo "_law_said").ok K = true)
theorem g_law_home (c : Sy K h cs) (G : h.Ns mainGlobals mg) : mg "_law_home" = some (.ref (ga K "_law_home")) := glo_ok c.kin G (c.fact 34 : (Fa.glo "_law_home").ok K = true)
theorem g_law_home_word (c : Sy K h cs) (G : h.Ns mainGlobals mg) : mg "_law_home_word" = some (.ref (ga K "_law_home_word")) := glo_ok c.kin G (c.fact 35 : (Fa.glo "_law_home_word").ok K = true)
theorem g_law_any_home (c : Sy K h cs) (G : h.Ns mainGlobals mg) : mg "_law_any_home" = some (.ref (ga K "_law_any_home")) := glo_ok c.kin G (c.fact 36 : (Fa.glo "_law_any_home").ok K = true)
theorem g_law_home_in (c : Sy K h cs) (G : h.Ns mainGlobals mg) : mg "_law_home_in" = some (.ref (ga K "_law_home_in")) := glo_ok c.kin G (c.fact 37 : (Fa.glo "_law_home_in").ok K = true)
theorem g_law_read (c : Sy K h cs) (G : h.Ns mainGlobals mg) : mg "_law_read" = some (.ref (ga K "_law_read")) := glo_ok c.kin G (c.fact 38 : (Fa.glo "_law_read").ok K = true)
theorem g_law_read_due (c : Sy K h cs) (G : h.Ns mainGlobals mg) : mg "_law_read_due" = some (.ref (ga K "_law_read_due")) := glo_ok c.kin G (c.fact 39 : (Fa.glo "_law_read_due").ok K = true)
theorem g_law_bent_word (c : Sy K h cs) (G : h.Ns mainGlobals mg) : mg "_law_bent_word" = some (.ref (ga K "_law_bent_word")) := glo_ok c.kin G (c.fact 40 : (Fa.glo "_law_bent_word").ok K = true)
theorem g_law (c : Sy K h cs) (G : h.Ns mainGlobals mg) : mg "law" = some (.ref (ga K "law")) := glo_ok c.kin G (c.fact 41 : (Fa.glo "law").ok K = true)
theorem g_MustError (c : Sy K h cs) (G : h.Ns mainGlobals mg) : mg "MustError" = some (.ref (ga K "MustError")) := glo_ok c.kin G (c.fact 42 : (Fa.glo "MustError").ok K = true)
theorem g_LackError (c : Sy K h cs) (G : h.Ns mainGlobals mg) : mg "LackError" = some (.ref (ga K "LackError")) := glo_ok c.kin G (c.fact 43 : (Fa.glo "LackError").ok K = true)
theorem g_NoPaper (c : Sy K h cs) (G : h.Ns mainGlobals mg) : mg "NoPaper" = some (.ref (ga K "NoPaper")) := glo_ok c.kin G (c.fact 44 : (Fa.glo "NoPaper").ok K = true)
theorem g_NoRules (c : Sy K h cs) (G : h.Ns mainGlobals mg) : mg "NoRules" = some (.ref (ga K "NoRules")) := glo_ok c.kin G (c.fact 45 : (Fa.glo "NoRules").ok K = true)
theorem g_NoMore (c : Sy K h cs) (G : h.Ns mainGlobals mg) : mg "NoMore" = some (.ref (ga K "NoMore")) := glo_ok c.kin G (c.fact 46 : (Fa.glo "NoMore").ok K = true)
theorem g_NoShowing (c : Sy K h cs) (G : h.Ns mainGlobals mg) : mg "NoShowing" = some (.ref (ga K "NoShowing")) := glo_ok c.kin G (c.fact 47 : (Fa.glo "NoShowing").ok K = true)
theorem g_NoText (c : Sy K h cs) (G : h.Ns mainGlobals mg) : mg "NoText" = some (.ref (ga K "NoText")) := glo_ok c.kin G (c.fact 48 : (Fa.glo "NoText").ok K = true)
theorem g_NoRow (c : Sy K h cs) (G : h.Ns mainGlobals mg) : mg "NoRow" = some (.ref (ga K "NoRow")) := glo_ok c.kin G (c.fact 49 : (Fa.glo "NoRow").ok K = true)
theorem g_NoHand (c : Sy K h cs) (G : h.Ns mainGlobals mg) : mg "NoHand" = some (.ref (ga K "NoHand")) := glo_ok c.kin G (c.fact 50 : (Fa.glo "NoHand").ok K = true)
theorem g_NoName (c : Sy K h cs) (G : h.Ns mainGlobals mg) : mg "NoName" = some (.ref (ga K "NoName")) := glo_ok c.kin G (c.fact 51 : (Fa.glo "NoName").ok K = true)
theorem g_NoStep (c : Sy K h cs) (G : h.Ns mainGlobals mg) : mg "NoStep" = some (.ref (ga K "NoStep")) := glo_ok c.kin G (c.fact 52 : (Fa.glo "NoStep").ok K = true)
theorem g_WordTaker (c : Sy K h cs) (G : h.Ns mainGlobals mg) : mg "WordTaker" = some (.ref (ga K "WordTaker")) := glo_ok c.kin G (c.fact 53 : (Fa.glo "WordTaker").ok K = true)
abbrev kv_NOTHING : D := .str "-"
theorem kd_NOTHING (c : Sy K h cs) (G : h.Ns mainGlobals mg) : Kd K mg "NOTHING" kv_NOTHING := kd_str c.kin G (c.fact 54 : (Fa.str "NOTHING" "-").ok K = true)
abbrev kv_LETTERS : D := .str "abcdefghijklmnopqrstuvwxyz"
theorem kd_LETTERS (c : Sy K h cs) (G : h.Ns mainGlobals mg) : Kd K mg "LETTERS" kv_LETTERS := kd_str c.kin G (c.fact 55 : (Fa.str "LETTERS" "abcdefghijklmnopqrstuvwxyz").ok K = true)
abbrev kv_LONGEST : D := .int 8
theorem kd_LONGEST (c : Sy K h cs) (G : h.Ns mainGlobals mg) : Kd K mg "LONGEST" kv_LONGEST := kd_int c.kin G (c.fact 56 : (Fa.int "LONGEST" 8).ok K = true)
abbrev kl_LET_WORDS : List Str := ["back", "ends", "on", "round", "self", "step"]
abbrev kv_LET_WORDS : D := .tup (kl_LET_WORDS.map D.str)
theorem kd_LET_WORDS (c : Sy K h cs) (G : h.Ns mainGlobals mg) : Kd K mg "LET_WORDS" kv_LET_WORDS := kd_strs c.kin G (c.fact 57 : (Fa.glo "LET_WORDS").ok K = true) (c.fact 58 : tupB K "LET_WORDS" (kl_LET_WORDS.map Dv.str) = true)
theorem cls_WordTaker (c : Sy K h cs) (G : h.Ns mainGlobals mg) : Cls K (ga K "WordTaker") := cls_ok (c.fact 59 : (Fa.cls "WordTaker").ok K = true)
theorem mkr_WordTaker (c : Sy K h cs) : Mk K (ga K "WordTaker") (ma K (ga K "WordTaker") "__init__") := mkr_ok (c.fact 60 : (Fa.mkr "WordTaker").ok K = true)
theorem na_WordTaker_line_number (c : Sy K h cs) (G : h.Ns mainGlobals mg) : NoAttr K (ga K "WordTaker") "line_number" := noat_ok (c.fact 61 : (Fa.noat "WordTaker" "line_number").ok K = true)
theorem na_WordTaker_parts (c : Sy K h cs) (G : h.Ns mainGlobals mg) : NoAttr K (ga K "WordTaker") "parts" := noat_ok (c.fact 62 : (Fa.noat "WordTaker" "parts").ok K = true)
theorem na_WordTaker_taken (c : Sy K h cs) (G : h.Ns mainGlobals mg) : NoAttr K (ga K "WordTaker") "taken" := noat_ok (c.fact 63 : (Fa.noat "WordTaker" "taken").ok K = true)
theorem mt_WordTaker_refuse (c : Sy K h cs) : Meth K (ga K "WordTaker") "refuse" (ma K (ga K "WordTaker") "refuse") := meth_ok (c.fact 64 : (Fa.meth "WordTaker" "refuse").ok K = true)
theorem mt_WordTaker_is_over (c : Sy K h cs) : Meth K (ga K "WordTaker") "is_over" (ma K (ga K "WordTaker") "is_over") := meth_ok (c.fact 65 : (Fa.meth "WordTaker" "is_over").ok K = true)
theorem mt_WordTaker_take_by (c : Sy K h cs) : Meth K (ga K "WordTaker") "take_by" (ma K (ga K "WordTaker") "take_by") := meth_ok (c.fact 66 : (Fa.meth "WordTaker" "take_by").ok K = true)
theorem mt_WordTaker_ask_end (c : Sy K h cs) : Meth K (ga K "WordTaker") "ask_end" (ma K (ga K "WordTaker") "ask_end") := meth_ok (c.fact 67 : (Fa.meth "WordTaker" "ask_end").ok K = true)
theorem base_MustError (c : Sy K h cs) : baseB "MustError" K = true := c.fact 68
theorem ex_NoRules (c : Sy K h cs) : exB "NoRules" ["word", "hand"] K = true := c.fact 69
theorem ex_NoText (c : Sy K h cs) : exB "NoText" ["line", "word"] K = true := c.fact 70
theorem fd_NoRules_init (c : Sy K h cs) : ∃ fd, FunD K "__init__" "NoRules.__init__" (defArgs s_NoRules_init) (defBody s_NoRules_init) (defScope s_NoRules_init) [] [] (ma K (ga K "NoRules") "__init__") fd := c.def_ 27 (d := d_NoRules_init)
theorem ok_NoRules_init (c : Sy K h cs) (G : h.Ns mainGlobals mg) : ExcG P w K mg base 1 "NoRules" (ga K "NoRules") ["word", "hand"] := by
  obtain ⟨fd, F⟩ := fd_NoRules_init (K := K) c
  exact excG_by (t := tIn2 K "rules or bridges that are not let" "word" "hand") (ex_NoRules c) (g_NoRules c G) F sc_NoRules_init rfl (fun _ _ _ _ _ _ us hl => match us, hl with | [_, _, _], _ => rfl) (fun cdv A outer s H E =>
    pss_cons (ps_expr (pe_base (base_MustError c) rfl (g_MustError c G) (pa_cons (pv 0) (pa_cons pe_str pa_nil)))) (pss_cons (ps_ost (pv 0) (pv 1)) (pss_one (ps_ost (pv 0) (pv 2))))) fun vs H Q E h => pure_in2 h
theorem fd_NoText_init (c : Sy K h cs) : ∃ fd, FunD K "__init__" "NoText.__init__" (defArgs s_NoText_init) (defBody s_NoText_init) (defScope s_NoText_init) [] [] (ma K (ga K "NoText") "__init__") fd := c.def_ 28 (d := d_NoText_init)
theorem ok_NoText_init (c : Sy K h cs) (G : h.Ns mainGlobals mg) : ExcG P w K mg base 1 "NoText" (ga K "NoText") ["line", "word"] := by
  obtain ⟨fd, F⟩ := fd_NoText_init (K := K) c
  exact excG_by (t := tIn2 K "a text that writes nothing of its kind" "line" "word") (ex_NoText c) (g_NoText c G) F sc_NoText_init rfl (fun _ _ _ _ _ _ us hl => match us, hl with | [_, _, _], _ => rfl) (fun cdv A outer s H E =>
    pss_cons (ps_expr (pe_base (base_MustError c) rfl (g_MustError c G) (pa_cons (pv 0) (pa_cons pe_str pa_nil)))) (pss_cons (ps_ost (pv 0) (pv 1)) (pss_one (ps_ost (pv 0) (pv 2))))) fun vs H Q E h => pure_in2 h
theorem fd_listed_words (c : Sy K h cs) : ∃ fd, FunD K "listed_words" "listed_words" (defArgs s_listed_words) (defBody s_listed_words) (defScope s_listed_words) [] [] (ga K "listed_words") fd := c.def_ 0 (d := d_listed_words)
def F_listed_words (K : PySem.W.Frag) : List D → M D := defM 2 ((sRet (eIf (bTest (e2 gtD (eCall lenD (aCons (eVar 0) aNil)) (eC (.int 0)))) (eM1 joinD (eVar 1) (eVar 0)) (eC kv_NOTHING))))
theorem ok_listed_words (c : Sy K h cs) (G : h.Ns mainGlobals mg) : CalK P w K mg base T 1 "listed_words" P_listed_words (F_listed_words K) := by
  obtain ⟨fd, F⟩ := fd_listed_words (K := K) c
  exact calK_of F (g_listed_words c G) sc_listed_words (fun _ _ _ _ _ _ us hl => match us, hl with | [_, _], _ => rfl) (fun _ _ _ _ _ _ us hl => match us, hl with | [_, _], _ => rfl) fun cdv A outer s H E hcd hr =>
    (pssm_one (psm_ret (pem_if (ptm_cmp (opM_gt hr.r) (pem_callB calM_len rfl (m_len c G) PyProof.Rows.Boot.«len» (pam_cons (pvm 0) pam_nil)) pem_int (nomark _)) (pem_m1 PySem.F.slot_str_join PySem.F.type_str_join meM_join (pvm 1) (pvm 0)) (pem_glob rfl (kd_NOTHING c G)))))
theorem fd_house_word (c : Sy K h cs) : ∃ fd, FunD K "house_word" "house_word" (defArgs s_house_word) (defBody s_house_word) (defScope s_house_word) [] [] (ga K "house_word") fd := c.def_ 1 (d := d_house_word)
def F_house_word (K : PySem.W.Frag) : List D → M D := defM 8 ((sSeq (sAsg (eVar 0) (gT 2 (gsC (gN 1) (gsC (gN 2) gsN))))
    (sSeq (sAsg (eLc (iSeq (eVar 1)) (gT 2 (gsC (gN 4) (gsC (gN 5) gsN))) bYes (e2 addD (e2 addD (eVar 4) (eC (.str ":"))) (eCall (cM 2 (F_listed_words K)) (aCons (eVar 5) (aCons (eC (.str ",")) aNil)))) [4, 5]) (gN 3))
    (sRet (e2 addD (e2 addD (eM1 joinD (eC (.str ";")) (eVar 3)) (eC (.str "/"))) (eCall (cM 2 (F_listed_words K)) (aCons (eLc (iSeq (eVar 2)) (gT 2 (gsC (gN 6) (gsC (gN 7) gsN))) bYes (e2 addD (e2 addD (eVar 6) (eC (.str ">"))) (eVar 7)) [6, 7]) (aCons (eC (.str ";")) aNil))))))))
theorem ok_house_word (c : Sy K h cs) (G : h.Ns mainGlobals mg) : CalK P w K mg base T 2 "house_word" P_house_word (F_house_word K) := by
  obtain ⟨fd, F⟩ := fd_house_word (K := K) c
  exact calK_of F (g_house_word c G) sc_house_word (fun _ _ _ _ _ _ us hl => match us, hl with | [_], _ => rfl) (fun _ _ _ _ _ _ us hl => match us, hl with | [_], _ => rfl) fun cdv A outer s H E hcd hr =>
    (pssm_cons (psm_asg (pvm 0) (pgm_tup rfl (pgsm_cons (pgn 1 sc_house_word.nd) (pgsm_cons (pgn 2 sc_house_word.nd) pgsm_nil))))
    (pssm_cons (psm_setLc (i := 3) (own := [("hand", 4), ("rules", 5)]) rfl sc_house_word.nd rfl rfl (by kernel_rfl) (pim_seq (pvm 1)) (blk_by (by kernel_rfl)) (by decide) (fun _ _ _ _ _ => (pgm_tup rfl (pgsm_cons (pgn 4 sc_house_word.nd) (pgsm_cons (pgn 5 sc_house_word.nd) pgsm_nil)))) (fun _ _ _ _ _ => ptsm_nil) (fun _ _ _ _ _ => (pem_op opM_add (pem_op opM_add (pvm 4) pem_str) (cem (ok_listed_words c G) hr rfl L2.takes0 (pam_cons (pvm 5) (pam_cons pem_str pam_nil))))))
    (pssm_one (psm_ret (pem_op opM_add (pem_op opM_add (pem_m1 PySem.F.slot_str_join PySem.F.type_str_join meM_join pem_str (pvm 3)) pem_str) (cem (ok_listed_words c G) hr rfl takesM (pam_cons (pem_lc (own := [("one", 6), ("other", 7)]) rfl sc_house_word.nd (pim_seq (pvm 2)) (blk_by (by kernel_rfl)) (by decide) (fun _ _ _ _ _ => (pgm_tup rfl (pgsm_cons (pgn 6 sc_house_word.nd) (pgsm_cons (pgn 7 sc_house_word.nd) pgsm_nil)))) (fun _ _ _ _ _ => ptsm_nil) (fun _ _ _ _ _ => (pem_op opM_add (pem_op opM_add (pvm 6) pem_str) (pvm 7)))) (pam_cons pem_str pam_nil))))))))
theorem fd_is_word (c : Sy K h cs) : ∃ fd, FunD K "is_word" "is_word" (defArgs s_is_word) (defBody s_is_word) (defScope s_is_word) [] [] (ga K "is_word") fd := c.def_ 2 (d := d_is_word)
def F_is_word (K : PySem.W.Frag) : List D → M D := defM 2 ((sSeq (sIf (bOr (bNot (bTru (eCall isiD (aCons (eVar 0) (aCons (eC (.ty "str")) aNil))))) (bNot (bTest (e3 leD leD (eC (.int 1)) (eCall lenD (aCons (eVar 0) aNil)) (eC kv_LONGEST))))) (sRet (eC (.bl false))) sNext)
    (sRet (eCall allD (aCons (eLc (iSeq (eVar 0)) (gN 1) bYes (e2 inD (eVar 1) (eC kv_LETTERS)) [1]) aNil)))))
theorem ok_is_word (c : Sy K h cs) (G : h.Ns mainGlobals mg) : CalK P w K mg base T 1 "is_word" P_is_word (F_is_word K) := by
  obtain ⟨fd, F⟩ := fd_is_word (K := K) c
  exact calK_of F (g_is_word c G) sc_is_word (fun _ _ _ _ _ _ us hl => match us, hl with | [_], _ => rfl) (fun _ _ _ _ _ _ us hl => match us, hl with | [_], _ => rfl) fun cdv A outer s H E hcd hr =>
    (pssm_cons (psm_if (PWm.pt (pwm_or (ptm_not (ptm_val (pem_callB calM_isi rfl (m_isinstance c G) PyProof.Rows.Boot.«isinstance» (pam_cons (pvm 0) (pam_cons (pem_ty rfl (m_str c G) PyProof.Rows.Boot.«str») pam_nil))))) (pwm_or1 (ptm_not (ptm_chain (opM_le hr.r) (opM_le hr.r) pem_int (pem_callB calM_len rfl (m_len c G) PyProof.Rows.Boot.«len» (pam_cons (pvm 0) pam_nil)) (pem_glob rfl (kd_LONGEST c G))))))) (pssm_one (psm_ret pem_bl)) pssm_nil)
    (pssm_one (psm_ret (pem_callB (calM_all rfl) rfl (m_all c G) PyProof.Rows.Boot.«all» (pam_cons (pem_lc (own := [("sign", 1)]) rfl sc_is_word.nd (pim_seq (pvm 0)) (blk_by (by kernel_rfl)) (by decide) (fun _ _ _ _ _ => (pgn 1 sc_is_word.nd)) (fun _ _ _ _ _ => ptsm_nil) (fun _ _ _ _ _ => (pem_cmp (opM_in hr.r) (pvm 1) (pem_glob rfl (kd_LETTERS c G)) (by with_unfolding_all rfl)))) pam_nil)))))
theorem fd_are_rising (c : Sy K h cs) : ∃ fd, FunD K "are_rising" "are_rising" (defArgs s_are_rising) (defBody s_are_rising) (defScope s_are_rising) [] [] (ga K "are_rising") fd := c.def_ 3 (d := d_are_rising)
def F_are_rising (K : PySem.W.Frag) : List D → M D := defM 3 ((sRet (eCall allD (aCons (eLc (iCall zipD (aCons (eVar 0) (aCons (eSl (eVar 0) (oSome (eC (.int 1))) oNone) aNil))) (gT 2 (gsC (gN 1) (gsC (gN 2) gsN))) bYes (e2 ltD (eVar 1) (eVar 2)) [1, 2]) aNil))))
theorem ok_are_rising (c : Sy K h cs) (G : h.Ns mainGlobals mg) : CalK P w K mg base T 1 "are_rising" P_are_rising (F_are_rising K) := by
  obtain ⟨fd, F⟩ := fd_are_rising (K := K) c
  exact calK_of F (g_are_rising c G) sc_are_rising (fun _ _ _ _ _ _ us hl => match us, hl with | [_], _ => rfl) (fun _ _ _ _ _ _ us hl => match us, hl with | [_], _ => rfl) fun cdv A outer s H E hcd hr =>
    (pssm_one (psm_ret (pem_callB (calM_all rfl) rfl (m_all c G) PyProof.Rows.Boot.«all» (pam_cons (pem_lc (own := [("one", 1), ("other", 2)]) rfl sc_are_rising.nd (pim_zip rfl (m_zip c G) (pam_cons (pvm 0) (pam_cons (pem_slice (pvm 0) (pom_some pem_int) pom_none) pam_nil))) (blk_by (by kernel_rfl)) (by decide) (fun _ _ _ _ _ => (pgm_tup rfl (pgsm_cons (pgn 1 sc_are_rising.nd) (pgsm_cons (pgn 2 sc_are_rising.nd) pgsm_nil)))) (fun _ _ _ _ _ => ptsm_nil) (fun _ _ _ _ _ => (pem_cmp (opM_lt hr.r) (pvm 1) (pvm 2) (nomark _)))) pam_nil))))
theorem fd_is_rules (c : Sy K h cs) : ∃ fd, FunD K "is_rules" "is_rules" (defArgs s_is_rules) (defBody s_is_rules) (defScope s_is_rules) [] [] (ga K "is_rules") fd := c.def_ 4 (d := d_is_rules)
def F_is_rules (K : PySem.W.Frag) : List D → M D := defM 2 ((sSeq (sIf (bOr (bNot (bTru (eCall isiD (aCons (eVar 0) (aCons (eC (.ty "tuple")) aNil))))) (bNot (bTru (eCall allD (aCons (eLc (iSeq (eVar 0)) (gN 1) bYes (eAnd (eCall isiD (aCons (eVar 1) (aCons (eC (.ty "str")) aNil))) (e2 inD (eVar 1) (eC kv_LET_WORDS))) [1]) aNil))))) (sRet (eC (.bl false))) sNext)
    (sRet (eCall (cM 1 (F_are_rising K)) (aCons (eVar 0) aNil)))))
theorem ok_is_rules (c : Sy K h cs) (G : h.Ns mainGlobals mg) : CalK P w K mg base T 2 "is_rules" P_is_rules (F_is_rules K) := by
  obtain ⟨fd, F⟩ := fd_is_rules (K := K) c
  exact calK_of F (g_is_rules c G) sc_is_rules (fun _ _ _ _ _ _ us hl => match us, hl with | [_], _ => rfl) (fun _ _ _ _ _ _ us hl => match us, hl with | [_], _ => rfl) fun cdv A outer s H E hcd hr =>
    (pssm_cons (psm_if (PWm.pt (pwm_or (ptm_not (ptm_val (pem_callB calM_isi rfl (m_isinstance c G) PyProof.Rows.Boot.«isinstance» (pam_cons (pvm 0) (pam_cons (pem_ty rfl (m_tuple c G) PyProof.Rows.Boot.«tuple») pam_nil))))) (pwm_or1 (ptm_not (ptm_val (pem_callB (calM_all rfl) rfl (m_all c G) PyProof.Rows.Boot.«all» (pam_cons (pem_lc (own := [("one", 1)]) rfl sc_is_rules.nd (pim_seq (pvm 0)) (blk_by (by kernel_rfl)) (by decide) (fun _ _ _ _ _ => (pgn 1 sc_is_rules.nd)) (fun _ _ _ _ _ => ptsm_nil) (fun _ _ _ _ _ => (pem_and (pem_callB calM_isi rfl (m_isinstance c G) PyProof.Rows.Boot.«isinstance» (pam_cons (pvm 1) (pam_cons (pem_ty rfl (m_str c G) PyProof.Rows.Boot.«str») pam_nil))) (pem_one (pem_cmp (opM_in hr.r) (pvm 1) (pem_glob rfl (kd_LET_WORDS c G)) (by with_unfolding_all rfl)))))) pam_nil))))))) (pssm_one (psm_ret pem_bl)) pssm_nil)
    (pssm_one (psm_ret (cem (ok_are_rising c G) hr rfl takesM (pam_cons (pvm 0) pam_nil)))))
theorem fd_is_pair_of_two (c : Sy K h cs) : ∃ fd, FunD K "is_pair_of_two" "is_pair_of_two" (defArgs s_is_pair_of_two) (defBody s_is_pair_of_two) (defScope s_is_pair_of_two) [] [] (ga K "is_pair_of_two") fd := c.def_ 5 (d := d_is_pair_of_two)
def F_is_pair_of_two (K : PySem.W.Frag) (tab : Addr → Option (List D → M D)) : List D → M D := defM 3 ((sRet (eAnd (eCall isiD (aCons (eVar 0) (aCons (eC (.ty "tuple")) aNil))) (eAnd (e2 eqD (eCall lenD (aCons (eVar 0) aNil)) (eC (.int 2))) (eAnd (eCallA tab 1 1 (aCons (e2 ixD (eVar 0) (eC (.int 0))) aNil)) (eCallA tab 2 1 (aCons (e2 ixD (eVar 0) (eC (.int 1))) aNil)))))))
theorem ok_is_pair_of_two (c : Sy K h cs) (G : h.Ns mainGlobals mg) {tab : Addr → Option (List D → M D)} (hA : ∀ f F, tab f = some F → HeldM P w K mg base T 2 1 f F) : CalK P w K mg base T 3 "is_pair_of_two" P_is_pair_of_two (F_is_pair_of_two K tab) := by
  obtain ⟨fd, F⟩ := fd_is_pair_of_two (K := K) c
  exact calK_of F (g_is_pair_of_two c G) sc_is_pair_of_two (fun _ _ _ _ _ _ us hl => match us, hl with | [_, _, _], _ => rfl) (fun _ _ _ _ _ _ us hl => match us, hl with | [_, _, _], _ => rfl) fun cdv A outer s H E hcd hr =>
    (pssm_one (psm_ret (pem_and (pem_callB calM_isi rfl (m_isinstance c G) PyProof.Rows.Boot.«isinstance» (pam_cons (pvm 0) (pam_cons (pem_ty rfl (m_tuple c G) PyProof.Rows.Boot.«tuple») pam_nil))) (pem_and (pem_cmp (opM_eq hr.r) (pem_callB calM_len rfl (m_len c G) PyProof.Rows.Boot.«len» (pam_cons (pvm 0) pam_nil)) pem_int (nomark _)) (pem_and (pem_callA (n := 1) hA (hr.mono (by decide)) rfl (by first | exact Or.inl rfl | exact Or.inr (Or.inl rfl) | exact Or.inr (Or.inr rfl)) takesM (pam_cons (pem_ix (pvm 0) pem_int (fun _ _ => rfl)) pam_nil)) (pem_one (pem_callA (n := 1) hA (hr.mono (by decide)) rfl (by first | exact Or.inl rfl | exact Or.inr (Or.inl rfl) | exact Or.inr (Or.inr rfl)) takesM (pam_cons (pem_ix (pvm 0) pem_int (fun _ _ => rfl)) pam_nil))))))))
def tabP (K : PySem.W.Frag) : Addr → Option (List D → M D) := fun a => if a = ga K "is_word" then some (F_is_word K) else if a = ga K "is_rules" then some (F_is_rules K) else none
theorem heldP (c : Sy K h cs) (G : h.Ns mainGlobals mg) : ∀ f F, tabP K f = some F → HeldM P w K mg base T 2 1 f F := by
  intro f F e
  unfold tabP at e
  by_cases q : f = ga K "is_word"
  · rw [if_pos q] at e; cases e; subst q; exact (ok_is_word c G).held.mono (by decide)
  rw [if_neg q] at e; clear q
  by_cases q : f = ga K "is_rules"
  · rw [if_pos q] at e; cases e; subst q; exact (ok_is_rules c G).held.mono (by decide)
  rw [if_neg q] at e; clear q
  cases e
theorem ok_is_pair_of_two_P (c : Sy K h cs) (G : h.Ns mainGlobals mg) : CalK P w K mg base T 3 "is_pair_of_two" P_is_pair_of_two (F_is_pair_of_two K (tabP K)) := ok_is_pair_of_two c G (heldP c G)
theorem fd_are_hands (c : Sy K h cs) : ∃ fd, FunD K "are_hands" "are_hands" (defArgs s_are_hands) (defBody s_are_hands) (defScope s_are_hands) [] [] (ga K "are_hands") fd := c.def_ 6 (d := d_are_hands)
def F_are_hands (K : PySem.W.Frag) : List D → M D := defM 2 ((sSeq (sIf (bOr (bNot (bTru (eCall isiD (aCons (eVar 0) (aCons (eC (.ty "tuple")) aNil))))) (bTest (e2 eqD (eVar 0) (eTup aNil)))) (sRet (eC (.bl false))) sNext)
    (sRet (eAnd (eCall allD (aCons (eLc (iSeq (eVar 0)) (gN 1) bYes (eCall (cM 3 (F_is_pair_of_two K (tabP K))) (aCons (eVar 1) (aCons (eC (.adr (ga K "is_word"))) (aCons (eC (.adr (ga K "is_rules"))) aNil)))) [1]) aNil)) (eCall (cM 1 (F_are_rising K)) (aCons (eLc (iSeq (eVar 0)) (gN 1) bYes (e2 ixD (eVar 1) (eC (.int 0))) [1]) aNil))))))
theorem ok_are_hands (c : Sy K h cs) (G : h.Ns mainGlobals mg) : CalK P w K mg base T 4 "are_hands" P_are_hands (F_are_hands K) := by
  obtain ⟨fd, F⟩ := fd_are_hands (K := K) c
  exact calK_of F (g_are_hands c G) sc_are_hands (fun _ _ _ _ _ _ us hl => match us, hl with | [_], _ => rfl) (fun _ _ _ _ _ _ us hl => match us, hl with | [_], _ => rfl) fun cdv A outer s H E hcd hr =>
    (pssm_cons (psm_if (PWm.pt (pwm_or (ptm_not (ptm_val (pem_callB calM_isi rfl (m_isinstance c G) PyProof.Rows.Boot.«isinstance» (pam_cons (pvm 0) (pam_cons (pem_ty rfl (m_tuple c G) PyProof.Rows.Boot.«tuple») pam_nil))))) (pwm_or1 (ptm_cmp (opM_eq hr.r) (pvm 0) (pem_tup pam_nil) (nomark _))))) (pssm_one (psm_ret pem_bl)) pssm_nil)
    (pssm_one (psm_ret (pem_and (pem_callB (calM_all rfl) rfl (m_all c G) PyProof.Rows.Boot.«all» (pam_cons (pem_lc (own := [("one", 1)]) rfl sc_are_hands.nd (pim_seq (pvm 0)) (blk_by (by kernel_rfl)) (by decide) (fun _ _ _ _ _ => (pgn 1 sc_are_hands.nd)) (fun _ _ _ _ _ => ptsm_nil) (fun _ _ _ _ _ => (cem (ok_is_pair_of_two_P c G) hr rfl L2.takes0 (pam_cons (pvm 1) (pam_cons (pem_glob rfl (Kd.adr (g_is_word c G))) (pam_cons (pem_glob rfl (Kd.adr (g_is_rules c G))) pam_nil)))))) pam_nil)) (pem_one (cem (ok_are_rising c G) hr rfl takesM (pam_cons (pem_lc (own := [("one", 1)]) rfl sc_are_hands.nd (pim_seq (pvm 0)) (blk_by (by kernel_rfl)) (by decide) (fun _ _ _ _ _ => (pgn 1 sc_are_hands.nd)) (fun _ _ _ _ _ => ptsm_nil) (fun _ _ _ _ _ => (pem_ix (pvm 1) pem_int (fun _ _ => rfl)))) pam_nil)))))))
theorem fd_is_draft (c : Sy K h cs) : ∃ fd, FunD K "is_draft" "is_draft" (defArgs s_is_draft) (defBody s_is_draft) (defScope s_is_draft) [] [] (ga K "is_draft") fd := c.def_ 7 (d := d_is_draft)
def F_is_draft (K : PySem.W.Frag) : List D → M D := defM 3 ((sSeq (sIf (bOr (bNot (bTru (eCall isiD (aCons (eVar 0) (aCons (eC (.ty "tuple")) aNil))))) (bOr (bTest (e2 neD (eCall lenD (aCons (eVar 0) aNil)) (eC (.int 2)))) (bNot (bTru (eCall (cM 1 (F_are_hands K)) (aCons (e2 ixD (eVar 0) (eC (.int 0))) aNil)))))) (sRet (eC (.bl false))) sNext)
    (sSeq (sAsg (e2 ixD (eVar 0) (eC (.int 1))) (gN 1))
    (sSeq (sIf (bOr (bNot (bTru (eCall isiD (aCons (eVar 1) (aCons (eC (.ty "tuple")) aNil))))) (bNot (bTru (eCall allD (aCons (eLc (iSeq (eVar 1)) (gN 2) bYes (eCall (cM 3 (F_is_pair_of_two K (tabP K))) (aCons (eVar 2) (aCons (eC (.adr (ga K "is_word"))) (aCons (eC (.adr (ga K "is_word"))) aNil)))) [2]) aNil))))) (sRet (eC (.bl false))) sNext)
    (sRet (eCall (cM 1 (F_are_rising K)) (aCons (eVar 1) aNil)))))))
theorem ok_is_draft (c : Sy K h cs) (G : h.Ns mainGlobals mg) : CalK P w K mg base T 5 "is_draft" P_is_draft (F_is_draft K) := by
  obtain ⟨fd, F⟩ := fd_is_draft (K := K) c
  exact calK_of F (g_is_draft c G) sc_is_draft (fun _ _ _ _ _ _ us hl => match us, hl with | [_], _ => rfl) (fun _ _ _ _ _ _ us hl => match us, hl with | [_], _ => rfl) fun cdv A outer s H E hcd hr =>
    (pssm_cons (psm_if (PWm.pt (pwm_or (ptm_not (ptm_val (pem_callB calM_isi rfl (m_isinstance c G) PyProof.Rows.Boot.«isinstance» (pam_cons (pvm 0) (pam_cons (pem_ty rfl (m_tuple c G) PyProof.Rows.Boot.«tuple») pam_nil))))) (pwm_or (ptm_cmp (opM_ne hr.r) (pem_callB calM_len rfl (m_len c G) PyProof.Rows.Boot.«len» (pam_cons (pvm 0) pam_nil)) pem_int (nomark _)) (pwm_or1 (ptm_not (ptm_val (cem (ok_are_hands c G) hr rfl takesM (pam_cons (pem_ix (pvm 0) pem_int (fun _ _ => rfl)) pam_nil)))))))) (pssm_one (psm_ret pem_bl)) pssm_nil)
    (pssm_cons (psm_set (i := 1) sc_is_draft.nd rfl (Or.inl rfl) (pem_ix (pvm 0) pem_int (fun _ _ => rfl)))
    (pssm_cons (psm_if (PWm.pt (pwm_or (ptm_not (ptm_val (pem_callB calM_isi rfl (m_isinstance c G) PyProof.Rows.Boot.«isinstance» (pam_cons (pvm 1) (pam_cons (pem_ty rfl (m_tuple c G) PyProof.Rows.Boot.«tuple») pam_nil))))) (pwm_or1 (ptm_not (ptm_val (pem_callB (calM_all rfl) rfl (m_all c G) PyProof.Rows.Boot.«all» (pam_cons (pem_lc (own := [("one", 2)]) rfl sc_is_draft.nd (pim_seq (pvm 1)) (blk_by (by kernel_rfl)) (by decide) (fun _ _ _ _ _ => (pgn 2 sc_is_draft.nd)) (fun _ _ _ _ _ => ptsm_nil) (fun _ _ _ _ _ => (cem (ok_is_pair_of_two_P c G) hr rfl L2.takes0 (pam_cons (pvm 2) (pam_cons (pem_glob rfl (Kd.adr (g_is_word c G))) (pam_cons (pem_glob rfl (Kd.adr (g_is_word c G))) pam_nil)))))) pam_nil))))))) (pssm_one (psm_ret pem_bl)) pssm_nil)
    (pssm_one (psm_ret (cem (ok_are_rising c G) hr rfl takesM (pam_cons (pvm 1) pam_nil)))))))
theorem fd_rules_bar (c : Sy K h cs) : ∃ fd, FunD K "rules_bar" "rules_bar" (defArgs s_rules_bar) (defBody s_rules_bar) (defScope s_rules_bar) [] [] (ga K "rules_bar") fd := c.def_ 8 (d := d_rules_bar)
def F_rules_bar (K : PySem.W.Frag) : List D → M D := defM 1 ((sSeq (sIf (bAnd (bTest (e2 inD (eC (.str "round")) (eVar 0))) (bTest (e2 ninD (eC (.str "on")) (eVar 0)))) (sRet (eC (.str "round"))) sNext)
    (sRet (eIf (bAnd (bTest (e2 inD (eC (.str "ends")) (eVar 0))) (bTest (e2 neD (eVar 0) (eTup (aCons (eC (.str "ends")) (aCons (eC (.str "on")) aNil)))))) (eC (.str "ends")) (eC .non)))))
theorem ok_rules_bar (c : Sy K h cs) (G : h.Ns mainGlobals mg) : CalK P w K mg base T 1 "rules_bar" P_rules_bar (F_rules_bar K) := by
  obtain ⟨fd, F⟩ := fd_rules_bar (K := K) c
  exact calK_of F (g_rules_bar c G) sc_rules_bar (fun _ _ _ _ _ _ us hl => match us, hl with | [_], _ => rfl) (fun _ _ _ _ _ _ us hl => match us, hl with | [_], _ => rfl) fun cdv A outer s H E hcd hr =>
    (pssm_cons (psm_if (PWm.pt (pwm_and (ptm_cmp (opM_in hr.r) pem_str (pvm 0) (by with_unfolding_all rfl)) (pwm_and1 (ptm_cmp (opM_notIn hr.r) pem_str (pvm 0) (by with_unfolding_all rfl))))) (pssm_one (psm_ret pem_str)) pssm_nil)
    (pssm_one (psm_ret (pem_if (PWm.pt (pwm_and (ptm_cmp (opM_in hr.r) pem_str (pvm 0) (by with_unfolding_all rfl)) (pwm_and1 (ptm_cmp (opM_ne hr.r) (pvm 0) (pem_tup (pam_cons pem_str (pam_cons pem_str pam_nil))) (nomark _))))) pem_str pem_non))))
theorem fd_is_house (c : Sy K h cs) : ∃ fd, FunD K "is_house" "is_house" (defArgs s_is_house) (defBody s_is_house) (defScope s_is_house) [] [] (ga K "is_house") fd := c.def_ 9 (d := d_is_house)
def F_is_house (K : PySem.W.Frag) : List D → M D := defM 8 ((sSeq (sIf (bNot (bTru (eCall (cM 1 (F_is_draft K)) (aCons (eVar 0) aNil)))) (sRet (eC (.bl false))) sNext)
    (sSeq (sAsg (eVar 0) (gT 2 (gsC (gN 1) (gsC (gN 2) gsN))))
    (sSeq (sAsg (eLc (iSeq (eVar 1)) (gT 2 (gsC (gN 4) (gsC (gN 5) gsN))) bYes (eVar 4) [4, 5]) (gN 3))
    (sSeq (sIf (bNot (bTru (eCall allD (aCons (eLc (iSeq (eVar 1)) (gT 2 (gsC (gN 4) (gsC (gN 5) gsN))) bYes (e2 isNoneD (eCall (cM 1 (F_rules_bar K)) (aCons (eVar 5) aNil)) (eC .non)) [4, 5]) aNil)))) (sRet (eC (.bl false))) sNext)
    (sRet (eCall allD (aCons (eLc (iSeq (eVar 2)) (gT 2 (gsC (gN 6) (gsC (gN 7) gsN))) bYes (eAnd (e2 neD (eVar 6) (eVar 7)) (eAnd (e2 inD (eVar 6) (eVar 3)) (e2 inD (eVar 7) (eVar 3)))) [6, 7]) aNil))))))))
theorem ok_is_house (c : Sy K h cs) (G : h.Ns mainGlobals mg) : CalK P w K mg base T 6 "is_house" P_is_house (F_is_house K) := by
  obtain ⟨fd, F⟩ := fd_is_house (K := K) c
  exact calK_of F (g_is_house c G) sc_is_house (fun _ _ _ _ _ _ us hl => match us, hl with | [_], _ => rfl) (fun _ _ _ _ _ _ us hl => match us, hl with | [_], _ => rfl) fun cdv A outer s H E hcd hr =>
    (pssm_cons (psm_if (ptm_not (ptm_val (cem (ok_is_draft c G) hr rfl takesM (pam_cons (pvm 0) pam_nil)))) (pssm_one (psm_ret pem_bl)) pssm_nil)
    (pssm_cons (psm_asg (pvm 0) (pgm_tup rfl (pgsm_cons (pgn 1 sc_is_house.nd) (pgsm_cons (pgn 2 sc_is_house.nd) pgsm_nil))))
    (pssm_cons (psm_set (i := 3) sc_is_house.nd rfl (Or.inr rfl) (pem_lc (own := [("hand", 4), ("rules", 5)]) rfl sc_is_house.nd (pim_seq (pvm 1)) (blk_by (by kernel_rfl)) (by decide) (fun _ _ _ _ _ => (pgm_tup rfl (pgsm_cons (pgn 4 sc_is_house.nd) (pgsm_cons (pgn 5 sc_is_house.nd) pgsm_nil)))) (fun _ _ _ _ _ => ptsm_nil) (fun _ _ _ _ _ => (pvm 4))))
    (pssm_cons (psm_if (ptm_not (ptm_val (pem_callB (calM_all rfl) rfl (m_all c G) PyProof.Rows.Boot.«all» (pam_cons (pem_lc (own := [("hand", 4), ("rules", 5)]) rfl sc_is_house.nd (pim_seq (pvm 1)) (blk_by (by kernel_rfl)) (by decide) (fun _ _ _ _ _ => (pgm_tup rfl (pgsm_cons (pgn 4 sc_is_house.nd) (pgsm_cons (pgn 5 sc_is_house.nd) pgsm_nil)))) (fun _ _ _ _ _ => ptsm_nil) (fun _ _ _ _ _ => (pem_cmp opM_isN (cem (ok_rules_bar c G) hr rfl L2.takes0 (pam_cons (pvm 5) pam_nil)) pem_non (nomark _)))) pam_nil)))) (pssm_one (psm_ret pem_bl)) pssm_nil)
    (pssm_one (psm_ret (pem_callB (calM_all rfl) rfl (m_all c G) PyProof.Rows.Boot.«all» (pam_cons (pem_lc (own := [("one", 6), ("other", 7)]) rfl sc_is_house.nd (pim_seq (pvm 2)) (blk_by (by kernel_rfl)) (by decide) (fun _ _ _ _ _ => (pgm_tup rfl (pgsm_cons (pgn 6 sc_is_house.nd) (pgsm_cons (pgn 7 sc_is_house.nd) pgsm_nil)))) (fun _ _ _ _ _ => ptsm_nil) (fun _ _ _ _ _ => (pem_and (pem_cmp (opM_ne hr.r) (pvm 6) (pvm 7) (nomark _)) (pem_and (pem_cmp (opM_in hr.r) (pvm 6) (pvm 3) (by with_unfolding_all rfl)) (pem_one (pem_cmp (opM_in hr.r) (pvm 7) (pvm 3) (by with_unfolding_all rfl))))))) pam_nil))))))))
theorem fd_need_rules (c : Sy K h cs) : ∃ fd, FunD K "need_rules" "need_rules" (defArgs s_need_rules) (defBody s_need_rules) (defScope s_need_rules) [] [] (ga K "need_rules") fd := c.def_ 10 (d := d_need_rules)
def F_need_rules (K : PySem.W.Frag) : List D → M D := defM 3 ((sIf (bNot (bTru (eVar 0))) (sRaise (ga K "NoRules") ["word", "hand"] (aCons (eVar 1) (aCons (eVar 2) aNil))) sNext))
theorem ok_need_rules (c : Sy K h cs) (G : h.Ns mainGlobals mg) : CalK P w K mg base T 3 "need_rules" P_need_rules (F_need_rules K) := by
  obtain ⟨fd, F⟩ := fd_need_rules (K := K) c
  exact calK_of F (g_need_rules c G) sc_need_rules (fun _ _ _ _ _ _ us hl => match us, hl with | [_, _, _], _ => rfl) (fun _ _ _ _ _ _ us hl => match us, hl with | [_, _, _], _ => rfl) fun cdv A outer s H E hcd hr =>
    (pssm_one (psm_if (ptm_not (ptm_val (pvm 0))) (pssm_one (rem_ (ok_NoRules_init c G) hr rfl rfl takesM (pam_cons (pvm 1) (pam_cons (pvm 2) pam_nil)))) pssm_nil))
theorem fd_need_bridge (c : Sy K h cs) : ∃ fd, FunD K "need_bridge" "need_bridge" (defArgs s_need_bridge) (defBody s_need_bridge) (defScope s_need_bridge) [] [] (ga K "need_bridge") fd := c.def_ 11 (d := d_need_bridge)
def F_need_bridge (K : PySem.W.Frag) : List D → M D := defM 5 ((sSeq (sFor (iSeq (eTup (aCons (eVar 1) (aCons (eVar 2) aNil)))) (gN 3) (sDrop (eCall (cM 3 (F_need_rules K)) (aCons (e2 dIn (eVar 3) (eVar 0)) (aCons (eC (.str "lacks")) (aCons (eVar 3) aNil))))))
    (sSeq (sDrop (eCall (cM 3 (F_need_rules K)) (aCons (e2 neD (eVar 1) (eVar 2)) (aCons (eC (.str "same")) (aCons (eVar 1) aNil)))))
    (sSeq (sFor (iSeq (eTup (aCons (eVar 1) (aCons (eVar 2) aNil)))) (gN 3) (sDrop (eCall (cM 3 (F_need_rules K)) (aCons (e2 ninD (eC (.str "ends")) (e2 dGet (eVar 0) (eVar 3))) (aCons (eC (.str "ends")) (aCons (eVar 3) aNil))))))
    (sDrop (eCall (cM 3 (F_need_rules K)) (aCons (eCall allD (aCons (eLc (iSeq (e2 dGet (eVar 0) (eVar 2))) (gN 4) (bTest (e2 neD (eVar 4) (eC (.str "step")))) (e2 inD (eVar 4) (e2 dGet (eVar 0) (eVar 1))) [4]) aNil)) (aCons (eC (.str "rules")) (aCons (eVar 1) aNil)))))))))
theorem ok_need_bridge (c : Sy K h cs) (G : h.Ns mainGlobals mg) : CalK P w K mg base T 4 "need_bridge" P_need_bridge (F_need_bridge K) := by
  obtain ⟨fd, F⟩ := fd_need_bridge (K := K) c
  exact calK_of F (g_need_bridge c G) sc_need_bridge (fun _ _ _ _ _ _ us hl => match us, hl with | [_, _, _], _ => rfl) (fun _ _ _ _ _ _ us hl => match us, hl with | [_, _, _], _ => rfl) fun cdv A outer s H E hcd hr =>
    (pssm_cons (psm_for (passes_of rfl) rfl (pim_seq (pem_tup (pam_cons (pvm 1) (pam_cons (pvm 2) pam_nil)))) (pgn 3 sc_need_bridge.nd) (pssm_one (psm_expr (cem (ok_need_rules c G) hr rfl takesM (pam_cons (pem_cmp (opM_dIn (hu_of hr.r)) (pvm 3) (pvm 0) (by with_unfolding_all rfl)) (pam_cons pem_str (pam_cons (pvm 3) pam_nil)))))))
    (pssm_cons (psm_expr (cem (ok_need_rules c G) hr rfl takesM (pam_cons (pem_cmp (opM_ne hr.r) (pvm 1) (pvm 2) (nomark _)) (pam_cons pem_str (pam_cons (pvm 1) pam_nil)))))
    (pssm_cons (psm_for (passes_of rfl) rfl (pim_seq (pem_tup (pam_cons (pvm 1) (pam_cons (pvm 2) pam_nil)))) (pgn 3 sc_need_bridge.nd) (pssm_one (psm_expr (cem (ok_need_rules c G) hr rfl takesM (pam_cons (pem_cmp (opM_notIn hr.r) pem_str (pem_dget (hu_of hr.r) (pvm 0) (pvm 3) (fun _ _ => rfl)) (by with_unfolding_all rfl)) (pam_cons pem_str (pam_cons (pvm 3) pam_nil)))))))
    (pssm_one (psm_expr (cem (ok_need_rules c G) hr rfl takesM (pam_cons (pem_callB (calM_all rfl) rfl (m_all c G) PyProof.Rows.Boot.«all» (pam_cons (pem_lc (own := [("word", 4)]) rfl sc_need_bridge.nd (pim_seq (pem_dget (hu_of hr.r) (pvm 0) (pvm 2) (fun _ _ => rfl))) (blk_by (by kernel_rfl)) (by decide) (fun _ _ _ _ _ => (pgn 4 sc_need_bridge.nd)) (fun _ _ _ _ _ => (ptsm_one (ptm_cmp (opM_ne hr.r) (pvm 4) pem_str (nomark _)))) (fun _ _ _ _ _ => (pem_cmp (opM_in hr.r) (pvm 4) (pem_dget (hu_of hr.r) (pvm 0) (pvm 1) (fun _ _ => rfl)) (by with_unfolding_all rfl)))) pam_nil)) (pam_cons pem_str (pam_cons (pvm 1) pam_nil)))))))))
theorem fd_bridged_from (c : Sy K h cs) : ∃ fd, FunD K "bridged_from" "bridged_from" (defArgs s_bridged_from) (defBody s_bridged_from) (defScope s_bridged_from) [] [] (ga K "bridged_from") fd := c.def_ 12 (d := d_bridged_from)
def F_bridged_from (K : PySem.W.Frag) : List D → M D := defM 7 ((sSeq (sAsg (eLstM aNil) (gN 2))
    (sSeq (sAsg (eLstM (aCons (eVar 1) aNil)) (gN 3))
    (sSeq (whileM (bTest (e2 neD (eVar 3) (eLst aNil))) (sSeq (sAsg (eLM popD (eVar 3) aNil) (gN 4))
    (sFor (iSeq (eVar 0)) (gT 2 (gsC (gN 5) (gsC (gN 6) gsN))) (sIf (bAnd (bTest (e2 eqD (eVar 5) (eVar 4))) (bTest (e2 ninD (eVar 6) (eVar 2)))) (sSeq (sDrop (eLM appD (eVar 2) (aCons (eVar 6) aNil)))
    (sDrop (eLM appD (eVar 3) (aCons (eVar 6) aNil)))) sNext))) 8)
    (sRet (e1 frzD (eVar 2)))))))
theorem ok_bridged_from (c : Sy K h cs) (G : h.Ns mainGlobals mg) : CalK P w K mg base T 1 "bridged_from" P_bridged_from (F_bridged_from K) := by
  obtain ⟨fd, F⟩ := fd_bridged_from (K := K) c
  exact calK_of F (g_bridged_from c G) sc_bridged_from (fun _ _ _ _ _ _ us hl => match us, hl with | [_, _], _ => rfl) (fun _ _ _ _ _ _ us hl => match us, hl with | [_, _], _ => rfl) fun cdv A outer s H E hcd hr =>
    (pssm_cons (psm_set (i := 2) sc_bridged_from.nd rfl (Or.inl rfl) (pem_lstM pam_nil))
    (pssm_cons (psm_set (i := 3) sc_bridged_from.nd rfl (Or.inl rfl) (pem_lstM (pam_cons (pvm 1) pam_nil)))
    (pssm_cons (psm_while 8 (passes_of rfl) (ptm_cmp (opM_ne hr.r) (pvm 3) (pem_lst pam_nil) (nomark _)) (pssm_cons (psm_set (i := 4) sc_bridged_from.nd rfl (Or.inl rfl) (pem_lm0 PySem.F.slot_list_pop PySem.F.type_list_pop meM_pop (pvm 3)))
    (pssm_one (psm_for (passes_of rfl) rfl (pim_seq (pvm 0)) (pgm_tup rfl (pgsm_cons (pgn 5 sc_bridged_from.nd) (pgsm_cons (pgn 6 sc_bridged_from.nd) pgsm_nil))) (pssm_one (psm_if (PWm.pt (pwm_and (ptm_cmp (opM_eq hr.r) (pvm 5) (pvm 4) (nomark _)) (pwm_and1 (ptm_cmp (opM_notIn hr.r) (pvm 6) (pvm 2) (by with_unfolding_all rfl))))) (pssm_cons (psm_expr (pem_lm PySem.F.slot_list_append PySem.F.type_list_append meM_append (pvm 2) (pam_cons (pvm 6) pam_nil)))
    (pssm_one (psm_expr (pem_lm PySem.F.slot_list_append PySem.F.type_list_append meM_append (pvm 3) (pam_cons (pvm 6) pam_nil))))) pssm_nil))))))
    (pssm_one (psm_ret (pem_frz (pvm 2)))))))
theorem fd_lets_draft (c : Sy K h cs) : ∃ fd, FunD K "lets_draft" "lets_draft" (defArgs s_lets_draft) (defBody s_lets_draft) (defScope s_lets_draft) [] [] (ga K "lets_draft") fd := c.def_ 13 (d := d_lets_draft)
def F_lets_draft (K : PySem.W.Frag) : List D → M D := defM 9 ((sSeq (sAsg (eVar 0) (gT 2 (gsC (gN 1) (gsC (gN 2) gsN))))
    (sSeq (sAsg (eDc (iSeq (eVar 1)) (gT 2 (gsC (gN 4) (gsC (gN 5) gsN))) bYes (eVar 4) (eVar 5) [4, 5]) (gN 3))
    (sSeq (sFor (iSeq (eVar 1)) (gT 2 (gsC (gN 4) (gsC (gN 5) gsN))) (sSeq (sAsg (eCall (cM 1 (F_rules_bar K)) (aCons (eVar 5) aNil)) (gN 6))
    (sDrop (eCall (cM 3 (F_need_rules K)) (aCons (e2 isNoneD (eVar 6) (eC .non)) (aCons (eVar 6) (aCons (eVar 4) aNil)))))))
    (sSeq (sFor (iSeq (eVar 2)) (gT 2 (gsC (gN 7) (gsC (gN 8) gsN))) (sDrop (eCall (cM 3 (F_need_bridge K)) (aCons (eVar 3) (aCons (eVar 7) (aCons (eVar 8) aNil))))))
    (sSeq (sFor (iKeyM (eVar 3)) (gN 4) (sDrop (eCall (cM 3 (F_need_rules K)) (aCons (e2 ninD (eVar 4) (eCall (cM 2 (F_bridged_from K)) (aCons (eVar 2) (aCons (eVar 4) aNil)))) (aCons (eC (.str "ring")) (aCons (eVar 4) aNil))))))
    (sRet (eC (.bl true)))))))))
theorem ok_lets_draft (c : Sy K h cs) (G : h.Ns mainGlobals mg) : CalK P w K mg base T 5 "lets_draft" P_lets_draft (F_lets_draft K) := by
  obtain ⟨fd, F⟩ := fd_lets_draft (K := K) c
  exact calK_of F (g_lets_draft c G) sc_lets_draft (fun _ _ _ _ _ _ us hl => match us, hl with | [_], _ => rfl) (fun _ _ _ _ _ _ us hl => match us, hl with | [_], _ => rfl) fun cdv A outer s H E hcd hr =>
    (pssm_cons (psm_asg (pvm 0) (pgm_tup rfl (pgsm_cons (pgn 1 sc_lets_draft.nd) (pgsm_cons (pgn 2 sc_lets_draft.nd) pgsm_nil))))
    (pssm_cons (psm_setDc (i := 3) (own := [("hand", 4), ("rules", 5)]) rfl rfl (by kernel_rfl) rfl sc_lets_draft.nd (pim_seq (pvm 1)) (blk_by (by kernel_rfl)) (by decide) (fun _ _ _ _ _ => (pgm_tup rfl (pgsm_cons (pgn 4 sc_lets_draft.nd) (pgsm_cons (pgn 5 sc_lets_draft.nd) pgsm_nil)))) (fun _ _ _ _ _ => ptsm_nil) (fun _ _ _ _ _ => (pvm 4)) (fun _ _ _ _ _ => (pvm 5)))
    (pssm_cons (psm_for (passes_of rfl) rfl (pim_seq (pvm 1)) (pgm_tup rfl (pgsm_cons (pgn 4 sc_lets_draft.nd) (pgsm_cons (pgn 5 sc_lets_draft.nd) pgsm_nil))) (pssm_cons (psm_set (i := 6) sc_lets_draft.nd rfl (Or.inl rfl) (cem (ok_rules_bar c G) hr rfl takesM (pam_cons (pvm 5) pam_nil)))
    (pssm_one (psm_expr (cem (ok_need_rules c G) hr rfl takesM (pam_cons (pem_cmp opM_isN (pvm 6) pem_non (nomark _)) (pam_cons (pvm 6) (pam_cons (pvm 4) pam_nil))))))))
    (pssm_cons (psm_for (passes_of rfl) rfl (pim_seq (pvm 2)) (pgm_tup rfl (pgsm_cons (pgn 7 sc_lets_draft.nd) (pgsm_cons (pgn 8 sc_lets_draft.nd) pgsm_nil))) (pssm_one (psm_expr (cem (ok_need_bridge c G) hr rfl takesM (pam_cons (pvm 3) (pam_cons (pvm 7) (pam_cons (pvm 8) pam_nil)))))))
    (pssm_cons (psm_for (passes_of rfl) rfl (pim_keys (pvm 3)) (pgn 4 sc_lets_draft.nd) (pssm_one (psm_expr (cem (ok_need_rules c G) hr rfl takesM (pam_cons (pem_cmp (opM_notIn hr.r) (pvm 4) (cem (ok_bridged_from c G) hr rfl takesM (pam_cons (pvm 2) (pam_cons (pvm 4) pam_nil))) (by with_unfolding_all rfl)) (pam_cons pem_str (pam_cons (pvm 4) pam_nil)))))))
    (pssm_one (psm_ret pem_bl)))))))
theorem fd_rule_in (c : Sy K h cs) : ∃ fd, FunD K "rule_in" "rule_in" (defArgs s_rule_in) (defBody s_rule_in) (defScope s_rule_in) [] [] (ga K "rule_in") fd := c.def_ 14 (d := d_rule_in)
def F_rule_in (K : PySem.W.Frag) : List D → M D := defM 1 ((sRet (eIf (bTest (e2 inD (eVar 0) (eC kv_LET_WORDS))) (eVar 0) (eC .non))))
theorem ok_rule_in (c : Sy K h cs) (G : h.Ns mainGlobals mg) : CalK P w K mg base T 1 "rule_in" P_rule_in (F_rule_in K) := by
  obtain ⟨fd, F⟩ := fd_rule_in (K := K) c
  exact calK_of F (g_rule_in c G) sc_rule_in (fun _ _ _ _ _ _ us hl => match us, hl with | [_], _ => rfl) (fun _ _ _ _ _ _ us hl => match us, hl with | [_], _ => rfl) fun cdv A outer s H E hcd hr =>
    (pssm_one (psm_ret (pem_if (ptm_cmp (opM_in hr.r) (pvm 0) (pem_glob rfl (kd_LET_WORDS c G)) (by with_unfolding_all rfl)) (pvm 0) pem_non)))
theorem fd_parts_by (c : Sy K h cs) : ∃ fd, FunD K "parts_by" "parts_by" (defArgs s_parts_by) (defBody s_parts_by) (defScope s_parts_by) [] [] (ga K "parts_by") fd := c.def_ 15 (d := d_parts_by)
def F_parts_by (K : PySem.W.Frag) (tab : Addr → Option (List D → M D)) : List D → M D := defM 5 ((sSeq (sIf (bTest (e2 eqD (eVar 0) (eC kv_NOTHING))) (sRet (eTup aNil)) sNext)
    (sSeq (sAsg (eCall tupD (aCons (eLc (iSeq (eM1 splitD (eVar 0) (eVar 1))) (gN 4) bYes (eCallA tab 2 1 (aCons (eVar 4) aNil)) [4]) aNil)) (gN 3))
    (sRet (eIf (bTest (e2 ninD (eC .non) (eVar 3))) (eVar 3) (eC .non))))))
theorem ok_parts_by (c : Sy K h cs) (G : h.Ns mainGlobals mg) {tab : Addr → Option (List D → M D)} (hA : ∀ f F, tab f = some F → HeldM P w K mg base T kk 1 f F) : CalK P w K mg base T (kk + 1) "parts_by" P_parts_by (F_parts_by K tab) := by
  obtain ⟨fd, F⟩ := fd_parts_by (K := K) c
  exact calK_of F (g_parts_by c G) sc_parts_by (fun _ _ _ _ _ _ us hl => match us, hl with | [_, _, _], _ => rfl) (fun _ _ _ _ _ _ us hl => match us, hl with | [_, _, _], _ => rfl) fun cdv A outer s H E hcd hr =>
    (pssm_cons (psm_if (ptm_cmp (opM_eq hr.r) (pvm 0) (pem_glob rfl (kd_NOTHING c G)) (nomark _)) (pssm_one (psm_ret (pem_tup pam_nil))) pssm_nil)
    (pssm_cons (psm_set (i := 3) sc_parts_by.nd rfl (Or.inl rfl) (pem_callTy calM_tuple rfl (m_tuple c G) PyProof.Rows.Boot.«tuple» (pam_cons (pem_lc (own := [("part", 4)]) rfl sc_parts_by.nd (pim_seq (pem_m1 PySem.F.slot_str_split PySem.F.type_str_split meM_split (pvm 0) (pvm 1))) (blk_by (by kernel_rfl)) (by decide) (fun _ _ _ _ _ => (pgn 4 sc_parts_by.nd)) (fun _ _ _ _ _ => ptsm_nil) (fun _ _ _ _ _ => (pem_callA (n := 1) hA hr rfl (by first | exact Or.inl rfl | exact Or.inr (Or.inl rfl) | exact Or.inr (Or.inr rfl)) L2.takes0 (pam_cons (pvm 4) pam_nil)))) pam_nil)))
    (pssm_one (psm_ret (pem_if (ptm_cmp (opM_notIn hr.r) pem_non (pvm 3) (by with_unfolding_all rfl)) (pvm 3) pem_non)))))
def tab1 (K : PySem.W.Frag) : Addr → Option (List D → M D) := fun a => if a = ga K "rule_in" then some (F_rule_in K) else none
theorem held1 (c : Sy K h cs) (G : h.Ns mainGlobals mg) : ∀ f F, tab1 K f = some F → HeldM P w K mg base T 1 1 f F := by
  intro f F e
  unfold tab1 at e
  by_cases q : f = ga K "rule_in"
  · rw [if_pos q] at e; cases e; subst q; exact (ok_rule_in c G).held.mono (by decide)
  rw [if_neg q] at e; clear q
  cases e
theorem ok_parts_by_1 (c : Sy K h cs) (G : h.Ns mainGlobals mg) : CalK P w K mg base T 2 "parts_by" P_parts_by (F_parts_by K (tab1 K)) := ok_parts_by c G (held1 c G)
theorem fd_rules_in (c : Sy K h cs) : ∃ fd, FunD K "rules_in" "rules_in" (defArgs s_rules_in) (defBody s_rules_in) (defScope s_rules_in) [] [] (ga K "rules_in") fd := c.def_ 16 (d := d_rules_in)
def F_rules_in (K : PySem.W.Frag) : List D → M D := defM 5 ((sSeq (sAsg (eM1 partD (eVar 0) (eC (.str ":"))) (gT 3 (gsC (gN 1) (gsC (gN 2) (gsC (gN 3) gsN)))))
    (sSeq (sAsg (eCall (cM 3 (F_parts_by K (tab1 K))) (aCons (eVar 3) (aCons (eC (.str ",")) (aCons (eC (.adr (ga K "rule_in"))) aNil)))) (gN 4))
    (sRet (eIf (bAnd (bTest (e2 neD (eVar 2) (eC (.str "")))) (bTest (e2 notNoneD (eVar 4) (eC .non)))) (eTup (aCons (eVar 1) (aCons (eVar 4) aNil))) (eC .non))))))
theorem ok_rules_in (c : Sy K h cs) (G : h.Ns mainGlobals mg) : CalK P w K mg base T 3 "rules_in" P_rules_in (F_rules_in K) := by
  obtain ⟨fd, F⟩ := fd_rules_in (K := K) c
  exact calK_of F (g_rules_in c G) sc_rules_in (fun _ _ _ _ _ _ us hl => match us, hl with | [_], _ => rfl) (fun _ _ _ _ _ _ us hl => match us, hl with | [_], _ => rfl) fun cdv A outer s H E hcd hr =>
    (pssm_cons (psm_asg (pem_m1 PySem.F.slot_str_partition PySem.F.type_str_partition meM_part (pvm 0) pem_str) (pgm_tup rfl (pgsm_cons (pgn 1 sc_rules_in.nd) (pgsm_cons (pgn 2 sc_rules_in.nd) (pgsm_cons (pgn 3 sc_rules_in.nd) pgsm_nil)))))
    (pssm_cons (psm_set (i := 4) sc_rules_in.nd rfl (Or.inl rfl) (cem (ok_parts_by_1 c G) hr rfl takesM (pam_cons (pvm 3) (pam_cons pem_str (pam_cons (pem_glob rfl (Kd.adr (g_rule_in c G))) pam_nil)))))
    (pssm_one (psm_ret (pem_if (PWm.pt (pwm_and (ptm_cmp (opM_ne hr.r) (pvm 2) pem_str (nomark _)) (pwm_and1 (ptm_cmp opM_notN (pvm 4) pem_non (nomark _))))) (pem_tup (pam_cons (pvm 1) (pam_cons (pvm 4) pam_nil))) pem_non)))))
theorem fd_bridge_in (c : Sy K h cs) : ∃ fd, FunD K "bridge_in" "bridge_in" (defArgs s_bridge_in) (defBody s_bridge_in) (defScope s_bridge_in) [] [] (ga K "bridge_in") fd := c.def_ 17 (d := d_bridge_in)
def F_bridge_in (K : PySem.W.Frag) : List D → M D := defM 4 ((sSeq (sAsg (eM1 partD (eVar 0) (eC (.str ">"))) (gT 3 (gsC (gN 1) (gsC (gN 2) (gsC (gN 3) gsN)))))
    (sRet (eIf (bTest (e2 neD (eVar 2) (eC (.str "")))) (eTup (aCons (eVar 1) (aCons (eVar 3) aNil))) (eC .non)))))
theorem ok_bridge_in (c : Sy K h cs) (G : h.Ns mainGlobals mg) : CalK P w K mg base T 1 "bridge_in" P_bridge_in (F_bridge_in K) := by
  obtain ⟨fd, F⟩ := fd_bridge_in (K := K) c
  exact calK_of F (g_bridge_in c G) sc_bridge_in (fun _ _ _ _ _ _ us hl => match us, hl with | [_], _ => rfl) (fun _ _ _ _ _ _ us hl => match us, hl with | [_], _ => rfl) fun cdv A outer s H E hcd hr =>
    (pssm_cons (psm_asg (pem_m1 PySem.F.slot_str_partition PySem.F.type_str_partition meM_part (pvm 0) pem_str) (pgm_tup rfl (pgsm_cons (pgn 1 sc_bridge_in.nd) (pgsm_cons (pgn 2 sc_bridge_in.nd) (pgsm_cons (pgn 3 sc_bridge_in.nd) pgsm_nil)))))
    (pssm_one (psm_ret (pem_if (ptm_cmp (opM_ne hr.r) (pvm 2) pem_str (nomark _)) (pem_tup (pam_cons (pvm 1) (pam_cons (pvm 3) pam_nil))) pem_non))))
def tab2 (K : PySem.W.Frag) : Addr → Option (List D → M D) := fun a => if a = ga K "rules_in" then some (F_rules_in K) else if a = ga K "bridge_in" then some (F_bridge_in K) else none
theorem held2 (c : Sy K h cs) (G : h.Ns mainGlobals mg) : ∀ f F, tab2 K f = some F → HeldM P w K mg base T 3 1 f F := by
  intro f F e
  unfold tab2 at e
  by_cases q : f = ga K "rules_in"
  · rw [if_pos q] at e; cases e; subst q; exact (ok_rules_in c G).held.mono (by decide)
  rw [if_neg q] at e; clear q
  by_cases q : f = ga K "bridge_in"
  · rw [if_pos q] at e; cases e; subst q; exact (ok_bridge_in c G).held.mono (by decide)
  rw [if_neg q] at e; clear q
  cases e
theorem ok_parts_by_2 (c : Sy K h cs) (G : h.Ns mainGlobals mg) : CalK P w K mg base T 4 "parts_by" P_parts_by (F_parts_by K (tab2 K)) := ok_parts_by c G (held2 c G)
theorem fd_house_in (c : Sy K h cs) : ∃ fd, FunD K "house_in" "house_in" (defArgs s_house_in) (defBody s_house_in) (defScope s_house_in) [] [] (ga K "house_in") fd := c.def_ 18 (d := d_house_in)
def F_house_in (K : PySem.W.Frag) : List D → M D := defM 6 ((sSeq (sAsg (eM1 partD (eVar 0) (eC (.str "/"))) (gT 3 (gsC (gN 1) (gsC (gN 2) (gsC (gN 3) gsN)))))
    (sSeq (sPar 4 5 (aCons (eCall (cM 3 (F_parts_by K (tab2 K))) (aCons (eVar 1) (aCons (eC (.str ";")) (aCons (eC (.adr (ga K "rules_in"))) aNil)))) (aCons (eCall (cM 3 (F_parts_by K (tab2 K))) (aCons (eVar 3) (aCons (eC (.str ";")) (aCons (eC (.adr (ga K "bridge_in"))) aNil)))) aNil)))
    (sRet (eIf (bAnd (bTest (e2 neD (eVar 2) (eC (.str "")))) (bTru (eCall (cM 1 (F_is_house K)) (aCons (eTup (aCons (eVar 4) (aCons (eVar 5) aNil))) aNil)))) (eTup (aCons (eVar 4) (aCons (eVar 5) aNil))) (eC .non))))))
theorem ok_house_in (c : Sy K h cs) (G : h.Ns mainGlobals mg) : CalK P w K mg base T 7 "house_in" P_house_in (F_house_in K) := by
  obtain ⟨fd, F⟩ := fd_house_in (K := K) c
  exact calK_of F (g_house_in c G) sc_house_in (fun _ _ _ _ _ _ us hl => match us, hl with | [_], _ => rfl) (fun _ _ _ _ _ _ us hl => match us, hl with | [_], _ => rfl) fun cdv A outer s H E hcd hr =>
    (pssm_cons (psm_asg (pem_m1 PySem.F.slot_str_partition PySem.F.type_str_partition meM_part (pvm 0) pem_str) (pgm_tup rfl (pgsm_cons (pgn 1 sc_house_in.nd) (pgsm_cons (pgn 2 sc_house_in.nd) (pgsm_cons (pgn 3 sc_house_in.nd) pgsm_nil)))))
    (pssm_cons (psm_par (i := 4) (j := 5) rfl sc_house_in.nd rfl rfl (by decide) rfl rfl (pam_cons (cem (ok_parts_by_2 c G) hr rfl takesM (pam_cons (pvm 1) (pam_cons pem_str (pam_cons (pem_glob rfl (Kd.adr (g_rules_in c G))) pam_nil)))) (pam_cons (cem (ok_parts_by_2 c G) hr rfl takesM (pam_cons (pvm 3) (pam_cons pem_str (pam_cons (pem_glob rfl (Kd.adr (g_bridge_in c G))) pam_nil)))) pam_nil)) (by kernel_rfl))
    (pssm_one (psm_ret (pem_if (PWm.pt (pwm_and (ptm_cmp (opM_ne hr.r) (pvm 2) pem_str (nomark _)) (pwm_and1 (ptm_val (cem (ok_is_house c G) hr rfl takesM (pam_cons (pem_tup (pam_cons (pvm 4) (pam_cons (pvm 5) pam_nil))) pam_nil)))))) (pem_tup (pam_cons (pvm 4) (pam_cons (pvm 5) pam_nil))) pem_non)))))
def tab3 (K : PySem.W.Frag) : Addr → Option (List D → M D) := fun a => if a = ga K "house_in" then some (F_house_in K) else none
theorem held3 (c : Sy K h cs) (G : h.Ns mainGlobals mg) : ∀ f F, tab3 K f = some F → HeldM P w K mg base T 7 1 f F := by
  intro f F e
  unfold tab3 at e
  by_cases q : f = ga K "house_in"
  · rw [if_pos q] at e; cases e; subst q; exact (ok_house_in c G).held.mono (by decide)
  rw [if_neg q] at e; clear q
  cases e
theorem fd_WordTaker_init (c : Sy K h cs) : ∃ fd, FunD K "__init__" "WordTaker.__init__" (defArgs s_WordTaker_init) (defBody s_WordTaker_init) (defScope s_WordTaker_init) [] [] (ma K (ga K "WordTaker") "__init__") fd := c.def_ 19 (d := d_WordTaker_init)
def F_WordTaker_init (K : PySem.W.Frag) : List D → M D := defM 3 ((sSeq (sFldM (ga K "WordTaker") "line_number" (eVar 1) (eVar 0))
    (sSeq (sFldM (ga K "WordTaker") "parts" (eM1 splitD (eVar 2) (eC (.str " "))) (eVar 0))
    (sFldM (ga K "WordTaker") "taken" (eC (.int 0)) (eVar 0)))))
theorem ok_WordTaker_init (c : Sy K h cs) (G : h.Ns mainGlobals mg) : MakG P w K mg base T 1 "WordTaker" (ga K "WordTaker") 3 (F_WordTaker_init K) := by
  obtain ⟨fd, F⟩ := fd_WordTaker_init (K := K) c
  exact makG_of (mkr_WordTaker c) (g_WordTaker c G) F sc_WordTaker_init (fun _ _ _ _ _ _ us hl => match us, hl with | [_, _, _], _ => rfl) fun cdv A outer s H E hcd hr =>
    (pssm_cons (psm_fld (cls_WordTaker c G) (na_WordTaker_line_number c G) (pvm 0) (pvm 1))
    (pssm_cons (psm_fld (cls_WordTaker c G) (na_WordTaker_parts c G) (pvm 0) (pem_m1 PySem.F.slot_str_split PySem.F.type_str_split meM_split (pvm 2) pem_str))
    (pssm_one (psm_fld (cls_WordTaker c G) (na_WordTaker_taken c G) (pvm 0) pem_int))))
theorem fd_WordTaker_refuse (c : Sy K h cs) : ∃ fd, FunD K "refuse" "WordTaker.refuse" (defArgs s_WordTaker_refuse) (defBody s_WordTaker_refuse) (defScope s_WordTaker_refuse) [] [] (ma K (ga K "WordTaker") "refuse") fd := c.def_ 20 (d := d_WordTaker_refuse)
def F_WordTaker_refuse (K : PySem.W.Frag) : List D → M D := defM 1 ((sRaise (ga K "NoText") ["line", "word"] (aCons (e1 (fldD (ga K "WordTaker") "line_number") (eVar 0)) (aCons (e1 (fldD (ga K "WordTaker") "taken") (eVar 0)) aNil))))
theorem ok_WordTaker_refuse (c : Sy K h cs) (G : h.Ns mainGlobals mg) : MetG P w K mg base T 3 (ga K "WordTaker") "refuse" 1 (F_WordTaker_refuse K) := by
  obtain ⟨fd, F⟩ := fd_WordTaker_refuse (K := K) c
  exact metG_of (cls_WordTaker c G) (mt_WordTaker_refuse c) F sc_WordTaker_refuse (fun _ _ _ _ _ _ us hl => match us, hl with | [_], _ => rfl) fun cdv A outer s H E hcd hr =>
    (pssm_one (rem_ (ok_NoText_init c G) hr rfl rfl takesM (pam_cons (pem_fld (cls_WordTaker c G) (na_WordTaker_line_number c G) (pvm 0)) (pam_cons (pem_fld (cls_WordTaker c G) (na_WordTaker_taken c G) (pvm 0)) pam_nil))))
theorem fd_WordTaker_is_over (c : Sy K h cs) : ∃ fd, FunD K "is_over" "WordTaker.is_over" (defArgs s_WordTaker_is_over) (defBody s_WordTaker_is_over) (defScope s_WordTaker_is_over) [] [] (ma K (ga K "WordTaker") "is_over") fd := c.def_ 21 (d := d_WordTaker_is_over)
def F_WordTaker_is_over (K : PySem.W.Frag) : List D → M D := defM 1 ((sRet (e2 eqD (e1 (fldD (ga K "WordTaker") "taken") (eVar 0)) (eCall lenD (aCons (e1 (fldD (ga K "WordTaker") "parts") (eVar 0)) aNil)))))
theorem ok_WordTaker_is_over (c : Sy K h cs) (G : h.Ns mainGlobals mg) : MetG P w K mg base T 1 (ga K "WordTaker") "is_over" 1 (F_WordTaker_is_over K) := by
  obtain ⟨fd, F⟩ := fd_WordTaker_is_over (K := K) c
  exact metG_of (cls_WordTaker c G) (mt_WordTaker_is_over c) F sc_WordTaker_is_over (fun _ _ _ _ _ _ us hl => match us, hl with | [_], _ => rfl) fun cdv A outer s H E hcd hr =>
    (pssm_one (psm_ret (pem_cmp (opM_eq hr.r) (pem_fld (cls_WordTaker c G) (na_WordTaker_taken c G) (pvm 0)) (pem_callB calM_len rfl (m_len c G) PyProof.Rows.Boot.«len» (pam_cons (pem_fld (cls_WordTaker c G) (na_WordTaker_parts c G) (pvm 0)) pam_nil)) (nomark _))))
theorem fd_WordTaker_take_by (c : Sy K h cs) : ∃ fd, FunD K "take_by" "WordTaker.take_by" (defArgs s_WordTaker_take_by) (defBody s_WordTaker_take_by) (defScope s_WordTaker_take_by) [] [] (ma K (ga K "WordTaker") "take_by") fd := c.def_ 22 (d := d_WordTaker_take_by)
def F_WordTaker_take_by (K : PySem.W.Frag) (tab : Addr → Option (List D → M D)) : List D → M D := defM 3 ((sSeq (sAsg (eIf (bTru (metM (ga K "WordTaker") "is_over" 1 (F_WordTaker_is_over K) (eVar 0) aNil)) (eC .non) (eCallA tab 1 1 (aCons (e2 ixD (e1 (fldD (ga K "WordTaker") "parts") (eVar 0)) (e1 (fldD (ga K "WordTaker") "taken") (eVar 0))) aNil))) (gN 2))
    (sSeq (sIf (bTest (e2 isNoneD (eVar 2) (eC .non))) (sDrop (metM (ga K "WordTaker") "refuse" 1 (F_WordTaker_refuse K) (eVar 0) aNil)) sNext)
    (sSeq (sAugM (ga K "WordTaker") "taken" addI (eVar 0) (eC (.int 1)))
    (sRet (eVar 2))))))
theorem ok_WordTaker_take_by (c : Sy K h cs) (G : h.Ns mainGlobals mg) {tab : Addr → Option (List D → M D)} (hA : ∀ f F, tab f = some F → HeldM P w K mg base T 7 1 f F) : MetG P w K mg base T 8 (ga K "WordTaker") "take_by" 2 (F_WordTaker_take_by K tab) := by
  obtain ⟨fd, F⟩ := fd_WordTaker_take_by (K := K) c
  exact metG_of (cls_WordTaker c G) (mt_WordTaker_take_by c) F sc_WordTaker_take_by (fun _ _ _ _ _ _ us hl => match us, hl with | [_, _], _ => rfl) fun cdv A outer s H E hcd hr =>
    (pssm_cons (psm_set (i := 2) sc_WordTaker_take_by.nd rfl (Or.inl rfl) (pem_if (ptm_val (mem0 (ok_WordTaker_is_over c G) hr (pvm 0) takesM)) pem_non (pem_callA (n := 1) hA (hr.mono (by decide)) rfl (by first | exact Or.inl rfl | exact Or.inr (Or.inl rfl) | exact Or.inr (Or.inr rfl)) takesM (pam_cons (pem_ix (pem_fld (cls_WordTaker c G) (na_WordTaker_parts c G) (pvm 0)) (pem_fld (cls_WordTaker c G) (na_WordTaker_taken c G) (pvm 0)) (fun _ _ => rfl)) pam_nil))))
    (pssm_cons (psm_if (ptm_cmp opM_isN (pvm 2) pem_non (nomark _)) (pssm_one (psm_expr (mem0 (ok_WordTaker_refuse c G) hr (pvm 0) takesM))) pssm_nil)
    (pssm_cons (psm_fldaug (cls_WordTaker c G) (na_WordTaker_taken c G) inM_addI (pvm 0) pem_int)
    (pssm_one (psm_ret (pvm 2))))))
theorem ok_WordTaker_take_by_3 (c : Sy K h cs) (G : h.Ns mainGlobals mg) : MetG P w K mg base T 8 (ga K "WordTaker") "take_by" 2 (F_WordTaker_take_by K (tab3 K)) := ok_WordTaker_take_by c G (held3 c G)
theorem fd_WordTaker_ask_end (c : Sy K h cs) : ∃ fd, FunD K "ask_end" "WordTaker.ask_end" (defArgs s_WordTaker_ask_end) (defBody s_WordTaker_ask_end) (defScope s_WordTaker_ask_end) [] [] (ma K (ga K "WordTaker") "ask_end") fd := c.def_ 23 (d := d_WordTaker_ask_end)
def F_WordTaker_ask_end (K : PySem.W.Frag) : List D → M D := defM 1 ((sIf (bNot (bTru (metM (ga K "WordTaker") "is_over" 1 (F_WordTaker_is_over K) (eVar 0) aNil))) (sDrop (metM (ga K "WordTaker") "refuse" 1 (F_WordTaker_refuse K) (eVar 0) aNil)) sNext))
theorem ok_WordTaker_ask_end (c : Sy K h cs) (G : h.Ns mainGlobals mg) : MetG P w K mg base T 4 (ga K "WordTaker") "ask_end" 1 (F_WordTaker_ask_end K) := by
  obtain ⟨fd, F⟩ := fd_WordTaker_ask_end (K := K) c
  exact metG_of (cls_WordTaker c G) (mt_WordTaker_ask_end c) F sc_WordTaker_ask_end (fun _ _ _ _ _ _ us hl => match us, hl with | [_], _ => rfl) fun cdv A outer s H E hcd hr =>
    (pssm_one (psm_if (ptm_not (ptm_val (mem0 (ok_WordTaker_is_over c G) hr (pvm 0) takesM))) (pssm_one (psm_expr (mem0 (ok_WordTaker_refuse c G) hr (pvm 0) takesM))) pssm_nil))
theorem fd_read_house (c : Sy K h cs) : ∃ fd, FunD K "read_house" "read_house" (defArgs s_read_house) (defBody s_read_house) (defScope s_read_house) [] [] (ga K "read_house") fd := c.def_ 24 (d := d_read_house)
def F_read_house (K : PySem.W.Frag) : List D → M D := defM 3 ((sSeq (sAsg (eCall (mkM (ga K "WordTaker") 3 (F_WordTaker_init K)) (aCons (eC (.int 0)) (aCons (eVar 0) aNil))) (gN 1))
    (sSeq (sAsg (metM (ga K "WordTaker") "take_by" 2 (F_WordTaker_take_by K (tab3 K)) (eVar 1) (aCons (eC (.adr (ga K "house_in"))) aNil)) (gN 2))
    (sSeq (sDrop (metM (ga K "WordTaker") "ask_end" 1 (F_WordTaker_ask_end K) (eVar 1) aNil))
    (sRet (eVar 2))))))
theorem ok_read_house (c : Sy K h cs) (G : h.Ns mainGlobals mg) : CalK P w K mg base T 9 "read_house" P_read_house (F_read_house K) := by
  obtain ⟨fd, F⟩ := fd_read_house (K := K) c
  exact calK_of F (g_read_house c G) sc_read_house (fun _ _ _ _ _ _ us hl => match us, hl with | [_], _ => rfl) (fun _ _ _ _ _ _ us hl => match us, hl with | [_], _ => rfl) fun cdv A outer s H E hcd hr =>
    (pssm_cons (psm_set (i := 1) sc_read_house.nd rfl (Or.inl rfl) (kem (ok_WordTaker_init c G) hr rfl takesM (pam_cons pem_int (pam_cons (pvm 0) pam_nil))))
    (pssm_cons (psm_set (i := 2) sc_read_house.nd rfl (Or.inl rfl) (mem_ (ok_WordTaker_take_by_3 c G) hr (pvm 1) takesM (pam_cons (pem_glob rfl (Kd.adr (g_house_in c G))) pam_nil)))
    (pssm_cons (psm_expr (mem0 (ok_WordTaker_ask_end c G) hr (pvm 1) takesM))
    (pssm_one (psm_ret (pvm 2))))))
theorem fd_law_feed (c : Sy K h cs) : ∃ fd, FunD K "_law_feed" "_law_feed" (defArgs s_law_feed) (defBody s_law_feed) (defScope s_law_feed) [] [] (ga K "_law_feed") fd := c.def_ 25 (d := d_law_feed)
def F_law_feed (K : PySem.W.Frag) : List D → M D := defM 1 ((sRet (eLstM (aCons (eSl (eVar 0) oNone (oSome (eC (.int 63)))) (aCons (eC (.int 0)) (aCons (eC (.int 0)) (aCons (eC (.int 0)) aNil)))))))
theorem ok_law_feed (c : Sy K h cs) (G : h.Ns mainGlobals mg) : CalK P w K mg base T 1 "_law_feed" P_law_feed (F_law_feed K) := by
  obtain ⟨fd, F⟩ := fd_law_feed (K := K) c
  exact calK_of F (g_law_feed c G) sc_law_feed (fun _ _ _ _ _ _ us hl => match us, hl with | [_], _ => rfl) (fun _ _ _ _ _ _ us hl => match us, hl with | [_], _ => rfl) fun cdv A outer s H E hcd hr =>
    (pssm_one (psm_ret (pem_lstM (pam_cons (pem_slice (pvm 0) pom_none (pom_some pem_int)) (pam_cons pem_int (pam_cons pem_int (pam_cons pem_int pam_nil)))))))
theorem fd_law_draw (c : Sy K h cs) : ∃ fd, FunD K "_law_draw" "_law_draw" (defArgs s_law_draw) (defBody s_law_draw) (defScope s_law_draw) [] [] (ga K "_law_draw") fd := c.def_ 26 (d := d_law_draw)
def F_law_draw (K : PySem.W.Frag) : List D → M D := defM 6 ((sSeq (sIf (bTest (e2 gtD (e2 ixD (eVar 0) (eC (.int 2))) (eC (.int 0)))) (sSeq (sAsg (e2 modD (e2 ixD (eVar 0) (eC (.int 2))) (eVar 1)) (gN 2))
    (sSeq (sSetL (e2 fdivD (e2 ixD (eVar 0) (eC (.int 2))) (eVar 1)) (eVar 0) (eC (.int 2)))
    (sRet (eVar 2)))) sNext)
    (sSeq (sAsg (e2 ixD (eVar 0) (eC (.int 1))) (gN 3))
    (sSeq (sSetL (e2 addD (eVar 3) (eC (.int 1))) (eVar 0) (eC (.int 1)))
    (sSeq (sSetL (e2 addD (e2 ixD (eVar 0) (eC (.int 3))) (eC (.int 1))) (eVar 0) (eC (.int 3)))
    (sSeq (sAsg (eIf (bTest (e2 gtD (eCall lenD (aCons (e2 ixD (eVar 0) (eC (.int 0))) aNil)) (eC (.int 0)))) (e2 ixD (e2 ixD (eVar 0) (eC (.int 0))) (e2 modD (eVar 3) (eCall lenD (aCons (e2 ixD (eVar 0) (eC (.int 0))) aNil)))) (eC (.int 0))) (gN 4))
    (sSeq (sIf (bAnd (bTest (e2 geD (eVar 4) (e2 powD (eC (.int 10)) (eC (.int 18))))) (bTest (e2 ltD (eVar 3) (eCall lenD (aCons (e2 ixD (eVar 0) (eC (.int 0))) aNil))))) (sSeq (sSetL (e2 fdivD (eVar 4) (eVar 1)) (eVar 0) (eC (.int 2)))
    (sRet (e2 modD (eVar 4) (eVar 1)))) sNext)
    (sSeq (sAsg (e2 modD (e2 powD (e2 addD (e2 addD (e2 modD (eVar 4) (eC (.int 1000003))) (e2 mulD (eC (.int 613)) (e2 ixD (eVar 0) (eC (.int 3))))) (eC (.int 17))) (eC (.int 5))) (eC (.int 2147483647))) (gN 5))
    (sRet (e2 modD (e2 fdivD (e2 modD (e2 powD (e2 addD (eVar 5) (e2 mulD (eC (.int 4099)) (e2 ixD (eVar 0) (eC (.int 3))))) (eC (.int 5))) (eC (.int 2147483587))) (eC (.int 7))) (eVar 1)))))))))))
theorem ok_law_draw (c : Sy K h cs) (G : h.Ns mainGlobals mg) : CalK P w K mg base T 1 "_law_draw" P_law_draw (F_law_draw K) := by
  obtain ⟨fd, F⟩ := fd_law_draw (K := K) c
  exact calK_of F (g_law_draw c G) sc_law_draw (fun _ _ _ _ _ _ us hl => match us, hl with | [_, _], _ => rfl) (fun _ _ _ _ _ _ us hl => match us, hl with | [_, _], _ => rfl) fun cdv A outer s H E hcd hr =>
    (pssm_cons (psm_if (ptm_cmp (opM_gt hr.r) (pem_ix (pvm 0) pem_int (fun _ _ => rfl)) pem_int (nomark _)) (pssm_cons (psm_set (i := 2) sc_law_draw.nd rfl (Or.inl rfl) (pem_op opM_mod (pem_ix (pvm 0) pem_int (fun _ _ => rfl)) (pvm 1)))
    (pssm_cons (psm_setL (pem_op opM_fdiv (pem_ix (pvm 0) pem_int (fun _ _ => rfl)) (pvm 1)) (pvm 0) pem_int)
    (pssm_one (psm_ret (pvm 2))))) pssm_nil)
    (pssm_cons (psm_set (i := 3) sc_law_draw.nd rfl (Or.inl rfl) (pem_ix (pvm 0) pem_int (fun _ _ => rfl)))
    (pssm_cons (psm_setL (pem_op opM_add (pvm 3) pem_int) (pvm 0) pem_int)
    (pssm_cons (psm_setL (pem_op opM_add (pem_ix (pvm 0) pem_int (fun _ _ => rfl)) pem_int) (pvm 0) pem_int)
    (pssm_cons (psm_set (i := 4) sc_law_draw.nd rfl (Or.inl rfl) (pem_if (ptm_cmp (opM_gt hr.r) (pem_callB calM_len rfl (m_len c G) PyProof.Rows.Boot.«len» (pam_cons (pem_ix (pvm 0) pem_int (fun _ _ => rfl)) pam_nil)) pem_int (nomark _)) (pem_ix (pem_ix (pvm 0) pem_int (fun _ _ => rfl)) (pem_op opM_mod (pvm 3) (pem_callB calM_len rfl (m_len c G) PyProof.Rows.Boot.«len» (pam_cons (pem_ix (pvm 0) pem_int (fun _ _ => rfl)) pam_nil))) (fun _ _ => rfl)) pem_int))
    (pssm_cons (psm_if (PWm.pt (pwm_and (ptm_cmp (opM_ge hr.r) (pvm 4) (pem_op opM_pow pem_int pem_int) (nomark _)) (pwm_and1 (ptm_cmp (opM_lt hr.r) (pvm 3) (pem_callB calM_len rfl (m_len c G) PyProof.Rows.Boot.«len» (pam_cons (pem_ix (pvm 0) pem_int (fun _ _ => rfl)) pam_nil)) (nomark _))))) (pssm_cons (psm_setL (pem_op opM_fdiv (pvm 4) (pvm 1)) (pvm 0) pem_int)
    (pssm_one (psm_ret (pem_op opM_mod (pvm 4) (pvm 1))))) pssm_nil)
    (pssm_cons (psm_set (i := 5) sc_law_draw.nd rfl (Or.inl rfl) (pem_op opM_mod (pem_op opM_pow (pem_op opM_add (pem_op opM_add (pem_op opM_mod (pvm 4) pem_int) (pem_op opM_mul pem_int (pem_ix (pvm 0) pem_int (fun _ _ => rfl)))) pem_int) pem_int) pem_int))
    (pssm_one (psm_ret (pem_op opM_mod (pem_op opM_fdiv (pem_op opM_mod (pem_op opM_pow (pem_op opM_add (pvm 5) (pem_op opM_mul pem_int (pem_ix (pvm 0) pem_int (fun _ _ => rfl)))) pem_int) pem_int) pem_int) (pvm 1)))))))))))
end K84
end
section
set_option Elab.async false
set_option linter.all false
set_option maxRecDepth 100000
set_option maxHeartbeats 1048576
namespace K84
open PySem PySem.Spec PySem.W PyProof.Rows L2 LamX He MM
variable {P : Program} {w : World} {K : PySem.W.Frag} {h : Heap} {cs : List (Addr × Addr)} {mg : Str → Option Value} {base : Heap} {T : Tx}
def lamQ : Str := Str.ofString "_law_home" ++ ".<locals>." ++ "<lambda>"
theorem fd_law_said (c : Sy K h cs) : ∃ fd, FunD K "_law_said" "_law_said" (defArgs s_law_said) (defBody s_law_said) (defScope s_law_said) [] [] (ga K "_law_said") fd := c.def_ 29 (d := d_law_said)
def G_law_said (K : PySem.W.Frag) (th : M D) : SM := (sSeq (sAsg (eTup (aCons (eC (.str "odd")) aNil)) (gN 1))
    (sSeq (tryM K (sAsg (eTup (aCons (eC (.str "told")) (aCons (eThunk 0 th) aNil))) (gN 1)) (⟨.ref (ga K "NoPaper"), some 2, fun C fs => (sAsg (eTup (aCons (eC (.str "paper")) (aCons (xfM K C fs 2 "word") (aCons (xfM K C fs 2 "at") aNil)))) (gN 1))⟩ :: (⟨.ref (ga K "NoRules"), some 2, fun C fs => (sAsg (eTup (aCons (eC (.str "rules")) (aCons (xfM K C fs 2 "word") (aCons (xfM K C fs 2 "hand") aNil)))) (gN 1))⟩ :: (⟨.ref (ga K "NoMore"), some 2, fun C fs => (sAsg (eTup (aCons (eC (.str "more")) (aCons (xfM K C fs 2 "many") aNil))) (gN 1))⟩ :: (⟨.ref (ga K "NoHand"), some 2, fun C fs => (sAsg (eTup (aCons (eC (.str "hand")) (aCons (xfM K C fs 2 "hand") aNil))) (gN 1))⟩ :: (⟨.ref (ga K "NoName"), some 2, fun C fs => (sAsg (eTup (aCons (eC (.str "label")) (aCons (xfM K C fs 2 "name") aNil))) (gN 1))⟩ :: (⟨.ref (ga K "NoStep"), some 2, fun C fs => (sAsg (eTup (aCons (eC (.str "step")) (aCons (xfM K C fs 2 "number") aNil))) (gN 1))⟩ :: [])))))))
    (sRet (eVar 1))))
theorem gv_law_said (c : Sy K h cs) (G : h.Ns mainGlobals mg) {k : Nat} {cdv : Value} : GivesM P w K mg base T k N_law_said "_law_said" (defScope s_law_said) (ga K "_law_said") cdv (defBody s_law_said) "_law_ask" (G_law_said K) :=
  fun A outer s H E T' th ht hT hr act =>
    (pssm_cons (psm_set (i := 1) sc_law_said.nd rfl (Or.inl rfl) (pem_tup (pam_cons pem_str pam_nil)))
    (pssm_cons (psm_try hT rfl rfl sc_law_said.nd takesM (fun W pn xe tkx po => (pssm_one (psm_set (i := 1) sc_law_said.nd rfl (Or.inl rfl) (pem_tup (pam_cons pem_str (pam_cons (act _ _ _ _ _ tkx) pam_nil)))))) (HdsM.named (⟨rfl, by decide, .inl (g_NoPaper c G)⟩) (i := 2) rfl rfl (fun a oe C dx fs pn hz hf => (pssm_one (psm_set (i := 1) sc_law_said.nd rfl (Or.inl rfl) (pem_tup (pam_cons pem_str (pam_cons (pem_xf hz hf (i := 2) rfl (Or.inl rfl)) (pam_cons (pem_xf hz hf (i := 2) rfl (Or.inl rfl)) pam_nil))))))) (HdsM.named (⟨rfl, by decide, .inl (g_NoRules c G)⟩) (i := 2) rfl rfl (fun a oe C dx fs pn hz hf => (pssm_one (psm_set (i := 1) sc_law_said.nd rfl (Or.inl rfl) (pem_tup (pam_cons pem_str (pam_cons (pem_xf hz hf (i := 2) rfl (Or.inl rfl)) (pam_cons (pem_xf hz hf (i := 2) rfl (Or.inl rfl)) pam_nil))))))) (HdsM.named (⟨rfl, by decide, .inl (g_NoMore c G)⟩) (i := 2) rfl rfl (fun a oe C dx fs pn hz hf => (pssm_one (psm_set (i := 1) sc_law_said.nd rfl (Or.inl rfl) (pem_tup (pam_cons pem_str (pam_cons (pem_xf hz hf (i := 2) rfl (Or.inl rfl)) pam_nil)))))) (HdsM.named (⟨rfl, by decide, .inl (g_NoHand c G)⟩) (i := 2) rfl rfl (fun a oe C dx fs pn hz hf => (pssm_one (psm_set (i := 1) sc_law_said.nd rfl (Or.inl rfl) (pem_tup (pam_cons pem_str (pam_cons (pem_xf hz hf (i := 2) rfl (Or.inl rfl)) pam_nil)))))) (HdsM.named (⟨rfl, by decide, .inl (g_NoName c G)⟩) (i := 2) rfl rfl (fun a oe C dx fs pn hz hf => (pssm_one (psm_set (i := 1) sc_law_said.nd rfl (Or.inl rfl) (pem_tup (pam_cons pem_str (pam_cons (pem_xf hz hf (i := 2) rfl (Or.inl rfl)) pam_nil)))))) (HdsM.named (⟨rfl, by decide, .inl (g_NoStep c G)⟩) (i := 2) rfl rfl (fun a oe C dx fs pn hz hf => (pssm_one (psm_set (i := 1) sc_law_said.nd rfl (Or.inl rfl) (pem_tup (pam_cons pem_str (pam_cons (pem_xf hz hf (i := 2) rfl (Or.inl rfl)) pam_nil)))))) HdsM.nil)))))))
    (pssm_one (psm_ret (pvm 1)))))
theorem fd_law_home_word (c : Sy K h cs) : ∃ fd, FunD K "_law_home_word" "_law_home_word" (defArgs s_law_home_word) (defBody s_law_home_word) (defScope s_law_home_word) [] [] (ga K "_law_home_word") fd := c.def_ 31 (d := d_law_home_word)
def F_law_home_word (K : PySem.W.Frag) : List D → M D := defM 6 ((sSeq (sAsg (eLc (iSeq (e2 ixD (eVar 0) (eC (.int 0)))) (gT 2 (gsC (gN 3) (gsC (gN 4) gsN))) bYes (e2 addD (e2 addD (eVar 3) (eC (.str ":"))) (eIf (bTest (e2 neD (eVar 4) (eTup aNil))) (eM1 joinD (eC (.str ",")) (eVar 4)) (eC (.str "-")))) [3, 4]) (gN 1))
    (sSeq (sAsg (eLc (iSeq (e2 ixD (eVar 0) (eC (.int 1)))) (gN 5) bYes (e2 addD (e2 addD (e2 ixD (eVar 5) (eC (.int 0))) (eC (.str ">"))) (e2 ixD (eVar 5) (eC (.int 1)))) [5]) (gN 2))
    (sRet (e2 addD (e2 addD (eM1 joinD (eC (.str ";")) (eVar 1)) (eC (.str "/"))) (eIf (bTest (e2 neD (eVar 2) (eLst aNil))) (eM1 joinD (eC (.str ";")) (eVar 2)) (eC (.str "-"))))))))
theorem ok_law_home_word (c : Sy K h cs) (G : h.Ns mainGlobals mg) : CalK P w K mg base T 1 "_law_home_word" P_law_home_word (F_law_home_word K) := by
  obtain ⟨fd, F⟩ := fd_law_home_word (K := K) c
  exact calK_of F (g_law_home_word c G) sc_law_home_word (fun _ _ _ _ _ _ us hl => match us, hl with | [_], _ => rfl) (fun _ _ _ _ _ _ us hl => match us, hl with | [_], _ => rfl) fun cdv A outer s H E hcd hr =>
    (pssm_cons (psm_setLc (i := 1) (own := [("_law_who", 3), ("_law_rules_now", 4)]) rfl sc_law_home_word.nd rfl rfl (by kernel_rfl) (pim_seq (pem_ix (pvm 0) pem_int (fun _ _ => rfl))) (blk_by (by kernel_rfl)) (by decide) (fun _ _ _ _ _ => (pgm_tup rfl (pgsm_cons (pgn 3 sc_law_home_word.nd) (pgsm_cons (pgn 4 sc_law_home_word.nd) pgsm_nil)))) (fun _ _ _ _ _ => ptsm_nil) (fun _ _ _ _ _ => (pem_op opM_add (pem_op opM_add (pvm 3) pem_str) (pem_if (ptm_cmp (opM_ne hr.r) (pvm 4) (pem_tup pam_nil) (nomark _)) (pem_m1 PySem.F.slot_str_join PySem.F.type_str_join meM_join pem_str (pvm 4)) pem_str))))
    (pssm_cons (psm_setLc (i := 2) (own := [("_law_pair", 5)]) rfl sc_law_home_word.nd rfl rfl (by kernel_rfl) (pim_seq (pem_ix (pvm 0) pem_int (fun _ _ => rfl))) (blk_by (by kernel_rfl)) (by decide) (fun _ _ _ _ _ => (pgn 5 sc_law_home_word.nd)) (fun _ _ _ _ _ => ptsm_nil) (fun _ _ _ _ _ => (pem_op opM_add (pem_op opM_add (pem_ix (pvm 5) pem_int (fun _ _ => rfl)) pem_str) (pem_ix (pvm 5) pem_int (fun _ _ => rfl)))))
    (pssm_one (psm_ret (pem_op opM_add (pem_op opM_add (pem_m1 PySem.F.slot_str_join PySem.F.type_str_join meM_join pem_str (pvm 1)) pem_str) (pem_if (ptm_cmp (opM_ne hr.r) (pvm 2) (pem_lst pam_nil) (nomark _)) (pem_m1 PySem.F.slot_str_join PySem.F.type_str_join meM_join pem_str (pvm 2)) pem_str))))))
theorem fd_law_any_home (c : Sy K h cs) : ∃ fd, FunD K "_law_any_home" "_law_any_home" (defArgs s_law_any_home) (defBody s_law_any_home) (defScope s_law_any_home) [] [] (ga K "_law_any_home") fd := c.def_ 32 (d := d_law_any_home)
def F_law_any_home (K : PySem.W.Frag) : List D → M D := defM 7 ((sSeq (sAsg (eLst (aCons (eTup aNil) (aCons (eTup (aCons (eC (.str "self")) aNil)) (aCons (eTup (aCons (eC (.str "on")) aNil)) (aCons (eTup (aCons (eC (.str "on")) (aCons (eC (.str "self")) aNil))) (aCons (eTup (aCons (eC (.str "back")) aNil)) (aCons (eTup (aCons (eC (.str "on")) (aCons (eC (.str "round")) aNil))) (aCons (eTup (aCons (eC (.str "ends")) (aCons (eC (.str "on")) aNil))) (aCons (eTup (aCons (eC (.str "step")) aNil)) aNil))))))))) (gN 1))
    (sSeq (sAsg (e2 addD (eVar 1) (eLst (aCons (eTup (aCons (eC (.str "back")) (aCons (eC (.str "on")) (aCons (eC (.str "self")) aNil)))) (aCons (eTup (aCons (eC (.str "on")) (aCons (eC (.str "self")) (aCons (eC (.str "step")) aNil)))) (aCons (eTup (aCons (eC (.str "back")) (aCons (eC (.str "on")) (aCons (eC (.str "round")) (aCons (eC (.str "self")) (aCons (eC (.str "step")) aNil)))))) aNil))))) (gN 1))
    (sSeq (sAsg (eCall sortD (aCons (eSl (eSl (eLst (aCons (eC (.str "h")) (aCons (eC (.str "k")) (aCons (eC (.str "m")) (aCons (eC (.str "zzzzzzzz")) (aCons (eC (.str "a")) (aCons (eC (.str "book")) aNil))))))) (oSome (eCall (cM 2 (F_law_draw K)) (aCons (eVar 0) (aCons (eC (.int 4)) aNil)))) oNone) oNone (oSome (e2 addD (eC (.int 1)) (eCall (cM 2 (F_law_draw K)) (aCons (eVar 0) (aCons (eC (.int 3)) aNil)))))) aNil)) (gN 2))
    (sSeq (sPar 3 4 (aCons (eLstM aNil) (aCons (eLstM aNil) aNil)))
    (sSeq (sFor (iSeq (eVar 2)) (gN 5) (sSeq (sDrop (eLM appD (eVar 3) (aCons (eTup (aCons (eVar 5) (aCons (e2 ixD (eVar 1) (eCall (cM 2 (F_law_draw K)) (aCons (eVar 0) (aCons (eC (.int 11)) aNil)))) aNil))) aNil)))
    (sDrop (eLM extD (eVar 4) (aCons (eLc (iSeq (eVar 2)) (gN 6) (bAnd (bTest (e2 neD (eVar 6) (eVar 5))) (bTest (e2 eqD (eCall (cM 2 (F_law_draw K)) (aCons (eVar 0) (aCons (eC (.int 5)) aNil))) (eC (.int 0))))) (eTup (aCons (eVar 5) (aCons (eVar 6) aNil))) [6]) aNil)))))
    (sRet (eTup (aCons (eCall tupD (aCons (eVar 3) aNil)) (aCons (eCall tupD (aCons (eVar 4) aNil)) aNil))))))))))
theorem ok_law_any_home (c : Sy K h cs) (G : h.Ns mainGlobals mg) : CalK P w K mg base T 2 "_law_any_home" P_law_any_home (F_law_any_home K) := by
  obtain ⟨fd, F⟩ := fd_law_any_home (K := K) c
  exact calK_of F (g_law_any_home c G) sc_law_any_home (fun _ _ _ _ _ _ us hl => match us, hl with | [_], _ => rfl) (fun _ _ _ _ _ _ us hl => match us, hl with | [_], _ => rfl) fun cdv A outer s H E hcd hr =>
    (pssm_cons (psm_set (i := 1) sc_law_any_home.nd rfl (Or.inl rfl) (pem_lst (pam_cons (pem_tup pam_nil) (pam_cons (pem_tup (pam_cons pem_str pam_nil)) (pam_cons (pem_tup (pam_cons pem_str pam_nil)) (pam_cons (pem_tup (pam_cons pem_str (pam_cons pem_str pam_nil))) (pam_cons (pem_tup (pam_cons pem_str pam_nil)) (pam_cons (pem_tup (pam_cons pem_str (pam_cons pem_str pam_nil))) (pam_cons (pem_tup (pam_cons pem_str (pam_cons pem_str pam_nil))) (pam_cons (pem_tup (pam_cons pem_str pam_nil)) pam_nil))))))))))
    (pssm_cons (psm_set (i := 1) sc_law_any_home.nd rfl (Or.inl rfl) (pem_op opM_add (pvm 1) (pem_lst (pam_cons (pem_tup (pam_cons pem_str (pam_cons pem_str (pam_cons pem_str pam_nil)))) (pam_cons (pem_tup (pam_cons pem_str (pam_cons pem_str (pam_cons pem_str pam_nil)))) (pam_cons (pem_tup (pam_cons pem_str (pam_cons pem_str (pam_cons pem_str (pam_cons pem_str (pam_cons pem_str pam_nil)))))) pam_nil))))))
    (pssm_cons (psm_set (i := 2) sc_law_any_home.nd rfl (Or.inl rfl) (pem_callB (calM_sorted hr.r) rfl (m_sorted c G) PyProof.Rows.Boot.«sorted» (pam_cons (pem_slice (pem_slice (pem_lst (pam_cons pem_str (pam_cons pem_str (pam_cons pem_str (pam_cons pem_str (pam_cons pem_str (pam_cons pem_str pam_nil))))))) (pom_some (cem (ok_law_draw c G) hr rfl takesM (pam_cons (pvm 0) (pam_cons pem_int pam_nil)))) pom_none) pom_none (pom_some (pem_op opM_add pem_int (cem (ok_law_draw c G) hr rfl takesM (pam_cons (pvm 0) (pam_cons pem_int pam_nil)))))) pam_nil)))
    (pssm_cons (psm_par (i := 3) (j := 4) rfl sc_law_any_home.nd rfl rfl (by decide) rfl rfl (pam_cons (pem_lstM pam_nil) (pam_cons (pem_lstM pam_nil) pam_nil)) (by kernel_rfl))
    (pssm_cons (psm_for (passes_of rfl) rfl (pim_seq (pvm 2)) (pgn 5 sc_law_any_home.nd) (pssm_cons (psm_expr (pem_lm PySem.F.slot_list_append PySem.F.type_list_append meM_append (pvm 3) (pam_cons (pem_tup (pam_cons (pvm 5) (pam_cons (pem_ix (pvm 1) (cem (ok_law_draw c G) hr rfl takesM (pam_cons (pvm 0) (pam_cons pem_int pam_nil))) (fun _ _ => rfl)) pam_nil))) pam_nil)))
    (pssm_one (psm_expr (pem_lm PySem.F.slot_list_extend PySem.F.type_list_extend meM_extend (pvm 4) (pam_cons (pem_lc (own := [("_law_mate", 6)]) rfl sc_law_any_home.nd (pim_seq (pvm 2)) (blk_by (by kernel_rfl)) (by decide) (fun _ _ _ _ _ => (pgn 6 sc_law_any_home.nd)) (fun _ _ _ _ _ => (ptsm_one (PWm.pt (pwm_and (ptm_cmp (opM_ne hr.r) (pvm 6) (pvm 5) (nomark _)) (pwm_and1 (ptm_cmp (opM_eq hr.r) (cem (ok_law_draw c G) hr rfl L2.takes0 (pam_cons (pvm 0) (pam_cons pem_int pam_nil))) pem_int (nomark _))))))) (fun _ _ _ _ _ => (pem_tup (pam_cons (pvm 5) (pam_cons (pvm 6) pam_nil))))) pam_nil))))))
    (pssm_one (psm_ret (pem_tup (pam_cons (pem_callTy calM_tuple rfl (m_tuple c G) PyProof.Rows.Boot.«tuple» (pam_cons (pvm 3) pam_nil)) (pam_cons (pem_callTy calM_tuple rfl (m_tuple c G) PyProof.Rows.Boot.«tuple» (pam_cons (pvm 4) pam_nil)) pam_nil))))))))))
theorem fd_law_home_in (c : Sy K h cs) : ∃ fd, FunD K "_law_home_in" "_law_home_in" (defArgs s_law_home_in) (defBody s_law_home_in) (defScope s_law_home_in) [] [] (ga K "_law_home_in") fd := c.def_ 33 (d := d_law_home_in)
def F_law_home_in (K : PySem.W.Frag) : List D → M D := defM 7 ((sSeq (sAsg (eM1 splitD (eVar 0) (eC (.str "/"))) (gN 1))
    (sSeq (sIf (bTest (e2 neD (eCall lenD (aCons (eVar 1) aNil)) (eC (.int 2)))) (sRet (eC .non)) sNext)
    (sSeq (sPar 2 3 (aCons (eLstM aNil) (aCons (eLstM aNil) aNil)))
    (sSeq (sFor (iSeq (eM1 splitD (e2 ixD (eVar 1) (eC (.int 0))) (eC (.str ";")))) (gN 4) (sSeq (sAsg (eM1 splitD (eVar 4) (eC (.str ":"))) (gN 5))
    (sSeq (sIf (bTest (e2 neD (eCall lenD (aCons (eVar 5) aNil)) (eC (.int 2)))) (sRet (eC .non)) sNext)
    (sDrop (eLM appD (eVar 2) (aCons (eTup (aCons (e2 ixD (eVar 5) (eC (.int 0))) (aCons (eIf (bTest (e2 eqD (e2 ixD (eVar 5) (eC (.int 1))) (eC (.str "-")))) (eTup aNil) (eCall tupD (aCons (eM1 splitD (e2 ixD (eVar 5) (eC (.int 1))) (eC (.str ","))) aNil))) aNil))) aNil))))))
    (sSeq (sFor (iSeq (eIf (bTest (e2 neD (e2 ixD (eVar 1) (eC (.int 1))) (eC (.str "-")))) (eM1 splitD (e2 ixD (eVar 1) (eC (.int 1))) (eC (.str ";"))) (eLst aNil))) (gN 4) (sSeq (sIf (bTest (e2 neD (eM1 countD (eVar 4) (eC (.str ">"))) (eC (.int 1)))) (sRet (eC .non)) sNext)
    (sDrop (eLM appD (eVar 3) (aCons (eCall tupD (aCons (eM1 splitD (eVar 4) (eC (.str ">"))) aNil)) aNil)))))
    (sSeq (sAsg (eTup (aCons (eCall tupD (aCons (eVar 2) aNil)) (aCons (eCall tupD (aCons (eVar 3) aNil)) aNil))) (gN 6))
    (sRet (eIf (bTest (e2 isBlD (eCall (cM 1 (F_is_house K)) (aCons (eVar 6) aNil)) (eC (.bl true)))) (eVar 6) (eC .non))))))))))
theorem ok_law_home_in (c : Sy K h cs) (G : h.Ns mainGlobals mg) : CalK P w K mg base T 7 "_law_home_in" P_law_home_in (F_law_home_in K) := by
  obtain ⟨fd, F⟩ := fd_law_home_in (K := K) c
  exact calK_of F (g_law_home_in c G) sc_law_home_in (fun _ _ _ _ _ _ us hl => match us, hl with | [_], _ => rfl) (fun _ _ _ _ _ _ us hl => match us, hl with | [_], _ => rfl) fun cdv A outer s H E hcd hr =>
    (pssm_cons (psm_set (i := 1) sc_law_home_in.nd rfl (Or.inl rfl) (pem_m1 PySem.F.slot_str_split PySem.F.type_str_split meM_split (pvm 0) pem_str))
    (pssm_cons (psm_if (ptm_cmp (opM_ne hr.r) (pem_callB calM_len rfl (m_len c G) PyProof.Rows.Boot.«len» (pam_cons (pvm 1) pam_nil)) pem_int (nomark _)) (pssm_one (psm_ret pem_non)) pssm_nil)
    (pssm_cons (psm_par (i := 2) (j := 3) rfl sc_law_home_in.nd rfl rfl (by decide) rfl rfl (pam_cons (pem_lstM pam_nil) (pam_cons (pem_lstM pam_nil) pam_nil)) (by kernel_rfl))
    (pssm_cons (psm_for (passes_of rfl) rfl (pim_seq (pem_m1 PySem.F.slot_str_split PySem.F.type_str_split meM_split (pem_ix (pvm 1) pem_int (fun _ _ => rfl)) pem_str)) (pgn 4 sc_law_home_in.nd) (pssm_cons (psm_set (i := 5) sc_law_home_in.nd rfl (Or.inl rfl) (pem_m1 PySem.F.slot_str_split PySem.F.type_str_split meM_split (pvm 4) pem_str))
    (pssm_cons (psm_if (ptm_cmp (opM_ne hr.r) (pem_callB calM_len rfl (m_len c G) PyProof.Rows.Boot.«len» (pam_cons (pvm 5) pam_nil)) pem_int (nomark _)) (pssm_one (psm_ret pem_non)) pssm_nil)
    (pssm_one (psm_expr (pem_lm PySem.F.slot_list_append PySem.F.type_list_append meM_append (pvm 2) (pam_cons (pem_tup (pam_cons (pem_ix (pvm 5) pem_int (fun _ _ => rfl)) (pam_cons (pem_if (ptm_cmp (opM_eq hr.r) (pem_ix (pvm 5) pem_int (fun _ _ => rfl)) pem_str (nomark _)) (pem_tup pam_nil) (pem_callTy calM_tuple rfl (m_tuple c G) PyProof.Rows.Boot.«tuple» (pam_cons (pem_m1 PySem.F.slot_str_split PySem.F.type_str_split meM_split (pem_ix (pvm 5) pem_int (fun _ _ => rfl)) pem_str) pam_nil))) pam_nil))) pam_nil)))))))
    (pssm_cons (psm_for (passes_of rfl) rfl (pim_seq (pem_if (ptm_cmp (opM_ne hr.r) (pem_ix (pvm 1) pem_int (fun _ _ => rfl)) pem_str (nomark _)) (pem_m1 PySem.F.slot_str_split PySem.F.type_str_split meM_split (pem_ix (pvm 1) pem_int (fun _ _ => rfl)) pem_str) (pem_lst pam_nil))) (pgn 4 sc_law_home_in.nd) (pssm_cons (psm_if (ptm_cmp (opM_ne hr.r) (pem_m1 PySem.F.slot_str_count PySem.F.type_str_count meM_count (pvm 4) pem_str) pem_int (nomark _)) (pssm_one (psm_ret pem_non)) pssm_nil)
    (pssm_one (psm_expr (pem_lm PySem.F.slot_list_append PySem.F.type_list_append meM_append (pvm 3) (pam_cons (pem_callTy calM_tuple rfl (m_tuple c G) PyProof.Rows.Boot.«tuple» (pam_cons (pem_m1 PySem.F.slot_str_split PySem.F.type_str_split meM_split (pvm 4) pem_str) pam_nil)) pam_nil))))))
    (pssm_cons (psm_set (i := 6) sc_law_home_in.nd rfl (Or.inl rfl) (pem_tup (pam_cons (pem_callTy calM_tuple rfl (m_tuple c G) PyProof.Rows.Boot.«tuple» (pam_cons (pvm 2) pam_nil)) (pam_cons (pem_callTy calM_tuple rfl (m_tuple c G) PyProof.Rows.Boot.«tuple» (pam_cons (pvm 3) pam_nil)) pam_nil))))
    (pssm_one (psm_ret (pem_if (ptm_cmp opM_isBl (cem (ok_is_house c G) hr rfl takesM (pam_cons (pvm 6) pam_nil)) pem_bl (nomark _)) (pvm 6) pem_non)))))))))
theorem fd_law_read (c : Sy K h cs) : ∃ fd, FunD K "_law_read" "_law_read" (defArgs s_law_read) (defBody s_law_read) (defScope s_law_read) [] [] (ga K "_law_read") fd := c.def_ 34 (d := d_law_read)
def F_law_read (K : PySem.W.Frag) : List D → M D := defM 4 ((sSeq (sAsg (eTup (aCons (eC (.str "odd")) aNil)) (gN 1))
    (sSeq (tryM K (sAsg (eTup (aCons (eC (.str "told")) (aCons (eCall (cM 1 (F_read_house K)) (aCons (eVar 0) aNil)) aNil))) (gN 1)) (⟨.ref (ga K "MustError"), some 2, fun C fs => (sSeq (sAsg (isxM K C 2 (eTup (aCons (eC (.adr (ga K "LackError"))) (aCons (eC (.adr (ga K "NoMore"))) (aCons (eC (.adr (ga K "NoPaper"))) (aCons (eC (.adr (ga K "NoRow"))) (aCons (eC (.adr (ga K "NoRules"))) (aCons (eC (.adr (ga K "NoShowing"))) aNil)))))))) (gN 3))
    (sIf (bAnd (bTru (isxM K C 2 (eC (.adr (ga K "NoText"))))) (bAnd (bTru (isxM K C 2 (eC (.ty "ValueError")))) (bNot (bTru (eVar 3))))) (sAsg (eTup (aCons (eC (.str "page")) (aCons (xfM K C fs 2 "line") (aCons (xfM K C fs 2 "word") aNil)))) (gN 1)) sNext))⟩ :: []))
    (sRet (eVar 1)))))
theorem ok_law_read (c : Sy K h cs) (G : h.Ns mainGlobals mg) (hT : T.ex = none) : CalK P w K mg base T 10 "_law_read" P_law_read (F_law_read K) := by
  obtain ⟨fd, F⟩ := fd_law_read (K := K) c
  exact calK_of F (g_law_read c G) sc_law_read (fun _ _ _ _ _ _ us hl => match us, hl with | [_], _ => rfl) (fun _ _ _ _ _ _ us hl => match us, hl with | [_], _ => rfl) fun cdv A outer s H E hcd hr =>
    (pssm_cons (psm_set (i := 1) sc_law_read.nd rfl (Or.inl rfl) (pem_tup (pam_cons pem_str pam_nil)))
    (pssm_cons (psm_try hT rfl rfl sc_law_read.nd takesM (fun W pn xe tkx po => (pssm_one (psm_set (i := 1) sc_law_read.nd rfl (Or.inl rfl) (pem_tup (pam_cons pem_str (pam_cons (cemK (ok_read_house c G) hr rfl tkx (pkm_cons (pvm 0) pkm_nil)) pam_nil)))))) (HdsM.named (⟨rfl, by decide, .inl (g_MustError c G)⟩) (i := 2) rfl rfl (fun a oe C dx fs pn hz hf => (pssm_cons (psm_set (i := 3) sc_law_read.nd rfl (Or.inl rfl) (pem_isx hz hf rfl (m_isinstance c G) (i := 2) rfl (Or.inl rfl) (pem_tup (pam_cons (pem_glob rfl (Kd.adr (g_LackError c G))) (pam_cons (pem_glob rfl (Kd.adr (g_NoMore c G))) (pam_cons (pem_glob rfl (Kd.adr (g_NoPaper c G))) (pam_cons (pem_glob rfl (Kd.adr (g_NoRow c G))) (pam_cons (pem_glob rfl (Kd.adr (g_NoRules c G))) (pam_cons (pem_glob rfl (Kd.adr (g_NoShowing c G))) pam_nil)))))))))
    (pssm_one (psm_if (PWm.pt (pwm_and (ptm_val (pem_isx hz hf rfl (m_isinstance c G) (i := 2) rfl (Or.inl rfl) (pem_glob rfl (Kd.adr (g_NoText c G))))) (pwm_and (ptm_val (pem_isx hz hf rfl (m_isinstance c G) (i := 2) rfl (Or.inl rfl) (pem_ty rfl (m_ValueError c G) PyProof.Rows.Boot.«ValueError»))) (pwm_and1 (ptm_not (ptm_val (pvm 3))))))) (pssm_one (psm_set (i := 1) sc_law_read.nd rfl (Or.inl rfl) (pem_tup (pam_cons pem_str (pam_cons (pem_xf hz hf (i := 2) rfl (Or.inl rfl)) (pam_cons (pem_xf hz hf (i := 2) rfl (Or.inl rfl)) pam_nil)))))) pssm_nil)))) HdsM.nil))
    (pssm_one (psm_ret (pvm 1)))))
theorem fd_law_read_due (c : Sy K h cs) : ∃ fd, FunD K "_law_read_due" "_law_read_due" (defArgs s_law_read_due) (defBody s_law_read_due) (defScope s_law_read_due) [] [] (ga K "_law_read_due") fd := c.def_ 35 (d := d_law_read_due)
def F_law_read_due (K : PySem.W.Frag) : List D → M D := defM 3 ((sSeq (sAsg (eM1 splitD (eVar 0) (eC (.str " "))) (gN 1))
    (sSeq (sAsg (eCall (cM 1 (F_law_home_in K)) (aCons (e2 ixD (eVar 1) (eC (.int 0))) aNil)) (gN 2))
    (sSeq (sIf (bOr (bTest (e2 isNoneD (eVar 2) (eC .non))) (bTest (e2 gtD (eCall lenD (aCons (eVar 1) aNil)) (eC (.int 1))))) (sRet (eTup (aCons (eC (.str "page")) (aCons (eC (.int 0)) (aCons (eIf (bTest (e2 isNoneD (eVar 2) (eC .non))) (eC (.int 0)) (eC (.int 1))) aNil))))) sNext)
    (sRet (eTup (aCons (eC (.str "told")) (aCons (eVar 2) aNil))))))))
theorem ok_law_read_due (c : Sy K h cs) (G : h.Ns mainGlobals mg) : CalK P w K mg base T 8 "_law_read_due" P_law_read_due (F_law_read_due K) := by
  obtain ⟨fd, F⟩ := fd_law_read_due (K := K) c
  exact calK_of F (g_law_read_due c G) sc_law_read_due (fun _ _ _ _ _ _ us hl => match us, hl with | [_], _ => rfl) (fun _ _ _ _ _ _ us hl => match us, hl with | [_], _ => rfl) fun cdv A outer s H E hcd hr =>
    (pssm_cons (psm_set (i := 1) sc_law_read_due.nd rfl (Or.inl rfl) (pem_m1 PySem.F.slot_str_split PySem.F.type_str_split meM_split (pvm 0) pem_str))
    (pssm_cons (psm_set (i := 2) sc_law_read_due.nd rfl (Or.inl rfl) (cem (ok_law_home_in c G) hr rfl takesM (pam_cons (pem_ix (pvm 1) pem_int (fun _ _ => rfl)) pam_nil)))
    (pssm_cons (psm_if (PWm.pt (pwm_or (ptm_cmp opM_isN (pvm 2) pem_non (nomark _)) (pwm_or1 (ptm_cmp (opM_gt hr.r) (pem_callB calM_len rfl (m_len c G) PyProof.Rows.Boot.«len» (pam_cons (pvm 1) pam_nil)) pem_int (nomark _))))) (pssm_one (psm_ret (pem_tup (pam_cons pem_str (pam_cons pem_int (pam_cons (pem_if (ptm_cmp opM_isN (pvm 2) pem_non (nomark _)) pem_int pem_int) pam_nil)))))) pssm_nil)
    (pssm_one (psm_ret (pem_tup (pam_cons pem_str (pam_cons (pvm 2) pam_nil))))))))
theorem fd_law_bent_word (c : Sy K h cs) : ∃ fd, FunD K "_law_bent_word" "_law_bent_word" (defArgs s_law_bent_word) (defBody s_law_bent_word) (defScope s_law_bent_word) [] [] (ga K "_law_bent_word") fd := c.def_ 36 (d := d_law_bent_word)
def F_law_bent_word (K : PySem.W.Frag) : List D → M D := defM 5 ((sSeq (sPar 2 3 (aCons (eCall (cM 2 (F_law_draw K)) (aCons (eVar 0) (aCons (e2 addD (eCall lenD (aCons (eVar 1) aNil)) (eC (.int 1))) aNil))) (aCons (eCall (cM 2 (F_law_draw K)) (aCons (eVar 0) (aCons (eC (.int 6)) aNil))) aNil)))
    (sSeq (sAsg (e2 ixD (eC (.str "h:,;/>-k onself")) (eCall (cM 2 (F_law_draw K)) (aCons (eVar 0) (aCons (eC (.int 15)) aNil)))) (gN 4))
    (sSeq (sIf (bTest (e2 eqD (eVar 3) (eC (.int 0)))) (sRet (e2 addD (eSl (eVar 1) oNone (oSome (eVar 2))) (eSl (eVar 1) (oSome (e2 addD (eVar 2) (eC (.int 1)))) oNone))) sNext)
    (sSeq (sIf (bTest (e2 eqD (eVar 3) (eC (.int 1)))) (sRet (e2 addD (e2 addD (eSl (eVar 1) oNone (oSome (eVar 2))) (eVar 4)) (eSl (eVar 1) (oSome (e2 addD (eVar 2) (eC (.int 1)))) oNone))) sNext)
    (sSeq (sIf (bTest (e2 eqD (eVar 3) (eC (.int 2)))) (sRet (eM1 joinD (eC (.str "/")) (e1 revD (eM1 splitD (eVar 1) (eC (.str "/")))))) sNext)
    (sSeq (sIf (bTest (e2 eqD (eVar 3) (eC (.int 3)))) (sRet (eM1 joinD (eC (.str ";")) (e1 revD (eM1 splitD (eVar 1) (eC (.str ";")))))) sNext)
    (sRet (eIf (bAnd (bTest (e2 eqD (eVar 3) (eC (.int 4)))) (bTest (e2 eqD (eCall (cM 2 (F_law_draw K)) (aCons (eVar 0) (aCons (eC (.int 3)) aNil))) (eC (.int 0))))) (e2 addD (e2 addD (eVar 1) (eC (.str " "))) (eVar 1)) (e2 addD (e2 addD (eSl (eVar 1) oNone (oSome (eVar 2))) (eVar 4)) (eSl (eVar 1) (oSome (eVar 2)) oNone)))))))))))
theorem ok_law_bent_word (c : Sy K h cs) (G : h.Ns mainGlobals mg) : CalK P w K mg base T 2 "_law_bent_word" P_law_bent_word (F_law_bent_word K) := by
  obtain ⟨fd, F⟩ := fd_law_bent_word (K := K) c
  exact calK_of F (g_law_bent_word c G) sc_law_bent_word (fun _ _ _ _ _ _ us hl => match us, hl with | [_, _], _ => rfl) (fun _ _ _ _ _ _ us hl => match us, hl with | [_, _], _ => rfl) fun cdv A outer s H E hcd hr =>
    (pssm_cons (psm_par (i := 2) (j := 3) rfl sc_law_bent_word.nd rfl rfl (by decide) rfl rfl (pam_cons (cem (ok_law_draw c G) hr rfl takesM (pam_cons (pvm 0) (pam_cons (pem_op opM_add (pem_callB calM_len rfl (m_len c G) PyProof.Rows.Boot.«len» (pam_cons (pvm 1) pam_nil)) pem_int) pam_nil))) (pam_cons (cem (ok_law_draw c G) hr rfl takesM (pam_cons (pvm 0) (pam_cons pem_int pam_nil))) pam_nil)) (by kernel_rfl))
    (pssm_cons (psm_set (i := 4) sc_law_bent_word.nd rfl (Or.inl rfl) (pem_ix pem_str (cem (ok_law_draw c G) hr rfl takesM (pam_cons (pvm 0) (pam_cons pem_int pam_nil))) (fun _ _ => rfl)))
    (pssm_cons (psm_if (ptm_cmp (opM_eq hr.r) (pvm 3) pem_int (nomark _)) (pssm_one (psm_ret (pem_op opM_add (pem_slice (pvm 1) pom_none (pom_some (pvm 2))) (pem_slice (pvm 1) (pom_some (pem_op opM_add (pvm 2) pem_int)) pom_none)))) pssm_nil)
    (pssm_cons (psm_if (ptm_cmp (opM_eq hr.r) (pvm 3) pem_int (nomark _)) (pssm_one (psm_ret (pem_op opM_add (pem_op opM_add (pem_slice (pvm 1) pom_none (pom_some (pvm 2))) (pvm 4)) (pem_slice (pvm 1) (pom_some (pem_op opM_add (pvm 2) pem_int)) pom_none)))) pssm_nil)
    (pssm_cons (psm_if (ptm_cmp (opM_eq hr.r) (pvm 3) pem_int (nomark _)) (pssm_one (psm_ret (pem_m1 PySem.F.slot_str_join PySem.F.type_str_join meM_join pem_str (pem_rev (pem_m1 PySem.F.slot_str_split PySem.F.type_str_split meM_split (pvm 1) pem_str))))) pssm_nil)
    (pssm_cons (psm_if (ptm_cmp (opM_eq hr.r) (pvm 3) pem_int (nomark _)) (pssm_one (psm_ret (pem_m1 PySem.F.slot_str_join PySem.F.type_str_join meM_join pem_str (pem_rev (pem_m1 PySem.F.slot_str_split PySem.F.type_str_split meM_split (pvm 1) pem_str))))) pssm_nil)
    (pssm_one (psm_ret (pem_if (PWm.pt (pwm_and (ptm_cmp (opM_eq hr.r) (pvm 3) pem_int (nomark _)) (pwm_and1 (ptm_cmp (opM_eq hr.r) (cem (ok_law_draw c G) hr rfl takesM (pam_cons (pvm 0) (pam_cons pem_int pam_nil))) pem_int (nomark _))))) (pem_op opM_add (pem_op opM_add (pvm 1) pem_str) (pvm 1)) (pem_op opM_add (pem_op opM_add (pem_slice (pvm 1) pom_none (pom_some (pvm 2))) (pvm 4)) (pem_slice (pvm 1) (pom_some (pvm 2)) pom_none)))))))))))
theorem fd_law_home (c : Sy K h cs) : ∃ fd, FunD K "_law_home" "_law_home" (defArgs s_law_home) (defBody s_law_home) (defScope s_law_home) [] [] (ga K "_law_home") fd := c.def_ 30 (d := d_law_home)
def F_law_home (K : PySem.W.Frag) : List D → M D := defM 7 ((sSeq (sAsg (eLst (aCons (eTup aNil) (aCons (eTup (aCons (eC (.str "self")) aNil)) (aCons (eTup (aCons (eC (.str "on")) aNil)) (aCons (eTup (aCons (eC (.str "on")) (aCons (eC (.str "self")) aNil))) (aCons (eTup (aCons (eC (.str "back")) aNil)) (aCons (eTup (aCons (eC (.str "on")) (aCons (eC (.str "round")) aNil))) (aCons (eTup (aCons (eC (.str "ends")) (aCons (eC (.str "on")) aNil))) (aCons (eTup (aCons (eC (.str "step")) aNil)) aNil))))))))) (gN 1))
    (sSeq (sAsg (e2 addD (eVar 1) (eLst (aCons (eTup (aCons (eC (.str "back")) (aCons (eC (.str "on")) (aCons (eC (.str "self")) aNil)))) (aCons (eTup (aCons (eC (.str "on")) (aCons (eC (.str "self")) (aCons (eC (.str "step")) aNil)))) aNil)))) (gN 1))
    (sSeq (sAsg (eSl (eLst (aCons (eC (.str "h")) (aCons (eC (.str "k")) (aCons (eC (.str "m")) aNil)))) oNone (oSome (e2 addD (eC (.int 1)) (eCall (cM 2 (F_law_draw K)) (aCons (eVar 0) (aCons (eC (.int 3)) aNil)))))) (gN 2))
    (sSeq (sAsg (eTup (aCons (eCall tupD (aCons (eLc (iSeq (eVar 2)) (gN 5) bYes (eTup (aCons (eVar 5) (aCons (e2 ixD (eVar 1) (eCall (cM 2 (F_law_draw K)) (aCons (eVar 0) (aCons (eC (.int 10)) aNil)))) aNil))) [5]) aNil)) (aCons (eTup aNil) aNil))) (gT 2 (gsC (gN 3) (gsC (gN 4) gsN))))
    (sSeq (sFor (iSeq (eVar 2)) (gN 5) (sFor (iSeq (eVar 2)) (gN 6) (sIf (bAnd (bTest (e2 eqD (eCall (cM 2 (F_law_draw K)) (aCons (eVar 0) (aCons (eC (.int 3)) aNil))) (eC (.int 0)))) (bTest (e2 eqD (e2 ixD (eLam 3 (G_law_said K) (eCall (cM 1 (F_lets_draft K)) (aCons (eTup (aCons (eVar 3) (aCons (e2 addD (eVar 4) (eTup (aCons (eTup (aCons (eVar 5) (aCons (eVar 6) aNil))) aNil))) aNil))) aNil))) (eC (.int 0))) (eC (.str "told"))))) (sAsg (eCall tupD (aCons (eCall sortD (aCons (e2 addD (eVar 4) (eTup (aCons (eTup (aCons (eVar 5) (aCons (eVar 6) aNil))) aNil))) aNil)) aNil)) (gN 4)) sNext)))
    (sRet (eTup (aCons (eVar 3) (aCons (eVar 4) aNil))))))))))
theorem ok_law_home (c : Sy K h cs) (G : h.Ns mainGlobals mg) {PP : Addr} (hT : T.ex = none) (hT0 : T.w0 = none) (hmT : T.tabs = [(PP, lamQ)]) (TB : TabB base mg (codeTab K ("_law_home", none)).1 PP) : CalK P w K mg base T 8 "_law_home" P_law_home (F_law_home K) := by
  obtain ⟨fd, F⟩ := fd_law_home (K := K) c
  obtain ⟨fdS, FS⟩ := fd_law_said (K := K) c
  obtain ⟨ocS, odS, dVS, kVS, docS, pmS, anS, cdS, ctS, oslS, eS, lkS, hcS, hDS, hKS⟩ := FS.ex
  subst eS
  have hcode : fd.code = .ref (codeTab K ("_law_home", none)).1 := codeTab_of F rfl (by
    obtain ⟨oc1, od1, dV1, kV1, doc1, pm1, an1, cd1, ct1, osl1, e1, lk1, hc1, hD1, hK1⟩ := F.ex
    have q : lamB K = true := c.fact 88
    unfold lamB at q
    rw [show fAd K ("_law_home", none) = ga K "_law_home" from rfl, lk1] at q
    exact q)
  exact calK_of F (g_law_home c G) sc_law_home (fun _ _ _ _ _ _ us hl => match us, hl with | [_], _ => rfl) (fun _ _ _ _ _ _ us hl => match us, hl with | [_], _ => rfl) fun cdv A outer s H E hcd hr =>
    (pssm_cons (psm_set (i := 1) sc_law_home.nd rfl (Or.inr rfl) (pem_lst (pam_cons (pem_tup pam_nil) (pam_cons (pem_tup (pam_cons pem_str pam_nil)) (pam_cons (pem_tup (pam_cons pem_str pam_nil)) (pam_cons (pem_tup (pam_cons pem_str (pam_cons pem_str pam_nil))) (pam_cons (pem_tup (pam_cons pem_str pam_nil)) (pam_cons (pem_tup (pam_cons pem_str (pam_cons pem_str pam_nil))) (pam_cons (pem_tup (pam_cons pem_str (pam_cons pem_str pam_nil))) (pam_cons (pem_tup (pam_cons pem_str pam_nil)) pam_nil))))))))))
    (pssm_cons (psm_set (i := 1) sc_law_home.nd rfl (Or.inr rfl) (pem_op opM_add (pvm 1) (pem_lst (pam_cons (pem_tup (pam_cons pem_str (pam_cons pem_str (pam_cons pem_str pam_nil)))) (pam_cons (pem_tup (pam_cons pem_str (pam_cons pem_str (pam_cons pem_str pam_nil)))) pam_nil)))))
    (pssm_cons (psm_set (i := 2) sc_law_home.nd rfl (Or.inl rfl) (pem_slice (pem_lst (pam_cons pem_str (pam_cons pem_str (pam_cons pem_str pam_nil)))) pom_none (pom_some (pem_op opM_add pem_int (cem (ok_law_draw c G) hr rfl takesM (pam_cons (pvm 0) (pam_cons pem_int pam_nil)))))))
    (pssm_cons (psm_asg (pem_tup (pam_cons (pem_callTy calM_tuple rfl (m_tuple c G) PyProof.Rows.Boot.«tuple» (pam_cons (pem_lc (own := [("_law_who", 5)]) rfl sc_law_home.nd (pim_seq (pvm 2)) (blk_by (by kernel_rfl)) (by decide) (fun _ _ _ _ _ => (pgn 5 sc_law_home.nd)) (fun _ _ _ _ _ => ptsm_nil) (fun _ _ _ _ _ => (pem_tup (pam_cons (pvm 5) (pam_cons (pem_ix (pvm 1) (cem (ok_law_draw c G) hr rfl L2.takes0 (pam_cons (pvm 0) (pam_cons pem_int pam_nil))) (fun _ _ => rfl)) pam_nil))))) pam_nil)) (pam_cons (pem_tup pam_nil) pam_nil))) (pgm_tup rfl (pgsm_cons (pgn 3 sc_law_home.nd) (pgsm_cons (pgn 4 sc_law_home.nd) pgsm_nil))))
    (pssm_cons (psm_for (passes_of rfl) rfl (pim_seq (pvm 2)) (pgn 5 sc_law_home.nd) (pssm_one (psm_for (passes_of rfl) rfl (pim_seq (pvm 2)) (pgn 6 sc_law_home.nd) (pssm_one (psm_if (PWm.pt (pwm_and (ptm_cmp (opM_eq hr.r) (cem (ok_law_draw c G) hr rfl takesM (pam_cons (pvm 0) (pam_cons pem_int pam_nil))) pem_int (nomark _)) (pwm_and1 (ptm_cmp (opM_eq hr.r) (pem_ix (pem_lamcall (X := cxM P w K mg base N_law_home "_law_home" (defScope s_law_home) (ga K "_law_home") cdv A outer s H E) (a := "_law_ask") (k := 5) (gG := G_law_said K) (fb := (eCall (cM 1 (F_lets_draft K)) (aCons (eTup (aCons (eVar 3) (aCons (e2 addD (eVar 4) (eTup (aCons (eTup (aCons (eVar 5) (aCons (eVar 6) aNil))) aNil))) aNil))) aNil))) (x := "_law_said") hT (by rfl) (g_law_said c G) FS.kp lkS hcS (FunD.bindsN FS (fun _ _ _ _ _ _ us hl => match us, hl with | [_], _ => rfl)) sc_law_said (by rfl) (Or.inl (by rfl)) (gv_law_said c G) TB (hcd.symm.trans hcode) (hmT ▸ List.mem_singleton.mpr rfl) (fun p hp hq => by rw [hmT] at hp; rw [List.mem_singleton.mp hp]; rfl) (hr.mono (by decide)) takesM (lamS_by (by kernel_rfl)) (by rfl) (fun _ _ _ _ _ => by rfl) (fun A outer s H E f c' T' ht hx hr2 => by have ok2 : CalK P w K mg base T' 5 "lets_draft" P_lets_draft (F_lets_draft K) := (ok_lets_draft c G).tx ht.symm hT hT0; refine cem (X := lamCx (cxM P w K mg base N_law_home "_law_home" (defScope s_law_home) (ga K "_law_home") _ _ _ _ _ _) A outer s H E _ f c') ok2 hr2 ?_ ?_ ?_; rfl; exact takes_of rfl rfl rfl rfl; exact (pam_cons (pem_tup (pam_cons (pvm 3) (pam_cons (pem_op opM_add (pvm 4) (pem_tup (pam_cons (pem_tup (pam_cons (pvm 5) (pam_cons (pvm 6) pam_nil))) pam_nil))) pam_nil))) pam_nil))) pem_int (fun _ _ => rfl)) pem_str (nomark _))))) (pssm_one (psm_set (i := 4) sc_law_home.nd rfl (Or.inr rfl) (pem_callTy calM_tuple rfl (m_tuple c G) PyProof.Rows.Boot.«tuple» (pam_cons (pem_callB (calM_sorted hr.r) rfl (m_sorted c G) PyProof.Rows.Boot.«sorted» (pam_cons (pem_op opM_add (pvm 4) (pem_tup (pam_cons (pem_tup (pam_cons (pvm 5) (pam_cons (pvm 6) pam_nil))) pam_nil))) pam_nil)) pam_nil)))) pssm_nil)))))
    (pssm_one (psm_ret (pem_tup (pam_cons (pvm 3) (pam_cons (pvm 4) pam_nil))))))))))
theorem fd_law (c : Sy K h cs) : ∃ fd, FunD K "law" "law" (defArgs s_law) (defBody s_law) (defScope s_law) [] [] (ga K "law") fd := c.def_ 37 (d := d_law)
def F_law (K : PySem.W.Frag) : List D → M D := defM 7 ((sSeq (sAsg (eCall (cM 1 (F_law_feed K)) (aCons (eVar 0) aNil)) (gN 1))
    (sSeq (sFor (iCall rng1 (aCons (eC (.int 6)) aNil)) (gN 2) (sSeq (sAsg (eIf (bTest (e2 gtD (eVar 2) (eC (.int 0)))) (eCall (cM 1 (F_law_any_home K)) (aCons (eVar 1) aNil)) (eCall (cM 1 (F_law_home K)) (aCons (eVar 1) aNil))) (gN 3))
    (sSeq (sAsg (eCall (cM 1 (F_law_home_word K)) (aCons (eVar 3) aNil)) (gN 4))
    (sSeq (sIf (bOr (bTest (e2 neD (eCall (cM 1 (F_house_word K)) (aCons (eVar 3) aNil)) (eVar 4))) (bTest (e2 neD (eCall reprD (aCons (eCall (cM 1 (F_read_house K)) (aCons (eVar 4) aNil)) aNil)) (eCall reprD (aCons (eVar 3) aNil))))) (sRet (eC (.bl false))) sNext)
    (sFor (iCall rng1 (aCons (eC (.int 9)) aNil)) (gN 5) (sSeq (sAsg (eCall (cM 1 (F_law_read K)) (aCons (eVar 4) aNil)) (gN 6))
    (sSeq (sIf (bTest (e2 neD (eCall reprD (aCons (eVar 6) aNil)) (eCall reprD (aCons (eCall (cM 1 (F_law_read_due K)) (aCons (eVar 4) aNil)) aNil)))) (sRet (eC (.bl false))) sNext)
    (sSeq (sIf (bAnd (bTest (e2 eqD (e2 ixD (eVar 6) (eC (.int 0))) (eC (.str "told")))) (bAnd (bTest (e2 ltD (eCall lenD (aCons (e2 ixD (e2 ixD (eVar 6) (eC (.int 1))) (eC (.int 0))) aNil)) (eC (.int 4)))) (bTest (e2 neD (eCall (cM 1 (F_house_word K)) (aCons (e2 ixD (eVar 6) (eC (.int 1))) aNil)) (eVar 4))))) (sRet (eC (.bl false))) sNext)
    (sAsg (eCall (cM 2 (F_law_bent_word K)) (aCons (eVar 1) (aCons (eIf (bTest (e2 gtD (e2 modD (eVar 5) (eC (.int 3))) (eC (.int 0)))) (eVar 4) (eCall (cM 1 (F_law_home_word K)) (aCons (eVar 3) aNil))) aNil))) (gN 4))))))))))
    (sSeq (sFor (iSeq (eTup (aCons (eC (.str "")) (aCons (eC (.str " ")) (aCons (eC (.str "-/-")) (aCons (eC (.str "/")) (aCons (eC (.str "h:/-")) (aCons (eC (.str "h:-/")) (aCons (eC (.str "h:-")) (aCons (eC (.str ":-/-")) (aCons (eC (.str "h:on,on/-")) (aCons (eC (.str "h:self,on/-")) (aCons (eC (.str "k:-;h:-/-")) aNil))))))))))))) (gN 4) (sIf (bTest (e2 neD (eCall reprD (aCons (eCall (cM 1 (F_law_read K)) (aCons (eVar 4) aNil)) aNil)) (eCall reprD (aCons (eCall (cM 1 (F_law_read_due K)) (aCons (eVar 4) aNil)) aNil)))) (sRet (eC (.bl false))) sNext))
    (sRet (eC (.bl true)))))))
theorem fn_law (c : Sy K h cs) (G : h.Ns mainGlobals mg) {PP : Addr} (hT : T.ex = none) (hT0 : T.w0 = none) (hmT : T.tabs = [(PP, lamQ)]) (TB : TabB base mg (codeTab K ("_law_home", none)).1 PP) {fd : FuncData} (F : FunD K "law" "law" (defArgs s_law) (defBody s_law) (defScope s_law) [] [] (ga K "law") fd) : FnM P w K mg base T 12 (ga K "law") fd P_law (F_law K) := by
  exact funD_fn F sc_law fun cdv A outer s H E hcd hr =>
    (pssm_cons (psm_set (i := 1) sc_law.nd rfl (Or.inl rfl) (cem (ok_law_feed c G) hr rfl takesM (pam_cons (pvm 0) pam_nil)))
    (pssm_cons (psm_for (passes_of rfl) rfl (pim_range1 rfl (m_range c G) (pam_cons pem_int pam_nil)) (pgn 2 sc_law.nd) (pssm_cons (psm_set (i := 3) sc_law.nd rfl (Or.inl rfl) (pem_if (ptm_cmp (opM_gt hr.r) (pvm 2) pem_int (nomark _)) (cem (ok_law_any_home c G) hr rfl takesM (pam_cons (pvm 1) pam_nil)) (cem (ok_law_home c G hT hT0 hmT TB) hr rfl takesM (pam_cons (pvm 1) pam_nil))))
    (pssm_cons (psm_set (i := 4) sc_law.nd rfl (Or.inl rfl) (cem (ok_law_home_word c G) hr rfl takesM (pam_cons (pvm 3) pam_nil)))
    (pssm_cons (psm_if (PWm.pt (pwm_or (ptm_cmp (opM_ne hr.r) (cemK (ok_house_word c G) hr rfl takesM (pkm_cons (pvm 3) pkm_nil)) (pvm 4) (nomark _)) (pwm_or1 (ptm_cmp (opM_ne hr.r) (pem_callB (calM_repr hr.r hr.g) rfl (m_repr c G) PyProof.Rows.Boot.«repr» (pam_cons (cem (ok_read_house c G) hr rfl takesM (pam_cons (pvm 4) pam_nil)) pam_nil)) (pem_callB (calM_repr hr.r hr.g) rfl (m_repr c G) PyProof.Rows.Boot.«repr» (pam_cons (pvm 3) pam_nil)) (nomark _))))) (pssm_one (psm_ret pem_bl)) pssm_nil)
    (pssm_one (psm_for (passes_of rfl) rfl (pim_range1 rfl (m_range c G) (pam_cons pem_int pam_nil)) (pgn 5 sc_law.nd) (pssm_cons (psm_set (i := 6) sc_law.nd rfl (Or.inl rfl) (cem (ok_law_read c G hT) hr rfl takesM (pam_cons (pvm 4) pam_nil)))
    (pssm_cons (psm_if (ptm_cmp (opM_ne hr.r) (pem_callB (calM_repr hr.r hr.g) rfl (m_repr c G) PyProof.Rows.Boot.«repr» (pam_cons (pvm 6) pam_nil)) (pem_callB (calM_repr hr.r hr.g) rfl (m_repr c G) PyProof.Rows.Boot.«repr» (pam_cons (cem (ok_law_read_due c G) hr rfl takesM (pam_cons (pvm 4) pam_nil)) pam_nil)) (nomark _)) (pssm_one (psm_ret pem_bl)) pssm_nil)
    (pssm_cons (psm_if (PWm.pt (pwm_and (ptm_cmp (opM_eq hr.r) (pem_ix (pvm 6) pem_int (fun _ _ => rfl)) pem_str (nomark _)) (pwm_and (ptm_cmp (opM_lt hr.r) (pem_callB calM_len rfl (m_len c G) PyProof.Rows.Boot.«len» (pam_cons (pem_ix (pem_ix (pvm 6) pem_int (fun _ _ => rfl)) pem_int (fun _ _ => rfl)) pam_nil)) pem_int (nomark _)) (pwm_and1 (ptm_cmp (opM_ne hr.r) (cem (ok_house_word c G) hr rfl takesM (pam_cons (pem_ix (pvm 6) pem_int (fun _ _ => rfl)) pam_nil)) (pvm 4) (nomark _)))))) (pssm_one (psm_ret pem_bl)) pssm_nil)
    (pssm_one (psm_set (i := 4) sc_law.nd rfl (Or.inl rfl) (cem (ok_law_bent_word c G) hr rfl takesM (pam_cons (pvm 1) (pam_cons (pem_if (ptm_cmp (opM_gt hr.r) (pem_op opM_mod (pvm 5) pem_int) pem_int (nomark _)) (pvm 4) (cem (ok_law_home_word c G) hr rfl takesM (pam_cons (pvm 3) pam_nil))) pam_nil))))))))))))))
    (pssm_cons (psm_for (passes_of rfl) rfl (pim_seq (pem_tup (pam_cons pem_str (pam_cons pem_str (pam_cons pem_str (pam_cons pem_str (pam_cons pem_str (pam_cons pem_str (pam_cons pem_str (pam_cons pem_str (pam_cons pem_str (pam_cons pem_str (pam_cons pem_str pam_nil))))))))))))) (pgn 4 sc_law.nd) (pssm_one (psm_if (ptm_cmp (opM_ne hr.r) (pem_callB (calM_repr hr.r hr.g) rfl (m_repr c G) PyProof.Rows.Boot.«repr» (pam_cons (cem (ok_law_read c G hT) hr rfl takesM (pam_cons (pvm 4) pam_nil)) pam_nil)) (pem_callB (calM_repr hr.r hr.g) rfl (m_repr c G) PyProof.Rows.Boot.«repr» (pam_cons (cem (ok_law_read_due c G) hr rfl takesM (pam_cons (pvm 4) pam_nil)) pam_nil)) (nomark _)) (pssm_one (psm_ret pem_bl)) pssm_nil)))
    (pssm_one (psm_ret pem_bl)))))
end K84
end
section
set_option Elab.async false
set_option linter.all false
set_option maxRecDepth 100000
set_option maxHeartbeats 1048576
namespace MM
open PySem PySem.Spec PySem.W PyProof.Rows L2 LamX He
/-! ### evaluation of plain runs -/
section
variable {α β : Type} {δ : Env'} {S S' : Store} {a : α} {m : M α} {f : α → M β}
@[simp] theorem bind_ap : m.bind f S = (match m S with | .ok a S' => f a S' | .exc C fs S' => .exc C fs S' | .bad => .bad) := rfl
@[simp] theorem pure_ap : M.pure a S = .ok a S := rfl
@[simp] theorem ask_ap {c : Prop} [Decidable c] : M.ask c m S = if c then m S else .bad := rfl
@[simp] theorem bad_ap : (M.bad : M α) S = .bad := rfl
@[simp] theorem get_some : M.get (some a) S = .ok a S := rfl
@[simp] theorem get_none : (M.get (none : Option α)) S = .bad := rfl
end
section
variable {δ : Env'} {S : Store} {f g k : Env' → M D} {fs : Env' → M (List D)} {t u : Env' → M Bool} {p q : SM} {n i : Nat} {ds : List D} {F : List D → M D} {tg tg2 : TgF}
@[simp] theorem defM_ap {b : SM} : defM n b ds S = bodyM (b (startE n ds) S) := rfl
@[simp] theorem body_nx : bodyM (.nx δ S) = .ok .non S := rfl
@[simp] theorem body_rt {d : D} : bodyM (.rt d S) = .ok d S := rfl
@[simp] theorem body_exc {C : Addr} {x : List (Str × D)} : bodyM (.exc C x δ S) = .exc C x S := rfl
@[simp] theorem startE_ap : startE n ds = ds.map some ++ List.replicate (n - ds.length) none := rfl
@[simp] theorem sSeq_ap : sSeq p q δ S = (match p δ S with | .nx δ' S' => q δ' S' | r => r) := rfl
@[simp] theorem sE_ap {kk : D → SM} : sE f kk δ S = (match f δ S with | .ok d S1 => kk d δ S1 | .exc C fs S1 => .exc C fs δ S1 | .bad => .bad) := by unfold sE; rfl
@[simp] theorem sB_ap {kk : Bool → SM} : sB t kk δ S = (match t δ S with | .ok d S1 => kk d δ S1 | .exc C fs S1 => .exc C fs δ S1 | .bad => .bad) := by unfold sB; rfl
@[simp] theorem sRet_ap : sRet f δ S = (match f δ S with | .ok d S1 => .rt d S1 | .exc C fs S1 => .exc C fs δ S1 | .bad => .bad) := by unfold sRet; rw [sE_ap]
@[simp] theorem sIf_ap : sIf t p q δ S = (match t δ S with | .ok d S1 => (if d = true then p else q) δ S1 | .exc C fs S1 => .exc C fs δ S1 | .bad => .bad) := by unfold sIf; rw [sB_ap]
@[simp] theorem sNext_ap : sNext δ S = .nx δ S := rfl
@[simp] theorem sAsg_ap : sAsg f tg δ S = (match f δ S with | .ok d S1 => (match tg d δ with | some δ' => .nx δ' S1 | none => .bad) | .exc C fs S1 => .exc C fs δ S1 | .bad => .bad) := by unfold sAsg; rw [sE_ap]; try rfl
@[simp] theorem sDrop_ap : sDrop f δ S = (match f δ S with | .ok d S1 => .nx δ S1 | .exc C fs S1 => .exc C fs δ S1 | .bad => .bad) := by unfold sDrop; rw [sE_ap]; try rfl
@[simp] theorem eVar_ap : eVar i δ = varD (δ[i]?.getD none) := rfl
@[simp] theorem var_str {x : Str} : varD (some (.str x)) S = .ok (.str x) S := rfl
@[simp] theorem var_int {x : Int} : varD (some (.int x)) S = .ok (.int x) S := rfl
@[simp] theorem var_bl {x : Bool} : varD (some (.bl x)) S = .ok (.bl x) S := rfl
@[simp] theorem var_non : varD (some .non) S = .ok .non S := rfl
@[simp] theorem var_tup {x : List D} : varD (some (.tup x)) S = .ok (.tup x) S := rfl
@[simp] theorem var_lst {x : List D} : varD (some (.lst x)) S = .ok (.lst x) S := rfl
@[simp] theorem var_frn {x : List D} : varD (some (.frn x)) S = .ok (.frn x) S := rfl
@[simp] theorem var_ref {x : Nat} : varD (some (.ref x)) S = .ok (.ref x) S := rfl
@[simp] theorem var_adr {x : Addr} : varD (some (.adr x)) S = .ok (.adr x) S := rfl
@[simp] theorem var_dct {x : List Key} {y : List D} : varD (some (.dct x y)) S = .ok (.dct x y) S := rfl
@[simp] theorem eC_ap {d : D} : eC d δ = M.pure d := rfl
@[simp] theorem aNil_ap : aNil δ = M.pure [] := rfl
@[simp] theorem aCons_ap : aCons f fs δ S = ((f δ).bind fun x => (fs δ).bind fun xs => M.pure (x :: xs)) S := rfl
@[simp] theorem eCall_ap {G : List D → M D} : eCall G fs δ S = ((fs δ).bind G) S := rfl
@[simp] theorem cM_ap : cM n F ds S = if ds.length = n then F ds S else .bad := rfl
@[simp] theorem e1_ap {G : D → M D} : e1 G f δ S = ((f δ).bind G) S := rfl
@[simp] theorem e2_ap {G : D → D → M D} : e2 G f g δ S = ((f δ).bind fun x => (g δ).bind fun y => G x y) S := rfl
@[simp] theorem e3_ap {G1 G2 : D → D → M D} : e3 G1 G2 f g k δ S = ((f δ).bind fun x => (g δ).bind fun y => (G1 x y).bind fun z => (isBl z).bind fun b => if b = true then (k δ).bind fun w => G2 y w else M.pure (.bl false)) S := rfl
@[simp] theorem eTup_ap : eTup fs δ S = ((fs δ).bind fun xs => M.ask (xs.length ≤ sizeLine) (M.pure (.tup xs))) S := rfl
@[simp] theorem eLst_ap : eLst fs δ S = ((fs δ).bind fun xs => M.ask (xs.length ≤ sizeLine) (M.pure (.lst xs))) S := rfl
@[simp] theorem eLstM_ap : eLstM fs δ S = ((fs δ).bind fun xs => M.ask (xs.length ≤ sizeLine) fun S => .ok (.ref S.length) (S ++ [.lst xs])) S := rfl
@[simp] theorem eIf_ap : eIf t f g δ S = ((t δ).bind fun b => if b = true then f δ else g δ) S := rfl
@[simp] theorem eAnd_ap : eAnd f g δ S = ((f δ).bind fun x => (isBl x).bind fun b => if b = true then g δ else M.pure (.bl false)) S := rfl
@[simp] theorem eOr_ap : eOr f g δ S = ((f δ).bind fun x => (isBl x).bind fun b => if b = true then M.pure (.bl true) else g δ) S := rfl
@[simp] theorem eNot_ap : eNot f δ S = ((f δ).bind fun x => (isBl x).bind fun b => M.pure (.bl (!b))) S := rfl
@[simp] theorem isBl_ap {b : Bool} : isBl (.bl b) = M.pure b := rfl
@[simp] theorem bTest_ap : bTest f δ S = ((f δ).bind isBl) S := rfl
@[simp] theorem bTru_ap : bTru f δ S = ((f δ).bind truD) S := rfl
@[simp] theorem tru_bl {b : Bool} : truD (.bl b) S = .ok b S := rfl
@[simp] theorem bAnd_ap : bAnd t u δ S = ((t δ).bind fun b => if b = true then u δ else M.pure false) S := rfl
@[simp] theorem bOr_ap : bOr t u δ S = ((t δ).bind fun b => if b = true then M.pure true else u δ) S := rfl
@[simp] theorem bNot_ap : bNot t δ S = ((t δ).bind fun b => M.pure (!b)) S := rfl
@[simp] theorem bYes_ap : bYes δ = M.pure true := rfl
@[simp] theorem gN_ap {d : D} : gN i d δ = some (δ.set i (some d)) := rfl
@[simp] theorem gT_ap {ut : List D → Env' → Option Env'} : gT n ut (.tup ds) δ = if ds.length = n then ut ds δ else none := rfl
@[simp] theorem gsN_ap : gsN [] δ = some δ := rfl
@[simp] theorem eM1_ap {G : D → List D → M D} : eM1 G f g δ S = ((f δ).bind fun x => (MM.isStr x).bind fun _ => (g δ).bind fun y => G x [y]) S := rfl
@[simp] theorem isStr_ap {x : Str} : MM.isStr (.str x) S = .ok () S := rfl
@[simp] theorem seq_tup : seqD S (.tup ds) = some ds := rfl
@[simp] theorem seq_lst : seqD S (.lst ds) = some ds := rfl
@[simp] theorem seq_frn : seqD S (.frn ds) = some ds := rfl
@[simp] theorem len_tup : lenD [.tup ds] S = .ok (.int ds.length) S := rfl
@[simp] theorem len_lst : lenD [.lst ds] S = .ok (.int ds.length) S := rfl
@[simp] theorem len_frn : lenD [.frn ds] S = .ok (.int ds.length) S := rfl
@[simp] theorem len_str {x : Str} : lenD [.str x] S = if x.length ≤ sizeLine then .ok (.int x.length) S else .bad := rfl
@[simp] theorem txts_nil : txts [] = some [] := rfl
@[simp] theorem txts_cons {w : Str} {r : List D} : txts (.str w :: r) = (txts r).map fun bs => w :: bs := rfl
@[simp] theorem txts_strs (ws : List Str) : txts (ws.map D.str) = some ws := by
  induction ws with
  | nil => rfl
  | cons w ws ih => simp [txts, ih]
@[simp] theorem isi_str_str {x : Str} : isiD [.str x, .ty "str"] S = .ok (.bl true) S := rfl
@[simp] theorem isi_tup_tup : isiD [.tup ds, .ty "tuple"] S = .ok (.bl true) S := rfl
@[simp] theorem isi_non_tup : isiD [.non, .ty "tuple"] S = .ok (.bl false) S := rfl
end
@[simp] theorem gsC_ap {δ : Env'} {u : TgF} {us : List D → Env' → Option Env'} {d : D} {ds : List D} : gsC u us (d :: ds) δ = (u d δ).bind (us ds) := rfl
section
variable {S : Store} {x y : Str} {a b : Int}
@[simp] theorem eq_str : eqD (.str x) (.str y) S = .ok (.bl (x == y)) S := by simp [pOp, pd, pd0, shal, PyData.depth, PyData.eqv]
@[simp] theorem ne_str : neD (.str x) (.str y) S = .ok (.bl (!(x == y))) S := by simp [pOp, pd, pd0, shal, PyData.depth, PyData.eqv]
@[simp] theorem eq_int : eqD (.int a) (.int b) S = .ok (.bl (a == b)) S := by simp [pOp, pd, pd0, shal, PyData.depth, PyData.eqv]
@[simp] theorem ne_int : neD (.int a) (.int b) S = .ok (.bl (!(a == b))) S := by simp [pOp, pd, pd0, shal, PyData.depth, PyData.eqv]
theorem dlt_int : PySem.W.dataLt (.int a) (.int b) = decide (a < b) := by
  simp [PySem.W.dataLt, PySem.W.keyToks, PyProof.Rows.lexLt, PyProof.Rows.itemLt]
@[simp] theorem gt_int : gtD (.int a) (.int b) S = .ok (.bl (decide (b < a))) S := by simp [pOp, pd, pd0, shal, PyData.depth, ordOk, PySem.W.alike, dlt_int]
@[simp] theorem lt_int : ltD (.int a) (.int b) S = .ok (.bl (decide (a < b))) S := by simp [pOp, pd, pd0, shal, PyData.depth, ordOk, PySem.W.alike, dlt_int]
@[simp] theorem le_int : leD (.int a) (.int b) S = .ok (.bl (!decide (b < a))) S := by simp [pOp, pd, pd0, shal, PyData.depth, ordOk, PySem.W.alike, dlt_int]
@[simp] theorem ge_int : geD (.int a) (.int b) S = .ok (.bl (!decide (a < b))) S := by simp [pOp, pd, pd0, shal, PyData.depth, ordOk, PySem.W.alike, dlt_int]
end

section
variable {S : Store} {δ δ0 : Env'} {xs ds es : List D} {t : TgF} {tt : Env' → M Bool} {te f : Env' → M D} {own : List Nat} {src : Env' → M (List D)}
@[simp] theorem eLc_ap : eLc src t tt te own δ S = ((src δ).bind fun xs => (lcM t tt te (wipeD δ own) xs []).bind fun ys => M.pure (.lst ys)) S := rfl
@[simp] theorem iSeq_ap : iSeq f δ S = ((f δ).bind itemsD) S := rfl
@[simp] theorem items_tup : itemsD (.tup xs) = M.pure xs := rfl
@[simp] theorem items_lst : itemsD (.lst xs) = M.pure xs := rfl
@[simp] theorem items_frn : itemsD (.frn xs) = M.pure xs := rfl
@[simp] theorem items_str {z : Str} : itemsD (.str z) = M.pure (signs z) := rfl
@[simp] theorem iCall_ap {G : List D → M (List D)} {fs : Env' → M (List D)} : iCall G fs δ S = ((fs δ).bind G) S := rfl
@[simp] theorem zip_tup : zipD [.tup xs, .tup ds] = M.pure (zipL xs ds) := rfl
@[simp] theorem zip_lst : zipD [.lst xs, .lst ds] = M.pure (zipL xs ds) := rfl
theorem lc_filter (p : D → Bool) (g : D → D) : ∀ (xs acc : List D), acc.length + xs.length ≤ sizeLine → (∀ x ∈ xs, ∃ δ1, t x δ0 = some δ1 ∧ tt δ1 S = .ok (p x) S ∧ (p x = true → te δ1 S = .ok (g x) S)) →
    lcM t tt te δ0 xs acc S = .ok (acc ++ (xs.filter p).map g) S
  | [], acc, _, _ => by simp [lcM]
  | x :: xs, acc, hl, h => by
    obtain ⟨δ1, h1, h2, h3⟩ := h x List.mem_cons_self
    unfold lcM
    rw [h1]
    dsimp only
    rw [h2]
    have hl' : acc.length + (xs.length + 1) ≤ sizeLine := hl
    cases q : p x with
    | true =>
      dsimp only
      rw [h3 q]
      dsimp only
      rw [if_pos (by omega), lc_filter p g xs _ (by simp; omega) fun y hy => h y (List.mem_cons_of_mem _ hy)]
      simp [List.filter_cons, q]
    | false =>
      dsimp only
      rw [lc_filter p g xs _ (by omega) fun y hy => h y (List.mem_cons_of_mem _ hy)]
      simp [List.filter_cons, q]
theorem lc_map (g : D → D) {xs acc : List D} (hl : acc.length + xs.length ≤ sizeLine) (h : ∀ x ∈ xs, ∃ δ1, t x δ0 = some δ1 ∧ tt δ1 S = .ok true S ∧ te δ1 S = .ok (g x) S) : lcM t tt te δ0 xs acc S = .ok (acc ++ xs.map g) S := by
  rw [lc_filter (fun _ => true) g xs acc hl fun x hx => let ⟨δ1, h1, h2, h3⟩ := h x hx; ⟨δ1, h1, h2, fun _ => h3⟩]
  rw [List.filter_eq_self.mpr fun _ _ => rfl]
/-- over a list of coded things -/
theorem lc_mapE {α : Type} (en : α → D) (g : α → D) {ys : List α} (hl : ys.length ≤ sizeLine) (h : ∀ y ∈ ys, ∃ δ1, t (en y) δ0 = some δ1 ∧ tt δ1 S = .ok true S ∧ te δ1 S = .ok (g y) S) : lcM t tt te δ0 (ys.map en) [] S = .ok (ys.map g) S := by
  have key : ∀ (ys : List α) (acc : List D), acc.length + ys.length ≤ sizeLine → (∀ y ∈ ys, ∃ δ1, t (en y) δ0 = some δ1 ∧ tt δ1 S = .ok true S ∧ te δ1 S = .ok (g y) S) → lcM t tt te δ0 (ys.map en) acc S = .ok (acc ++ ys.map g) S := by
    intro ys
    induction ys with
    | nil => intro acc _ _; simp [lcM]
    | cons y ys ih =>
      intro acc hl h
      obtain ⟨δ1, h1, h2, h3⟩ := h y List.mem_cons_self
      have hl' : acc.length + (ys.length + 1) ≤ sizeLine := hl
      rw [List.map_cons]
      unfold lcM
      rw [h1]
      dsimp only
      rw [h2]
      dsimp only
      rw [h3]
      dsimp only
      rw [if_pos (by omega), ih _ (by simp; omega) fun z hz => h z (List.mem_cons_of_mem _ hz)]
      simp
  simpa using key ys [] (by simpa using hl) h
theorem callA_ap {tab : Addr → Option (List D → M D)} {i n : Nat} {fs : Env' → M (List D)} {a : Addr} {F : List D → M D} (h1 : δ[i]? = some (some (.adr a))) (h2 : tab a = some F) : eCallA tab i n fs δ S = ((fs δ).bind (cM n F)) S := by
  unfold eCallA
  rw [h1]
  show ((some a).bind tab).elim M.bad (fun F => eCall (cM n F) fs δ) S = _
  rw [Option.bind_some, h2]
  rfl
theorem bls_map (bs : List Bool) : bls (bs.map D.bl) = some bs := by
  induction bs with
  | nil => rfl
  | cons b bs ih => simp [bls, ih]
theorem all_bls (bs : List Bool) : allD [.lst (bs.map D.bl)] S = .ok (.bl (bs.all id)) S := by
  have e : (lstD S (.lst (bs.map D.bl))).bind bls = some bs := bls_map bs
  unfold allD
  dsimp only
  rw [e]
@[simp] theorem all_map {α : Type} (xs : List α) (p : α → Bool) : allD [.lst (xs.map fun x => .bl (p x))] S = .ok (.bl (xs.all p)) S := by
  have := all_bls (S := S) (xs.map p)
  rw [List.map_map] at this
  rw [show (fun x => D.bl (p x)) = D.bl ∘ p from rfl, this, List.all_map]
  rfl
@[simp] theorem sz1 : 1 ≤ sizeLine := by decide
@[simp] theorem sz2 : 2 ≤ sizeLine := by decide
@[simp] theorem sz3 : 3 ≤ sizeLine := by decide
@[simp] theorem sz4 : 4 ≤ sizeLine := by decide
@[simp] theorem sz5 : 5 ≤ sizeLine := by decide
@[simp] theorem sz6 : 6 ≤ sizeLine := by decide
@[simp] theorem sz8 : 8 ≤ sizeLine := by decide
@[simp] theorem sz10 : 10 ≤ sizeLine := by decide
@[simp] theorem sz11 : 11 ≤ sizeLine := by decide
@[simp] theorem ite_ap {α : Type} {c : Prop} [Decidable c] {m n : M α} : (if c then m else n) S = if c then m S else n S := by split <;> rfl
end
end MM
end
section
set_option Elab.async false
set_option linter.all false
set_option maxRecDepth 100000
set_option maxHeartbeats 1048576
namespace K84
open PySem PySem.Spec PySem.W PyProof.Rows L2 LamX He MM
/-! ### the coded things -/
abbrev Hand := Str × List Str
abbrev Way := Str × Str
abbrev encR (rs : List Str) : D := .tup (rs.map D.str)
abbrev encP (p : Hand) : D := .tup [.str p.1, encR p.2]
abbrev encHs (hs : List Hand) : D := .tup (hs.map encP)
abbrev encB (b : Way) : D := .tup [.str b.1, .str b.2]
abbrev encBs (bs : List Way) : D := .tup (bs.map encB)
abbrev encH (hs : List Hand) (bs : List Way) : D := .tup [encHs hs, encBs bs]
abbrev small (n : Nat) : Prop := n ≤ 100000
theorem small_le {n : Nat} (h : small n) : n ≤ sizeLine := Nat.le_trans h (by decide)
section
variable {K : PySem.W.Frag} {S : Store}
/-- a letter of the module -/
def letB (c : Nat) : Bool := inP (.str ⟨#[c]⟩) (.str "abcdefghijklmnopqrstuvwxyz")
def wordB (x : Str) : Bool := (decide (1 ≤ x.length) && decide (x.length ≤ 8)) && x.cps.toList.all letB
@[simp] theorem in_let (c : Nat) : inD (.str ⟨#[c]⟩) kv_LETTERS S = .ok (.bl (letB c)) S := rfl
theorem is_word_ok {x : Str} (hx : small x.length) : F_is_word K [.str x] S = .ok (.bl (wordB x)) S := by
  have hx' := small_le hx
  have e : lcM (gN 1) bYes (e2 inD (eVar 1) (eC kv_LETTERS)) (wipeD [some (.str x), none] [1]) (MM.signs x) [] S = .ok (x.cps.toList.map fun c => .bl (letB c)) S := by
    unfold MM.signs
    rw [lc_mapE (fun c => D.str ⟨#[c]⟩) (fun c => D.bl (letB c)) (by simp; exact hx')]
    intro c _
    exact ⟨_, rfl, rfl, by simp [wipeD]⟩
  unfold F_is_word
  simp only [defM_ap, startE_ap, sSeq_ap, sIf_ap]
  by_cases c1 : 1 ≤ x.length
  · by_cases c2 : x.length ≤ 8
    · have h1 : ¬ (8 : Int) < x.length := by omega
      have h2 : ¬ (x.length : Int) < 1 := by omega
      simp [hx', h1, h2, e, wordB, c1, c2]
    · have h1 : (8 : Int) < x.length := by omega
      have h2 : ¬ (x.length : Int) < 1 := by omega
      simp [hx', h1, h2, e, wordB, c1, c2]
  · have h2 : (x.length : Int) < 1 := by omega
    simp [hx', h2, e, wordB, c1]
/-! ### rising -/
def ltS (a b : Str) : Bool := PySem.W.dataLt (.str a) (.str b)
def ltW (a b : Way) : Bool := PySem.W.dataLt (.tuple [.str a.1, .str a.2]) (.tuple [.str b.1, .str b.2])
def risB {α : Type} (lt : α → α → Bool) (xs : List α) : Bool := (xs.zip xs.tail).all fun p => lt p.1 p.2
@[simp] theorem lt_S {a b : Str} : ltD (.str a) (.str b) S = .ok (.bl (ltS a b)) S := by simp [pOp, pd, pd0, shal, PyData.depth, ordOk, PySem.W.alike, ltS]
@[simp] theorem lt_W {a b : Way} : ltD (encB a) (encB b) S = .ok (.bl (ltW a b)) S := by simp [pOp, pd, pd0, pds0, shal, PyData.depth, PyData.depthAll, ordOk, PySem.W.alike, PySem.W.alikeAll, ltW]
@[simp] theorem eSl_ap {δ : Env'} {f : Env' → M D} {lo hi : Env' → M (Option Int)} : eSl f lo hi δ S = ((f δ).bind fun d => (lo δ).bind fun l => (hi δ).bind fun h => slD d l h) S := rfl
@[simp] theorem oNone_ap {δ : Env'} : oNone δ S = .ok none S := rfl
@[simp] theorem oSome_int {δ : Env'} {i : Int} : oSome (eC (.int i)) δ S = .ok (some i) S := rfl
theorem cut1 {α : Type} (xs : List α) : cutL xs (some 1) none = xs.tail := by
  unfold cutL
  have e : HT.sIx xs.length 0 (some (1 : Int)) = min 1 xs.length := HT.sIx_nat _ _ 1
  rw [e]
  show ((xs.drop (min 1 xs.length)).take (xs.length - min 1 xs.length)) = xs.tail
  cases xs with
  | nil => rfl
  | cons x xs => simp
@[simp] theorem sl1_tup {xs : List D} : slD (.tup xs) (some 1) none S = .ok (.tup xs.tail) S := by unfold slD; dsimp only; rw [cut1]
@[simp] theorem sl1_lst {xs : List D} : slD (.lst xs) (some 1) none S = .ok (.lst xs.tail) S := by show (match seqD S (.lst xs) with | some xs => Res.ok (D.lst (cutL xs (some 1) none)) S | none => .bad) = _; rw [seq_lst]; dsimp only; rw [cut1]
theorem ris_lc {α : Type} {δ0 : Env'} (en : α → D) (lt : α → α → Bool) (h : ∀ a b, ltD (en a) (en b) S = .ok (.bl (lt a b)) S) (hv : ∀ a, varD (some (en a)) S = .ok (en a) S) (xs : List α) (hx : small xs.length) (d : D) :
    lcM (gT 2 (gsC (gN 1) (gsC (gN 2) gsN))) bYes (e2 ltD (eVar 1) (eVar 2)) (wipeD [some d, none, none] [1, 2]) (zipL (xs.map en) (xs.map en).tail) [] S = .ok ((xs.zip xs.tail).map fun p => .bl (lt p.1 p.2)) S := by
  have e : zipL (xs.map en) (xs.map en).tail = (xs.zip xs.tail).map fun p => .tup [en p.1, en p.2] := by
    unfold zipL
    rw [← List.map_tail, List.zip_map, List.map_map]
    rfl
  rw [e, lc_mapE (fun p : α × α => D.tup [en p.1, en p.2]) (fun p => D.bl (lt p.1 p.2)) (by simp; have := small_le hx; omega)]
  intro p _
  exact ⟨_, rfl, rfl, by simp [wipeD, hv, h]⟩
theorem ris_tup {α : Type} (en : α → D) (lt : α → α → Bool) (h : ∀ a b, ltD (en a) (en b) S = .ok (.bl (lt a b)) S) (hv : ∀ a, varD (some (en a)) S = .ok (en a) S) (xs : List α) (hx : small xs.length) : F_are_rising K [.tup (xs.map en)] S = .ok (.bl (risB lt xs)) S := by
  have e := ris_lc (δ0 := []) en lt h hv xs hx (.tup (xs.map en))
  unfold F_are_rising
  simp [e, risB]
theorem ris_lst {α : Type} (en : α → D) (lt : α → α → Bool) (h : ∀ a b, ltD (en a) (en b) S = .ok (.bl (lt a b)) S) (hv : ∀ a, varD (some (en a)) S = .ok (en a) S) (xs : List α) (hx : small xs.length) : F_are_rising K [.lst (xs.map en)] S = .ok (.bl (risB lt xs)) S := by
  have e := ris_lc (δ0 := []) en lt h hv xs hx (.lst (xs.map en))
  unfold F_are_rising
  simp [e, risB]
/-! ### rules, hands, bridges -/
def letW (x : Str) : Bool := inP (.str x) (.tuple (kl_LET_WORDS.map PyData.str))
@[simp] theorem in_letw (x : Str) : inD (.str x) kv_LET_WORDS S = .ok (.bl (letW x)) S := rfl
def rulesB (rs : List Str) : Bool := rs.all letW && risB ltS rs
theorem is_rules_ok {rs : List Str} (h : small rs.length) : F_is_rules K [encR rs] S = .ok (.bl (rulesB rs)) S := by
  have e : lcM (gN 1) bYes (eAnd (eCall isiD (aCons (eVar 1) (aCons (eC (.ty "str")) aNil))) (e2 inD (eVar 1) (eC kv_LET_WORDS))) (wipeD [some (encR rs), none] [1]) (rs.map D.str) [] S = .ok (rs.map fun x => .bl (letW x)) S := by
    rw [lc_mapE D.str (fun x => D.bl (letW x)) (small_le h)]
    intro x _
    exact ⟨_, rfl, rfl, by simp [wipeD]⟩
  have r := ris_tup (K := K) (S := S) D.str ltS (fun a b => lt_S) (fun a => rfl) rs h
  unfold F_is_rules
  cases q : rs.all letW with
  | true => simp [e, q, r, rulesB]
  | false => simp [e, q, rulesB]
end
end K84
end
section
set_option Elab.async false
set_option linter.all false
set_option maxRecDepth 100000
set_option maxHeartbeats 1048576
namespace K84
open PySem PySem.Spec PySem.W PyProof.Rows L2 LamX He MM
section
variable {K : PySem.W.Frag} {h : Heap} {cs : List (Addr × Addr)} {S : Store}
theorem ne_word (c : Sy K h cs) : ga K "is_rules" ≠ ga K "is_word" := fun e => by
  have q : (!decide (ga K "is_word" = ga K "is_rules")) = true := c.fact 90
  rw [e] at q
  simp at q
theorem tabP_word : tabP K (ga K "is_word") = some (F_is_word K) := by unfold tabP; rw [if_pos rfl]
theorem tabP_rules (c : Sy K h cs) : tabP K (ga K "is_rules") = some (F_is_rules K) := by unfold tabP; rw [if_neg (ne_word c), if_pos rfl]
@[simp] theorem ix0 {a : D} {r : List D} : ixD (.tup (a :: r)) (.int 0) S = .ok a S := by
  have e : atI (a :: r) 0 = some a := by simp [atI, ixN]
  unfold ixD; simp [e]
@[simp] theorem ix1 {a b : D} {r : List D} : ixD (.tup (a :: b :: r)) (.int 1) S = .ok b S := by
  have e : atI (a :: b :: r) 1 = some b := by
    have q : ixN (a :: b :: r).length 1 = some 1 := by unfold ixN; rw [if_pos (by omega), if_pos (by simp; omega)]; rfl
    unfold atI; rw [q]; rfl
  unfold ixD; simp [e]
def handB (p : Hand) : Bool := wordB p.1 && rulesB p.2
def wayB (b : Way) : Bool := wordB b.1 && wordB b.2
abbrev okP (p : Hand) : Prop := small p.1.length ∧ small p.2.length
abbrev okW (b : Way) : Prop := small b.1.length ∧ small b.2.length
theorem pair_hand (c : Sy K h cs) {p : Hand} (hp : okP p) : F_is_pair_of_two K (tabP K) [encP p, .adr (ga K "is_word"), .adr (ga K "is_rules")] S = .ok (.bl (handB p)) S := by
  unfold F_is_pair_of_two
  have e1 : ∀ {fs : Env' → M (List D)}, eCallA (tabP K) 1 1 fs [some (encP p), some (.adr (ga K "is_word")), some (.adr (ga K "is_rules"))] S = _ := fun {fs} => callA_ap (fs := fs) rfl tabP_word
  have e2 : ∀ {fs : Env' → M (List D)}, eCallA (tabP K) 2 1 fs [some (encP p), some (.adr (ga K "is_word")), some (.adr (ga K "is_rules"))] S = _ := fun {fs} => callA_ap (fs := fs) rfl (tabP_rules c)
  cases q : wordB p.1 with
  | true => simp [e1, e2, is_word_ok hp.1, is_rules_ok hp.2, q, handB]
  | false => simp [e1, e2, is_word_ok hp.1, is_rules_ok hp.2, q, handB]
theorem pair_way (c : Sy K h cs) {p : Way} (hp : okW p) : F_is_pair_of_two K (tabP K) [encB p, .adr (ga K "is_word"), .adr (ga K "is_word")] S = .ok (.bl (wayB p)) S := by
  unfold F_is_pair_of_two
  have e1 : ∀ {fs : Env' → M (List D)}, eCallA (tabP K) 1 1 fs [some (encB p), some (.adr (ga K "is_word")), some (.adr (ga K "is_word"))] S = _ := fun {fs} => callA_ap (fs := fs) rfl tabP_word
  have e2 : ∀ {fs : Env' → M (List D)}, eCallA (tabP K) 2 1 fs [some (encB p), some (.adr (ga K "is_word")), some (.adr (ga K "is_word"))] S = _ := fun {fs} => callA_ap (fs := fs) rfl tabP_word
  cases q : wordB p.1 with
  | true => simp [e1, e2, is_word_ok hp.1, is_word_ok hp.2, q, wayB]
  | false => simp [e1, e2, is_word_ok hp.1, is_word_ok hp.2, q, wayB]
theorem pds_hands (hs : List Hand) : ∃ ps, pds0 (hs.map encP) = some ps ∧ ps.isEmpty = hs.isEmpty := by
  induction hs with
  | nil => exact ⟨[], rfl, rfl⟩
  | cons p hs ih =>
    obtain ⟨ps, e, _⟩ := ih
    have er : pds0 (p.2.map D.str) = some (p.2.map PyData.str) := by
      induction p.2 with
      | nil => rfl
      | cons x xs ih => simp [pds0, pd0, ih]
    exact ⟨.tuple [.str p.1, .tuple (p.2.map PyData.str)] :: ps, by simp [pds0, pd0, e, er], rfl⟩
theorem eq_unit (hs : List Hand) : eqD (encHs hs) (.tup []) S = .ok (.bl hs.isEmpty) S := by
  obtain ⟨ps, e, e2⟩ := pds_hands hs
  simp [pOp, pd, pd0, e, pds0, shal, PyData.depth, PyData.depthAll, PyData.eqv]
  cases ps with
  | nil => rw [← e2]; simp [PyData.eqvAll]
  | cons p ps => rw [← e2]; simp [PyData.eqvAll]
def handsB (hs : List Hand) : Bool := !hs.isEmpty && (hs.all handB && risB ltS (hs.map (·.1)))
theorem are_hands_ok (c : Sy K h cs) {hs : List Hand} (hl : small hs.length) (hp : ∀ p ∈ hs, okP p) : F_are_hands K [encHs hs] S = .ok (.bl (handsB hs)) S := by
  have e : lcM (gN 1) bYes (eCall (cM 3 (F_is_pair_of_two K (tabP K))) (aCons (eVar 1) (aCons (eC (.adr (ga K "is_word"))) (aCons (eC (.adr (ga K "is_rules"))) aNil)))) (wipeD [some (encHs hs), none] [1]) (hs.map encP) [] S = .ok (hs.map fun p => .bl (handB p)) S := by
    rw [lc_mapE encP (fun p => D.bl (handB p)) (small_le hl)]
    intro p hm
    exact ⟨_, rfl, rfl, by simp [wipeD, pair_hand c (hp p hm)]⟩
  have e2 : lcM (gN 1) bYes (MM.e2 ixD (eVar 1) (eC (.int 0))) (wipeD [some (encHs hs), none] [1]) (hs.map encP) [] S = .ok ((hs.map (·.1)).map D.str) S := by
    rw [lc_mapE encP (fun p => D.str p.1) (small_le hl)]
    · simp
    · intro p hm
      exact ⟨_, rfl, rfl, by simp [wipeD]⟩
  have r := ris_lst (K := K) (S := S) D.str ltS (fun a b => lt_S) (fun a => rfl) (hs.map (·.1)) (by simpa using hl)
  unfold F_are_hands
  cases q0 : hs.isEmpty with
  | true => simp [eq_unit, q0, handsB]
  | false =>
    cases q : hs.all handB with
    | true => simp [-List.map_map, eq_unit, e, e2, r, q0, q, handsB]
    | false => simp [eq_unit, e, e2, r, q0, q, handsB]
theorem are_hands_non : F_are_hands K [.non] S = .ok (.bl false) S := by unfold F_are_hands; simp
/-! ### drafts, houses -/
def encHo : Option (List Hand) → D
  | none => .non
  | some hs => encHs hs
def encBo : Option (List Way) → D
  | none => .non
  | some bs => encBs bs
def waysB (bs : List Way) : Bool := bs.all wayB && risB ltW bs
def draftB : Option (List Hand) → Option (List Way) → Bool
  | some hs, some bs => handsB hs && waysB bs
  | _, _ => false
def okHo (o : Option (List Hand)) : Prop := ∀ hs, o = some hs → small hs.length ∧ ∀ p ∈ hs, okP p
def okBo (o : Option (List Way)) : Prop := ∀ bs, o = some bs → small bs.length ∧ ∀ p ∈ bs, okW p
@[simp] theorem var_Ho {X : Option (List Hand)} : varD (some (encHo X)) S = .ok (encHo X) S := by cases X <;> rfl
@[simp] theorem var_Bo {X : Option (List Way)} : varD (some (encBo X)) S = .ok (encBo X) S := by cases X <;> rfl
theorem hands_o (c : Sy K h cs) {X : Option (List Hand)} (hX : okHo X) : F_are_hands K [encHo X] S = .ok (.bl (match X with | some hs => handsB hs | none => false)) S := by
  cases X with
  | none => exact are_hands_non
  | some hs => exact are_hands_ok c (hX hs rfl).1 (hX hs rfl).2
theorem ways_lc (c : Sy K h cs) {bs : List Way} {d : D} {δ : Env'} (hl : small bs.length) (hp : ∀ p ∈ bs, okW p) : lcM (gN 2) bYes (eCall (cM 3 (F_is_pair_of_two K (tabP K))) (aCons (eVar 2) (aCons (eC (.adr (ga K "is_word"))) (aCons (eC (.adr (ga K "is_word"))) aNil)))) (wipeD [some d, some (encBs bs), none] [2]) (bs.map encB) [] S = .ok (bs.map fun p => .bl (wayB p)) S := by
  rw [lc_mapE encB (fun p => D.bl (wayB p)) (small_le hl)]
  intro p hm
  exact ⟨_, rfl, rfl, by simp [wipeD, pair_way c (hp p hm)]⟩
theorem is_draft_ok (c : Sy K h cs) {X : Option (List Hand)} {Y : Option (List Way)} (hX : okHo X) (hY : okBo Y) : F_is_draft K [.tup [encHo X, encBo Y]] S = .ok (.bl (draftB X Y)) S := by
  have h1 := hands_o (S := S) c hX
  unfold F_is_draft
  cases X with
  | none => simp [h1, draftB]
  | some hs =>
    cases q : handsB hs with
    | false => cases Y <;> simp [h1, q, draftB]
    | true =>
      cases Y with
      | none => simp [h1, q, draftB, encBo]
      | some bs =>
        have e := ways_lc (S := S) (d := .tup [encHo (some hs), encBs bs]) (δ := []) c (hY bs rfl).1 (hY bs rfl).2
        have r := ris_tup (K := K) (S := S) encB ltW (fun a b => lt_W) (fun a => rfl) bs (hY bs rfl).1
        cases q2 : bs.all wayB with
        | true => simp [h1, q, draftB, encBo, e, r, q2, waysB]
        | false => simp [h1, q, draftB, encBo, e, r, q2, waysB]
/-! ### the bar, the house -/
def inR (x : Str) (rs : List Str) : Bool := inP (.str x) (.tuple (rs.map PyData.str))
def inN (x : Str) (ns : List Str) : Bool := inP (.str x) (.list (ns.map PyData.str))
theorem pds_strs (rs : List Str) : pds0 (rs.map D.str) = some (rs.map PyData.str) := by
  induction rs with
  | nil => rfl
  | cons x xs ih => simp [pds0, pd0, ih]
theorem depth_strs (rs : List Str) : PyData.depthAll (rs.map PyData.str) ≤ 1 := by
  induction rs with
  | nil => simp [PyData.depthAll]
  | cons x xs ih => simp [PyData.depthAll, PyData.depth]; omega
theorem in_R {x : Str} {rs : List Str} : inD (.str x) (encR rs) S = .ok (.bl (inR x rs)) S := by
  have := depth_strs rs
  simp [pOp, pd, pd0, pds_strs, inOk, PyData.depth, inR]
theorem nin_R {x : Str} {rs : List Str} : ninD (.str x) (encR rs) S = .ok (.bl (!inR x rs)) S := by
  simp [pOp, pd, pd0, pds_strs, inOk, PyData.depth, inR]
theorem in_N {x : Str} {ns : List Str} : inD (.str x) (.lst (ns.map D.str)) S = .ok (.bl (inN x ns)) S := by
  simp [pOp, pd, pd0, pds_strs, inOk, PyData.depth, inN]
def neR (rs : List Str) : Bool := !PyData.eqv (.tuple (rs.map PyData.str)) (.tuple [.str "ends", .str "on"])
theorem ne_R {rs : List Str} : neD (encR rs) (.tup [.str "ends", .str "on"]) S = .ok (.bl (neR rs)) S := by
  have := depth_strs rs
  simp [pOp, pd, pd0, pds0, pds_strs, shal, PyData.depth, PyData.depthAll, neR]
def barD (rs : List Str) : Option Str := if (inR "round" rs && !inR "on" rs) = true then some "round" else if (inR "ends" rs && neR rs) = true then some "ends" else none
def encO : Option Str → D
  | none => .non
  | some x => .str x
theorem bar_ok {rs : List Str} : F_rules_bar K [encR rs] S = .ok (encO (barD rs)) S := by
  unfold F_rules_bar barD
  cases q1 : inR "round" rs <;> cases q2 : inR "on" rs <;> cases q3 : inR "ends" rs <;> cases q4 : neR rs <;> simp [in_R, nin_R, ne_R, q1, q2, q3, q4, encO]
def wayIn (ns : List Str) (b : Way) : Bool := !(b.1 == b.2) && (inN b.1 ns && inN b.2 ns)
def houseB (hs : List Hand) (bs : List Way) : Bool := (handsB hs && waysB bs) && (hs.all (fun p => (barD p.2).isNone) && bs.all (wayIn (hs.map (·.1))))
def houseO : Option (List Hand) → Option (List Way) → Bool
  | some hs, some bs => houseB hs bs
  | _, _ => false
@[simp] theorem isn_o {o : Option Str} : isNoneD (encO o) .non S = .ok (.bl o.isNone) S := by cases o <;> rfl
theorem house_ok (c : Sy K h cs) {X : Option (List Hand)} {Y : Option (List Way)} (hX : okHo X) (hY : okBo Y) : F_is_house K [.tup [encHo X, encBo Y]] S = .ok (.bl (houseO X Y)) S := by
  have h1 := is_draft_ok (S := S) c hX hY
  unfold F_is_house
  cases q : draftB X Y with
  | false =>
    have : houseO X Y = false := by
      cases X <;> cases Y <;> simp_all [draftB, houseO, houseB]
    simp [h1, q, this]
  | true =>
    cases X with
    | none => simp [draftB] at q
    | some hs =>
      cases Y with
      | none => simp [draftB] at q
      | some bs =>
        have q' : (handsB hs && waysB bs) = true := q
        have hl := small_le (hX hs rfl).1
        have hb := small_le (hY bs rfl).1
        have e1 : lcM (gT 2 (gsC (gN 4) (gsC (gN 5) gsN))) bYes (eVar 4) (wipeD [some (.tup [encHs hs, encBs bs]), some (encHs hs), some (encBs bs), none, none, none, none, none] [4, 5]) (hs.map encP) [] S = .ok ((hs.map (·.1)).map D.str) S := by
          rw [lc_mapE encP (fun p => D.str p.1) hl]
          · simp
          · intro p _
            exact ⟨_, rfl, rfl, by simp [wipeD]⟩
        have e2 : lcM (gT 2 (gsC (gN 4) (gsC (gN 5) gsN))) bYes (e2 isNoneD (eCall (cM 1 (F_rules_bar K)) (aCons (eVar 5) aNil)) (eC .non)) (wipeD [some (.tup [encHs hs, encBs bs]), some (encHs hs), some (encBs bs), some (.lst ((hs.map (·.1)).map D.str)), none, none, none, none] [4, 5]) (hs.map encP) [] S = .ok (hs.map fun p => .bl (barD p.2).isNone) S := by
          rw [lc_mapE encP (fun p => D.bl (barD p.2).isNone) hl]
          intro p _
          exact ⟨_, rfl, rfl, by simp [wipeD, bar_ok]⟩
        have e3 : lcM (gT 2 (gsC (gN 6) (gsC (gN 7) gsN))) bYes (eAnd (MM.e2 neD (eVar 6) (eVar 7)) (eAnd (MM.e2 inD (eVar 6) (eVar 3)) (MM.e2 inD (eVar 7) (eVar 3)))) (wipeD [some (.tup [encHs hs, encBs bs]), some (encHs hs), some (encBs bs), some (.lst ((hs.map (·.1)).map D.str)), none, none, none, none] [6, 7]) (bs.map encB) [] S = .ok (bs.map fun b => .bl (wayIn (hs.map (·.1)) b)) S := by
          rw [lc_mapE encB (fun b => D.bl (wayIn (hs.map (·.1)) b)) hb]
          intro p _
          refine ⟨_, rfl, rfl, ?_⟩
          unfold wayIn
          cases q1 : p.1 == p.2 <;> cases q2 : inN p.1 (hs.map (·.1)) <;> simp [-List.map_map, wipeD, in_N, q1, q2]
        have h1' : F_is_draft K [.tup [encHs hs, encBs bs]] S = .ok (.bl true) S := by rw [← q]; exact h1
        clear h1
        have q'' := q'
        simp only [Bool.and_eq_true] at q''
        show defM 8 _ [.tup [encHs hs, encBs bs]] S = _
        cases q2 : hs.all (fun p => (barD p.2).isNone) with
        | true => simp [-List.map_map, h1', e1, e2, e3, q2, houseO, houseB, q''.1, q''.2]
        | false => simp [-List.map_map, h1', e1, e2, e3, q2, houseO, houseB]
end
end K84
end
section
set_option Elab.async false
set_option linter.all false
set_option maxRecDepth 100000
set_option maxHeartbeats 1048576
namespace K84
open PySem PySem.Spec PySem.W PyProof.Rows L2 LamX He MM
/-! ### texts cut at one sign -/
abbrev one (c : Nat) : Str := ⟨#[c]⟩
theorem cut_free {x : Str} {c : Nat} {p : Str} (h : p ∈ Txt.split x (one c)) : c ∉ p.cps.toList := StrLaws.split_free x c p h
theorem cut_join (x : Str) (c : Nat) : Str.join (one c) (Txt.split x (one c)) = x := StrLaws.join_split x (one c)
theorem part_two {x : Str} {c : Nat} {p q : Str} {r : List Str} (h : Txt.split x (one c) = p :: q :: r) : Txt.partition x (one c) = (p, one c, Str.join (one c) (q :: r)) := by
  have e := cut_join x c
  rw [h] at e
  have f : c ∉ TL.tl p := cut_free (x := x) (by rw [h]; exact List.mem_cons_self)
  have e2 : p ++ one c ++ Str.join (one c) (q :: r) = x := e
  rw [← e2]
  exact TL.partition_app (y := one c) (s := c) (S := []) rfl f
theorem part_one {x : Str} {c : Nat} {p : Str} (h : Txt.split x (one c) = [p]) : Txt.partition x (one c) = (x, Str.empty, Str.empty) := by
  have e := cut_join x c
  rw [h] at e
  have e2 : p = x := e
  have f : c ∉ TL.tl p := cut_free (x := x) (by rw [h]; exact List.mem_cons_self)
  rw [e2] at f
  exact TL.partition_none (y := one c) (s := c) (S := []) rfl f
theorem cut_ne (x : Str) (c : Nat) : Txt.split x (one c) ≠ [] := fun e => by
  have h := PyProof.Rows.split_len x c
  have j := cut_join x c
  rw [e] at h j
  have e2 : x = Str.empty := j.symm
  rw [e2] at h
  have h2 : ((0 : Nat) : Int) = 1 + PyProof.Rows.cnt c [] := h
  rw [PyProof.Rows.cnt_nil] at h2
  omega
theorem cut_len (x : Str) (c : Nat) : (Txt.split x (one c)).length ≤ x.length + 2 := PyProof.Rows.split_le x (one c)
theorem join_len (c : Nat) : ∀ {ps : List Str} {p : Str}, p ∈ ps → p.length ≤ (Str.join (one c) ps).length
  | [q], p, h => by rw [List.mem_singleton.mp h]; exact Nat.le_refl _
  | q :: z :: r, p, h => by
    have e : (Str.join (one c) (q :: z :: r)).length = q.length + 1 + (Str.join (one c) (z :: r)).length := by
      show (q ++ one c ++ Str.join (one c) (z :: r)).length = _
      rw [TL.len_tl, TL.len_tl q, TL.len_tl (Str.join (one c) (z :: r)), TL.tl_append, TL.tl_append]
      simp only [List.length_append]
      rfl
    rcases List.mem_cons.mp h with h | h
    · rw [h, e]; omega
    · have := join_len c (ps := z :: r) h
      omega
theorem part_len {x : Str} {c : Nat} {p : Str} (h : p ∈ Txt.split x (one c)) : p.length ≤ x.length := by
  have := join_len c h
  rwa [cut_join] at this
section
variable {K : PySem.W.Frag} {h : Heap} {cs : List (Addr × Addr)} {S : Store}
/-! ### readers of parts -/
def encOp {α : Type} (en : α → D) : Option α → D
  | some a => en a
  | none => .non
def mapO {α : Type} (rd : Str → Option α) : List Str → Option (List α)
  | [] => some []
  | p :: ps => match rd p, mapO rd ps with
    | some a, some r => some (a :: r)
    | _, _ => none
def partsO {α : Type} (rd : Str → Option α) (w sg : Str) : Option (List α) := if w = "-" then some [] else mapO rd (Txt.split w sg)
def encL {α : Type} (en : α → D) : Option (List α) → D
  | some xs => .tup (xs.map en)
  | none => .non
/-- a coded thing is plain, and not None -/
def Plain1 (d : D) : Prop := ∃ p, pd0 d = some p ∧ PyData.eqv p .none = false
theorem nin_parts {α : Type} {en : α → D} (hp : ∀ a, Plain1 (en a)) : ∀ (xs : List (Option α)), ∃ ps, pds0 (xs.map (encOp en)) = some ps ∧ (ps.any fun z => PyData.eqv z .none) = xs.any (·.isNone)
  | [] => ⟨[], rfl, rfl⟩
  | x :: xs => by
    obtain ⟨ps, e, e2⟩ := nin_parts hp xs
    cases x with
    | none => exact ⟨.none :: ps, by simp [pds0, e, encOp, pd0], by simp [e2, PyData.eqv]⟩
    | some a =>
      obtain ⟨q, q1, q2⟩ := hp a
      exact ⟨q :: ps, by simp [pds0, e, encOp, q1], by simp [e2, q2]⟩
theorem mapO_some {α : Type} (rd : Str → Option α) : ∀ (ps : List Str), (match mapO rd ps with
    | some xs => ps.map rd = xs.map some
    | none => (ps.map rd).any (·.isNone) = true)
  | [] => rfl
  | p :: ps => by
    have ih := mapO_some rd ps
    unfold mapO
    cases q : rd p with
    | none => simp [q]
    | some a =>
      cases q2 : mapO rd ps with
      | none => rw [q2] at ih; simp [q]; simpa using ih
      | some r => rw [q2] at ih; simp [q, ih]
theorem split_ap {x : Str} {c : Nat} (hx : x.length + 2 ≤ sizeLine) : splitD (.str x) [.str (one c)] S = .ok (.lst ((Txt.split x (one c)).map .str)) S := by
  unfold splitD
  dsimp only
  rw [if_pos ⟨rfl, hx⟩]
@[simp] theorem tup_lst {xs : List D} : tupD [.lst xs] S = .ok (.tup xs) S := rfl
@[simp] theorem tup_tup {xs : List D} : tupD [.tup xs] S = .ok (.tup xs) S := rfl
/-- parts_by, by a reader -/
theorem parts_ok {α : Type} {tab : Addr → Option (List D → M D)} {a : Addr} {F : List D → M D} {en : α → D} {rd : Str → Option α} (hp : ∀ x, Plain1 (en x)) {w : Str} {c : Nat} (hw : small w.length) (ht : tab a = some F)
    (hF : ∀ p, p.length ≤ w.length → F [.str p] S = .ok (encOp en (rd p)) S) : F_parts_by K tab [.str w, .str (one c), .adr a] S = .ok (encL en (partsO rd w (one c))) S := by
  have hlen : (Txt.split w (one c)).length ≤ sizeLine := by have := cut_len w c; have : w.length ≤ 100000 := hw; rw [sizeLine_eq]; omega
  have hw2 : w.length + 2 ≤ sizeLine := by have : w.length ≤ 100000 := hw; rw [sizeLine_eq]; omega
  unfold F_parts_by
  by_cases q : w = "-"
  · have : partsO rd w (one c) = some [] := by unfold partsO; rw [if_pos q]
    rw [this]
    subst q
    simp [encL]
  · have e : partsO rd w (one c) = mapO rd (Txt.split w (one c)) := by unfold partsO; rw [if_neg q]
    rw [e]
    have el : lcM (gN 4) bYes (eCallA tab 2 1 (aCons (eVar 4) aNil)) (wipeD [some (.str w), some (.str (one c)), some (.adr a), none, none] [4]) ((Txt.split w (one c)).map D.str) [] S = .ok ((Txt.split w (one c)).map fun p => encOp en (rd p)) S := by
      rw [lc_mapE D.str (fun p => encOp en (rd p)) hlen]
      intro p hm
      refine ⟨_, rfl, rfl, ?_⟩
      rw [callA_ap (F := F) rfl ht]
      simp [wipeD, hF p (part_len hm)]
    obtain ⟨ps, e1, e2⟩ := nin_parts hp ((Txt.split w (one c)).map rd)
    have ms := mapO_some rd (Txt.split w (one c))
    have en1 : ((Txt.split w (one c)).map rd).map (encOp en) = (Txt.split w (one c)).map fun p => encOp en (rd p) := by simp
    have ni : ninD .non (.tup ((Txt.split w (one c)).map fun p => encOp en (rd p))) S = .ok (.bl (!((Txt.split w (one c)).map rd).any (·.isNone))) S := by
      rw [← en1, ← e2]
      simp only [pOp, pd, pd0, e1, Option.map_some]
      simp [inOk, PyData.depth, inP]
    have qb : (w == ("-" : Str)) = false := by simpa using q
    cases q2 : mapO rd (Txt.split w (one c)) with
    | none =>
      rw [q2] at ms
      have n1 : ((Txt.split w (one c)).map rd).any (·.isNone) = true := ms
      rw [n1] at ni
      simp [qb, split_ap hw2, el, ni, encL]
    | some xs =>
      rw [q2] at ms
      have n1 : (Txt.split w (one c)).map rd = xs.map some := ms
      have n2 : ((Txt.split w (one c)).map fun p => encOp en (rd p)) = xs.map en := by rw [← en1, n1]; simp [encOp]
      have n3 : ((Txt.split w (one c)).map rd).any (·.isNone) = false := by rw [n1]; simp
      rw [n3, n2] at ni
      rw [n2] at el
      simp [qb, split_ap hw2, el, ni, encL]
end
end K84
end
section
set_option Elab.async false
set_option linter.all false
set_option maxRecDepth 100000
set_option maxHeartbeats 1048576
namespace K84
open PySem PySem.Spec PySem.W PyProof.Rows L2 LamX He MM
section
variable {K : PySem.W.Frag} {h : Heap} {cs : List (Addr × Addr)} {S : Store}
theorem rest_len {x : Str} {c : Nat} {p q : Str} {r : List Str} (h : Txt.split x (one c) = p :: q :: r) : (Str.join (one c) (q :: r)).length ≤ x.length := by
  have e := cut_join x c
  rw [h] at e
  have e2 : p ++ one c ++ Str.join (one c) (q :: r) = x := e
  rw [← e2, TL.len_tl, TL.len_tl (p ++ one c ++ Str.join (one c) (q :: r)), TL.tl_append, TL.tl_append]
  simp only [List.length_append]
  omega
theorem cut_cases (x : Str) (c : Nat) : (∃ p, Txt.split x (one c) = [p]) ∨ ∃ p q r, Txt.split x (one c) = p :: q :: r := by
  cases e : Txt.split x (one c) with
  | nil => exact absurd e (cut_ne x c)
  | cons p r =>
    cases r with
    | nil => exact .inl ⟨p, rfl⟩
    | cons q r => exact .inr ⟨p, q, r, rfl⟩
theorem part_ap {x : Str} {c : Nat} (hx : x.length ≤ sizeLine) : partD (.str x) [.str (one c)] S = .ok (.tup [.str (Txt.partition x (one c)).1, .str (Txt.partition x (one c)).2.1, .str (Txt.partition x (one c)).2.2]) S := by
  unfold partD
  dsimp only
  rw [if_pos ⟨rfl, hx⟩]
theorem pl_str (x : Str) : Plain1 (.str x) := ⟨.str x, rfl, rfl⟩
theorem pl_P (p : Hand) : Plain1 (encP p) := ⟨.tuple [.str p.1, .tuple (p.2.map PyData.str)], by simp [pd0, pds0, pds_strs], rfl⟩
theorem pl_B (p : Way) : Plain1 (encB p) := ⟨.tuple [.str p.1, .str p.2], by simp [pd0, pds0], rfl⟩
@[simp] theorem isn_op {α : Type} {en : α → D} {o : Option α} (h : ∀ a, isNoneD (en a) .non S = .ok (.bl false) S) : isNoneD (encOp en o) .non S = .ok (.bl o.isNone) S := by
  cases o with
  | none => rfl
  | some a => exact h a
/-! ### the readers of the text -/
def rdW (x : Str) : Option Str := if letW x = true then some x else none
def rdR (w : Str) : Option (List Str) := partsO rdW w (one 44)
def rdP (w : Str) : Option Hand := match Txt.split w (one 58) with
  | p :: q :: r => (rdR (Str.join (one 58) (q :: r))).map fun rs => (p, rs)
  | _ => none
def rdB (w : Str) : Option Way := match Txt.split w (one 62) with
  | p :: q :: r => some (p, Str.join (one 62) (q :: r))
  | _ => none
def rdHs (w : Str) : Option (List Hand) := partsO rdP w (one 59)
def rdBs (w : Str) : Option (List Way) := partsO rdB w (one 59)
def rdH (w : Str) : Option (List Hand × List Way) := match Txt.split w (one 47) with
  | p :: q :: r => match rdHs p, rdBs (Str.join (one 47) (q :: r)) with
    | some hs, some bs => if houseB hs bs = true then some (hs, bs) else none
    | _, _ => none
  | _ => none
theorem rule_in_ok {x : Str} : F_rule_in K [.str x] S = .ok (encOp D.str (rdW x)) S := by
  unfold F_rule_in rdW
  cases q : letW x <;> simp [q, encOp]
theorem tab1_at : tab1 K (ga K "rule_in") = some (F_rule_in K) := by unfold tab1; rw [if_pos rfl]
theorem s_comma : ((",") : Str) = one 44 := by decide
theorem s_semi : ((";") : Str) = one 59 := by decide
theorem s_colon : ((":") : Str) = one 58 := by decide
theorem s_gt : ((">") : Str) = one 62 := by decide
theorem s_slash : (("/") : Str) = one 47 := by decide
@[simp] theorem notn_L {α : Type} {en : α → D} {o : Option (List α)} : notNoneD (encL en o) .non S = .ok (.bl o.isSome) S := by cases o <;> rfl
@[simp] theorem var_L {α : Type} {en : α → D} {o : Option (List α)} : varD (some (encL en o)) S = .ok (encL en o) S := by cases o <;> rfl
@[simp] theorem str_nil : (Str.empty == ("" : Str)) = true := by decide
@[simp] theorem str_nil2 : (Str.empty = ("" : Str)) = True := by decide
@[simp] theorem one_nil {c : Nat} : (one c == ("" : Str)) = false := rfl
theorem parts_R {w : Str} (hw : small w.length) : F_parts_by K (tab1 K) [.str w, .str (one 44), .adr (ga K "rule_in")] S = .ok (encL D.str (rdR w)) S :=
  parts_ok (K := K) (S := S) (c := 44) pl_str hw tab1_at fun p _ => rule_in_ok
theorem rules_in_ok {w : Str} (hw : small w.length) : F_rules_in K [.str w] S = .ok (encOp encP (rdP w)) S := by
  have hs := small_le hw
  have e0 : partD (.str w) [.str (one 58)] S = _ := part_ap (S := S) (c := 58) hs
  unfold F_rules_in rdP
  rw [s_colon, s_comma]
  rcases cut_cases w 58 with ⟨p, e⟩ | ⟨p, q, r, e⟩
  · rw [part_one e] at e0
    have r1 := parts_R (K := K) (S := S) (w := Str.empty) (by decide)
    rw [e]
    simp [e0, r1, encOp]
  · rw [part_two e] at e0
    have r1 := parts_R (K := K) (S := S) (w := Str.join (one 58) (q :: r)) (Nat.le_trans (rest_len e) hw)
    rw [e]
    cases q1 : rdR (Str.join (one 58) (q :: r)) with
    | none => rw [q1] at r1; simp [e0, r1, encOp, q1]
    | some xs => rw [q1] at r1; simp [e0, r1, encOp, q1]; rfl
theorem bridge_in_ok {w : Str} (hw : small w.length) : F_bridge_in K [.str w] S = .ok (encOp encB (rdB w)) S := by
  have hs := small_le hw
  have e0 : partD (.str w) [.str (one 62)] S = _ := part_ap (S := S) (c := 62) hs
  unfold F_bridge_in rdB
  rw [s_gt]
  rcases cut_cases w 62 with ⟨p, e⟩ | ⟨p, q, r, e⟩
  · rw [part_one e] at e0
    rw [e]
    simp [e0, encOp]
  · rw [part_two e] at e0
    rw [e]
    simp [e0, encOp]
/-! ### sizes -/
theorem mapO_len {α : Type} {rd : Str → Option α} : ∀ {ps : List Str} {xs : List α}, mapO rd ps = some xs → xs.length = ps.length
  | [], xs, h => by cases h; rfl
  | p :: ps, xs, h => by
    unfold mapO at h
    split at h
    · rename_i a r h1 h2
      cases h
      simp [mapO_len h2]
    · cases h
theorem mapO_mem {α : Type} {rd : Str → Option α} : ∀ {ps : List Str} {xs : List α} {x : α}, mapO rd ps = some xs → x ∈ xs → ∃ p ∈ ps, rd p = some x
  | [], xs, x, h, hx => by cases h; cases hx
  | p :: ps, xs, x, h, hx => by
    unfold mapO at h
    split at h
    · rename_i a r h1 h2
      cases h
      rcases List.mem_cons.mp hx with q | q
      · subst q; exact ⟨p, List.mem_cons_self, h1⟩
      · obtain ⟨p', a1, a2⟩ := mapO_mem h2 q
        exact ⟨p', List.mem_cons_of_mem _ a1, a2⟩
    · cases h
abbrev tiny (w : Str) : Prop := w.length ≤ 50000
theorem parts_size {α : Type} {rd : Str → Option α} {w : Str} {c : Nat} {xs : List α} (h : partsO rd w (one c) = some xs) : xs.length ≤ w.length + 2 ∧ ∀ x ∈ xs, ∃ p, p.length ≤ w.length ∧ rd p = some x := by
  unfold partsO at h
  split at h
  · cases h; exact ⟨Nat.zero_le _, fun x hx => by cases hx⟩
  · refine ⟨by rw [mapO_len h]; exact cut_len w c, fun x hx => ?_⟩
    obtain ⟨p, a, b⟩ := mapO_mem h hx
    exact ⟨p, part_len a, b⟩
theorem rdP_size {w : Str} {p : Hand} (h : rdP w = some p) : p.1.length ≤ w.length ∧ p.2.length ≤ w.length + 2 := by
  unfold rdP at h
  split at h
  · rename_i a b r e
    simp only [Option.map_eq_some_iff, Bool.true_eq_false] at h
    obtain ⟨rs, h1, rfl⟩ := h
    have h2 := (parts_size (c := 44) h1).1
    have h3 := rest_len e
    exact ⟨part_len (by rw [e]; exact List.mem_cons_self), by show rs.length ≤ _; omega⟩
  · cases h
theorem rdB_size {w : Str} {p : Way} (h : rdB w = some p) : p.1.length ≤ w.length ∧ p.2.length ≤ w.length := by
  unfold rdB at h
  split at h
  · rename_i a b r e
    cases h
    exact ⟨part_len (by rw [e]; exact List.mem_cons_self), rest_len e⟩
  · cases h
theorem okHo_rd {w : Str} (hw : tiny w) : okHo (rdHs w) := fun hs h => by
  have := parts_size (c := 59) h
  refine ⟨by show hs.length ≤ 100000; have : w.length ≤ 50000 := hw; omega, fun p hp => ?_⟩
  obtain ⟨x, h1, h2⟩ := this.2 p hp
  have h3 := rdP_size h2
  have : w.length ≤ 50000 := hw
  exact ⟨by show p.1.length ≤ 100000; omega, by show p.2.length ≤ 100000; omega⟩
theorem okBo_rd {w : Str} (hw : tiny w) : okBo (rdBs w) := fun hs h => by
  have := parts_size (c := 59) h
  refine ⟨by show hs.length ≤ 100000; have : w.length ≤ 50000 := hw; omega, fun p hp => ?_⟩
  obtain ⟨x, h1, h2⟩ := this.2 p hp
  have h3 := rdB_size h2
  have : w.length ≤ 50000 := hw
  exact ⟨by show p.1.length ≤ 100000; omega, by show p.2.length ≤ 100000; omega⟩
/-! ### house_in -/
theorem ne_bridge (c : Sy K h cs) : ga K "bridge_in" ≠ ga K "rules_in" := fun e => by
  have q : (!decide (ga K "rules_in" = ga K "bridge_in")) = true := c.fact 89
  rw [e] at q
  simp at q
theorem tab2_rules : tab2 K (ga K "rules_in") = some (F_rules_in K) := by unfold tab2; rw [if_pos rfl]
theorem tab2_bridge (c : Sy K h cs) : tab2 K (ga K "bridge_in") = some (F_bridge_in K) := by unfold tab2; rw [if_neg (ne_bridge c), if_pos rfl]
theorem parts_P {w : Str} (hw : small w.length) : F_parts_by K (tab2 K) [.str w, .str (one 59), .adr (ga K "rules_in")] S = .ok (encHo (rdHs w)) S := by
  have := parts_ok (K := K) (S := S) (tab := tab2 K) (a := ga K "rules_in") (F := F_rules_in K) (rd := rdP) (c := 59) pl_P hw tab2_rules fun p hp => rules_in_ok (Nat.le_trans hp hw)
  rw [this]
  show Res.ok (encL encP (rdHs w)) S = _
  cases rdHs w <;> rfl
theorem parts_B (c : Sy K h cs) {w : Str} (hw : small w.length) : F_parts_by K (tab2 K) [.str w, .str (one 59), .adr (ga K "bridge_in")] S = .ok (encBo (rdBs w)) S := by
  have := parts_ok (K := K) (S := S) (rd := rdB) (c := 59) pl_B hw (tab2_bridge c) fun p hp => bridge_in_ok (Nat.le_trans hp hw)
  rw [this]
  show Res.ok (encL encB (rdBs w)) S = _
  cases rdBs w <;> rfl
abbrev encHH (p : List Hand × List Way) : D := encH p.1 p.2
theorem house_in_ok (c : Sy K h cs) {w : Str} (hw : tiny w) : F_house_in K [.str w] S = .ok (encOp encHH (rdH w)) S := by
  have hw1 : small w.length := Nat.le_trans hw (by decide)
  have hs := small_le hw1
  have e0 : partD (.str w) [.str (one 47)] S = _ := part_ap (S := S) (c := 47) hs
  unfold F_house_in rdH
  rw [s_slash, s_semi]
  rcases cut_cases w 47 with ⟨p, e⟩ | ⟨p, q, r, e⟩
  · rw [part_one e] at e0
    have r1 := parts_P (K := K) (S := S) (w := w) hw1
    have r2 := parts_B (S := S) c (w := Str.empty) (by decide)
    rw [e]
    simp [sPar, e0, r1, r2, encOp]
  · rw [part_two e] at e0
    have lp : p.length ≤ w.length := part_len (by rw [e]; exact List.mem_cons_self)
    have lr := rest_len e
    have r1 := parts_P (K := K) (S := S) (w := p) (Nat.le_trans lp hw1)
    have r2 := parts_B (S := S) c (w := Str.join (one 47) (q :: r)) (Nat.le_trans lr hw1)
    have r3 := house_ok (S := S) c (okHo_rd (w := p) (Nat.le_trans lp hw)) (okBo_rd (w := Str.join (one 47) (q :: r)) (Nat.le_trans lr hw))
    rw [e]
    simp [sPar, e0, r1, r2, r3, encOp]
    generalize rdHs p = X
    generalize rdBs (Str.join (one 47) (q :: r)) = Y
    cases X with
    | none => simp [houseO]
    | some hs =>
      cases Y with
      | none => simp [houseO]
      | some bs => cases q1 : houseB hs bs <;> simp [houseO, q1, encHo, encBo]
end
end K84
end
section
set_option Elab.async false
set_option linter.all false
set_option maxRecDepth 100000
set_option maxHeartbeats 1048576
namespace K84
open PySem PySem.Spec PySem.W PyProof.Rows L2 LamX He MM
section
variable {K : PySem.W.Frag} {h : Heap} {cs : List (Addr × Addr)} {S : Store} {C : Addr} {fs : List (Str × D)}
/-! ### an instance at the store's end -/
theorem end_at {o : SO} : (S ++ [o])[S.length]? = some o := by simp
theorem end_set {o o' : SO} : (S ++ [o]).set S.length o' = S ++ [o'] := by simp
@[simp] theorem ins_end : insOf C (S ++ [.ins C fs]) (.ref S.length) = some (S.length, fs) := by
  show (match (S ++ [SO.ins C fs])[S.length]? with | some (.ins C' fs) => if C' = C then some (S.length, fs) else none | _ => none) = _
  rw [end_at]
  simp
@[simp] theorem set_end {f : Str} {y : D} : setF C f (.ref S.length) y (S ++ [.ins C fs]) = if fs.length < 1000 then .ok () (S ++ [.ins C (putFD f y fs)]) else .bad := by
  unfold setF
  rw [ins_end]
  dsimp only
  rw [end_set]
@[simp] theorem fld_end {f : Str} : fldD C f (.ref S.length) (S ++ [.ins C fs]) = (match fs.lookup f with | some y => .ok y (S ++ [.ins C fs]) | none => .bad) := by
  unfold fldD
  rw [ins_end]
  rfl
@[simp] theorem sBp_ap {m : Env' → M Unit} {δ : Env'} : sB' m δ S = (match m δ S with | .ok _ S1 => .nx δ S1 | .exc C fs S1 => .exc C fs δ S1 | .bad => .bad) := rfl
@[simp] theorem sFld_ap {f : Str} {fv fo : Env' → M D} : sFldM C f fv fo = sB' fun δ => (fv δ).bind fun y => (fo δ).bind fun o => setF C f o y := rfl
@[simp] theorem sAug_ap {f : Str} {g : D → D → M D} {fo fv : Env' → M D} : sAugM C f g fo fv = sB' fun δ => (fo δ).bind fun o => (fldD C f o).bind fun x => (fv δ).bind fun y => (g x y).bind fun z => setF C f o z := rfl
/-- the taker's fields -/
def wtF (xs : List Str) (k : Int) : List (Str × D) := [("line_number", .int 0), ("parts", .lst (xs.map .str)), ("taken", .int k)]
section
variable {xs : List Str} {k : Int}
theorem q1 : (("line_number" : Str) = "parts") = False := by decide
theorem q2 : (("line_number" : Str) = "taken") = False := by decide
theorem q3 : (("parts" : Str) = "taken") = False := by decide
@[simp] theorem wt_line : (wtF xs k).lookup ("line_number" : Str) = some (.int 0) := rfl
@[simp] theorem wt_parts : (wtF xs k).lookup ("parts" : Str) = some (.lst (xs.map .str)) := rfl
@[simp] theorem wt_taken : (wtF xs k).lookup ("taken" : Str) = some (.int k) := rfl
@[simp] theorem wt_len : (wtF xs k).length = 3 := rfl
@[simp] theorem wt_put {j : Int} : putFD "taken" (.int j) (wtF xs k) = wtF xs j := by simp [wtF, putFD, q2, q3]
end
@[simp] theorem isNone_ap {d : D} : isNoneD d .non S = .ok (.bl (isNon d)) S := rfl
@[simp] theorem isNon_non : MM.isNon .non = true := rfl
@[simp] theorem isNon_tup {ds : List D} : MM.isNon (.tup ds) = false := rfl
@[simp] theorem isNon_hh {x : List Hand × List Way} : MM.isNon (encHH x) = false := rfl
@[simp] theorem addI_ap {i j : Int} : addI (.int i) (.int j) S = .ok (.int (i + j)) S := rfl
theorem wt_init (x : Str) (hx : x.length + 2 ≤ sizeLine) (C : Addr) (hC : C = ga K "WordTaker") : F_WordTaker_init K [.ref S.length, .int 0, .str x] (S ++ [.ins C []]) = .ok .non (S ++ [.ins C (wtF (Txt.split x (one 32)) 0)]) := by
  subst hC
  unfold F_WordTaker_init
  have e : ((" ") : Str) = one 32 := by decide
  rw [e]
  simp [split_ap hx, putFD, q1, q2, q3, wtF]
abbrev wt (K : PySem.W.Frag) (xs : List Str) (k : Int) : SO := .ins (ga K "WordTaker") (wtF xs k)
theorem wt_refuse {xs : List Str} {k : Int} : F_WordTaker_refuse K [.ref S.length] (S ++ [wt K xs k]) = .exc (ga K "NoText") [("word", .int k), ("line", .int 0)] (S ++ [wt K xs k]) := by
  unfold F_WordTaker_refuse
  simp [sRaise]
theorem wt_over {xs : List Str} {k : Int} : F_WordTaker_is_over K [.ref S.length] (S ++ [wt K xs k]) = .ok (.bl (k == xs.length)) (S ++ [wt K xs k]) := by
  unfold F_WordTaker_is_over
  simp
theorem metM_end {m : Str} {n : Nat} {F : List D → M D} {fo : Env' → M D} {gs : Env' → M (List D)} {δ : Env'} {xs : List Str} {k : Int} (hm : (wtF xs k).lookup m = none) (ho : fo δ (S ++ [wt K xs k]) = .ok (.ref S.length) (S ++ [wt K xs k])) :
    metM (ga K "WordTaker") m n F fo gs δ (S ++ [wt K xs k]) = ((gs δ).bind fun ds => cM n F (.ref S.length :: ds)) (S ++ [wt K xs k]) := by
  unfold metM
  rw [bind_ap, ho]
  dsimp only
  rw [bind_ap, ins_end]
  dsimp only [Option.bind_some]
  rw [hm]
  rfl
theorem tab3_at : tab3 K (ga K "house_in") = some (F_house_in K) := by unfold tab3; rw [if_pos rfl]
theorem lk_over {xs : List Str} {k : Int} : (wtF xs k).lookup ("is_over" : Str) = none := rfl
theorem lk_refuse {xs : List Str} {k : Int} : (wtF xs k).lookup ("refuse" : Str) = none := rfl
theorem lk_take {xs : List Str} {k : Int} : (wtF xs k).lookup ("take_by" : Str) = none := rfl
theorem lk_end {xs : List Str} {k : Int} : (wtF xs k).lookup ("ask_end" : Str) = none := rfl
theorem wt_take (c : Sy K h cs) {p : Str} {r : List Str} (hp : tiny p) : F_WordTaker_take_by K (tab3 K) [.ref S.length, .adr (ga K "house_in")] (S ++ [wt K (p :: r) 0]) =
    (match rdH p with | some x => .ok (encHH x) (S ++ [wt K (p :: r) 1]) | none => .exc (ga K "NoText") [("word", .int 0), ("line", .int 0)] (S ++ [wt K (p :: r) 0])) := by
  unfold F_WordTaker_take_by
  have e1 : ∀ {fs : Env' → M (List D)}, eCallA (tab3 K) 1 1 fs [some (.ref S.length), some (.adr (ga K "house_in")), none] (S ++ [wt K (p :: r) 0]) = _ := fun {fs} => callA_ap (fs := fs) rfl tab3_at
  have e2 : ∀ S, F_house_in K [.str p] S = .ok (encOp encHH (rdH p)) S := fun S => house_in_ok c hp
  have e3 := wt_over (K := K) (S := S) (xs := p :: r) (k := 0)
  have e4 := wt_refuse (K := K) (S := S) (xs := p :: r) (k := 0)
  have z : ((0 : Int) == ((p :: r).length : Int)) = false := by simp; omega
  rw [z] at e3
  have ixp : ∀ S, ixD (.lst (D.str p :: r.map D.str)) (.int 0) S = .ok (.str p) S := by
    intro S
    have e : atI (D.str p :: r.map D.str) 0 = some (.str p) := by simp [atI, ixN]
    unfold ixD
    simp [e]
  have m1 : metM (ga K "WordTaker") "is_over" 1 (F_WordTaker_is_over K) (eVar 0) aNil [some (.ref S.length), some (.adr (ga K "house_in")), none] (S ++ [wt K (p :: r) 0]) = .ok (.bl false) (S ++ [wt K (p :: r) 0]) := by
    rw [metM_end lk_over rfl]
    exact e3
  have m2 : metM (ga K "WordTaker") "refuse" 1 (F_WordTaker_refuse K) (eVar 0) aNil [some (.ref S.length), some (.adr (ga K "house_in")), some .non] (S ++ [wt K (p :: r) 0]) = .exc (ga K "NoText") [("word", .int 0), ("line", .int 0)] (S ++ [wt K (p :: r) 0]) := by
    rw [metM_end lk_refuse rfl]
    exact e4
  cases q : rdH p with
  | none =>
    rw [q] at e2
    simp [m1, m2, e1, e2, e3, e4, ixp, encOp]
  | some x =>
    rw [q] at e2
    simp [m1, m2, e1, e2, e3, e4, ixp, encOp]
theorem wt_end_ok {p : Str} : F_WordTaker_ask_end K [.ref S.length] (S ++ [wt K [p] 1]) = .ok .non (S ++ [wt K [p] 1]) := by
  unfold F_WordTaker_ask_end
  have m1 : metM (ga K "WordTaker") "is_over" 1 (F_WordTaker_is_over K) (eVar 0) aNil [some (.ref S.length)] (S ++ [wt K [p] 1]) = .ok (.bl true) (S ++ [wt K [p] 1]) := by
    rw [metM_end lk_over rfl]
    exact wt_over
  simp [m1]
theorem wt_end_no {p q : Str} {r : List Str} : F_WordTaker_ask_end K [.ref S.length] (S ++ [wt K (p :: q :: r) 1]) = .exc (ga K "NoText") [("word", .int 1), ("line", .int 0)] (S ++ [wt K (p :: q :: r) 1]) := by
  unfold F_WordTaker_ask_end
  have m1 : metM (ga K "WordTaker") "is_over" 1 (F_WordTaker_is_over K) (eVar 0) aNil [some (.ref S.length)] (S ++ [wt K (p :: q :: r) 1]) = .ok (.bl false) (S ++ [wt K (p :: q :: r) 1]) := by
    rw [metM_end lk_over rfl]
    have z := wt_over (K := K) (S := S) (xs := p :: q :: r) (k := 1)
    have z1 : ((1 : Int) == ((p :: q :: r).length : Int)) = false := by simp; omega
    rw [z1] at z
    exact z
  have m2 : metM (ga K "WordTaker") "refuse" 1 (F_WordTaker_refuse K) (eVar 0) aNil [some (.ref S.length)] (S ++ [wt K (p :: q :: r) 1]) = .exc (ga K "NoText") [("word", .int 1), ("line", .int 0)] (S ++ [wt K (p :: q :: r) 1]) := by
    rw [metM_end lk_refuse rfl]
    exact wt_refuse
  simp [m1, m2]
/-- what read_house answers -/
inductive RdO
  | told (x : List Hand × List Way)
  | no (k : Int)
def rdO (t : Str) : RdO := match Txt.split t (one 32) with
  | [] => .no 0
  | p :: r => match rdH p, r with
    | none, _ => .no 0
    | some x, [] => .told x
    | some _, _ :: _ => .no 1
theorem read_house_ok (c : Sy K h cs) {t : Str} (ht : tiny t) : ∃ G, F_read_house K [.str t] S = (match rdO t with
    | .told x => .ok (encHH x) (S ++ G)
    | .no k => .exc (ga K "NoText") [("word", .int k), ("line", .int 0)] (S ++ G)) := by
  have hs : t.length + 2 ≤ sizeLine := by have : t.length ≤ 50000 := ht; rw [sizeLine_eq]; omega
  have i0 := wt_init (K := K) (S := S) t hs (ga K "WordTaker") rfl
  have i1 : mkM (ga K "WordTaker") 3 (F_WordTaker_init K) [.int 0, .str t] S = .ok (.ref S.length) (S ++ [wt K (Txt.split t (one 32)) 0]) := by
    unfold mkM
    simp [i0]
  unfold F_read_house rdO
  rcases q : Txt.split t (one 32) with _ | ⟨p, r⟩
  · exact absurd q (cut_ne t 32)
  · rw [q] at i1
    have hp : tiny p := Nat.le_trans (part_len (x := t) (c := 32) (by rw [q]; exact List.mem_cons_self)) ht
    have t0 := wt_take (S := S) (r := r) c hp
    have m1 : metM (ga K "WordTaker") "take_by" 2 (F_WordTaker_take_by K (tab3 K)) (eVar 1) (aCons (eC (.adr (ga K "house_in"))) aNil) [some (.str t), some (.ref S.length), none] (S ++ [wt K (p :: r) 0]) = _ := (metM_end lk_take rfl).trans t0
    cases z : rdH p with
    | none =>
      rw [z] at m1
      refine ⟨[wt K (p :: r) 0], ?_⟩
      simp [i1, m1, z]
    | some x =>
      rw [z] at m1
      refine ⟨[wt K (p :: r) 1], ?_⟩
      cases r with
      | nil =>
        have e0 := wt_end_ok (K := K) (S := S) (p := p)
        have m2 : metM (ga K "WordTaker") "ask_end" 1 (F_WordTaker_ask_end K) (eVar 1) aNil [some (.str t), some (.ref S.length), some (encHH x)] (S ++ [wt K [p] 1]) = .ok .non (S ++ [wt K [p] 1]) := by
          rw [metM_end lk_end rfl]
          exact e0
        simp [i1, m1, m2, z, encHH]
      | cons q' r' =>
        have e0 := wt_end_no (K := K) (S := S) (p := p) (q := q') (r := r')
        have m2 : metM (ga K "WordTaker") "ask_end" 1 (F_WordTaker_ask_end K) (eVar 1) aNil [some (.str t), some (.ref S.length), some (encHH x)] (S ++ [wt K (p :: q' :: r') 1]) = .exc (ga K "NoText") [("word", .int 1), ("line", .int 0)] (S ++ [wt K (p :: q' :: r') 1]) := by
          rw [metM_end lk_end rfl]
          exact e0
        simp [i1, m1, m2, z]
end
end K84
end
section
set_option Elab.async false
set_option linter.all false
set_option maxRecDepth 100000
set_option maxHeartbeats 1048576
namespace K84
open PySem PySem.Spec PySem.W PyProof.Rows L2 LamX He MM
/-! ### the law's own reading of a page -/
abbrev has (c : Nat) (x : Str) : Prop := c ∈ TL.tl x
theorem has_app {c : Nat} {x y : Str} : has c (x ++ y) ↔ has c x ∨ has c y := by
  show c ∈ TL.tl (x ++ y) ↔ _
  rw [TL.tl_append, List.mem_append]
theorem has_one {c s : Nat} : has c (one s) ↔ c = s := by
  show c ∈ [s] ↔ _
  simp
theorem join_cons2 {s : Str} {p q : Str} {r : List Str} : Str.join s (p :: q :: r) = p ++ s ++ Str.join s (q :: r) := rfl
theorem has_join {c s : Nat} : ∀ {ps : List Str}, has c (Str.join (one s) ps) → c = s ∨ ∃ p ∈ ps, has c p
  | [], h => by cases h
  | [p], h => .inr ⟨p, List.mem_cons_self, h⟩
  | p :: q :: r, h => by
    rw [join_cons2, has_app, has_app, has_one] at h
    rcases h with (h | h) | h
    · exact .inr ⟨p, List.mem_cons_self, h⟩
    · exact .inl h
    · rcases has_join h with h | ⟨p', a, b⟩
      · exact .inl h
      · exact .inr ⟨p', List.mem_cons_of_mem _ a, b⟩
theorem has_part {c s : Nat} {w : Str} (h : has c w) (hc : c ≠ s) : ∃ p ∈ Txt.split w (one s), has c p := by
  have e := cut_join w s
  rw [← e] at h
  rcases has_join h with h | h
  · exact absurd h hc
  · exact h
theorem has_sep {c : Nat} {p q : Str} {r : List Str} : has c (Str.join (one c) (p :: q :: r)) := by
  rw [join_cons2, has_app, has_app, has_one]
  exact .inl (.inr rfl)
theorem let_mem {x : Str} (h : letW x = true) : x ∈ kl_LET_WORDS := by
  unfold letW inP at h
  dsimp only at h
  rw [List.any_eq_true] at h
  obtain ⟨z, a, b⟩ := h
  obtain ⟨y, u, v⟩ := List.mem_map.mp a
  subst v
  have : y = x := by simpa [PyData.eqv] using b
  exact this ▸ u
theorem let_has {x : Str} {c : Nat} (h : letW x = true) (hc : c = 58 ∨ c = 44 ∨ c = 59 ∨ c = 47 ∨ c = 32) : ¬ has c x := by
  have e : ∀ y ∈ kl_LET_WORDS, (TL.tl y).all (fun z => decide (z ≥ 97)) = true := by decide
  intro hx
  have := List.all_eq_true.mp (e x (let_mem h)) c hx
  have := of_decide_eq_true this
  omega
theorem letB_sep {c : Nat} (hc : c = 58 ∨ c = 62 ∨ c = 44 ∨ c = 59 ∨ c = 47 ∨ c = 32 ∨ c = 45) : letB c = false := by
  rcases hc with h | h | h | h | h | h | h <;> subst h <;> kernel_rfl
theorem word_has {x : Str} {c : Nat} (h : wordB x = true) (hc : c = 58 ∨ c = 62 ∨ c = 44 ∨ c = 59 ∨ c = 47 ∨ c = 32 ∨ c = 45) : ¬ has c x := by
  intro hx
  unfold wordB at h
  rw [Bool.and_eq_true, List.all_eq_true] at h
  have := h.2 c hx
  rw [letB_sep hc] at this
  cases this
def lrP (y : Str) : Option Hand := match Txt.split y (one 58) with
  | [a, b] => some (a, if b = "-" then [] else Txt.split b (one 44))
  | _ => none
def lrB (y : Str) : Option Way := match Txt.split y (one 62) with
  | [a, b] => some (a, b)
  | _ => none
def lrH (w : Str) : Option (List Hand × List Way) := match Txt.split w (one 47) with
  | [p, q] => match mapO lrP (Txt.split p (one 59)), partsO lrB q (one 59) with
    | some hs, some bs => if houseB hs bs = true then some (hs, bs) else none
    | _, _ => none
  | _ => none
theorem mapW_id : ∀ {ps rs : List Str}, mapO rdW ps = some rs → rs = ps ∧ ps.all letW = true
  | [], rs, h => by cases h; exact ⟨rfl, rfl⟩
  | p :: ps, rs, h => by
    unfold mapO at h
    split at h
    · rename_i a r h1 h2
      cases h
      obtain ⟨e1, e2⟩ := mapW_id h2
      unfold rdW at h1
      split at h1
      · rename_i h3
        cases h1
        exact ⟨by rw [e1], by simp [h3, e2]⟩
      · cases h1
    · cases h
theorem mapW_of : ∀ {ps : List Str}, ps.all letW = true → mapO rdW ps = some ps
  | [], _ => rfl
  | p :: ps, h => by
    rw [List.all_cons] at h; rw [Bool.and_eq_true] at h
    unfold mapO
    rw [mapW_of h.2]
    unfold rdW
    rw [if_pos h.1]
theorem rdR_has {w : Str} {rs : List Str} {c : Nat} (h : rdR w = some rs) (hc : c = 58 ∨ c = 59 ∨ c = 47 ∨ c = 32) : ¬ has c w := by
  intro hw
  unfold rdR partsO at h
  split at h
  · rename_i e
    subst e
    have : c = 45 := by simpa [has, TL.tl] using (show c ∈ [45] from hw)
    omega
  · obtain ⟨e1, e2⟩ := mapW_id h
    obtain ⟨p, a, b⟩ := has_part hw (s := 44) (by omega)
    rw [List.all_eq_true] at e2
    exact let_has (e2 p a) (by omega) b
theorem P_fwd {y : Str} {x : Hand} (h : rdP y = some x) : lrP y = some x := by
  unfold rdP at h
  unfold lrP
  rcases cut_cases y 58 with ⟨p, e⟩ | ⟨p, q, r, e⟩
  · rw [e] at h; cases h
  · rw [e] at h ⊢
    dsimp only at h
    cases q1 : rdR (Str.join (one 58) (q :: r)) with
    | none => rw [q1] at h; cases h
    | some rs =>
      rw [q1] at h
      cases h
      cases r with
      | cons r1 r2 => exact absurd has_sep (rdR_has q1 (.inl rfl))
      | nil =>
        dsimp only
        have j : Str.join (one 58) [q] = q := rfl
        rw [j] at q1
        unfold rdR partsO at q1
        split at q1
        · rename_i e; cases q1; rw [if_pos e]
        · rename_i e; rw [if_neg e, (mapW_id q1).1]
theorem P_bwd {y : Str} {x : Hand} (h : lrP y = some x) (hx : handB x = true) : rdP y = some x := by
  unfold lrP at h
  unfold rdP
  split at h
  · rename_i a b e
    rw [e]
    cases h
    have hr : rulesB (if b = "-" then [] else Txt.split b (one 44)) = true := by
      unfold handB at hx; rw [Bool.and_eq_true] at hx; exact hx.2
    unfold rulesB at hr
    rw [Bool.and_eq_true] at hr
    have j : Str.join (one 58) [b] = b := rfl
    dsimp only
    rw [j]
    unfold rdR partsO
    split
    · rfl
    · rename_i e
      rw [if_neg e] at hr
      rw [mapW_of hr.1]
      rfl
  · cases h
theorem B_fwd {y : Str} {x : Way} (h : rdB y = some x) (hx : wayB x = true) : lrB y = some x := by
  unfold rdB at h
  unfold lrB
  rcases cut_cases y 62 with ⟨p, e⟩ | ⟨p, q, r, e⟩
  · rw [e] at h; cases h
  · rw [e] at h ⊢
    cases h
    cases r with
    | nil => rfl
    | cons r1 r2 =>
      unfold wayB at hx
      rw [Bool.and_eq_true] at hx
      exact absurd has_sep (word_has hx.2 (by omega))
theorem B_bwd {y : Str} {x : Way} (h : lrB y = some x) : rdB y = some x := by
  unfold lrB at h
  unfold rdB
  split at h
  · rename_i a b e
    rw [e]
    cases h
    rfl
  · cases h
theorem map_swap {α : Type} {f g : Str → Option α} {P : α → Bool} (hfg : ∀ y x, f y = some x → P x = true → g y = some x) : ∀ {ps : List Str} {xs : List α}, mapO f ps = some xs → xs.all P = true → mapO g ps = some xs
  | [], xs, h, _ => h
  | p :: ps, xs, h, hx => by
    unfold mapO at h ⊢
    split at h
    · rename_i a r h1 h2
      cases h
      rw [List.all_cons, Bool.and_eq_true] at hx
      rw [hfg p a h1 hx.1, map_swap hfg h2 hx.2]
    · cases h
theorem house_parts {hs : List Hand} {bs : List Way} (h : houseB hs bs = true) : hs ≠ [] ∧ hs.all handB = true ∧ bs.all wayB = true := by
  unfold houseB handsB waysB at h
  simp only [Bool.and_eq_true, Bool.true_eq_false] at h
  refine ⟨?_, h.1.1.2.1, h.1.2.1⟩
  rintro rfl
  cases h.1.1.1
theorem rdBs_has {w : Str} {bs : List Way} (h : rdBs w = some bs) (hb : bs.all wayB = true) : ¬ has 47 w := by
  intro hw
  unfold rdBs partsO at h
  split at h
  · rename_i e
    subst e
    have : (47 : Nat) ∈ [45] := hw
    simp at this
  · obtain ⟨p, a, b⟩ := has_part hw (s := 59) (by omega)
    have key : ∀ {ps : List Str} {xs : List Way}, mapO rdB ps = some xs → p ∈ ps → ∃ x ∈ xs, rdB p = some x := by
      intro ps
      induction ps with
      | nil => intro xs _ hp; cases hp
      | cons p1 ps ih =>
        intro xs hm hp
        unfold mapO at hm
        split at hm
        · rename_i a1 r1 h1 h2
          cases hm
          rcases List.mem_cons.mp hp with q | q
          · subst q; exact ⟨a1, List.mem_cons_self, h1⟩
          · obtain ⟨x, u, v⟩ := ih h2 q; exact ⟨x, List.mem_cons_of_mem _ u, v⟩
        · cases hm
    obtain ⟨x, u, v⟩ := key h a
    have hx : wayB x = true := List.all_eq_true.mp hb x u
    unfold wayB at hx
    rw [Bool.and_eq_true] at hx
    unfold rdB at v
    rcases cut_cases p 62 with ⟨p', e⟩ | ⟨p', q', r', e⟩
    · rw [e] at v; cases v
    · rw [e] at v
      cases v
      have j := cut_join p 62
      rw [e, join_cons2] at j
      rw [← j, has_app, has_app, has_one] at b
      rcases b with (b | b) | b
      · exact word_has hx.1 (by omega) b
      · omega
      · exact word_has hx.2 (by omega) b
theorem rd_lr {w : Str} : rdH w = lrH w := by
  have fwd : ∀ z, rdH w = some z → lrH w = some z := by
    intro z hz
    unfold rdH at hz
    split at hz
    · rename_i p q r e
      split at hz
      · rename_i hs bs h1 h2
        split at hz
        · rename_i h3
          cases hz
          obtain ⟨g0, g1, g2⟩ := house_parts h3
          cases r with
          | cons r1 r2 => exact absurd has_sep (rdBs_has h2 g2)
          | nil =>
            have j : Str.join (one 47) [q] = q := rfl
            rw [j] at h2
            unfold lrH
            rw [e]
            dsimp only
            have a1 : mapO lrP (Txt.split p (one 59)) = some hs := by
              unfold rdHs partsO at h1
              split at h1
              · cases h1; exact absurd rfl g0
              · exact map_swap (P := handB) (fun y x a _ => P_fwd a) h1 g1
            have a2 : partsO lrB q (one 59) = some bs := by
              unfold rdBs partsO at h2
              unfold partsO
              split
              · rename_i e2; rw [if_pos e2] at h2; exact h2
              · rename_i e2; rw [if_neg e2] at h2; exact map_swap (P := wayB) (fun y x a b => B_fwd a b) h2 g2
            rw [a1, a2]
            dsimp only
            rw [if_pos h3]
        · cases hz
      · cases hz
    · cases hz
  have bwd : ∀ z, lrH w = some z → rdH w = some z := by
    intro z hz
    unfold lrH at hz
    split at hz
    · rename_i p q e
      split at hz
      · rename_i hs bs h1 h2
        split at hz
        · rename_i h3
          cases hz
          obtain ⟨g0, g1, g2⟩ := house_parts h3
          unfold rdH
          rw [e]
          have j : Str.join (one 47) [q] = q := rfl
          dsimp only
          rw [j]
          have a1 : rdHs p = some hs := by
            unfold rdHs partsO
            split
            · rename_i e2
              subst e2
              have : mapO lrP (Txt.split "-" (one 59)) = none := by kernel_rfl
              rw [this] at h1; cases h1
            · exact map_swap (P := handB) (fun y x a b => P_bwd a b) h1 g1
          have a2 : rdBs q = some bs := by
            unfold partsO at h2
            unfold rdBs partsO
            split
            · rename_i e2; rw [if_pos e2] at h2; exact h2
            · rename_i e2; rw [if_neg e2] at h2; exact map_swap (P := wayB) (fun y x a _ => B_bwd a) h2 g2
          rw [a1, a2]
          dsimp only
          rw [if_pos h3]
        · cases hz
      · cases hz
    · cases hz
  cases q : rdH w with
  | some z => exact (fwd z q).symm
  | none =>
    cases q2 : lrH w with
    | none => rfl
    | some z => rw [bwd z q2] at q; cases q
end K84
end
section
set_option Elab.async false
set_option linter.all false
set_option maxRecDepth 100000
set_option maxHeartbeats 1048576
namespace K84
open PySem PySem.Spec PySem.W PyProof.Rows L2 LamX He MM
section
variable {K : PySem.W.Frag} {h : Heap} {cs : List (Addr × Addr)} {S : Store}
/-! ### the law's own reader, walked -/
theorem forM_nil {t : TgF} {b : SM} {δ : Env'} : forM t b [] δ S = .nx δ S := rfl
theorem forM_cons {t : TgF} {b : SM} {δ : Env'} {x : D} {xs : List D} : forM t b (x :: xs) δ S = (match t x δ with
    | none => .bad
    | some δ1 => match b δ1 S with
      | .nx δ2 S2 => forM t b xs δ2 S2
      | .ct δ2 S2 => forM t b xs δ2 S2
      | .bk δ2 S2 => .nx δ2 S2
      | r => r) := rfl
@[simp] theorem sFor_ap {src : Env' → M (List D)} {t : TgF} {b : SM} {δ : Env'} : sFor src t b δ S = (match src δ S with | .ok xs S1 => forM t b xs δ S1 | .exc C fs S1 => .exc C fs δ S1 | .bad => .bad) := rfl
@[simp] theorem eLM_ap {g : D → List D → M D} {f : Env' → M D} {fs : Env' → M (List D)} {δ : Env'} : eLM g f fs δ S = ((f δ).bind fun d => (isLst d).bind fun _ => (fs δ).bind fun ds => g d ds) S := rfl
section
variable {A B : List D} {y : D}
theorem two_0 : (S ++ [.lst A, .lst B])[S.length]? = some (.lst A) := by simp
theorem two_1 : (S ++ [.lst A, .lst B])[S.length + 1]? = some (.lst B) := by simp
@[simp] theorem isl_0 : isLst (.ref S.length) (S ++ [.lst A, .lst B]) = .ok () (S ++ [.lst A, .lst B]) := by
  unfold isLst lstD
  dsimp only
  rw [two_0]
@[simp] theorem isl_1 : isLst (.ref (S.length + 1)) (S ++ [.lst A, .lst B]) = .ok () (S ++ [.lst A, .lst B]) := by
  unfold isLst lstD
  dsimp only
  rw [two_1]
@[simp] theorem app_0 : appD (.ref S.length) [y] (S ++ [.lst A, .lst B]) = if A.length < sizeLine then .ok .non (S ++ [.lst (A ++ [y]), .lst B]) else .bad := by
  unfold appD
  dsimp only
  rw [two_0]
  simp
@[simp] theorem app_1 : appD (.ref (S.length + 1)) [y] (S ++ [.lst A, .lst B]) = if B.length < sizeLine then .ok .non (S ++ [.lst A, .lst (B ++ [y])]) else .bad := by
  unfold appD
  dsimp only
  rw [two_1]
  simp
@[simp] theorem tup_0 : tupD [.ref S.length] (S ++ [.lst A, .lst B]) = .ok (.tup A) (S ++ [.lst A, .lst B]) := by
  unfold tupD seqD
  simp
@[simp] theorem tup_1 : tupD [.ref (S.length + 1)] (S ++ [.lst A, .lst B]) = .ok (.tup B) (S ++ [.lst A, .lst B]) := by
  unfold tupD seqD
  simp
end
def b1 : SM := (sSeq (sAsg (eM1 splitD (eVar 4) (eC (.str ":"))) (gN 5))
    (sSeq (sIf (bTest (e2 neD (eCall lenD (aCons (eVar 5) aNil)) (eC (.int 2)))) (sRet (eC .non)) sNext)
    (sDrop (eLM appD (eVar 2) (aCons (eTup (aCons (e2 ixD (eVar 5) (eC (.int 0))) (aCons (eIf (bTest (e2 eqD (e2 ixD (eVar 5) (eC (.int 1))) (eC (.str "-")))) (eTup aNil) (eCall tupD (aCons (eM1 splitD (e2 ixD (eVar 5) (eC (.int 1))) (eC (.str ","))) aNil))) aNil))) aNil)))))
def b2 : SM := (sSeq (sIf (bTest (e2 neD (eM1 countD (eVar 4) (eC (.str ">"))) (eC (.int 1)))) (sRet (eC .non)) sNext)
    (sDrop (eLM appD (eVar 3) (aCons (eCall tupD (aCons (eM1 splitD (eVar 4) (eC (.str ">"))) aNil)) aNil))))
@[simp] theorem ix_0 {a : D} {r : List D} : ixD (.lst (a :: r)) (.int 0) S = .ok a S := by
  have e : atI (a :: r) 0 = some a := by simp [atI, ixN]
  unfold ixD
  simp [e]
@[simp] theorem ix_1 {a b : D} {r : List D} : ixD (.lst (a :: b :: r)) (.int 1) S = .ok b S := by
  have e : atI (a :: b :: r) 1 = some b := by
    simp [atI, ixN]
    rw [if_pos (by omega)]
    rfl
  unfold ixD
  simp [e]
theorem b1_ok {w xs : D} {y : Str} {A : List D} (hy : tiny y) (hA : A.length < sizeLine) {o5 o6 : Option D} :
    b1 [some w, some xs, some (.ref S.length), some (.ref (S.length + 1)), some (.str y), o5, o6] (S ++ [.lst A, .lst []]) = (match lrP y with
      | some x => .nx [some w, some xs, some (.ref S.length), some (.ref (S.length + 1)), some (.str y), some (.lst ((Txt.split y (one 58)).map .str)), o6] (S ++ [.lst (A ++ [encP x]), .lst []])
      | none => .rt .non (S ++ [.lst A, .lst []])) := by
  have hs : y.length + 2 ≤ sizeLine := by have : y.length ≤ 50000 := hy; rw [sizeLine_eq]; omega
  have e0 : ∀ S, splitD (.str y) [.str (one 58)] S = _ := fun S => split_ap (S := S) hs
  unfold b1 lrP
  rw [s_colon, s_comma]
  rcases q : Txt.split y (one 58) with _ | ⟨a, _ | ⟨b, _ | ⟨d, r⟩⟩⟩
  · exact absurd q (cut_ne y 58)
  · simp [e0, q]
  · have hb : b.length + 2 ≤ sizeLine := by
      have : b.length ≤ y.length := part_len (x := y) (c := 58) (by rw [q]; simp)
      omega
    have e1 : ∀ S, splitD (.str b) [.str (one 44)] S = _ := fun S => split_ap (S := S) hb
    by_cases z : b = "-"
    · simp [e0, q, z, hA, encR]
    · simp [e0, q, z, hA, e1]
  · have z : ¬ ((r.length : Int) + 1 + 1 + 1 = 2) := by omega
    simp [e0, q, z]
theorem loop1 {w xs : D} {o6 : Option D} : ∀ (ps : List Str) (A : List D) (o4 o5 : Option D), A.length + ps.length ≤ sizeLine → (∀ p ∈ ps, tiny p) →
    (match mapO lrP ps with
      | some hs => ∃ o4' o5', forM (gN 4) b1 (ps.map D.str) [some w, some xs, some (.ref S.length), some (.ref (S.length + 1)), o4, o5, o6] (S ++ [.lst A, .lst []]) = .nx [some w, some xs, some (.ref S.length), some (.ref (S.length + 1)), o4', o5', o6] (S ++ [.lst (A ++ hs.map encP), .lst []])
      | none => ∃ A', forM (gN 4) b1 (ps.map D.str) [some w, some xs, some (.ref S.length), some (.ref (S.length + 1)), o4, o5, o6] (S ++ [.lst A, .lst []]) = .rt .non (S ++ [.lst A', .lst []]))
  | [], A, o4, o5, _, _ => ⟨o4, o5, by simp [forM_nil]⟩
  | p :: ps, A, o4, o5, hl, hp => by
    have hl' : A.length + (ps.length + 1) ≤ sizeLine := hl
    have b0 := b1_ok (S := S) (w := w) (xs := xs) (A := A) (o5 := o5) (o6 := o6) (hp p List.mem_cons_self) (by omega)
    unfold mapO
    rw [List.map_cons, forM_cons]
    cases q : lrP p with
    | none =>
      rw [q] at b0
      exact ⟨A, by simp [b0]⟩
    | some x =>
      rw [q] at b0
      have ih := loop1 (w := w) (xs := xs) (o6 := o6) ps (A ++ [encP x]) (some (.str p)) (some (.lst ((Txt.split p (one 58)).map .str))) (by simp; omega) (fun y hy => hp y (List.mem_cons_of_mem _ hy))
      cases q2 : mapO lrP ps with
      | none =>
        rw [q2] at ih
        obtain ⟨A', e⟩ := ih
        exact ⟨A', by simpa [b0] using e⟩
      | some hs =>
        rw [q2] at ih
        obtain ⟨o4', o5', e⟩ := ih
        exact ⟨o4', o5', by simpa [b0] using e⟩
theorem cnt_cut {y : Str} {c : Nat} : Txt.count y (one c) + 1 = (Txt.split y (one c)).length := by
  have a := PyProof.Rows.split_len y c
  have b := PyProof.Rows.count_is y c
  show Txt.count y ⟨#[c]⟩ + 1 = ((Txt.split y ⟨#[c]⟩).length : Int)
  rw [a, b]
  exact Int.add_comm _ _
theorem b2_ok {w xs : D} {y : Str} {A B : List D} (hy : tiny y) (hB : B.length < sizeLine) {o5 o6 : Option D} :
    b2 [some w, some xs, some (.ref S.length), some (.ref (S.length + 1)), some (.str y), o5, o6] (S ++ [.lst A, .lst B]) = (match lrB y with
      | some x => .nx [some w, some xs, some (.ref S.length), some (.ref (S.length + 1)), some (.str y), o5, o6] (S ++ [.lst A, .lst (B ++ [encB x])])
      | none => .rt .non (S ++ [.lst A, .lst B])) := by
  have hs : y.length + 2 ≤ sizeLine := by have : y.length ≤ 50000 := hy; rw [sizeLine_eq]; omega
  have e0 : ∀ S, splitD (.str y) [.str (one 62)] S = _ := fun S => split_ap (S := S) hs
  have ec : ∀ S, countD (.str y) [.str (one 62)] S = .ok (.int (Txt.count y (one 62))) S := fun S => rfl
  have cc := cnt_cut (y := y) (c := 62)
  unfold b2 lrB
  rw [s_gt]
  rcases q : Txt.split y (one 62) with _ | ⟨a, _ | ⟨b, _ | ⟨d, r⟩⟩⟩
  · exact absurd q (cut_ne y 62)
  · rw [q] at cc
    have z : Txt.count y (one 62) = 0 := by simp at cc; omega
    simp [ec, z]
  · rw [q] at cc
    have z : Txt.count y (one 62) = 1 := by simp at cc; omega
    simp [ec, e0, q, z, hB]
  · rw [q] at cc
    have z : ¬ (Txt.count y (one 62) = 1) := by simp at cc; omega
    simp [ec, z]
theorem loop2 {w xs : D} {A : List D} {o5 o6 : Option D} : ∀ (ps : List Str) (B : List D) (o4 : Option D), B.length + ps.length ≤ sizeLine → (∀ p ∈ ps, tiny p) →
    (match mapO lrB ps with
      | some bs => ∃ o4', forM (gN 4) b2 (ps.map D.str) [some w, some xs, some (.ref S.length), some (.ref (S.length + 1)), o4, o5, o6] (S ++ [.lst A, .lst B]) = .nx [some w, some xs, some (.ref S.length), some (.ref (S.length + 1)), o4', o5, o6] (S ++ [.lst A, .lst (B ++ bs.map encB)])
      | none => ∃ B', forM (gN 4) b2 (ps.map D.str) [some w, some xs, some (.ref S.length), some (.ref (S.length + 1)), o4, o5, o6] (S ++ [.lst A, .lst B]) = .rt .non (S ++ [.lst A, .lst B']))
  | [], B, o4, _, _ => ⟨o4, by simp [forM_nil]⟩
  | p :: ps, B, o4, hl, hp => by
    have hl' : B.length + (ps.length + 1) ≤ sizeLine := hl
    have b0 := b2_ok (S := S) (w := w) (xs := xs) (A := A) (B := B) (o5 := o5) (o6 := o6) (hp p List.mem_cons_self) (by omega)
    unfold mapO
    rw [List.map_cons, forM_cons]
    cases q : lrB p with
    | none =>
      rw [q] at b0
      exact ⟨B, by simp [b0]⟩
    | some x =>
      rw [q] at b0
      have ih := loop2 (w := w) (xs := xs) (A := A) (o5 := o5) (o6 := o6) ps (B ++ [encB x]) (some (.str p)) (by simp; omega) (fun y hy => hp y (List.mem_cons_of_mem _ hy))
      cases q2 : mapO lrB ps with
      | none =>
        rw [q2] at ih
        obtain ⟨A', e⟩ := ih
        exact ⟨A', by simpa [b0] using e⟩
      | some hs =>
        rw [q2] at ih
        obtain ⟨o4', e⟩ := ih
        exact ⟨o4', by simpa [b0] using e⟩
@[simp] theorem isBl_ok {a b : Bool} : isBlD (.bl a) (.bl b) S = .ok (.bl (decide (a = b))) S := rfl
theorem house_tt (c : Sy K h cs) {hs : List Hand} {bs : List Way} (kH : okHo (some hs)) (kB : okBo (some bs)) : F_is_house K [D.tup [D.tup (hs.map encP), D.tup (bs.map encB)]] S = .ok (.bl (houseB hs bs)) S := by
  have a := house_ok (S := S) c kH kB
  rw [show encHo (some hs) = D.tup (hs.map encP) from rfl, show encBo (some bs) = D.tup (bs.map encB) from rfl, show houseO (some hs) (some bs) = houseB hs bs from rfl] at a
  exact a
theorem lrP_size {y : Str} {x : Hand} (hy : y.length ≤ 50000) (h : lrP y = some x) : okP x := by
  unfold lrP at h
  split at h
  · rename_i a b e
    cases h
    have la : a.length ≤ y.length := part_len (x := y) (c := 58) (by rw [e]; simp)
    have lb : b.length ≤ y.length := part_len (x := y) (c := 58) (by rw [e]; simp)
    refine ⟨by show a.length ≤ 100000; omega, ?_⟩
    show (if b = "-" then [] else Txt.split b (one 44)).length ≤ 100000
    split
    · exact Nat.zero_le _
    · have := cut_len b 44; omega
  · cases h
theorem lrB_size {y : Str} {x : Way} (hy : y.length ≤ 50000) (h : lrB y = some x) : okW x := by
  unfold lrB at h
  split at h
  · rename_i a b e
    cases h
    have la : a.length ≤ y.length := part_len (x := y) (c := 62) (by rw [e]; simp)
    have lb : b.length ≤ y.length := part_len (x := y) (c := 62) (by rw [e]; simp)
    exact ⟨by show a.length ≤ 100000; omega, by show b.length ≤ 100000; omega⟩
  · cases h
theorem law_home_in_ok (c : Sy K h cs) {w : Str} (hw : tiny w) : ∃ G, F_law_home_in K [.str w] S = .ok (encOp encHH (rdH w)) (S ++ G) := by
  rw [rd_lr]
  have hs : w.length + 2 ≤ sizeLine := by have : w.length ≤ 50000 := hw; rw [sizeLine_eq]; omega
  have e0 : ∀ S, splitD (.str w) [.str (one 47)] S = _ := fun S => split_ap (S := S) hs
  unfold F_law_home_in lrH
  rw [s_slash, s_semi]
  change ∃ G, defM 7 (sSeq _ (sSeq _ (sSeq _ (sSeq (sFor _ _ b1) (sSeq (sFor _ _ b2) _))))) _ _ = _
  rcases q : Txt.split w (one 47) with _ | ⟨x, _ | ⟨y, _ | ⟨d, r⟩⟩⟩
  · exact absurd q (cut_ne w 47)
  · exact ⟨[], by simp [e0, q, encOp]⟩
  · have lx : x.length ≤ w.length := part_len (x := w) (c := 47) (by rw [q]; simp)
    have ly : y.length ≤ w.length := part_len (x := w) (c := 47) (by rw [q]; simp)
    have ex : ∀ S, splitD (.str x) [.str (one 59)] S = _ := fun S => split_ap (S := S) (show x.length + 2 ≤ sizeLine by omega)
    have ey : ∀ S, splitD (.str y) [.str (one 59)] S = _ := fun S => split_ap (S := S) (show y.length + 2 ≤ sizeLine by omega)
    have cx := cut_len x 59
    have cy := cut_len y 59
    have l1 := loop1 (S := S) (w := .str w) (xs := .lst [.str x, .str y]) (o6 := none) (Txt.split x (one 59)) [] none none (by simp; omega) (fun p hp => by have := part_len hp; show p.length ≤ 50000; have : w.length ≤ 50000 := hw; omega)
    cases q1 : mapO lrP (Txt.split x (one 59)) with
    | none =>
      rw [q1] at l1
      obtain ⟨A', e⟩ := l1
      refine ⟨[.lst A', .lst []], ?_⟩
      simp [e0, q, sPar, ex, e, encOp, q1]
    | some hs =>
      rw [q1] at l1
      obtain ⟨o4, o5, e⟩ := l1
      have kH : okHo (some hs) := fun a b => by
        cases b
        have lw : w.length ≤ 50000 := hw
        refine ⟨by rw [mapO_len q1]; show _ ≤ 100000; omega, fun p hp => ?_⟩
        obtain ⟨u, v1, v2⟩ := mapO_mem q1 hp
        have := part_len v1
        exact lrP_size (show u.length ≤ 50000 by omega) v2
      by_cases zy : y = "-"
      · subst zy
        have hh := fun S => house_tt (S := S) c kH (bs := []) (fun a b => by cases b; exact ⟨Nat.zero_le _, fun p hp => by cases hp⟩)
        simp only [List.map_nil] at hh
        have pz : partsO lrB "-" (one 59) = some [] := rfl
        refine ⟨[.lst (hs.map encP), .lst []], ?_⟩
        cases z : houseB hs [] <;> simp [e0, q, sPar, ex, e, q1, pz, forM_nil, hh, z, encOp, encHH]
      · have l2 := loop2 (S := S) (w := .str w) (xs := .lst [.str x, .str y]) (A := hs.map encP) (o5 := o5) (o6 := none) (Txt.split y (one 59)) [] o4 (by simp; omega) (fun p hp => by have := part_len hp; show p.length ≤ 50000; have : w.length ≤ 50000 := hw; omega)
        cases q2 : mapO lrB (Txt.split y (one 59)) with
        | none =>
          rw [q2] at l2
          obtain ⟨B', e'⟩ := l2
          refine ⟨[.lst (hs.map encP), .lst B'], ?_⟩
          have pz : partsO lrB y (one 59) = none := by unfold partsO; rw [if_neg zy, q2]
          simp [e0, q, sPar, ex, ey, e, e', q1, pz, zy, encOp]
        | some bs =>
          rw [q2] at l2
          obtain ⟨o4', e'⟩ := l2
          have pz : partsO lrB y (one 59) = some bs := by unfold partsO; rw [if_neg zy, q2]
          have kB : okBo (some bs) := fun a b => by
            cases b
            have lw : w.length ≤ 50000 := hw
            refine ⟨by rw [mapO_len q2]; show _ ≤ 100000; omega, fun p hp => ?_⟩
            obtain ⟨u, v1, v2⟩ := mapO_mem q2 hp
            have := part_len v1
            exact lrB_size (show u.length ≤ 50000 by omega) v2
          have hh := fun S => house_tt (S := S) c kH kB
          refine ⟨[.lst (hs.map encP), .lst (bs.map encB)], ?_⟩
          cases z : houseB hs bs <;> simp [e0, q, sPar, ex, ey, e, e', q1, pz, zy, hh, z, encOp, encHH]
  · have z : ¬ ((r.length : Int) + 1 + 1 + 1 = 2) := by omega
    exact ⟨[], by simp [e0, q, z, encOp]⟩
end
end K84
end
section
set_option Elab.async false
set_option linter.all false
set_option maxRecDepth 100000
set_option maxHeartbeats 1048576
namespace K84
open PySem PySem.Spec PySem.W PyProof.Rows L2 LamX He MM
section
variable {K : PySem.W.Frag} {h : Heap} {cs : List (Addr × Addr)} {S : Store}
/-! ### read, and what is due -/
def dueD : RdO → D
  | .told x => .tup [.str "told", encHH x]
  | .no k => .tup [.str "page", .int 0, .int k]
theorem law_read_due_ok (c : Sy K h cs) {t : Str} (ht : tiny t) : ∃ G, F_law_read_due K [.str t] S = .ok (dueD (rdO t)) (S ++ G) := by
  have hs : t.length + 2 ≤ sizeLine := by have : t.length ≤ 50000 := ht; rw [sizeLine_eq]; omega
  have e0 : ∀ S, splitD (.str t) [.str (one 32)] S = _ := fun S => split_ap (S := S) hs
  unfold F_law_read_due rdO
  rw [show ((" ") : Str) = one 32 from by decide]
  rcases q : Txt.split t (one 32) with _ | ⟨p, r⟩
  · exact absurd q (cut_ne t 32)
  · have hp : tiny p := Nat.le_trans (part_len (x := t) (c := 32) (by rw [q]; exact List.mem_cons_self)) ht
    obtain ⟨G, e1⟩ := law_home_in_ok (S := S) c hp
    refine ⟨G, ?_⟩
    cases z : rdH p with
    | none =>
      rw [z] at e1
      simp [e0, q, e1, z, encOp, dueD]
    | some x =>
      rw [z] at e1
      cases r with
      | nil => simp [e0, q, e1, z, encOp, dueD, encHH]
      | cons q' r' =>
        have z1 : (1 : Int) < (r'.length : Int) + 1 + 1 := by omega
        simp [e0, q, e1, z, encOp, dueD, encHH, z1]
theorem em1 (c : Sy K h cs) : PySem.W.exmOne K (.ref (ga K "NoText")) (.ref (ga K "MustError")) = some true := of_decide_eq_true (c.fact 79)
theorem xfT (c : Sy K h cs) : (xfB K (ga K "NoText") && excB K (ga K "NoText")) = true := c.fact 72
theorem ki0 (c : Sy K h cs) : PySem.W.kitOne K (.ref (ga K "NoText")) (.ref (ga K "LackError")) = some false := of_decide_eq_true (c.fact 80)
theorem ki1 (c : Sy K h cs) : PySem.W.kitOne K (.ref (ga K "NoText")) (.ref (ga K "NoMore")) = some false := of_decide_eq_true (c.fact 81)
theorem ki2 (c : Sy K h cs) : PySem.W.kitOne K (.ref (ga K "NoText")) (.ref (ga K "NoPaper")) = some false := of_decide_eq_true (c.fact 82)
theorem ki3 (c : Sy K h cs) : PySem.W.kitOne K (.ref (ga K "NoText")) (.ref (ga K "NoRow")) = some false := of_decide_eq_true (c.fact 83)
theorem ki4 (c : Sy K h cs) : PySem.W.kitOne K (.ref (ga K "NoText")) (.ref (ga K "NoRules")) = some false := of_decide_eq_true (c.fact 84)
theorem ki5 (c : Sy K h cs) : PySem.W.kitOne K (.ref (ga K "NoText")) (.ref (ga K "NoShowing")) = some false := of_decide_eq_true (c.fact 85)
theorem ki6 (c : Sy K h cs) : PySem.W.kitOne K (.ref (ga K "NoText")) (.ref (ga K "NoText")) = some true := of_decide_eq_true (c.fact 86)
theorem ki7 (c : Sy K h cs) : PySem.W.kitOne K (.ref (ga K "NoText")) (.type "ValueError") = some true := of_decide_eq_true (c.fact 87)
theorem fnd (c : Sy K h cs) : PySem.W.findIn K (.ref (ga K "NoText")) "line" = some none ∧ PySem.W.findIn K (.ref (ga K "NoText")) "word" = some none := by
  have e := ex_NoText c
  unfold exB at e
  simp only [Bool.and_eq_true, List.all_cons, decide_eq_true_eq] at e
  exact ⟨e.2.1.1, e.2.1.2.1⟩
@[simp] theorem isx_ap {C : Addr} {i : Nat} {f : Env' → M D} {δ : Env'} : isxM K C i f δ S = if (isExn δ[i]? && (xfB K C && excB K C)) = true then ((f δ).bind fun d => M.get ((kitD K C d).map D.bl)) S else .bad := by
  unfold isxM
  split <;> rfl
@[simp] theorem xf_ap {C : Addr} {i : Nat} {fs : List (Str × D)} {n : Str} {δ : Env'} : xfM K C fs i n δ S = if (isExn δ[i]? && (xfB K C && decide (PySem.W.findIn K (.ref C) n = some none))) = true then M.get (fs.lookup n) S else .bad := by
  unfold xfM
  split <;> rfl
theorem law_read_ok (c : Sy K h cs) {t : Str} (ht : tiny t) : ∃ G, F_law_read K [.str t] S = .ok (dueD (rdO t)) (S ++ G) := by
  obtain ⟨G, e⟩ := read_house_ok (S := S) c ht
  refine ⟨G, ?_⟩
  unfold F_law_read
  cases q : rdO t with
  | told x =>
    rw [q] at e
    simp [tryM, e, dueD, encHH]
  | no k =>
    rw [q] at e
    obtain ⟨f1, f2⟩ := fnd c
    have lk : List.lookup ("line" : Str) [(("word" : Str), D.int k), (("line" : Str), D.int 0)] = some (.int 0) := rfl
    have x1 := xfT c
    rw [Bool.and_eq_true] at x1
    simp [tryM, hdM, e, dueD, em1 c, exitX, inX, outX, unX, kitD, clsVs, clsV, PySem.W.kitAny, ki0 c, ki1 c, ki2 c, ki3 c, ki4 c, ki5 c, ki6 c, ki7 c, x1.1, x1.2, f1, f2, isExn, lk]
end
end K84
end
section
set_option Elab.async false
set_option linter.all false
set_option maxRecDepth 100000
set_option maxHeartbeats 1048576
namespace K84
open PySem PySem.Spec PySem.W PyProof.Rows L2 LamX He MM
/-! ### what is written, and what is read of it -/
def lw (c : Nat) (xs : List Str) : Str := if xs = [] then "-" else Str.join (one c) xs
def pw (p : Hand) : Str := p.1 ++ one 58 ++ lw 44 p.2
def bw (b : Way) : Str := b.1 ++ one 62 ++ b.2
def hword (hs : List Hand) (bs : List Way) : Str := Str.join (one 59) (hs.map pw) ++ one 47 ++ lw 59 (bs.map bw)
theorem two_join {y a b : Str} {c : Nat} (h : Txt.split y (one c) = [a, b]) : a ++ one c ++ b = y := by
  have e := cut_join y c
  rw [h] at e
  exact e
theorem pw_of {y : Str} {x : Hand} (h : lrP y = some x) : pw x = y := by
  unfold lrP at h
  split at h
  · rename_i a b e
    cases h
    have j := two_join e
    unfold pw lw
    dsimp only
    by_cases z : b = "-"
    · rw [if_pos z, if_pos rfl, ← z]; exact j
    · rw [if_neg z, if_neg (cut_ne b 44), cut_join]; exact j
  · cases h
theorem bw_of {y : Str} {x : Way} (h : lrB y = some x) : bw x = y := by
  unfold lrB at h
  split at h
  · rename_i a b e
    cases h
    exact two_join e
  · cases h
theorem mapO_back {α : Type} {rd : Str → Option α} {wr : α → Str} (hb : ∀ y x, rd y = some x → wr x = y) : ∀ {ps : List Str} {xs : List α}, mapO rd ps = some xs → xs.map wr = ps
  | [], xs, h => by cases h; rfl
  | p :: ps, xs, h => by
    unfold mapO at h
    split at h
    · rename_i a r h1 h2
      cases h
      rw [List.map_cons, hb p a h1, mapO_back hb h2]
    · cases h
theorem word_back {w : Str} {hs : List Hand} {bs : List Way} (h : rdH w = some (hs, bs)) : hword hs bs = w := by
  rw [rd_lr] at h
  unfold lrH at h
  split at h
  · rename_i p q e
    split at h
    · rename_i hs' bs' h1 h2
      split at h
      · cases h
        have a1 := mapO_back (wr := pw) (fun _ _ => pw_of) h1
        have j := two_join e
        unfold hword
        rw [a1, cut_join]
        have a2 : lw 59 (bs.map bw) = q := by
          unfold partsO at h2
          unfold lw
          split at h2
          · rename_i z; cases h2; rw [z]; rfl
          · have b1 := mapO_back (wr := bw) (fun _ _ => bw_of) h2
            rw [b1, if_neg (cut_ne q 59), cut_join]
        rw [a2]
        exact j
      · cases h
    · cases h
  · cases h
theorem cut_back {c : Nat} (hc : c < 256) {ps : List Str} (hne : ps ≠ []) (hp : ∀ p ∈ ps, ¬ has c p) : Txt.split (Str.join (one c) ps) (one c) = ps := by
  have := TL.split_join (y := one c) (s := c) (S := []) rfl (by simp [hc]) hne hp
  rwa [TL.join_eq] at this
theorem let_low {x : Str} {c : Nat} (h : letW x = true) (hc : c < 97) : ¬ has c x := by
  have e : ∀ y ∈ kl_LET_WORDS, (TL.tl y).all (fun z => decide (z ≥ 97)) = true := by decide
  intro hx
  have := List.all_eq_true.mp (e x (let_mem h)) c hx
  have := of_decide_eq_true this
  omega
theorem has_dash {c : Nat} (h : has c "-") : c = 45 := by
  have : c ∈ [45] := h
  simpa using this
theorem lw_has {c s : Nat} {xs : List Str} (h : has c (lw s xs)) : c = 45 ∨ c = s ∨ ∃ x ∈ xs, has c x := by
  unfold lw at h
  split at h
  · exact .inl (has_dash h)
  · exact .inr (has_join h)
theorem pw_has {c : Nat} {p : Hand} (hp : handB p = true) (h : has c (pw p)) (hc : c = 59 ∨ c = 47 ∨ c = 32) : False := by
  unfold handB at hp
  rw [Bool.and_eq_true] at hp
  unfold rulesB at hp
  rw [Bool.and_eq_true] at hp
  unfold pw at h
  rw [has_app, has_app, has_one] at h
  rcases h with (h | h) | h
  · exact word_has hp.1 (by omega) h
  · omega
  · rcases lw_has h with h | h | ⟨x, a, b⟩
    · omega
    · omega
    · exact let_low (List.all_eq_true.mp hp.2.1 x a) (by omega) b
theorem bw_has {c : Nat} {b : Way} (hb : wayB b = true) (h : has c (bw b)) (hc : c = 59 ∨ c = 47 ∨ c = 32) : False := by
  unfold wayB at hb
  rw [Bool.and_eq_true] at hb
  unfold bw at h
  rw [has_app, has_app, has_one] at h
  rcases h with (h | h) | h
  · exact word_has hb.1 (by omega) h
  · omega
  · exact word_has hb.2 (by omega) h
theorem cut_two {a b : Str} {c : Nat} (hc : c < 256) (ha : ¬ has c a) (hb : ¬ has c b) : Txt.split (a ++ one c ++ b) (one c) = [a, b] :=
  cut_back (ps := [a, b]) hc (by simp) (fun p hp => by
    rcases List.mem_cons.mp hp with h | h
    · exact h ▸ ha
    · rw [List.mem_singleton.mp h]; exact hb)
theorem lrP_pw {p : Hand} (hp : handB p = true) : lrP (pw p) = some p := by
  have hp0 := hp
  unfold handB at hp
  rw [Bool.and_eq_true] at hp
  unfold rulesB at hp
  rw [Bool.and_eq_true] at hp
  have hr := List.all_eq_true.mp hp.2.1
  unfold lrP pw
  rw [cut_two (by omega) (word_has hp.1 (by omega)) (fun h => by
    rcases lw_has h with h | h | ⟨x, a, b⟩
    · omega
    · omega
    · exact let_low (hr x a) (by omega) b)]
  dsimp only
  obtain ⟨n, rs⟩ := p
  unfold lw
  by_cases z : rs = []
  · subst z
    rw [if_pos rfl, if_pos rfl]
  · dsimp only
    rw [if_neg z, if_neg, cut_back (by omega) z fun x hx => let_low (hr x hx) (by omega)]
    intro e
    have : has 45 (Str.join (one 44) rs) := by rw [e]; exact List.mem_cons_self
    rcases has_join this with h | ⟨x, a, b⟩
    · omega
    · exact let_low (hr x a) (by omega) b
theorem lrB_bw {b : Way} (hb : wayB b = true) : lrB (bw b) = some b := by
  unfold wayB at hb
  rw [Bool.and_eq_true] at hb
  unfold lrB bw
  rw [cut_two (by omega) (word_has hb.1 (by omega)) (word_has hb.2 (by omega))]
theorem mapO_fwd {α : Type} {rd : Str → Option α} {wr : α → Str} {P : α → Bool} (h : ∀ x, P x = true → rd (wr x) = some x) : ∀ {xs : List α}, xs.all P = true → mapO rd (xs.map wr) = some xs
  | [], _ => rfl
  | x :: xs, hx => by
    rw [List.all_cons, Bool.and_eq_true] at hx
    rw [List.map_cons]
    unfold mapO
    rw [h x hx.1, mapO_fwd h hx.2]
theorem has_of_part {c s : Nat} : ∀ {ps : List Str} {p : Str}, p ∈ ps → has c p → has c (Str.join (one s) ps)
  | [q], p, hm, h => by rw [List.mem_singleton.mp hm] at h; exact h
  | q :: q2 :: r, p, hm, h => by
    rw [join_cons2, has_app, has_app]
    rcases (List.mem_cons.mp hm) with e | e
    · exact .inl (.inl (e ▸ h))
    · exact .inr (has_of_part e h)
theorem word_fwd {hs : List Hand} {bs : List Way} (h : houseB hs bs = true) : rdH (hword hs bs) = some (hs, bs) := by
  obtain ⟨g0, g1, g2⟩ := house_parts h
  have k1 := List.all_eq_true.mp g1
  have k2 := List.all_eq_true.mp g2
  rw [rd_lr]
  unfold lrH hword
  rw [cut_two (by omega) (fun h => by
    rcases has_join h with h | ⟨x, a, b⟩
    · omega
    · obtain ⟨p, u, v⟩ := List.mem_map.mp a
      exact pw_has (k1 p u) (v ▸ b) (by omega)) (fun h => by
    rcases lw_has h with h | h | ⟨x, a, b⟩
    · omega
    · omega
    · obtain ⟨p, u, v⟩ := List.mem_map.mp a
      exact bw_has (k2 p u) (v ▸ b) (by omega))]
  dsimp only
  rw [cut_back (by omega) (by simpa using g0) (fun x a => by
    obtain ⟨p, u, v⟩ := List.mem_map.mp a
    exact fun b => pw_has (k1 p u) (v ▸ b) (by omega)), mapO_fwd (P := handB) (fun x => lrP_pw) g1]
  have e : partsO lrB (lw 59 (bs.map bw)) (one 59) = some bs := by
    unfold partsO lw
    by_cases z : bs = []
    · subst z; rfl
    · have z2 : bs.map bw ≠ [] := by simpa using z
      rw [if_neg z2, if_neg, cut_back (by omega) z2 (fun x a => by
        obtain ⟨p, u, v⟩ := List.mem_map.mp a
        exact fun b => bw_has (k2 p u) (v ▸ b) (by omega)), mapO_fwd (P := wayB) (fun x => lrB_bw) g2]
      intro e
      obtain ⟨b, r⟩ : ∃ b, b ∈ bs := List.exists_mem_of_ne_nil _ z
      have hb : has 62 (bw b) := by unfold bw; rw [has_app, has_app, has_one]; exact .inl (.inr rfl)
      have : has 62 (Str.join (one 59) (bs.map bw)) := has_of_part (List.mem_map.mpr ⟨b, r, rfl⟩) hb
      rw [e] at this
      have := has_dash this
      omega
  rw [e]
  dsimp only
  rw [if_pos h]
end K84
end
section
set_option Elab.async false
set_option linter.all false
set_option maxRecDepth 100000
set_option maxHeartbeats 1048576
namespace K84
open PySem PySem.Spec PySem.W PyProof.Rows L2 LamX He MM
section
variable {K : PySem.W.Frag} {h : Heap} {cs : List (Addr × Addr)} {S : Store}
/-! ### the writers, walked -/
theorem app_len {a b : Str} : (a ++ b).length = a.length + b.length := by
  rw [TL.len_tl, TL.len_tl a, TL.len_tl b, TL.tl_append, List.length_append]
theorem join_sum (c : Nat) : ∀ (ps : List Str), (ps.map (·.length)).sum + ps.length ≤ (Str.join (one c) ps).length + 1
  | [] => by simp
  | [p] => by simp [Str.join]
  | p :: q :: r => by
    have ih := join_sum c (q :: r)
    rw [join_cons2, app_len, app_len]
    have : (one c).length = 1 := rfl
    simp only [List.map_cons, List.sum_cons, List.length_cons] at ih ⊢
    omega
theorem joinD_ok {c : Nat} {d : D} {ps : List Str} (hd : seqD S d = some (ps.map D.str)) (hs : (Str.join (one c) ps).length ≤ 60000) : joinD (.str (one c)) [d] S = .ok (.str (Str.join (one c) ps)) S := by
  have := join_sum c ps
  have e : (seqD S d).bind txts = some ps := by rw [hd]; exact txts_strs ps
  unfold joinD
  dsimp only
  rw [e]
  dsimp only
  rw [if_pos, TL.join_eq]
  have : (one c).length = 1 := rfl
  rw [this]
  omega
theorem listed_ok {c : Nat} {d : D} {ps : List Str} (hd : seqD S d = some (ps.map D.str)) (hv : varD (some d) S = .ok d S) (hl : lenD [d] S = .ok (.int ps.length) S) (hs : (lw c ps).length ≤ 60000) : F_listed_words K [d, .str (one c)] S = .ok (.str (lw c ps)) S := by
  unfold F_listed_words
  cases ps with
  | nil => simp [hv, hl, lw]
  | cons p r =>
    have : (lw c (p :: r)) = Str.join (one c) (p :: r) := by unfold lw; rw [if_neg (by simp)]
    rw [this] at hs ⊢
    have j := joinD_ok (S := S) hd hs
    have z : (0 : Int) < (r.length : Int) + 1 := by omega
    simp [hv, hl, j, z]
@[simp] theorem add_str {x y : Str} : addD (.str x) (.str y) S = if x.length + y.length ≤ sizeLine then .ok (.str (x ++ y)) S else .bad := rfl
theorem pw_len {p : Hand} : (pw p).length = p.1.length + 1 + (lw 44 p.2).length := by unfold pw; rw [app_len, app_len]; rfl
theorem bw_len {b : Way} : (bw b).length = b.1.length + 1 + b.2.length := by unfold bw; rw [app_len, app_len]; rfl
theorem hword_len {hs : List Hand} {bs : List Way} : (hword hs bs).length = (Str.join (one 59) (hs.map pw)).length + 1 + (lw 59 (bs.map bw)).length := by unfold hword; rw [app_len, app_len]; rfl
theorem lw_part {c : Nat} {ps : List Str} {p : Str} (h : p ∈ ps) : p.length ≤ (lw c ps).length := by
  unfold lw
  rw [if_neg (by rintro rfl; cases h)]
  exact join_len c h
theorem house_word_ok {hs : List Hand} {bs : List Way} (hl : tiny (hword hs bs)) (h1 : small hs.length) (h2 : small bs.length) : F_house_word K [encH hs bs] S = .ok (.str (hword hs bs)) S := by
  have hl' : (hword hs bs).length ≤ 50000 := hl
  rw [hword_len] at hl'
  have sz := sizeLine_eq
  unfold F_house_word
  rw [s_colon, s_comma, s_semi, s_slash, s_gt]
  have c1 : ∀ δ0 : Env', δ0 = [some (encH hs bs), some (encHs hs), some (encBs bs), none, none, none, none, none] → lcM (gT 2 (gsC (gN 4) (gsC (gN 5) gsN))) bYes (e2 addD (e2 addD (eVar 4) (eC (.str (one 58)))) (eCall (cM 2 (F_listed_words K)) (aCons (eVar 5) (aCons (eC (.str (one 44))) aNil)))) (wipeD δ0 [4, 5]) (hs.map encP) [] S = .ok (hs.map fun p => .str (pw p)) S := by
    intro δ0 hδ
    subst hδ
    rw [lc_mapE encP (fun p => D.str (pw p)) (small_le h1)]
    intro p hm
    have q : (pw p).length ≤ _ := join_len 59 (List.mem_map.mpr ⟨p, hm, rfl⟩)
    rw [pw_len] at q
    have l1 : F_listed_words K [encR p.2, .str (one 44)] S = .ok (.str (lw 44 p.2)) S := listed_ok rfl rfl (by simp) (by omega)
    have o : (one 58).length = 1 := rfl
    refine ⟨_, rfl, rfl, ?_⟩
    have z1 : p.1.length + 1 ≤ sizeLine := by omega
    have z2 : (p.1 ++ one 58).length + (lw 44 p.2).length ≤ sizeLine := by rw [app_len, o]; omega
    simp [wipeD, l1, o, z1, z2, pw]
  have c2 : ∀ δ0 : Env', δ0 = [some (encH hs bs), some (encHs hs), some (encBs bs), some (.lst (hs.map fun p => .str (pw p))), none, none, none, none] → lcM (gT 2 (gsC (gN 6) (gsC (gN 7) gsN))) bYes (e2 addD (e2 addD (eVar 6) (eC (.str (one 62)))) (eVar 7)) (wipeD δ0 [6, 7]) (bs.map encB) [] S = .ok (bs.map fun p => .str (bw p)) S := by
    intro δ0 hδ
    subst hδ
    rw [lc_mapE encB (fun p => D.str (bw p)) (small_le h2)]
    intro p hm
    have q : (bw p).length ≤ _ := lw_part (c := 59) (List.mem_map.mpr ⟨p, hm, rfl⟩)
    rw [bw_len] at q
    have o : (one 62).length = 1 := rfl
    refine ⟨_, rfl, rfl, ?_⟩
    have z1 : p.1.length + 1 ≤ sizeLine := by omega
    have z2 : (p.1 ++ one 62).length + p.2.length ≤ sizeLine := by rw [app_len, o]; omega
    simp [wipeD, o, z1, z2, bw]
  have d1 := c1 _ rfl
  have d2 := c2 _ rfl
  have e1 : hs.map (fun p => D.str (pw p)) = (hs.map pw).map D.str := by simp
  have e2' : bs.map (fun p => D.str (bw p)) = (bs.map bw).map D.str := by simp
  have j1 : joinD (.str (one 59)) [.lst (hs.map fun p => .str (pw p))] S = .ok (.str (Str.join (one 59) (hs.map pw))) S := by
    rw [e1]; exact joinD_ok rfl (by omega)
  have j2 : F_listed_words K [.lst (bs.map fun p => .str (bw p)), .str (one 59)] S = .ok (.str (lw 59 (bs.map bw))) S := by
    rw [e2']; exact listed_ok rfl rfl (by simp) (by omega)
  have o : (one 47).length = 1 := rfl
  have z1 : (Str.join (one 59) (hs.map pw)).length + 1 ≤ sizeLine := by omega
  have z2 : (Str.join (one 59) (hs.map pw) ++ one 47).length + (lw 59 (bs.map bw)).length ≤ sizeLine := by rw [app_len, o]; omega
  simp [d1, d2, j1, j2, o, z1, z2, hword, -List.map_map]
end
end K84
end
section
set_option Elab.async false
set_option linter.all false
set_option maxRecDepth 100000
set_option maxHeartbeats 1048576
namespace K84
open PySem PySem.Spec PySem.W PyProof.Rows L2 LamX He MM
section
variable {K : PySem.W.Frag} {h : Heap} {cs : List (Addr × Addr)} {S : Store}
theorem ne_T0 {rs : List Str} : neD (.tup (rs.map D.str)) (.tup []) S = .ok (.bl (!rs.isEmpty)) S := by
  have := depth_strs rs
  cases rs <;> simp [pOp, pd, pd0, pds0, pds_strs, shal, PyData.depth, PyData.depthAll, PyData.eqv, PyData.eqvAll] at this ⊢
theorem ne_L0 {rs : List Str} : neD (.lst (rs.map D.str)) (.lst []) S = .ok (.bl (!rs.isEmpty)) S := by
  have := depth_strs rs
  cases rs <;> simp [pOp, pd, pd0, pds0, pds_strs, shal, PyData.depth, PyData.depthAll, PyData.eqv, PyData.eqvAll] at this ⊢
theorem law_word_ok {hs : List Hand} {bs : List Way} (hl : tiny (hword hs bs)) (h1 : small hs.length) (h2 : small bs.length) : F_law_home_word K [encH hs bs] S = .ok (.str (hword hs bs)) S := by
  have hl' : (hword hs bs).length ≤ 50000 := hl
  rw [hword_len] at hl'
  have sz := sizeLine_eq
  unfold F_law_home_word
  rw [s_colon, s_comma, s_semi, s_slash, s_gt]
  have c1 : ∀ δ0 : Env', δ0 = [some (encH hs bs), none, none, none, none, none] → lcM (gT 2 (gsC (gN 3) (gsC (gN 4) gsN))) bYes (e2 addD (e2 addD (eVar 3) (eC (.str (one 58)))) (eIf (bTest (e2 neD (eVar 4) (eTup aNil))) (eM1 joinD (eC (.str (one 44))) (eVar 4)) (eC (.str "-")))) (wipeD δ0 [3, 4]) (hs.map encP) [] S = .ok (hs.map fun p => .str (pw p)) S := by
    intro δ0 hδ
    subst hδ
    rw [lc_mapE encP (fun p => D.str (pw p)) (small_le h1)]
    intro p hm
    have q : (pw p).length ≤ _ := join_len 59 (List.mem_map.mpr ⟨p, hm, rfl⟩)
    rw [pw_len] at q
    have o : (one 58).length = 1 := rfl
    refine ⟨_, rfl, rfl, ?_⟩
    have z1 : p.1.length + 1 ≤ sizeLine := by omega
    have z2 : (p.1 ++ one 58).length + (lw 44 p.2).length ≤ sizeLine := by rw [app_len, o]; omega
    obtain ⟨n, rs⟩ := p
    cases rs with
    | nil =>
      have q0 := ne_T0 (S := S) (rs := [])
      simp only [List.map_nil] at q0
      simp [lw] at z2
      simp [wipeD, o, z1, z2, pw, lw, q0, encR]
    | cons r rs =>
      have q0 := ne_T0 (S := S) (rs := r :: rs)
      simp only [List.map_cons] at q0
      have e : lw 44 (r :: rs) = Str.join (one 44) (r :: rs) := by unfold lw; rw [if_neg (by simp)]
      have j := joinD_ok (S := S) (c := 44) (d := encR (r :: rs)) (ps := r :: rs) rfl (by rw [← e]; dsimp only at q ⊢; omega)
      simp only [encR, List.map_cons] at j
      dsimp only at z1 z2
      rw [e] at z2
      simp [wipeD, o, z1, z2, pw, e, q0, j, encR]
  have c2 : ∀ δ0 : Env', δ0 = [some (encH hs bs), some (.lst (hs.map fun p => .str (pw p))), none, none, none, none] → lcM (gN 5) bYes (e2 addD (e2 addD (e2 ixD (eVar 5) (eC (.int 0))) (eC (.str (one 62)))) (e2 ixD (eVar 5) (eC (.int 1)))) (wipeD δ0 [5]) (bs.map encB) [] S = .ok (bs.map fun p => .str (bw p)) S := by
    intro δ0 hδ
    subst hδ
    rw [lc_mapE encB (fun p => D.str (bw p)) (small_le h2)]
    intro p hm
    have q : (bw p).length ≤ _ := lw_part (c := 59) (List.mem_map.mpr ⟨p, hm, rfl⟩)
    rw [bw_len] at q
    have o : (one 62).length = 1 := rfl
    refine ⟨_, rfl, rfl, ?_⟩
    have z1 : p.1.length + 1 ≤ sizeLine := by omega
    have z2 : (p.1 ++ one 62).length + p.2.length ≤ sizeLine := by rw [app_len, o]; omega
    have t0 : ixD (encB p) (.int 0) S = .ok (.str p.1) S := rfl
    have t1 : ixD (encB p) (.int 1) S = .ok (.str p.2) S := rfl
    simp [wipeD, o, z1, z2, bw, t0, t1]
  have d1 := c1 _ rfl
  have d2 := c2 _ rfl
  have i0 : ixD (encH hs bs) (.int 0) S = .ok (encHs hs) S := rfl
  have i1 : ixD (encH hs bs) (.int 1) S = .ok (encBs bs) S := rfl
  have e1 : hs.map (fun p => D.str (pw p)) = (hs.map pw).map D.str := by simp
  have e2' : bs.map (fun p => D.str (bw p)) = (bs.map bw).map D.str := by simp
  have j1 : joinD (.str (one 59)) [.lst (hs.map fun p => .str (pw p))] S = .ok (.str (Str.join (one 59) (hs.map pw))) S := by
    rw [e1]; exact joinD_ok rfl (by omega)
  have q0 : neD (.lst (bs.map fun p => .str (bw p))) (.lst []) S = .ok (.bl (!(bs.map bw).isEmpty)) S := by
    rw [e2']; exact ne_L0
  have o : (one 47).length = 1 := rfl
  have z1 : (Str.join (one 59) (hs.map pw)).length + 1 ≤ sizeLine := by omega
  have z2 : (Str.join (one 59) (hs.map pw) ++ one 47).length + (lw 59 (bs.map bw)).length ≤ sizeLine := by rw [app_len, o]; omega
  by_cases zb : bs = []
  · subst zb
    simp only [List.map_nil] at d2 q0
    simp [lw] at z2
    simp [d1, d2, j1, i0, i1, q0, o, z1, z2, hword, lw, -List.map_map]
  · have e : lw 59 (bs.map bw) = Str.join (one 59) (bs.map bw) := by unfold lw; rw [if_neg (by simpa using zb)]
    have j2 : joinD (.str (one 59)) [.lst (bs.map fun p => .str (bw p))] S = .ok (.str (lw 59 (bs.map bw))) S := by
      rw [e2', e]; exact joinD_ok rfl (by rw [← e]; omega)
    have k0 : (!(bs.map bw).isEmpty) = true := by simpa using zb
    rw [k0] at q0
    simp [d1, d2, j1, j2, i0, i1, q0, o, z1, z2, hword, -List.map_map]
end
end K84
end
section
set_option Elab.async false
set_option linter.all false
set_option maxRecDepth 100000
set_option maxHeartbeats 1048576
namespace K84
open PySem PySem.Spec PySem.W PyProof.Rows L2 LamX He MM
section
variable {K : PySem.W.Frag} {h : Heap} {cs : List (Addr × Addr)} {S R : Store}
/-! ### the law's feed -/
abbrev fd (ns : List Int) (a w k : Int) : SO := .lst [.lst (ns.map .int), .int a, .int w, .int k]
theorem feed_ok {ns : List Int} (hl : ns.length ≤ 63) : F_law_feed K [.frn (ns.map D.int)] S = .ok (.ref S.length) (S ++ [fd ns 0 0 0]) := by
  have e : slD (.frn (ns.map D.int)) none (some 63) S = .ok (.lst (ns.map D.int)) S := by
    have : cutL (ns.map D.int) none (some 63) = ns.map D.int := by
      unfold cutL
      rw [show (63 : Int) = ((63 : Nat) : Int) from rfl, HT.sIx_nat, HT.sIx_none, List.drop_zero, List.take_of_length_le]
      simp
      omega
    show Res.ok (D.lst (cutL (ns.map D.int) none (some 63))) S = _
    rw [this]
  unfold F_law_feed
  simp [e]
section
variable {ns : List Int} {a w k : Int}
@[simp] theorem ixf0 : ixD (.ref 0) (.int 0) (fd ns a w k :: R) = .ok (.lst (ns.map .int)) (fd ns a w k :: R) := rfl
@[simp] theorem ixf1 : ixD (.ref 0) (.int 1) (fd ns a w k :: R) = .ok (.int a) (fd ns a w k :: R) := rfl
@[simp] theorem ixf2 : ixD (.ref 0) (.int 2) (fd ns a w k :: R) = .ok (.int w) (fd ns a w k :: R) := rfl
@[simp] theorem ixf3 : ixD (.ref 0) (.int 3) (fd ns a w k :: R) = .ok (.int k) (fd ns a w k :: R) := rfl
@[simp] theorem sef1 {v : Int} : setLD (.ref 0) (.int 1) (.int v) (fd ns a w k :: R) = some (fd ns v w k :: R) := rfl
@[simp] theorem sef2 {v : Int} : setLD (.ref 0) (.int 2) (.int v) (fd ns a w k :: R) = some (fd ns a v k :: R) := rfl
@[simp] theorem sef3 {v : Int} : setLD (.ref 0) (.int 3) (.int v) (fd ns a w k :: R) = some (fd ns a w v :: R) := rfl
@[simp] theorem sSetL_ap {fe fo fi : Env' → M D} {δ : Env'} : sSetL fe fo fi δ S = (match fe δ S with | .ok v S1 => (match fo δ S1 with | .ok o S2 => (match fi δ S2 with | .ok i S3 => (match setLD o i v S3 with | some S' => .nx δ S' | none => .bad) | .exc C fs S3 => .exc C fs δ S3 | .bad => .bad) | .exc C fs S2 => .exc C fs δ S2 | .bad => .bad) | .exc C fs S1 => .exc C fs δ S1 | .bad => .bad) := by
  unfold sSetL
  rw [sE_ap]
  cases fe δ S with
  | ok v S1 =>
    dsimp only
    rw [sE_ap]
    cases fo δ S1 with
    | ok o S2 =>
      dsimp only
      rw [sE_ap]
      first
        | done
        | (cases fi δ S2 <;> rfl)
    | exc => rfl
    | bad => rfl
  | exc => rfl
  | bad => rfl
@[simp] theorem mod_ap {i j : Int} : modD (.int i) (.int j) S = if 0 < j then .ok (.int (i % j)) S else .bad := by simp [modD, iOp]
@[simp] theorem add_int {i j : Int} : addD (.int i) (.int j) S = .ok (.int (i + j)) S := rfl
@[simp] theorem fdv_ap {i j : Int} : fdivD (.int i) (.int j) S = if 0 < j ∧ j.natAbs.log2 < 9000 then .ok (.int (i / j)) S else .bad := by simp [fdivD, iOp]
@[simp] theorem mul_ap {i j : Int} : mulD (.int i) (.int j) S = if i.natAbs.log2 + j.natAbs.log2 < 1000000 then .ok (.int (i * j)) S else .bad := by simp [mulD, iOp]
@[simp] theorem pow_ap {i j : Int} : powD (.int i) (.int j) S = if 0 ≤ j ∧ j ≤ 1000000 ∧ i.natAbs < 2 ^ 64 then .ok (.int (i ^ j.toNat)) S else .bad := by simp [powD, iOp]
end
end
end K84
end
section
set_option Elab.async false
set_option linter.all false
set_option maxRecDepth 100000
set_option maxHeartbeats 1048576
namespace K84
open PySem PySem.Spec PySem.W PyProof.Rows L2 LamX He MM
section
variable {K : PySem.W.Frag} {S R : Store} {ns : List Int} {a w k : Int}
/-- the feed, as the draws keep it -/
def okF (ns : List Int) (a w k : Int) : Prop := ns.length ≤ 63 ∧ 0 ≤ a ∧ 0 ≤ w ∧ 0 ≤ k
theorem log_small {b : Int} (h : b.natAbs < 2 ^ 64) : b.natAbs.log2 < 64 := by
  by_cases z : b.natAbs = 0
  · rw [z]; decide
  · exact (Nat.log2_lt z).mpr h
def b3 : SM := (sSeq (sAsg (e2 modD (e2 powD (e2 addD (e2 addD (e2 modD (eVar 4) (eC (.int 1000003))) (e2 mulD (eC (.int 613)) (e2 ixD (eVar 0) (eC (.int 3))))) (eC (.int 17))) (eC (.int 5))) (eC (.int 2147483647))) (gN 5))
    (sRet (e2 modD (e2 fdivD (e2 modD (e2 powD (e2 addD (eVar 5) (e2 mulD (eC (.int 4099)) (e2 ixD (eVar 0) (eC (.int 3))))) (eC (.int 5))) (eC (.int 2147483587))) (eC (.int 7))) (eVar 1))))
theorem b3_ok {b v c : Int} (h4 : 0 ≤ k) (hk : k ≤ 100001) (hb : 0 < b) : ∃ r, b3 [some (.ref 0), some (.int b), none, some (.int c), some (.int v), none] (fd ns a w k :: R) = .rt (.int r) (fd ns a w k :: R) ∧ 0 ≤ r ∧ r < b := by
  have m0 : 0 ≤ v % 1000003 := Int.emod_nonneg _ (by omega)
  have m1 : v % 1000003 < 1000003 := Int.emod_lt_of_pos _ (by omega)
  have lk := log_small (b := k) (by omega)
  have l1 : Nat.log2 613 + k.natAbs.log2 < 1000000 := by have := log_small (b := 613) (by decide); simp at this; omega
  have l2 : Nat.log2 4099 + k.natAbs.log2 < 1000000 := by have := log_small (b := 4099) (by decide); simp at this; omega
  have p1 : (v % 1000003 + 613 * k + 17).natAbs < 2 ^ 64 := by omega
  have n0 : 0 ≤ (v % 1000003 + 613 * k + 17) ^ 5 % 2147483647 := Int.emod_nonneg _ (by omega)
  have n1 : (v % 1000003 + 613 * k + 17) ^ 5 % 2147483647 < 2147483647 := Int.emod_lt_of_pos _ (by omega)
  have p2 : ((v % 1000003 + 613 * k + 17) ^ 5 % 2147483647 + 4099 * k).natAbs < 2 ^ 64 := by omega
  have l3 : Nat.log2 7 < 9000 := by have := log_small (b := 7) (by decide); simp at this; omega
  refine ⟨_, ?_, Int.emod_nonneg (((v % 1000003 + 613 * k + 17) ^ 5 % 2147483647 + 4099 * k) ^ 5 % 2147483587 / 7) (by omega), Int.emod_lt_of_pos _ hb⟩
  unfold b3
  simp at p1 p2
  simp [l1, l2, l3, p1, p2, hb]
theorem draw_ok {b : Int} (hF : okF ns a w k) (hk : k ≤ 100000) (hb : 0 < b) (hb2 : b ≤ 100000) : ∃ a' w' k' r, F_law_draw K [.ref 0, .int b] (fd ns a w k :: R) = .ok (.int r) (fd ns a' w' k' :: R) ∧ 0 ≤ r ∧ r < b ∧ okF ns a' w' k' ∧ k' ≤ k + 1 := by
  obtain ⟨h1, h2, h3, h4⟩ := hF
  have lb : b.natAbs.log2 < 9000 := by have := log_small (b := b) (by omega); omega
  unfold F_law_draw
  by_cases z : 0 < w
  · refine ⟨a, w / b, k, w % b, ?_, Int.emod_nonneg _ (by omega), Int.emod_lt_of_pos _ hb, ⟨h1, h2, Int.ediv_nonneg h3 (by omega), h4⟩, by omega⟩
    simp [z, hb, lb]
  · obtain ⟨v, hv⟩ : ∃ v : Int, ∀ S, ((if 0 < ns.length then ixD (.lst (ns.map D.int)) (.int (a % (ns.length : Int))) S else Res.ok (.int 0) S) : Res D) = .ok (.int v) S := by
      by_cases q : 0 < ns.length
      · have g1 : 0 ≤ a % (ns.length : Int) := Int.emod_nonneg _ (by omega)
        have g2 : a % (ns.length : Int) < ns.length := Int.emod_lt_of_pos _ (by omega)
        have e : atI (ns.map D.int) (a % (ns.length : Int)) = some (.int (ns[(a % (ns.length : Int)).toNat]'(by omega))) := by
          simp [atI, ixN, g1, g2]
        refine ⟨ns[(a % (ns.length : Int)).toNat]'(by omega), fun S => ?_⟩
        rw [if_pos q]
        unfold ixD
        simp [e]
      · exact ⟨0, fun S => by rw [if_neg q]⟩
    obtain ⟨r, e3, r1, r2⟩ := b3_ok (R := R) (ns := ns) (a := a + 1) (w := w) (k := k + 1) (b := b) (v := v) (c := a) (by omega) (by omega) hb
    change ∃ a' w' k' r, defM 6 (sSeq _ (sSeq _ (sSeq _ (sSeq _ (sSeq _ (sSeq _ b3)))))) _ _ = _ ∧ _
    have fin : okF ns (a + 1) w (k + 1) := ⟨h1, by omega, h3, by omega⟩
    by_cases q : 0 < ns.length
    · simp only [if_pos q] at hv
      by_cases g : v < 1000000000000000000
      · refine ⟨a + 1, w, k + 1, r, ?_, r1, r2, fin, by omega⟩
        simp [z, q, hv, g, e3]
      · by_cases g2 : a < (ns.length : Int)
        · refine ⟨a + 1, v / b, k + 1, v % b, ?_, Int.emod_nonneg _ (by omega), Int.emod_lt_of_pos _ hb, ⟨h1, by omega, Int.ediv_nonneg (by omega) (by omega), by omega⟩, by omega⟩
          simp [z, q, hv, g, g2, hb, lb]
        · refine ⟨a + 1, w, k + 1, r, ?_, r1, r2, fin, by omega⟩
          simp [z, q, hv, g, g2, e3]
    · simp only [if_neg q] at hv
      have v0 : v = 0 := by have := hv []; simpa using this.symm
      subst v0
      refine ⟨a + 1, w, k + 1, r, ?_, r1, r2, fin, by omega⟩
      simp [z, q, e3]
end
end K84
end
section
set_option Elab.async false
set_option linter.all false
set_option maxRecDepth 100000
set_option maxHeartbeats 1048576
namespace K84
open PySem PySem.Spec PySem.W PyProof.Rows L2 LamX He MM
section
variable {K : PySem.W.Frag} {S R : Store} {ns : List Int} {a w k : Int}
/-! ### a bent page -/
theorem join_sum_eq (c : Nat) : ∀ {ps : List Str}, ps ≠ [] → (Str.join (one c) ps).length + 1 = (ps.map (·.length)).sum + ps.length
  | [], h => absurd rfl h
  | [p], _ => by simp [Str.join]
  | p :: q :: r, _ => by
    have ih := join_sum_eq c (ps := q :: r) (by simp)
    rw [join_cons2, app_len, app_len]
    have : (one c).length = 1 := rfl
    simp only [List.map_cons, List.sum_cons, List.length_cons] at ih ⊢
    omega
theorem rev_len (t : Str) (c : Nat) : (Str.join (one c) (Txt.split t (one c)).reverse).length = t.length := by
  have e1 := join_sum_eq c (cut_ne t c)
  have e2 := join_sum_eq c (ps := (Txt.split t (one c)).reverse) (by simpa using cut_ne t c)
  rw [cut_join] at e1
  rw [List.map_reverse, List.sum_reverse, List.length_reverse] at e2
  omega
@[simp] theorem sl_str {z : Str} {lo hi : Option Int} : slD (.str z) lo hi S = if z.length ≤ sizeLine then .ok (.str (cutS z lo hi)) S else .bad := rfl
@[simp] theorem oSome_ap {f : Env' → M D} {δ : Env'} : oSome f δ S = ((f δ).bind fun d => (MM.isInt d).bind fun i => M.pure (some i)) S := rfl
@[simp] theorem isInt_ap {i : Int} : MM.isInt (.int i) S = .ok i S := rfl
@[simp] theorem rev_ap {xs : List D} : revD (.lst xs) S = .ok (.lst xs.reverse) S := rfl
theorem sign_at : ∀ n : Fin 15, (atI ("h:,;/>-k onself" : Str).cps.toList ((n.val : Nat) : Int)).isSome = true := by decide
theorem sign_ok {i : Int} (h0 : 0 ≤ i) (h1 : i < 15) : ∃ x : Str, x.length = 1 ∧ ∀ S, ixD (.str "h:,;/>-k onself") (.int i) S = .ok (.str x) S := by
  obtain ⟨n, rfl⟩ := (Int.eq_ofNat_of_zero_le h0)
  have q := sign_at ⟨n, by omega⟩
  obtain ⟨z, e⟩ := Option.isSome_iff_exists.mp q
  refine ⟨⟨#[z]⟩, rfl, fun S => ?_⟩
  have l : ("h:,;/>-k onself" : Str).length ≤ sizeLine := by decide
  show (if ("h:,;/>-k onself" : Str).length ≤ sizeLine then (match atI ("h:,;/>-k onself" : Str).cps.toList ((n : Nat) : Int) with | some c => Res.ok (D.str ⟨#[c]⟩) S | none => .bad) else .bad) = _
  rw [if_pos l, e]
theorem bent_ok {t : Str} (hF : okF ns a w k) (hk : k ≤ 90000) (ht : t.length ≤ 20000) : ∃ a' w' k' t', F_law_bent_word K [.ref 0, .str t] (fd ns a w k :: R) = .ok (.str t') (fd ns a' w' k' :: R) ∧ t'.length ≤ 2 * t.length + 1 ∧ okF ns a' w' k' ∧ k' ≤ k + 4 := by
  have sz := sizeLine_eq
  obtain ⟨a1, w1, k1, r1, d1, l1, u1, f1, g1⟩ := draw_ok (K := K) (R := R) (b := (t.length : Int) + 1) hF (by omega) (by omega) (by omega)
  obtain ⟨a2, w2, k2, r2, d2, l2, u2, f2, g2⟩ := draw_ok (K := K) (R := R) (b := 6) f1 (by omega) (by omega) (by omega)
  obtain ⟨a3, w3, k3, r3, d3, l3, u3, f3, g3⟩ := draw_ok (K := K) (R := R) (b := 15) f2 (by omega) (by omega) (by omega)
  obtain ⟨a4, w4, k4, r4, d4, l4, u4, f4, g4⟩ := draw_ok (K := K) (R := R) (b := 3) f3 (by omega) (by omega) (by omega)
  obtain ⟨x, lx, sx⟩ := sign_ok l3 u3
  have tl : t.length ≤ sizeLine := by omega
  have c1 := cutS_length t none (some r1)
  have c2 := cutS_length t (some (r1 + 1)) none
  have c3 := cutS_length t (some r1) none
  have s1 : ∀ S, splitD (.str t) [.str (one 47)] S = _ := fun S => split_ap (S := S) (by omega)
  have s2 : ∀ S, splitD (.str t) [.str (one 59)] S = _ := fun S => split_ap (S := S) (by omega)
  unfold F_law_bent_word
  rw [s_slash, s_semi]
  have eA : ∀ {y : Str}, (y ++ x).length = y.length + 1 := by intro y; rw [app_len, lx]
  have j1 : ∀ S, joinD (.str (one 47)) [.lst (((Txt.split t (one 47)).map D.str).reverse)] S = .ok (.str (Str.join (one 47) (Txt.split t (one 47)).reverse)) S := fun S => joinD_ok (by rw [← List.map_reverse]; rfl) (by rw [rev_len]; omega)
  have j2 : ∀ S, joinD (.str (one 59)) [.lst (((Txt.split t (one 59)).map D.str).reverse)] S = .ok (.str (Str.join (one 59) (Txt.split t (one 59)).reverse)) S := fun S => joinD_ok (by rw [← List.map_reverse]; rfl) (by rw [rev_len]; omega)
  have b1 : (cutS t none (some r1)).length + (cutS t (some (r1 + 1)) none).length ≤ sizeLine := by omega
  have b2 : (cutS t none (some r1)).length + x.length ≤ sizeLine := by omega
  have b3 : (cutS t none (some r1) ++ x).length + (cutS t (some (r1 + 1)) none).length ≤ sizeLine := by rw [eA]; omega
  have b4 : (cutS t none (some r1) ++ x).length + (cutS t (some r1) none).length ≤ sizeLine := by rw [eA]; omega
  have ls : ((" ") : Str).length = 1 := rfl
  have b5 : t.length + ((" ") : Str).length ≤ sizeLine := by rw [ls]; omega
  have b6 : (t ++ ((" ") : Str)).length + t.length ≤ sizeLine := by rw [app_len, ls]; omega
  by_cases k0 : r2 = 0
  · subst k0
    refine ⟨a3, w3, k3, cutS t none (some r1) ++ cutS t (some (r1 + 1)) none, ?_, by rw [app_len]; omega, f3, by omega⟩
    simp [sPar, tl, d1, d2, d3, sx, b1]
  by_cases k1' : r2 = 1
  · subst k1'
    refine ⟨a3, w3, k3, cutS t none (some r1) ++ x ++ cutS t (some (r1 + 1)) none, ?_, by rw [app_len, eA]; omega, f3, by omega⟩
    simp [sPar, tl, d1, d2, d3, sx, b2, b3]
  by_cases k2' : r2 = 2
  · subst k2'
    refine ⟨a3, w3, k3, _, ?_, by rw [rev_len t 47]; omega, f3, by omega⟩
    simp [sPar, tl, d1, d2, d3, sx, s1, j1]
  by_cases k3' : r2 = 3
  · subst k3'
    refine ⟨a3, w3, k3, _, ?_, by rw [rev_len t 59]; omega, f3, by omega⟩
    simp [sPar, tl, d1, d2, d3, sx, s2, j2]
  by_cases k4' : r2 = 4
  · subst k4'
    by_cases k5 : r4 = 0
    · subst k5
      refine ⟨a4, w4, k4, t ++ " " ++ t, ?_, by rw [app_len, app_len, ls]; omega, f4, by omega⟩
      simp [sPar, tl, d1, d2, d3, d4, sx, b5, b6]
    · refine ⟨a4, w4, k4, cutS t none (some r1) ++ x ++ cutS t (some r1) none, ?_, by rw [app_len, eA]; omega, f4, by omega⟩
      simp [sPar, tl, d1, d2, d3, d4, sx, k5, b2, b4]
  · refine ⟨a3, w3, k3, cutS t none (some r1) ++ x ++ cutS t (some r1) none, ?_, by rw [app_len, eA]; omega, f3, by omega⟩
    simp [sPar, tl, d1, d2, d3, sx, k0, k1', k2', k3', k4', b2, b4]
end
end K84
end
section
set_option Elab.async false
set_option linter.all false
set_option maxRecDepth 100000
set_option maxHeartbeats 1048576
namespace K84
open PySem PySem.Spec PySem.W PyProof.Rows L2 LamX He MM
section
variable {K : PySem.W.Frag} {h : Heap} {cs : List (Addr × Addr)} {S R : Store} {ns : List Int} {a w k : Int}
/-! ### drawn houses: the names, the rules -/
def prodL (fs : List Str) : List Way := fs.flatMap fun x => (fs.filter fun y => !(y == x)).map fun y => (x, y)
def pairB {α : Type} (lt : α → α → Bool) : List α → Bool
  | [] => true
  | x :: xs => xs.all (lt x) && pairB lt xs
theorem pairB_of {α : Type} {lt : α → α → Bool} : ∀ {xs : List α}, pairB lt xs = true → xs.Pairwise fun x y => lt x y = true
  | [], _ => .nil
  | x :: xs, h => by
    unfold pairB at h
    rw [Bool.and_eq_true, List.all_eq_true] at h
    exact .cons h.1 (pairB_of h.2)
theorem ris_of {α : Type} {lt : α → α → Bool} : ∀ {xs : List α}, (xs.Pairwise fun x y => lt x y = true) → risB lt xs = true
  | [], _ => rfl
  | [x], _ => rfl
  | x :: y :: r, h => by
    cases h with
    | cons h1 h2 =>
      have := ris_of h2
      unfold risB at this ⊢
      simp only [List.tail_cons, List.zip_cons_cons, List.all_cons, Bool.and_eq_true] at this ⊢
      exact ⟨h1 y List.mem_cons_self, this⟩
/-- names of a drawn house -/
def folkB (fs : List Str) : Bool := (decide (fs.length ≤ 3) && !fs.isEmpty) && (fs.all wordB && (risB ltS fs && (pairB ltW (prodL fs) && decide ((prodL fs).length ≤ 6))))
def menuL : List (List Str) := [[], ["self"], ["on"], ["on", "self"], ["back"], ["on", "round"], ["ends", "on"], ["step"], ["back", "on", "self"], ["on", "self", "step"], ["back", "on", "round", "self", "step"]]
theorem menu_good : menuL.all (fun rs => rulesB rs && ((barD rs).isNone && (decide (rs.length ≤ 5) && decide ((lw 44 rs).length ≤ 30)))) = true := by kernel_rfl
theorem menu_rules {rs : List Str} (h : rs ∈ menuL) : rulesB rs = true ∧ barD rs = none ∧ rs.length ≤ 5 ∧ (lw 44 rs).length ≤ 30 := by
  have := List.all_eq_true.mp menu_good rs h
  simp only [Bool.and_eq_true, decide_eq_true_eq, Option.isNone_iff_eq_none] at this
  exact ⟨this.1, this.2.1, this.2.2.1, this.2.2.2⟩
theorem folk_parts {fs : List Str} (h : folkB fs = true) : fs.length ≤ 3 ∧ fs ≠ [] ∧ fs.all wordB = true ∧ risB ltS fs = true ∧ pairB ltW (prodL fs) = true ∧ (prodL fs).length ≤ 6 := by
  unfold folkB at h
  simp only [Bool.and_eq_true, decide_eq_true_eq, Bool.not_eq_true', List.isEmpty_eq_false_iff] at h
  exact ⟨h.1.1, h.1.2, h.2.1, h.2.2.1, h.2.2.2.1, h.2.2.2.2⟩
theorem prod_mem {fs : List Str} {b : Way} (h : b ∈ prodL fs) : b.1 ∈ fs ∧ b.2 ∈ fs ∧ b.1 ≠ b.2 := by
  unfold prodL at h
  obtain ⟨x, h1, h2⟩ := List.mem_flatMap.mp h
  obtain ⟨y, h3, rfl⟩ := List.mem_map.mp h2
  have := List.mem_filter.mp h3
  refine ⟨h1, this.1, fun e => ?_⟩
  have z := this.2
  simp only [Bool.not_eq_true', beq_eq_false_iff_ne] at z
  exact z e.symm
theorem inN_of {x : Str} {ns : List Str} (h : x ∈ ns) : inN x ns = true := by
  unfold inN inP
  dsimp only
  rw [List.any_eq_true]
  exact ⟨.str x, List.mem_map.mpr ⟨x, h, rfl⟩, by simp [PyData.eqv]⟩
/-- a drawn house is let -/
theorem drawn_house {fs : List Str} {hs : List Hand} {bs : List Way} (hf : folkB fs = true) (h1 : hs.map (·.1) = fs) (h2 : ∀ p ∈ hs, p.2 ∈ menuL) (h3 : bs.Sublist (prodL fs)) : houseB hs bs = true := by
  obtain ⟨f1, f2, f3, f4, f5, f6⟩ := folk_parts hf
  have hne : hs ≠ [] := by rintro rfl; exact f2 h1.symm
  have hw : ∀ p ∈ hs, wordB p.1 = true := fun p hp => List.all_eq_true.mp f3 p.1 (by rw [← h1]; exact List.mem_map.mpr ⟨p, hp, rfl⟩)
  have hb : ∀ b ∈ bs, b.1 ∈ fs ∧ b.2 ∈ fs ∧ b.1 ≠ b.2 := fun b hb => prod_mem (h3.subset hb)
  unfold houseB handsB waysB
  simp only [Bool.and_eq_true, Bool.not_eq_true', List.isEmpty_eq_false_iff, List.all_eq_true]
  refine ⟨⟨⟨hne, fun p hp => ?_, by rw [h1]; exact f4⟩, fun b hm => ?_, ris_of ((pairB_of f5).sublist h3)⟩, fun p hp => ?_, fun b hm => ?_⟩
  · unfold handB
    rw [Bool.and_eq_true]
    exact ⟨hw p hp, (menu_rules (h2 p hp)).1⟩
  · unfold wayB
    rw [Bool.and_eq_true]
    exact ⟨List.all_eq_true.mp f3 _ (hb b hm).1, List.all_eq_true.mp f3 _ (hb b hm).2.1⟩
  · rw [(menu_rules (h2 p hp)).2.1]; rfl
  · unfold wayIn
    rw [h1, inN_of (hb b hm).1, inN_of (hb b hm).2.1]
    simpa using (hb b hm).2.2
theorem word_len {x : Str} (h : wordB x = true) : x.length ≤ 8 := by
  unfold wordB at h
  simp only [decide_eq_true_eq, Bool.and_eq_true] at h
  exact h.1.2
theorem sum_le {α : Type} {f : α → Nat} {m : Nat} : ∀ {xs : List α}, (∀ x ∈ xs, f x ≤ m) → (xs.map f).sum ≤ xs.length * m
  | [], _ => by simp
  | x :: xs, h => by
    have := sum_le (f := f) (m := m) (xs := xs) fun y hy => h y (List.mem_cons_of_mem _ hy)
    have := h x List.mem_cons_self
    simp only [Nat.one_mul, Nat.add_mul, List.length_cons, List.sum_cons, List.map_cons]
    omega
theorem join_le {c m : Nat} {ps : List Str} (h : ∀ p ∈ ps, p.length ≤ m) : (Str.join (one c) ps).length ≤ ps.length * m + ps.length := by
  by_cases z : ps = []
  · subst z; exact Nat.zero_le _
  · have e := join_sum_eq c z
    have := sum_le (f := fun x : Str => x.length) h
    omega
theorem drawn_size {fs : List Str} {hs : List Hand} {bs : List Way} (hf : folkB fs = true) (h1 : hs.map (·.1) = fs) (h2 : ∀ p ∈ hs, p.2 ∈ menuL) (h3 : bs.Sublist (prodL fs)) : (hword hs bs).length ≤ 300 ∧ hs.length ≤ 3 ∧ bs.length ≤ 6 := by
  obtain ⟨f1, f2, f3, f4, f5, f6⟩ := folk_parts hf
  have l1 : hs.length ≤ 3 := by rw [← h1, List.length_map] at f1; exact f1
  have l2 : bs.length ≤ 6 := Nat.le_trans h3.length_le f6
  refine ⟨?_, l1, l2⟩
  have hw : ∀ p ∈ hs, p.1.length ≤ 8 := fun p hp => word_len (List.all_eq_true.mp f3 p.1 (by rw [← h1]; exact List.mem_map.mpr ⟨p, hp, rfl⟩))
  have hb : ∀ b ∈ bs, b.1.length ≤ 8 ∧ b.2.length ≤ 8 := fun b hb => ⟨word_len (List.all_eq_true.mp f3 _ (prod_mem (h3.subset hb)).1), word_len (List.all_eq_true.mp f3 _ (prod_mem (h3.subset hb)).2.1)⟩
  have j1 := join_le (c := 59) (ps := hs.map pw) (m := 39) fun x hx => by
    obtain ⟨p, hp, rfl⟩ := List.mem_map.mp hx
    rw [pw_len]
    have := hw p hp
    have := (menu_rules (h2 p hp)).2.2.2
    omega
  have j2 : (lw 59 (bs.map bw)).length ≤ 120 := by
    unfold lw
    split
    · decide
    · have := join_le (c := 59) (ps := bs.map bw) (m := 17) fun x hx => by
        obtain ⟨p, hp, rfl⟩ := List.mem_map.mp hx
        rw [bw_len]
        have := hb p hp
        omega
      rw [List.length_map] at this
      omega
  rw [hword_len]
  rw [List.length_map] at j1
  omega
end
end K84
end
section
set_option Elab.async false
set_option linter.all false
set_option maxRecDepth 100000
set_option maxHeartbeats 1048576
namespace K84
open PySem PySem.Spec PySem.W PyProof.Rows L2 LamX He MM
section
variable {K : PySem.W.Frag} {h : Heap} {cs : List (Addr × Addr)} {S R : Store} {ns : List Int} {a w k : Int}
/-! ### a house with any bridges, walked -/
section
variable {α : Type} {a b c : α} {le : α → α → Bool}
theorem so2 (h : le a b = true) : [a, b].mergeSort le = [a, b] := by simp [List.mergeSort, List.MergeSort.Internal.splitInTwo, List.merge, h]
theorem so2' (h : le a b = false) : [a, b].mergeSort le = [b, a] := by simp [List.mergeSort, List.MergeSort.Internal.splitInTwo, List.merge, h]
theorem so3 (h : le a b = true) (h2 : le a c = true) (h3 : le b c = true) : [a, b, c].mergeSort le = [a, b, c] := by simp [List.mergeSort, List.MergeSort.Internal.splitInTwo, List.merge, h, h2, h3]
theorem so3' (h : le a b = true) (h2 : le a c = false) : [a, b, c].mergeSort le = [c, a, b] := by simp [List.mergeSort, List.MergeSort.Internal.splitInTwo, List.merge, h, h2]
theorem so3'' (h : le a b = false) (h2 : le b c = true) (h3 : le a c = false) : [a, b, c].mergeSort le = [b, c, a] := by simp [List.mergeSort, List.MergeSort.Internal.splitInTwo, List.merge, h, h2, h3]
end
abbrev nP (x : Str) : D × PyData := (.str x, .str x)
theorem so_D {d : D} {xs : List Str} {ys : List Str} (hd : seqD S d = some (xs.map D.str)) (ho : sortOk (xs.map PyData.str) = true) (he : (xs.map nP).mergeSort (dataLe false (·.2)) = ys.map nP) : sortD [d] S = .ok (.lst (ys.map D.str)) S := by
  unfold sortD
  dsimp only
  rw [hd]
  dsimp only
  rw [pds_strs]
  dsimp only
  rw [if_pos ho]
  unfold sortL
  rw [show (xs.map D.str).zip (xs.map PyData.str) = xs.map nP from by rw [List.zip_map, List.zip_eq_zipWith, List.zipWith_self, List.map_map]; rfl, he, List.map_map]
  rfl
theorem folk_ok : ∀ (d e : Nat), d < 4 → e < 3 → ∃ fs, folkB fs = true ∧ ∀ S, sortD [.lst (cutL (cutL [D.str "h", .str "k", .str "m", .str "zzzzzzzz", .str "a", .str "book"] (some (d : Int)) none) none (some (1 + (e : Int))))] S = .ok (.lst (fs.map D.str)) S
  | 0, 0, _, _ => ⟨["h"], by kernel_rfl, fun S => so_D (xs := ["h"]) (ys := ["h"]) (by kernel_rfl) (by kernel_rfl) (List.mergeSort_singleton _)⟩
  | 0, 1, _, _ => ⟨["h", "k"], by kernel_rfl, fun S => so_D (xs := ["h", "k"]) (ys := ["h", "k"]) (by kernel_rfl) (by kernel_rfl) (so2 (by kernel_rfl))⟩
  | 0, 2, _, _ => ⟨["h", "k", "m"], by kernel_rfl, fun S => so_D (xs := ["h", "k", "m"]) (ys := ["h", "k", "m"]) (by kernel_rfl) (by kernel_rfl) (so3 (by kernel_rfl) (by kernel_rfl) (by kernel_rfl))⟩
  | 1, 0, _, _ => ⟨["k"], by kernel_rfl, fun S => so_D (xs := ["k"]) (ys := ["k"]) (by kernel_rfl) (by kernel_rfl) (List.mergeSort_singleton _)⟩
  | 1, 1, _, _ => ⟨["k", "m"], by kernel_rfl, fun S => so_D (xs := ["k", "m"]) (ys := ["k", "m"]) (by kernel_rfl) (by kernel_rfl) (so2 (by kernel_rfl))⟩
  | 1, 2, _, _ => ⟨["k", "m", "zzzzzzzz"], by kernel_rfl, fun S => so_D (xs := ["k", "m", "zzzzzzzz"]) (ys := ["k", "m", "zzzzzzzz"]) (by kernel_rfl) (by kernel_rfl) (so3 (by kernel_rfl) (by kernel_rfl) (by kernel_rfl))⟩
  | 2, 0, _, _ => ⟨["m"], by kernel_rfl, fun S => so_D (xs := ["m"]) (ys := ["m"]) (by kernel_rfl) (by kernel_rfl) (List.mergeSort_singleton _)⟩
  | 2, 1, _, _ => ⟨["m", "zzzzzzzz"], by kernel_rfl, fun S => so_D (xs := ["m", "zzzzzzzz"]) (ys := ["m", "zzzzzzzz"]) (by kernel_rfl) (by kernel_rfl) (so2 (by kernel_rfl))⟩
  | 2, 2, _, _ => ⟨["a", "m", "zzzzzzzz"], by kernel_rfl, fun S => so_D (xs := ["m", "zzzzzzzz", "a"]) (ys := ["a", "m", "zzzzzzzz"]) (by kernel_rfl) (by kernel_rfl) (so3' (by kernel_rfl) (by kernel_rfl))⟩
  | 3, 0, _, _ => ⟨["zzzzzzzz"], by kernel_rfl, fun S => so_D (xs := ["zzzzzzzz"]) (ys := ["zzzzzzzz"]) (by kernel_rfl) (by kernel_rfl) (List.mergeSort_singleton _)⟩
  | 3, 1, _, _ => ⟨["a", "zzzzzzzz"], by kernel_rfl, fun S => so_D (xs := ["zzzzzzzz", "a"]) (ys := ["a", "zzzzzzzz"]) (by kernel_rfl) (by kernel_rfl) (so2' (by kernel_rfl))⟩
  | 3, 2, _, _ => ⟨["a", "book", "zzzzzzzz"], by kernel_rfl, fun S => so_D (xs := ["zzzzzzzz", "a", "book"]) (ys := ["a", "book", "zzzzzzzz"]) (by kernel_rfl) (by kernel_rfl) (so3'' (by kernel_rfl) (by kernel_rfl) (by kernel_rfl))⟩
  | d + 4, _, h, _ => absurd h (by omega)
  | 0, e + 3, _, h => absurd h (by omega)
  | 1, e + 3, _, h => absurd h (by omega)
  | 2, e + 3, _, h => absurd h (by omega)
  | 3, e + 3, _, h => absurd h (by omega)
theorem ix_map {α : Type} {f : α → D} {xs : List α} {i : Int} (h0 : 0 ≤ i) (h1 : i < xs.length) : ∃ x ∈ xs, ∀ S, ixD (.lst (xs.map f)) (.int i) S = .ok (f x) S := by
  obtain ⟨n, rfl⟩ := (Int.eq_ofNat_of_zero_le h0)
  have hn : n < xs.length := by omega
  refine ⟨xs[n], List.getElem_mem hn, fun S => ?_⟩
  have e : atI (xs.map f) ((n : Nat) : Int) = some (f xs[n]) := by
    simp [atI, ixN, hn]
  unfold ixD
  simp [e]
section
variable {A B : List D} {y : D} {f : SO}
@[simp] theorem isl_f0 : isLst (.ref (R.length + 1)) (f :: (R ++ [.lst A, .lst B])) = .ok () (f :: (R ++ [.lst A, .lst B])) := isl_0 (S := f :: R)
@[simp] theorem isl_f1 : isLst (.ref (R.length + 1 + 1)) (f :: (R ++ [.lst A, .lst B])) = .ok () (f :: (R ++ [.lst A, .lst B])) := isl_1 (S := f :: R)
@[simp] theorem app_f0 : appD (.ref (R.length + 1)) [y] (f :: (R ++ [.lst A, .lst B])) = if A.length < sizeLine then .ok .non (f :: (R ++ [.lst (A ++ [y]), .lst B])) else .bad := app_0 (S := f :: R)
theorem two_f1 : (f :: (R ++ [.lst A, .lst B]))[R.length + 1 + 1]? = some (.lst B) := two_1 (S := f :: R)
@[simp] theorem ext_f1 {ys : List D} : extD (.ref (R.length + 1 + 1)) [.lst ys] (f :: (R ++ [.lst A, .lst B])) = if B.length + ys.length ≤ sizeLine then .ok .non (f :: (R ++ [.lst A, .lst (B ++ ys)])) else .bad := by
  unfold extD
  dsimp only
  rw [two_f1]
  dsimp only [lstD]
  simp
@[simp] theorem tup_f0 : tupD [.ref (R.length + 1)] (f :: (R ++ [.lst A, .lst B])) = .ok (.tup A) (f :: (R ++ [.lst A, .lst B])) := tup_0 (S := f :: R)
@[simp] theorem tup_f1 : tupD [.ref (R.length + 1 + 1)] (f :: (R ++ [.lst A, .lst B])) = .ok (.tup B) (f :: (R ++ [.lst A, .lst B])) := tup_1 (S := f :: R)
end
def tI : Env' → M Bool := bAnd (bTest (e2 neD (eVar 6) (eVar 5))) (bTest (e2 eqD (eCall (cM 2 (F_law_draw K)) (aCons (eVar 0) (aCons (eC (.int 5)) aNil))) (eC (.int 0))))
theorem inner {M F X3 X4 : D} {who : Str} : ∀ (ms : List Str) (acc : List D) (a w k : Int), okF ns a w k → k + ms.length ≤ 90000 → acc.length + ms.length ≤ 1000 → ∃ (a' w' k' : Int) (sel : List Str), sel.Sublist (ms.filter fun y => !(y == who)) ∧
    lcM (gN 6) (tI (K := K)) (eTup (aCons (eVar 5) (aCons (eVar 6) aNil))) [some (.ref 0), some M, some F, some X3, some X4, some (.str who), none] (ms.map D.str) acc (fd ns a w k :: R) = .ok (acc ++ sel.map fun m => encB (who, m)) (fd ns a' w' k' :: R) ∧ okF ns a' w' k' ∧ k' ≤ k + ms.length
  | [], acc, a, w, k, h1, h2, h3 => ⟨a, w, k, [], .slnil, by simp [lcM], h1, by simp⟩
  | y :: ms, acc, a, w, k, h1, h2, h3 => by
    have sz := sizeLine_eq
    simp only [List.length_cons] at h2 h3
    by_cases c : y = who
    · obtain ⟨a', w', k', sel, e1, e2, e3, e4⟩ := inner (M := M) (F := F) (X3 := X3) (X4 := X4) (who := who) ms acc a w k h1 (by omega) (by omega)
      refine ⟨a', w', k', sel, by simpa [c] using e1, ?_, e3, by simp; omega⟩
      rw [List.map_cons]
      unfold lcM
      subst c
      simpa [tI] using e2
    · obtain ⟨a1, w1, k1, r, d1, l1, u1, f1, g1⟩ := draw_ok (K := K) (R := R) (b := 5) h1 (by omega) (by omega) (by omega)
      by_cases z : r = 0
      · obtain ⟨a', w', k', sel, e1, e2, e3, e4⟩ := inner (M := M) (F := F) (X3 := X3) (X4 := X4) (who := who) ms (acc ++ [encB (who, y)]) a1 w1 k1 f1 (by omega) (by simp; omega)
        refine ⟨a', w', k', y :: sel, by simpa [c] using e1, ?_, e3, by simp; omega⟩
        rw [List.map_cons]
        unfold lcM
        subst z
        have sl : acc.length < sizeLine := by omega
        simpa [tI, c, d1, sl] using e2
      · obtain ⟨a', w', k', sel, e1, e2, e3, e4⟩ := inner (M := M) (F := F) (X3 := X3) (X4 := X4) (who := who) ms acc a1 w1 k1 f1 (by omega) (by omega)
        refine ⟨a', w', k', sel, by simpa [c] using e1.cons y, ?_, e3, by simp; omega⟩
        rw [List.map_cons]
        unfold lcM
        have z' : (r == 0) = false := by simpa using z
        simpa [tI, c, d1, z'] using e2
def bA : SM := (sSeq (sDrop (eLM appD (eVar 3) (aCons (eTup (aCons (eVar 5) (aCons (e2 ixD (eVar 1) (eCall (cM 2 (F_law_draw K)) (aCons (eVar 0) (aCons (eC (.int 11)) aNil)))) aNil))) aNil)))
    (sDrop (eLM extD (eVar 4) (aCons (eLc (iSeq (eVar 2)) (gN 6) (tI (K := K)) (eTup (aCons (eVar 5) (aCons (eVar 6) aNil))) [6]) aNil))))
theorem outer {fs : List Str} (hl : fs.length ≤ 3) : ∀ (ps : List Str) (A B : List D) (a w k : Int) (o5 : Option D), okF ns a w k → k + ps.length * 4 ≤ 90000 → A.length + ps.length ≤ 1000 → B.length + ps.length * 3 ≤ 1000 → ∃ (a' w' k' : Int) (hs : List Hand) (sel : List Way) (o5' : Option D), hs.map (·.1) = ps ∧ (∀ p ∈ hs, p.2 ∈ menuL) ∧ sel.Sublist (ps.flatMap fun x => (fs.filter fun y => !(y == x)).map fun y => (x, y)) ∧
    forM (gN 5) (bA (K := K)) (ps.map D.str) [some (.ref 0), some (.lst (menuL.map encR)), some (.lst (fs.map D.str)), some (.ref (R.length + 1)), some (.ref (R.length + 1 + 1)), o5, none] (fd ns a w k :: (R ++ [.lst A, .lst B])) = .nx [some (.ref 0), some (.lst (menuL.map encR)), some (.lst (fs.map D.str)), some (.ref (R.length + 1)), some (.ref (R.length + 1 + 1)), o5', none] (fd ns a' w' k' :: (R ++ [.lst (A ++ hs.map encP), .lst (B ++ sel.map encB)])) ∧ okF ns a' w' k' ∧ k' ≤ k + ps.length * 4
  | [], A, B, a, w, k, o5, h1, h2, h3, h4 => ⟨a, w, k, [], [], o5, rfl, by simp, .slnil, by simp [forM_nil], h1, by simp⟩
  | x :: ps, A, B, a, w, k, o5, h1, h2, h3, h4 => by
    have sz := sizeLine_eq
    simp only [List.length_cons] at h2 h3 h4
    obtain ⟨a1, w1, k1, r, d1, l1, u1, f1, g1⟩ := draw_ok (K := K) (R := R ++ [.lst A, .lst B]) (b := 11) h1 (by omega) (by omega) (by omega)
    obtain ⟨rs, m1, m2⟩ := ix_map (f := encR) (xs := menuL) l1 (by show r < 11; exact u1)
    obtain ⟨a2, w2, k2, sel, e1, e2, e3, e4⟩ := inner (K := K) (R := R ++ [.lst (A ++ [encP (x, rs)]), .lst B]) (M := .lst (menuL.map encR)) (F := .lst (fs.map D.str)) (X3 := .ref (R.length + 1)) (X4 := .ref (R.length + 1 + 1)) (who := x) fs [] a1 w1 k1 f1 (by omega) (by simp; omega)
    have ls : sel.length ≤ 3 := Nat.le_trans e1.length_le (Nat.le_trans (List.length_filter_le _ _) hl)
    obtain ⟨a3, w3, k3, hs, sel2, o5', q1, q2, q3, q4, q5, q6⟩ := outer hl ps (A ++ [encP (x, rs)]) (B ++ sel.map fun m => encB (x, m)) a2 w2 k2 (some (.str x)) e3 (by omega) (by simp; omega) (by simp; omega)
    refine ⟨a3, w3, k3, (x, rs) :: hs, (sel.map fun m => (x, m)) ++ sel2, o5', by simp [q1], ?_, ?_, ?_, q5, by simp; omega⟩
    · intro p hp
      rcases (List.mem_cons.mp hp) with e | e
      · rw [e]; exact m1
      · exact q2 p e
    · rw [List.flatMap_cons]
      exact (e1.map _).append q3
    · rw [List.map_cons, forM_cons]
      have sA : A.length < sizeLine := by omega
      have sB : B.length + sel.length ≤ sizeLine := by omega
      have e2' : lcM (gN 6) (tI (K := K)) (eTup (aCons (eVar 5) (aCons (eVar 6) aNil))) (wipeD [some (.ref 0), some (.lst (menuL.map encR)), some (.lst (fs.map D.str)), some (.ref (R.length + 1)), some (.ref (R.length + 1 + 1)), some (.str x), none] [6]) (fs.map D.str) [] (fd ns a1 w1 k1 :: (R ++ [.lst (A ++ [encP (x, rs)]), .lst B])) = _ := e2
      have bb : bA (K := K) [some (.ref 0), some (.lst (menuL.map encR)), some (.lst (fs.map D.str)), some (.ref (R.length + 1)), some (.ref (R.length + 1 + 1)), some (.str x), none] (fd ns a w k :: (R ++ [.lst A, .lst B])) = .nx [some (.ref 0), some (.lst (menuL.map encR)), some (.lst (fs.map D.str)), some (.ref (R.length + 1)), some (.ref (R.length + 1 + 1)), some (.str x), none] (fd ns a2 w2 k2 :: (R ++ [.lst (A ++ [encP (x, rs)]), .lst (B ++ sel.map fun m => encB (x, m))])) := by
        unfold bA
        simp [d1, m2, sA, e2', sB, -List.map_map]
      have bt : gN 5 (.str x) [some (.ref 0), some (.lst (menuL.map encR)), some (.lst (fs.map D.str)), some (.ref (R.length + 1)), some (.ref (R.length + 1 + 1)), o5, none] = some [some (.ref 0), some (.lst (menuL.map encR)), some (.lst (fs.map D.str)), some (.ref (R.length + 1)), some (.ref (R.length + 1 + 1)), some (.str x), none] := rfl
      rw [bt]
      dsimp only
      rw [bb]
      dsimp only
      rw [q4]
      simp
theorem any_home_ok (hF : okF ns a w k) (hk : k ≤ 80000) : ∃ (a' w' k' : Int) (fs : List Str) (hs : List Hand) (bs : List Way) (G : Store), folkB fs = true ∧ hs.map (·.1) = fs ∧ (∀ p ∈ hs, p.2 ∈ menuL) ∧ bs.Sublist (prodL fs) ∧ F_law_any_home K [.ref 0] (fd ns a w k :: R) = .ok (encH hs bs) (fd ns a' w' k' :: (R ++ G)) ∧ okF ns a' w' k' ∧ k' ≤ k + 14 := by
  have sz := sizeLine_eq
  obtain ⟨a1, w1, k1, r1, d1, l1, u1, f1, g1⟩ := draw_ok (K := K) (R := R) (b := 4) hF (by omega) (by omega) (by omega)
  obtain ⟨a2, w2, k2, r2, d2, l2, u2, f2, g2⟩ := draw_ok (K := K) (R := R) (b := 3) f1 (by omega) (by omega) (by omega)
  obtain ⟨fs, hf, hs⟩ := folk_ok r1.toNat r2.toNat (by omega) (by omega)
  rw [show ((r1.toNat : Nat) : Int) = r1 from Int.toNat_of_nonneg l1, show ((r2.toNat : Nat) : Int) = r2 from Int.toNat_of_nonneg l2] at hs
  have fl := (folk_parts hf).1
  obtain ⟨a3, w3, k3, hs', sel, o5', q1, q2, q3, q4, q5, q6⟩ := outer (K := K) (R := R) (ns := ns) fl fs [] [] a2 w2 k2 none f2 (by omega) (by simp; omega) (by simp; omega)
  refine ⟨a3, w3, k3, fs, hs', sel, [.lst (hs'.map encP), .lst (sel.map encB)], hf, q1, q2, q3, ?_, q5, by omega⟩
  unfold F_law_any_home
  change defM 7 (sSeq _ (sSeq _ (sSeq _ (sSeq _ (sSeq (sFor _ _ (bA (K := K))) _))))) _ _ = _
  have sl1 : ∀ (xs : List D) lo hi S, slD (.lst xs) lo hi S = .ok (.lst (cutL xs lo hi)) S := fun xs lo hi S => rfl
  have ad : ∀ (xs ys : List D) S, addD (.lst xs) (.lst ys) S = if xs.length + ys.length ≤ sizeLine then .ok (.lst (xs ++ ys)) S else .bad := fun xs ys S => rfl
  simp only [menuL, encR, List.map_cons, List.map_nil] at q4
  simp [sPar, sl1, ad, d1, d2, hs, q4]
end
end K84
end
section
set_option Elab.async false
set_option linter.all false
set_option maxRecDepth 100000
set_option maxHeartbeats 1048576
namespace K84
open PySem PySem.Spec PySem.W PyProof.Rows L2 LamX He MM
section
variable {K : PySem.W.Frag} {h : Heap} {cs : List (Addr × Addr)} {S R : Store}
/-! ### lets_draft -/
@[simp] theorem sRaise_ap {C : Addr} {fl : List Str} {fs : Env' → M (List D)} {δ : Env'} : sRaise C fl fs δ S = (match fs δ S with | .ok ds S1 => if ds.length = fl.length then .exc C (fl.zip ds).reverse δ S1 else .bad | .exc C' fs' S1 => .exc C' fs' δ S1 | .bad => .bad) := rfl
theorem need_ok {x y : D} : F_need_rules K [.bl true, x, y] S = .ok .non S := by unfold F_need_rules; simp
theorem need_no {x y : Str} : F_need_rules K [.bl false, .str x, .str y] S = .exc (ga K "NoRules") [("hand", .str y), ("word", .str x)] S := by unfold F_need_rules; simp
abbrev nrx (K : PySem.W.Frag) (S : Store) {α : Type} (r : Res α) : Prop := ∃ x y : Str, r = .exc (ga K "NoRules") [("hand", .str y), ("word", .str x)] S
abbrev nrs (K : PySem.W.Frag) (S : Store) (r : SR) : Prop := ∃ (x y : Str) (δ : Env'), r = .exc (ga K "NoRules") [("hand", .str y), ("word", .str x)] δ S
/-- the dict of rules -/
def dkv (hs : List Hand) : D := .dct (hs.map fun p => .inr p.1) (hs.map fun p => encR p.2)
theorem dkv_at {n : Str} : ∀ {hs : List Hand}, n ∈ hs.map (·.1) → ∃ rs, dlk (hs.map fun p => .inr p.1) (hs.map fun p => encR p.2) (.inr n) = some (encR rs)
  | [], h => by cases h
  | p :: hs, h => by
    by_cases c : p.1 = n
    · refine ⟨p.2, ?_⟩
      simp [dlk, c]
    · have h' : n ∈ hs.map (·.1) := by
        rcases (List.mem_cons.mp h) with e | e
        · exact absurd e.symm c
        · exact e
      obtain ⟨rs, e⟩ := dkv_at h'
      refine ⟨rs, ?_⟩
      simpa [dlk, c] using e
theorem get_dkv {hs : List Hand} {n : Str} (hn : n ∈ hs.map (·.1)) : ∃ rs, (∀ S, dGet (dkv hs) (.str n) S = .ok (encR rs) S) ∧ ∀ S, dIn (.str n) (dkv hs) S = .ok (.bl true) S := by
  obtain ⟨rs, e⟩ := dkv_at hn
  refine ⟨rs, fun S => ?_, fun S => ?_⟩
  · unfold dGet dkv
    dsimp only [MM.keyD, Option.bind_some]
    rw [e]
    rfl
  · unfold dIn dInP dkv
    dsimp only [MM.keyD, Option.map_some]
    rw [e]
    rfl
theorem lc_filtE {α : Type} {δ0 : Env'} {t : TgF} {tt : Env' → M Bool} {te : Env' → M D} (en : α → D) (p : α → Bool) (g : α → D) : ∀ {ys : List α} {acc : List D}, acc.length + ys.length ≤ sizeLine → (∀ y ∈ ys, ∃ δ1, t (en y) δ0 = some δ1 ∧ tt δ1 S = .ok (p y) S ∧ (p y = true → te δ1 S = .ok (g y) S)) →
    lcM t tt te δ0 (ys.map en) acc S = .ok (acc ++ (ys.filter p).map g) S
  | [], acc, _, _ => by simp [lcM]
  | x :: xs, acc, hl, h => by
    obtain ⟨δ1, h1, h2, h3⟩ := h x List.mem_cons_self
    rw [List.map_cons]
    unfold lcM
    rw [h1]
    dsimp only
    rw [h2]
    have hl' : acc.length + (xs.length + 1) ≤ sizeLine := hl
    cases q : p x with
    | true =>
      dsimp only
      rw [h3 q]
      dsimp only
      rw [if_pos (by omega), lc_filtE en p g (by simp; omega) fun y hy => h y (List.mem_cons_of_mem _ hy)]
      simp [List.filter_cons, q]
    | false =>
      dsimp only
      rw [lc_filtE en p g (by omega) fun y hy => h y (List.mem_cons_of_mem _ hy)]
      simp [List.filter_cons, q]
@[simp] theorem var_dkv {hs : List Hand} : varD (some (dkv hs)) S = .ok (dkv hs) S := rfl
theorem bridge_ok {hs : List Hand} {x y : Str} (hx : x ∈ hs.map (·.1)) (hy : y ∈ hs.map (·.1)) (hr : ∀ n rs, dGet (dkv hs) (.str n) S = .ok (encR rs) S → rs.length ≤ 1000) :
    (F_need_bridge K [dkv hs, .str x, .str y] S = .ok .non S ∧ x ≠ y) ∨ nrx K S (F_need_bridge K [dkv hs, .str x, .str y] S) := by
  obtain ⟨rx, gx, ix⟩ := get_dkv hx
  obtain ⟨ry, gy, iy⟩ := get_dkv hy
  have lry : ry.length ≤ sizeLine := by have := hr y ry (gy S); have := sizeLine_eq; omega
  have e : ∀ o3, lcM (gN 4) (bTest (e2 neD (eVar 4) (eC (.str "step")))) (e2 inD (eVar 4) (e2 dGet (eVar 0) (eVar 1))) (wipeD [some (dkv hs), some (.str x), some (.str y), o3, none] [4]) (ry.map D.str) [] S = .ok ((ry.filter fun r => !(r == ("step" : Str))).map fun r => .bl (inR r rx)) S := by
    intro o3
    rw [lc_filtE D.str (fun r => !(r == ("step" : Str))) (fun r => D.bl (inR r rx)) (by simpa using lry)]
    · rfl
    · intro r _
      refine ⟨_, rfl, by simp [wipeD], fun _ => by simp [wipeD, gx, in_R]⟩
  unfold F_need_bridge
  by_cases c : x = y
  · subst c
    refine .inr ⟨"same", x, ?_⟩
    simp [forM_cons, forM_nil, ix, need_ok, need_no]
  · have cb : (x == y) = false := by simpa using c
    cases q1 : inR "ends" rx with
    | true =>
      refine .inr ⟨"ends", x, ?_⟩
      simp [forM_cons, forM_nil, ix, iy, gx, gy, cb, nin_R, q1, need_ok, need_no]
    | false =>
      cases q2 : inR "ends" ry with
      | true =>
        refine .inr ⟨"ends", y, ?_⟩
        simp [forM_cons, forM_nil, ix, iy, gx, gy, cb, nin_R, q1, q2, need_ok, need_no]
      | false =>
        cases q3 : (ry.filter fun r => !(r == ("step" : Str))).all (fun r => inR r rx) with
        | true =>
          refine .inl ⟨?_, c⟩
          simp [forM_cons, forM_nil, ix, iy, gx, gy, cb, nin_R, q1, q2, e, q3, need_ok, need_no, -List.all_filter]
        | false =>
          refine .inr ⟨"rules", x, ?_⟩
          simp [forM_cons, forM_nil, ix, iy, gx, gy, cb, nin_R, q1, q2, e, q3, need_ok, need_no, -List.all_filter]
/-! ### bridged_from -/
abbrev two (S : Store) (A B : List Str) : Store := S ++ [.lst (A.map D.str), .lst (B.map D.str)]
section
variable {A B : List Str} {y : Str}
theorem pd_two0 : pd (two S A B) (.ref S.length) = some (.list (A.map PyData.str)) := by
  show (match (two S A B)[S.length]? with | some (.lst xs) => (pds0 xs).map PyData.list | _ => none) = _
  rw [two_0]
  dsimp only
  rw [pds_strs]
  rfl
theorem pd_two1 : pd (two S A B) (.ref (S.length + 1)) = some (.list (B.map PyData.str)) := by
  show (match (two S A B)[S.length + 1]? with | some (.lst xs) => (pds0 xs).map PyData.list | _ => none) = _
  rw [two_1]
  dsimp only
  rw [pds_strs]
  rfl
theorem ne_two1 : neD (.ref (S.length + 1)) (.lst []) (two S A B) = .ok (.bl (!B.isEmpty)) (two S A B) := by
  have := depth_strs B
  unfold neD pOp
  rw [pd_two1]
  cases B <;> simp [pd, pd0, pds0, shal, PyData.depth, PyData.depthAll, PyData.eqv, PyData.eqvAll] at this ⊢
theorem nin_two0 : ninD (.str y) (.ref S.length) (two S A B) = .ok (.bl (!inN y A)) (two S A B) := by
  unfold ninD pOp
  rw [pd_two0]
  simp [pd, pd0, inOk, PyData.depth, inN]
theorem pop_two1 : popD (.ref (S.length + 1)) [] (two S A (B ++ [y])) = .ok (.str y) (two S A B) := by
  unfold popD two
  dsimp only
  rw [two_1]
  dsimp only
  simp
theorem var_refS {n : Nat} : varD (some (.ref n)) S = .ok (.ref n) S := rfl
end
def left (fs found : List Str) : Nat := (fs.filter fun x => !inN x found).length
theorem inN_app {x y : Str} {A : List Str} : inN x (A ++ [y]) = (inN x A || (y == x)) := by
  unfold inN inP
  dsimp only
  rw [List.map_append, List.any_append]
  congr 1
  simp [PyData.eqv]
theorem left_le {found : List Str} {y : Str} : ∀ {fs : List Str}, left fs (found ++ [y]) ≤ left fs found
  | [] => Nat.le_refl _
  | x :: fs => by
    have ih := left_le (found := found) (y := y) (fs := fs)
    unfold left at ih ⊢
    rw [List.filter_cons, List.filter_cons, inN_app]
    cases q : inN x found <;> cases q2 : y == x <;> simp <;> omega
theorem left_lt {found : List Str} {y : Str} (hn : inN y found = false) : ∀ {fs : List Str}, y ∈ fs → left fs (found ++ [y]) + 1 ≤ left fs found
  | [], h => by cases h
  | x :: fs, h => by
    rcases (List.mem_cons.mp h) with e | e
    · subst e
      have ih := left_le (found := found) (y := y) (fs := fs)
      unfold left at ih ⊢
      rw [List.filter_cons, List.filter_cons, inN_app, hn]
      simp
      omega
    · have ih := left_lt hn e
      unfold left at ih ⊢
      rw [List.filter_cons, List.filter_cons, inN_app]
      cases q : inN x found <;> cases q2 : y == x <;> simp <;> omega
def bF : SM := (sIf (bAnd (bTest (e2 eqD (eVar 5) (eVar 4))) (bTest (e2 ninD (eVar 6) (eVar 2)))) (sSeq (sDrop (eLM appD (eVar 2) (aCons (eVar 6) aNil)))
    (sDrop (eLM appD (eVar 3) (aCons (eVar 6) aNil)))) sNext)
theorem bF_ok {d : D} {n z x y : Str} {A B : List Str} (hA : A.length ≤ 1000) (hB : B.length ≤ 1000) : ∃ ext : List Str, bF [some d, some (.str n), some (.ref S.length), some (.ref (S.length + 1)), some (.str z), some (.str x), some (.str y)] (two S A B) = .nx [some d, some (.str n), some (.ref S.length), some (.ref (S.length + 1)), some (.str z), some (.str x), some (.str y)] (two S (A ++ ext) (B ++ ext)) ∧ (ext = [] ∨ (ext = [y] ∧ inN y A = false)) := by
  have sz := sizeLine_eq
  have sA : A.length < sizeLine := by omega
  have sB : B.length < sizeLine := by omega
  by_cases c : x = z
  · cases q : inN y A with
    | true =>
      refine ⟨[], ?_, .inl rfl⟩
      unfold bF
      simp [c, nin_two0, q]
    | false =>
      refine ⟨[y], ?_, .inr ⟨rfl, rfl⟩⟩
      unfold bF
      simp [c, nin_two0, q, sA, sB]
  · refine ⟨[], ?_, .inl rfl⟩
    unfold bF
    simp [c]
theorem loopF {d : D} {n z : Str} {fs : List Str} : ∀ (bs : List Way) (A B : List Str) (o5 o6 : Option D), (∀ b ∈ bs, b.2 ∈ fs) → A.length + left fs A ≤ 1000 → B.length + left fs A ≤ 1000 → ∃ ext o5' o6', forM (gT 2 (gsC (gN 5) (gsC (gN 6) gsN))) bF (bs.map encB) [some d, some (.str n), some (.ref S.length), some (.ref (S.length + 1)), some (.str z), o5, o6] (two S A B) = .nx [some d, some (.str n), some (.ref S.length), some (.ref (S.length + 1)), some (.str z), o5', o6'] (two S (A ++ ext) (B ++ ext)) ∧ left fs (A ++ ext) + ext.length ≤ left fs A
  | [], A, B, o5, o6, _, _, _ => ⟨[], o5, o6, by simp [forM_nil], by simp⟩
  | b :: bs, A, B, o5, o6, hb, hA, hB => by
    obtain ⟨ext, e1, e2⟩ := bF_ok (S := S) (n := n) (d := d) (z := z) (x := b.1) (y := b.2) (A := A) (B := B) (by omega) (by omega)
    have k : left fs (A ++ ext) + ext.length ≤ left fs A := by
      rcases e2 with e | ⟨e, q⟩
      · subst e; simp
      · subst e
        exact left_lt q (hb b List.mem_cons_self)
    obtain ⟨ext2, o5', o6', e3, e4⟩ := loopF bs (A ++ ext) (B ++ ext) (some (.str b.1)) (some (.str b.2)) (fun y hy => hb y (List.mem_cons_of_mem _ hy)) (by simp; omega) (by simp; omega)
    refine ⟨ext ++ ext2, o5', o6', ?_, by rw [List.append_assoc] at e4; simp only [List.length_append]; omega⟩
    rw [List.map_cons, forM_cons]
    have bt : gT 2 (gsC (gN 5) (gsC (gN 6) gsN)) (encB b) [some d, some (.str n), some (.ref S.length), some (.ref (S.length + 1)), some (.str z), o5, o6] = some [some d, some (.str n), some (.ref S.length), some (.ref (S.length + 1)), some (.str z), some (.str b.1), some (.str b.2)] := rfl
    rw [bt]
    dsimp only
    rw [e1]
    dsimp only
    rw [e3, List.append_assoc, List.append_assoc]
theorem snoc_of {α : Type} {B : List α} (h : B ≠ []) : ∃ C y, B = C ++ [y] := ⟨B.dropLast, B.getLast h, (List.dropLast_concat_getLast h).symm⟩
theorem whileF {bs : List Way} {n : Str} {fs : List Str} (hb : ∀ b ∈ bs, b.2 ∈ fs) : ∀ (m : Nat) (A B : List Str) (o4 o5 o6 : Option D), B.length + left fs A < m → A.length + left fs A ≤ 900 → B.length + left fs A ≤ 900 → ∃ A' o4' o5' o6',
    whileM (bTest (e2 neD (eVar 3) (eLst aNil))) (sSeq (sAsg (eLM popD (eVar 3) aNil) (gN 4)) (sFor (iSeq (eVar 0)) (gT 2 (gsC (gN 5) (gsC (gN 6) gsN))) bF)) m [some (encBs bs), some (.str n), some (.ref S.length), some (.ref (S.length + 1)), o4, o5, o6] (two S A B) = .nx [some (encBs bs), some (.str n), some (.ref S.length), some (.ref (S.length + 1)), o4', o5', o6'] (two S A' [])
  | 0, A, B, o4, o5, o6, h, _, _ => absurd h (by omega)
  | m + 1, A, B, o4, o5, o6, h, hA, hB => by
    unfold whileM
    by_cases z : B = []
    · subst z
      exact ⟨A, o4, o5, o6, by simp [ne_two1]⟩
    · obtain ⟨C, y, rfl⟩ := snoc_of z
      simp only [List.length_append, List.length_singleton] at h hB
      obtain ⟨ext, o5', o6', e1, e2⟩ := loopF (S := S) (d := encBs bs) (n := n) (z := y) (fs := fs) bs A C o5 o6 hb (by omega) (by omega)
      obtain ⟨A', p4, p5, p6, e3⟩ := whileF (n := n) hb m (A ++ ext) (C ++ ext) (some (.str y)) o5' o6' (by simp; omega) (by simp; omega) (by simp; omega)
      refine ⟨A', p4, p5, p6, ?_⟩
      have ne : (C ++ [y]).isEmpty = false := by cases C <;> rfl
      have pp : popD (.ref (S.length + 1)) [] (S ++ [.lst (A.map D.str), .lst ((C ++ [y]).map D.str)]) = .ok (.str y) (two S A C) := pop_two1
      have il : isLst (.ref (S.length + 1)) (S ++ [.lst (A.map D.str), .lst ((C ++ [y]).map D.str)]) = .ok () (S ++ [.lst (A.map D.str), .lst ((C ++ [y]).map D.str)]) := isl_1
      have n1 := ne_two1 (S := S) (A := A) (B := C ++ [y])
      rw [ne] at n1
      simp [n1, pp, il, e1, e3, -List.map_append]
theorem bridged_ok {bs : List Way} {n : Str} {fs : List Str} (hb : ∀ b ∈ bs, b.2 ∈ fs) (hl : fs.length ≤ 3) : ∃ (found : List Str) (G : Store), F_bridged_from K [encBs bs, .str n] S = .ok (.lst (found.map D.str)) (S ++ G) := by
  have l0 : left fs [] ≤ 3 := Nat.le_trans (List.length_filter_le _ _) hl
  obtain ⟨A', o4, o5, o6, e⟩ := whileF (S := S) (n := n) hb 8 [] [n] none none none (by simp; omega) (by simp; omega) (by simp; omega)
  refine ⟨A', [.dead, .lst []], ?_⟩
  unfold F_bridged_from
  change defM 7 (sSeq _ (sSeq _ (sSeq (whileM _ (sSeq _ (sFor _ _ bF)) 8) _))) _ _ = _
  have fz : frzD (.ref S.length) (two S A' []) = .ok (.lst (A'.map D.str)) (S ++ [.dead, .lst []]) := by
    unfold frzD two
    dsimp only
    rw [two_0]
    dsimp only
    simp
  simp only [two, List.map_nil, List.map_cons] at e fz
  simp [e, fz]
end
end K84
end
section
set_option Elab.async false
set_option linter.all false
set_option maxRecDepth 100000
set_option maxHeartbeats 1048576
namespace K84
open PySem PySem.Spec PySem.W PyProof.Rows L2 LamX He MM
section
variable {K : PySem.W.Frag} {h : Heap} {cs : List (Addr × Addr)} {S R : Store}
theorem nin_N {x : Str} {ns : List Str} : ninD (.str x) (.lst (ns.map D.str)) S = .ok (.bl (!inN x ns)) S := by
  simp [pOp, pd, pd0, pds_strs, inOk, PyData.depth, inN]
@[simp] theorem eDc_ap {src : Env' → M (List D)} {t : TgF} {tt : Env' → M Bool} {tk te : Env' → M D} {own : List Nat} {δ : Env'} : eDc src t tt tk te own δ S = ((src δ).bind fun xs => (dcM t tt tk te (wipeD δ own) xs []).bind fun ys => M.pure (dctOf ys)) S := rfl
@[simp] theorem iKey_ap {f : Env' → M D} {δ : Env'} : iKeyM f δ S = ((f δ).bind keysD) S := rfl
abbrev kvP (p : Hand) : Key × D := (.inr p.1, encR p.2)
theorem dc_ok {d0 d1 d2 : Option D} : ∀ (hs : List Hand) (acc : List (Key × D)), (acc.map (·.1) ++ hs.map fun p => (.inr p.1 : Key)).Nodup → acc.length + hs.length ≤ 1000 →
    dcM (gT 2 (gsC (gN 4) (gsC (gN 5) gsN))) bYes (eVar 4) (eVar 5) [d0, d1, d2, none, none, none, none, none, none] (hs.map encP) acc S = .ok (acc ++ hs.map kvP) S
  | [], acc, _, _ => by simp [dcM]
  | p :: hs, acc, hn, hl => by
    have sz := sizeLine_eq
    simp only [List.length_cons] at hl
    rw [List.map_cons]
    unfold dcM
    have bt : gT 2 (gsC (gN 4) (gsC (gN 5) gsN)) (encP p) [d0, d1, d2, none, none, none, none, none, none] = some [d0, d1, d2, none, some (.str p.1), some (encR p.2), none, none, none] := rfl
    rw [bt]
    have ni : ∀ kv ∈ acc, ¬ (kv.1 = (.inr p.1 : Key)) := fun kv hk e => by
      have := (List.nodup_append.mp hn).2.2 kv.1 (List.mem_map.mpr ⟨kv, hk, rfl⟩) (.inr p.1) (by simp)
      exact this e
    have pe : putD acc (.inr p.1) (encR p.2) = acc ++ [kvP p] := by
      unfold putD
      rw [if_neg]
      simp only [List.any_eq_true, decide_eq_true_eq, not_exists, not_and]
      exact ni
    have ih := dc_ok (d0 := d0) (d1 := d1) (d2 := d2) hs (acc ++ [kvP p]) (by simpa using hn) (by simp; omega)
    have sl : acc.length < sizeLine := by omega
    simp [MM.keyD, sl, pe, ih]
theorem dct_kv {hs : List Hand} : dctOf (hs.map kvP) = dkv hs := by simp [dctOf, dkv]
theorem keys_kv {hs : List Hand} : keysD (dkv hs) S = .ok ((hs.map (·.1)).map D.str) S := by
  show Res.ok ((hs.map fun p => (.inr p.1 : Key)).map keyB) S = _
  iterate 2 rw [List.map_map]
  rfl
def L1 : SM := sSeq (sAsg (eCall (cM 1 (F_rules_bar K)) (aCons (eVar 5) aNil)) (gN 6)) (sDrop (eCall (cM 3 (F_need_rules K)) (aCons (e2 isNoneD (eVar 6) (eC .non)) (aCons (eVar 6) (aCons (eVar 4) aNil)))))
def L2b : SM := sDrop (eCall (cM 3 (F_need_bridge K)) (aCons (eVar 3) (aCons (eVar 7) (aCons (eVar 8) aNil))))
def L3 : SM := sDrop (eCall (cM 3 (F_need_rules K)) (aCons (e2 ninD (eVar 4) (eCall (cM 2 (F_bridged_from K)) (aCons (eVar 2) (aCons (eVar 4) aNil)))) (aCons (eC (.str "ring")) (aCons (eVar 4) aNil))))
theorem loopA {d0 d1 d2 d3 o7 o8 : Option D} : ∀ (ps : List Hand) (o4 o5 o6 : Option D), (∀ p ∈ ps, barD p.2 = none) → ∃ o4' o5' o6', forM (gT 2 (gsC (gN 4) (gsC (gN 5) gsN))) (L1 (K := K)) (ps.map encP) [d0, d1, d2, d3, o4, o5, o6, o7, o8] S = .nx [d0, d1, d2, d3, o4', o5', o6', o7, o8] S
  | [], o4, o5, o6, _ => ⟨o4, o5, o6, by simp [forM_nil]⟩
  | p :: ps, o4, o5, o6, hp => by
    obtain ⟨a, b, c, e⟩ := loopA (d0 := d0) (d1 := d1) (d2 := d2) (d3 := d3) (o7 := o7) (o8 := o8) ps (some (.str p.1)) (some (encR p.2)) (some .non) fun q hq => hp q (List.mem_cons_of_mem _ hq)
    refine ⟨a, b, c, ?_⟩
    rw [List.map_cons, forM_cons]
    have bt : gT 2 (gsC (gN 4) (gsC (gN 5) gsN)) (encP p) [d0, d1, d2, d3, o4, o5, o6, o7, o8] = some [d0, d1, d2, d3, some (.str p.1), some (encR p.2), o6, o7, o8] := rfl
    have eb : F_rules_bar K [encR p.2] S = .ok .non S := by rw [bar_ok, hp p List.mem_cons_self]; rfl
    have bb : L1 (K := K) [d0, d1, d2, d3, some (.str p.1), some (encR p.2), o6, o7, o8] S = .nx [d0, d1, d2, d3, some (.str p.1), some (encR p.2), some .non, o7, o8] S := by
      unfold L1
      simp [eb, need_ok]
    rw [bt]
    dsimp only
    rw [bb]
    exact e
theorem loopB {d0 d1 d2 o4 o5 o6 : Option D} {hs : List Hand} (hr : ∀ p ∈ hs, p.2.length ≤ 1000) : ∀ (bs : List Way) (o7 o8 : Option D), (∀ b ∈ bs, b.1 ∈ hs.map (·.1) ∧ b.2 ∈ hs.map (·.1)) →
    ((∃ o7' o8', forM (gT 2 (gsC (gN 7) (gsC (gN 8) gsN))) (L2b (K := K)) (bs.map encB) [d0, d1, d2, some (dkv hs), o4, o5, o6, o7, o8] S = .nx [d0, d1, d2, some (dkv hs), o4, o5, o6, o7', o8'] S) ∧ ∀ b ∈ bs, b.1 ≠ b.2) ∨
      nrs K S (forM (gT 2 (gsC (gN 7) (gsC (gN 8) gsN))) (L2b (K := K)) (bs.map encB) [d0, d1, d2, some (dkv hs), o4, o5, o6, o7, o8] S)
  | [], o7, o8, _ => .inl ⟨⟨o7, o8, by simp [forM_nil]⟩, by simp⟩
  | b :: bs, o7, o8, hb => by
    have bt : gT 2 (gsC (gN 7) (gsC (gN 8) gsN)) (encB b) [d0, d1, d2, some (dkv hs), o4, o5, o6, o7, o8] = some [d0, d1, d2, some (dkv hs), o4, o5, o6, some (.str b.1), some (.str b.2)] := rfl
    have hb0 := hb b List.mem_cons_self
    have key : ∀ n rs, dGet (dkv hs) (.str n) S = .ok (encR rs) S → rs.length ≤ 1000 := by
      intro n rs e
      unfold dGet dkv at e
      dsimp only [MM.keyD, Option.bind_some] at e
      have : ∀ (hs' : List Hand), (∀ p ∈ hs', p.2.length ≤ 1000) → ∀ d, dlk (hs'.map fun p => .inr p.1) (hs'.map fun p => encR p.2) (.inr n) = some d → ∃ rs', d = encR rs' ∧ rs'.length ≤ 1000 := by
        intro hs'
        induction hs' with
        | nil => intro _ d hd; cases hd
        | cons p hs' ih =>
          intro h1 d hd
          rw [List.map_cons, List.map_cons] at hd
          unfold dlk at hd
          split at hd
          · cases hd; exact ⟨p.2, rfl, h1 p List.mem_cons_self⟩
          · exact ih (fun q hq => h1 q (List.mem_cons_of_mem _ hq)) d hd
      cases q : dlk (hs.map fun p => .inr p.1) (hs.map fun p => encR p.2) (.inr n) with
      | none => rw [q] at e; nomatch e
      | some d =>
        obtain ⟨rs', e1, e2⟩ := this hs hr d q
        rw [q, e1] at e
        have e3 : encR rs' = encR rs := by
          have : Res.ok (encR rs') S = Res.ok (encR rs) S := e
          injection this
        have e4 : rs'.map D.str = rs.map D.str := by injection e3
        have e5 := congrArg List.length e4
        rw [List.length_map, List.length_map] at e5
        omega
    rcases bridge_ok (K := K) (S := S) hb0.1 hb0.2 key with ⟨e, ne⟩ | ⟨x, y, e⟩
    · have bb : L2b (K := K) [d0, d1, d2, some (dkv hs), o4, o5, o6, some (.str b.1), some (.str b.2)] S = .nx [d0, d1, d2, some (dkv hs), o4, o5, o6, some (.str b.1), some (.str b.2)] S := by
        unfold L2b
        simp [e]
      rw [List.map_cons, forM_cons, bt]
      dsimp only
      rw [bb]
      rcases loopB (d0 := d0) (d1 := d1) (d2 := d2) (o4 := o4) (o5 := o5) (o6 := o6) hr bs (some (.str b.1)) (some (.str b.2)) (fun q hq => hb q (List.mem_cons_of_mem _ hq)) with ⟨h1, h2⟩ | h1
      · refine .inl ⟨h1, fun q hq => ?_⟩
        rcases List.mem_cons.mp hq with z | z
        · rw [z]; exact ne
        · exact h2 q z
      · exact .inr h1
    · have bb : L2b (K := K) [d0, d1, d2, some (dkv hs), o4, o5, o6, some (.str b.1), some (.str b.2)] S = .exc (ga K "NoRules") [("hand", .str y), ("word", .str x)] [d0, d1, d2, some (dkv hs), o4, o5, o6, some (.str b.1), some (.str b.2)] S := by
        unfold L2b
        simp [e]
      rw [List.map_cons, forM_cons, bt]
      dsimp only
      rw [bb]
      exact .inr ⟨x, y, _, rfl⟩
theorem loopC {d0 d1 d3 o5 o6 o7 o8 : Option D} {bs : List Way} {fs : List Str} (hb : ∀ b ∈ bs, b.2 ∈ fs) (hl : fs.length ≤ 3) : ∀ (ms : List Str) (o4 : Option D) (S : Store),
    (∃ (o4' : Option D) (G : Store), forM (gN 4) (L3 (K := K)) (ms.map D.str) [d0, d1, some (encBs bs), d3, o4, o5, o6, o7, o8] S = .nx [d0, d1, some (encBs bs), d3, o4', o5, o6, o7, o8] (S ++ G)) ∨
      ∃ G : Store, nrs K (S ++ G) (forM (gN 4) (L3 (K := K)) (ms.map D.str) [d0, d1, some (encBs bs), d3, o4, o5, o6, o7, o8] S)
  | [], o4, S => .inl ⟨o4, [], by simp [forM_nil]⟩
  | m :: ms, o4, S => by
    obtain ⟨found, G, e⟩ := bridged_ok (K := K) (S := S) (n := m) hb hl
    have bt : gN 4 (.str m) [d0, d1, some (encBs bs), d3, o4, o5, o6, o7, o8] = some [d0, d1, some (encBs bs), d3, some (.str m), o5, o6, o7, o8] := rfl
    rw [List.map_cons, forM_cons, bt]
    dsimp only
    cases q : inN m found with
    | true =>
      have bb : L3 (K := K) [d0, d1, some (encBs bs), d3, some (.str m), o5, o6, o7, o8] S = .exc (ga K "NoRules") [("hand", .str m), ("word", .str "ring")] [d0, d1, some (encBs bs), d3, some (.str m), o5, o6, o7, o8] (S ++ G) := by
        unfold L3
        simp [e, nin_N, q, need_no]
      rw [bb]
      exact .inr ⟨G, "ring", m, _, rfl⟩
    | false =>
      have bb : L3 (K := K) [d0, d1, some (encBs bs), d3, some (.str m), o5, o6, o7, o8] S = .nx [d0, d1, some (encBs bs), d3, some (.str m), o5, o6, o7, o8] (S ++ G) := by
        unfold L3
        simp [e, nin_N, q, need_ok]
      rw [bb]
      dsimp only
      rcases loopC (d0 := d0) (d1 := d1) (d3 := d3) (o5 := o5) (o6 := o6) (o7 := o7) (o8 := o8) hb hl ms (some (.str m)) (S ++ G) with ⟨o4', G', h1⟩ | ⟨G', x, y, δ, h1⟩
      · exact .inl ⟨o4', G ++ G', by rw [h1, List.append_assoc]⟩
      · exact .inr ⟨G ++ G', x, y, δ, by rw [h1, List.append_assoc]⟩
theorem inr_nodup {hs : List Hand} (h : (hs.map (·.1)).Nodup) : (hs.map fun p => (.inr p.1 : Key)).Nodup := by
  have : (hs.map fun p => (.inr p.1 : Key)) = (hs.map (·.1)).map fun x => (.inr x : Key) := by rw [List.map_map]; rfl
  rw [this]
  refine List.Pairwise.map _ (fun a b hab e => hab ?_) h
  injection e
theorem lets_ok {hs : List Hand} {bs : List Way} (hn : (hs.map (·.1)).Nodup) (hl : hs.length ≤ 3) (hr : ∀ p ∈ hs, p.2.length ≤ 1000 ∧ barD p.2 = none) (hb : ∀ b ∈ bs, b.1 ∈ hs.map (·.1) ∧ b.2 ∈ hs.map (·.1)) :
    ∃ G : Store, (F_lets_draft K [encH hs bs] S = .ok (.bl true) (S ++ G) ∧ ∀ b ∈ bs, b.1 ≠ b.2) ∨ nrx K (S ++ G) (F_lets_draft K [encH hs bs] S) := by
  have dc := dc_ok (S := S) (d0 := some (encH hs bs)) (d1 := some (encHs hs)) (d2 := some (encBs bs)) hs [] (by simpa using inr_nodup hn) (by simp; omega)
  rw [List.nil_append] at dc
  obtain ⟨p4, p5, p6, la⟩ := loopA (K := K) (S := S) (d0 := some (encH hs bs)) (d1 := some (encHs hs)) (d2 := some (encBs bs)) (d3 := some (dkv hs)) (o7 := none) (o8 := none) hs none none none fun p hp => (hr p hp).2
  have lb := loopB (K := K) (S := S) (d0 := some (encH hs bs)) (d1 := some (encHs hs)) (d2 := some (encBs bs)) (o4 := p4) (o5 := p5) (o6 := p6) (hs := hs) (fun p hp => (hr p hp).1) bs none none hb
  unfold F_lets_draft
  change ∃ G : Store, (defM 9 (sSeq _ (sSeq _ (sSeq (sFor _ _ (L1 (K := K))) (sSeq (sFor _ _ (L2b (K := K))) (sSeq (sFor _ _ (L3 (K := K))) _))))) _ _ = _ ∧ _) ∨ nrx K _ (defM 9 (sSeq _ (sSeq _ (sSeq (sFor _ _ (L1 (K := K))) (sSeq (sFor _ _ (L2b (K := K))) (sSeq (sFor _ _ (L3 (K := K))) _))))) _ _)
  rcases lb with ⟨⟨p7, p8, e1⟩, ne⟩ | ⟨x, y, δ, e1⟩
  · have lc := loopC (K := K) (d0 := some (encH hs bs)) (d1 := some (encHs hs)) (d3 := some (dkv hs)) (o5 := p5) (o6 := p6) (o7 := p7) (o8 := p8) (bs := bs) (fs := hs.map (·.1)) (fun b h => (hb b h).2) (by simpa using hl) (hs.map (·.1)) p4 S
    rcases lc with ⟨p4', G, e2⟩ | ⟨G, x, y, δ, e2⟩
    · refine ⟨G, .inl ⟨?_, ne⟩⟩
      simp [wipeD, dc, dct_kv, keys_kv, la, e1, e2, -List.map_map]
    · refine ⟨G, .inr ⟨x, y, ?_⟩⟩
      simp [wipeD, dc, dct_kv, keys_kv, la, e1, e2, -List.map_map]
  · refine ⟨[], .inr ⟨x, y, ?_⟩⟩
    simp [wipeD, dc, dct_kv, keys_kv, la, e1, -List.map_map]
/-! ### said -/
theorem ex0 (c : Sy K h cs) : PySem.W.exmOne K (.ref (ga K "NoRules")) (.ref (ga K "NoPaper")) = some false := of_decide_eq_true (c.fact 73)
theorem ex1 (c : Sy K h cs) : PySem.W.exmOne K (.ref (ga K "NoRules")) (.ref (ga K "NoRules")) = some true := of_decide_eq_true (c.fact 74)
theorem xfR (c : Sy K h cs) : (xfB K (ga K "NoRules") && excB K (ga K "NoRules")) = true := c.fact 71
theorem fndR (c : Sy K h cs) : PySem.W.findIn K (.ref (ga K "NoRules")) "word" = some none ∧ PySem.W.findIn K (.ref (ga K "NoRules")) "hand" = some none := by
  have e := ex_NoRules c
  unfold exB at e
  simp only [Bool.and_eq_true, List.all_cons, decide_eq_true_eq] at e
  exact ⟨e.2.1.1, e.2.1.2.1⟩
theorem thunk_ap {th : M D} {o1 o2 : Option D} : eThunk 0 th [some .exn, o1, o2] = th := rfl
theorem said_ok {th : M D} {d : D} {S' : Store} (e : th S = .ok d S') : bodyM (G_law_said K th (startX 3) S) = .ok (.tup [.str "told", d]) S' := by
  unfold G_law_said
  have s3 : startX 3 = [some .exn, none, none] := rfl
  rw [s3]
  have tk : varD (some (.tup [.str "told", d])) S' = .ok (.tup [.str "told", d]) S' := rfl
  simp [tryM, thunk_ap, e]
theorem said_no (c : Sy K h cs) {th : M D} {x y : Str} {S' : Store} (e : th S = .exc (ga K "NoRules") [("hand", .str y), ("word", .str x)] S') : bodyM (G_law_said K th (startX 3) S) = .ok (.tup [.str "rules", .str x, .str y]) S' := by
  unfold G_law_said
  have s3 : startX 3 = [some .exn, none, none] := rfl
  rw [s3]
  obtain ⟨f1, f2⟩ := fndR c
  have x1 := xfR c
  rw [Bool.and_eq_true] at x1
  have lk : List.lookup ("word" : Str) [(("hand" : Str), D.str y), (("word" : Str), D.str x)] = some (.str x) := rfl
  have lk2 : List.lookup ("hand" : Str) [(("hand" : Str), D.str y), (("word" : Str), D.str x)] = some (.str y) := rfl
  simp [tryM, hdM, thunk_ap, e, ex0 c, ex1 c, exitX, inX, outX, unX, x1.1, f1, f2, isExn, lk, lk2]
end
end K84
end
section
set_option Elab.async false
set_option linter.all false
set_option maxRecDepth 100000
set_option maxHeartbeats 1048576
namespace K84
open PySem PySem.Spec PySem.W PyProof.Rows L2 LamX He MM
section
variable {K : PySem.W.Frag} {h : Heap} {cs : List (Addr × Addr)} {S R : Store} {ns : List Int} {a w k : Int}
/-! ### a let house, walked -/
def prodF (fs : List Str) : List Way := fs.flatMap fun x => fs.map fun y => (x, y)
def folkH : Nat → List Str
  | 0 => ["h"]
  | 1 => ["h", "k"]
  | _ => ["h", "k", "m"]
abbrev wP (b : Way) : PyData := .tuple [.str b.1, .str b.2]
def leW (x y : Way) : Bool := dataLe false (fun t : D × PyData => t.2) (encB x, wP x) (encB y, wP y)
theorem folkH_ok : ∀ e : Nat, e < 3 → folkB (folkH e) = true ∧ (folkH e).Nodup ∧ (prodF (folkH e)).filter (fun b => !(b.2 == b.1)) = prodL (folkH e) ∧ pairB leW (prodF (folkH e)) = true ∧ (∀ S, slD (.lst [.str "h", .str "k", .str "m"]) none (some (1 + (e : Int))) S = .ok (.lst ((folkH e).map D.str)) S) ∧ (prodF (folkH e)).length ≤ 9
  | 0, _ => ⟨by kernel_rfl, by decide, by kernel_rfl, by kernel_rfl, fun S => by kernel_rfl, by decide⟩
  | 1, _ => ⟨by kernel_rfl, by decide, by kernel_rfl, by kernel_rfl, fun S => by kernel_rfl, by decide⟩
  | 2, _ => ⟨by kernel_rfl, by decide, by kernel_rfl, by kernel_rfl, fun S => by kernel_rfl, by decide⟩
  | e + 3, h => absurd h (by omega)
theorem pds_ways (bs : List Way) : pds0 (bs.map encB) = some (bs.map wP) := by
  induction bs with
  | nil => rfl
  | cons x xs ih => simp [pds0, pd0, ih]
theorem sort_W {bs : List Way} (hs : bs.Pairwise fun x y => leW x y = true) : sortD [.tup (bs.map encB)] S = .ok (.lst (bs.map encB)) S := by
  have ok : sortOk (bs.map wP) = true := by
    unfold sortOk alikeB sortableB
    simp [alike, alikeAll, PyData.depth, PyData.depthAll]
  unfold sortD
  dsimp only [seqD]
  rw [pds_ways]
  dsimp only
  rw [if_pos ok]
  unfold sortL
  have z : (bs.map encB).zip (bs.map wP) = bs.map fun b => (encB b, wP b) := by rw [List.zip_map, List.zip_eq_zipWith, List.zipWith_self, List.map_map]; rfl
  rw [z, List.mergeSort_of_pairwise, List.map_map]
  · rfl
  · rw [List.pairwise_map]
    exact hs
def menuH : List (List Str) := [[], ["self"], ["on"], ["on", "self"], ["back"], ["on", "round"], ["ends", "on"], ["step"], ["back", "on", "self"], ["on", "self", "step"]]
theorem menuH_in : ∀ rs ∈ menuH, rs ∈ menuL := by decide
theorem lcP {F X3 X4 X6 : Option D} : ∀ (ms : List Str) (acc : List D) (a w k : Int), okF ns a w k → k + ms.length ≤ 90000 → acc.length + ms.length ≤ 1000 → ∃ (a' w' k' : Int) (hs : List Hand), hs.map (·.1) = ms ∧ (∀ p ∈ hs, p.2 ∈ menuL) ∧
    lcM (gN 5) bYes (eTup (aCons (eVar 5) (aCons (e2 ixD (eVar 1) (eCall (cM 2 (F_law_draw K)) (aCons (eVar 0) (aCons (eC (.int 10)) aNil)))) aNil))) [some (.ref 0), some (.lst (menuH.map encR)), F, X3, X4, none, X6] (ms.map D.str) acc (fd ns a w k :: R) = .ok (acc ++ hs.map encP) (fd ns a' w' k' :: R) ∧ okF ns a' w' k' ∧ k' ≤ k + ms.length
  | [], acc, a, w, k, h1, h2, h3 => ⟨a, w, k, [], rfl, by simp, by simp [lcM], h1, by simp⟩
  | y :: ms, acc, a, w, k, h1, h2, h3 => by
    have sz := sizeLine_eq
    simp only [List.length_cons] at h2 h3
    obtain ⟨a1, w1, k1, r, d1, l1, u1, f1, g1⟩ := draw_ok (K := K) (R := R) (b := 10) h1 (by omega) (by omega) (by omega)
    obtain ⟨rs, m1, m2⟩ := ix_map (f := encR) (xs := menuH) l1 (by show r < 10; exact u1)
    obtain ⟨a', w', k', hs, e0, e1, e2, e3, e4⟩ := lcP (F := F) (X3 := X3) (X4 := X4) (X6 := X6) ms (acc ++ [encP (y, rs)]) a1 w1 k1 f1 (by omega) (by simp; omega)
    refine ⟨a', w', k', (y, rs) :: hs, by simp [e0], ?_, ?_, e3, by simp; omega⟩
    · intro p hp
      rcases (List.mem_cons.mp hp) with e | e
      · rw [e]; exact menuH_in rs m1
      · exact e1 p e
    · rw [List.map_cons]
      unfold lcM
      have sl : acc.length < sizeLine := by omega
      simpa [d1, m2, sl] using e2
@[simp] theorem eLam_ap {gG : M D → SM} {fb : Env' → M D} {n : Nat} {δ : Env'} : eLam n gG fb δ S = bodyM (gG (fb (δ.map unX)) (startX n) S) := rfl
def bH : SM := (sIf (bAnd (bTest (e2 eqD (eCall (cM 2 (F_law_draw K)) (aCons (eVar 0) (aCons (eC (.int 3)) aNil))) (eC (.int 0)))) (bTest (e2 eqD (e2 ixD (eLam 3 (G_law_said K) (eCall (cM 1 (F_lets_draft K)) (aCons (eTup (aCons (eVar 3) (aCons (e2 addD (eVar 4) (eTup (aCons (eTup (aCons (eVar 5) (aCons (eVar 6) aNil))) aNil))) aNil))) aNil))) (eC (.int 0))) (eC (.str "told"))))) (sAsg (eCall tupD (aCons (eCall sortD (aCons (e2 addD (eVar 4) (eTup (aCons (eTup (aCons (eVar 5) (aCons (eVar 6) aNil))) aNil))) aNil)) aNil)) (gN 4)) sNext)
@[simp] theorem add_tup {xs ys : List D} : addD (.tup xs) (.tup ys) S = if xs.length + ys.length ≤ sizeLine then .ok (.tup (xs ++ ys)) S else .bad := rfl
abbrev EH (M F : D) (hs : List Hand) (bs : List Way) (x y : Option D) : Env' := [some (.ref 0), some (.lst [M]), some (.lst [F]), some (encHs hs), some (encBs bs), x, y]
theorem bH_ok (c : Sy K h cs) {hs : List Hand} {bs done : List Way} {x y : Str} {M F : List D} (hN : (hs.map (·.1)).Nodup) (hl : hs.length ≤ 3) (hr : ∀ p ∈ hs, p.2 ∈ menuL) (hb : ∀ b ∈ bs ++ [(x, y)], b.1 ∈ hs.map (·.1) ∧ b.2 ∈ hs.map (·.1))
    (hd : bs.Sublist done) (hs9 : done.length ≤ 20) (hp : (done ++ [(x, y)]).Pairwise fun x y => leW x y = true) (hne : ∀ b ∈ bs, b.1 ≠ b.2) (hF : okF ns a w k) (hk : k ≤ 90000) :
    ∃ (a' w' k' : Int) (bs' : List Way) (G : Store), bH (K := K) [some (.ref 0), some (.lst M), some (.lst F), some (encHs hs), some (encBs bs), some (.str x), some (.str y)] (fd ns a w k :: R) = .nx [some (.ref 0), some (.lst M), some (.lst F), some (encHs hs), some (encBs bs'), some (.str x), some (.str y)] (fd ns a' w' k' :: (R ++ G)) ∧
      bs'.Sublist (done ++ [(x, y)]) ∧ (∀ b ∈ bs', b.1 ≠ b.2) ∧ okF ns a' w' k' ∧ k' ≤ k + 1 := by
  have sz := sizeLine_eq
  have lb : bs.length ≤ 20 := Nat.le_trans hd.length_le hs9
  have sb : bs.length + 1 ≤ sizeLine := by omega
  obtain ⟨a1, w1, k1, r, d1, l1, u1, f1, g1⟩ := draw_ok (K := K) (R := R) (b := 3) hF (by omega) (by omega) (by omega)
  by_cases z : r = 0
  · subst z
    have hsub : (bs ++ [(x, y)]).Sublist (done ++ [(x, y)]) := hd.append (List.Sublist.refl _)
    obtain ⟨G, ⟨e, ne⟩ | ⟨u, v, e⟩⟩ := lets_ok (K := K) (S := fd ns a1 w1 k1 :: R) (hs := hs) (bs := bs ++ [(x, y)]) hN hl (fun p hp => ⟨by have := (menu_rules (hr p hp)).2.2.1; omega, (menu_rules (hr p hp)).2.1⟩) hb
    · have so := fun S => sort_W (S := S) (hp.sublist hsub)
      refine ⟨a1, w1, k1, bs ++ [(x, y)], G, ?_, hsub, ne, f1, by omega⟩
      have th : ∀ δ : Env', δ = [some (.ref 0), some (.lst M), some (.lst F), some (encHs hs), some (encBs bs), some (.str x), some (.str y)] → (eCall (cM 1 (F_lets_draft K)) (aCons (eTup (aCons (eVar 3) (aCons (e2 addD (eVar 4) (eTup (aCons (eTup (aCons (eVar 5) (aCons (eVar 6) aNil))) aNil))) aNil))) aNil)) δ (fd ns a1 w1 k1 :: R) = .ok (.bl true) (fd ns a1 w1 k1 :: R ++ G) := by
        intro δ hδ
        subst hδ
        rw [show encH hs (bs ++ [(x, y)]) = .tup [encHs hs, .tup (bs.map encB ++ [.tup [.str x, .str y]])] from by simp] at e
        simp [sb, e]
      have sd := said_ok (K := K) (th ([some (.ref 0), some (.lst M), some (.lst F), some (encHs hs), some (encBs bs), some (.str x), some (.str y)].map unX) rfl)
      simp only [List.map_append, List.map_cons, List.map_nil] at so
      simp only [List.map_cons, List.map_nil] at sd
      unfold bH
      simp [d1, sd, so, sb]
    · refine ⟨a1, w1, k1, bs, G, ?_, hd.trans (List.sublist_append_left _ _), hne, f1, by omega⟩
      have th : ∀ δ : Env', δ = [some (.ref 0), some (.lst M), some (.lst F), some (encHs hs), some (encBs bs), some (.str x), some (.str y)] → (eCall (cM 1 (F_lets_draft K)) (aCons (eTup (aCons (eVar 3) (aCons (e2 addD (eVar 4) (eTup (aCons (eTup (aCons (eVar 5) (aCons (eVar 6) aNil))) aNil))) aNil))) aNil)) δ (fd ns a1 w1 k1 :: R) = .exc (ga K "NoRules") [("hand", .str v), ("word", .str u)] (fd ns a1 w1 k1 :: R ++ G) := by
        intro δ hδ
        subst hδ
        rw [show encH hs (bs ++ [(x, y)]) = .tup [encHs hs, .tup (bs.map encB ++ [.tup [.str x, .str y]])] from by simp] at e
        simp [sb, e]
      have sd := said_no (K := K) c (th ([some (.ref 0), some (.lst M), some (.lst F), some (encHs hs), some (encBs bs), some (.str x), some (.str y)].map unX) rfl)
      simp only [List.map_cons, List.map_nil] at sd
      have rt : ((("rules" : Str) == "told") = false) := by decide
      unfold bH
      simp [d1, sd, rt]
  · refine ⟨a1, w1, k1, bs, [], ?_, hd.trans (List.sublist_append_left _ _), hne, f1, by omega⟩
    have z' : (r == 0) = false := by simpa using z
    unfold bH
    simp [d1, z']
theorem loopM (c : Sy K h cs) {hs : List Hand} {x : Str} {M F : List D} (hN : (hs.map (·.1)).Nodup) (hl : hs.length ≤ 3) (hr : ∀ p ∈ hs, p.2 ∈ menuL) : ∀ (ms : List Str) (bs done : List Way) (a w k : Int) (o6 : Option D) (R : Store), (∀ b ∈ done ++ ms.map (fun m => (x, m)), b.1 ∈ hs.map (·.1) ∧ b.2 ∈ hs.map (·.1)) →
    bs.Sublist done → done.length + ms.length ≤ 20 → (done ++ ms.map fun m => (x, m)).Pairwise (fun x y => leW x y = true) → (∀ b ∈ bs, b.1 ≠ b.2) → okF ns a w k → k + ms.length ≤ 90000 →
    ∃ (a' w' k' : Int) (bs' : List Way) (o6' : Option D) (G : Store), forM (gN 6) (bH (K := K)) (ms.map D.str) [some (.ref 0), some (.lst M), some (.lst F), some (encHs hs), some (encBs bs), some (.str x), o6] (fd ns a w k :: R) = .nx [some (.ref 0), some (.lst M), some (.lst F), some (encHs hs), some (encBs bs'), some (.str x), o6'] (fd ns a' w' k' :: (R ++ G)) ∧
      bs'.Sublist (done ++ ms.map fun m => (x, m)) ∧ (∀ b ∈ bs', b.1 ≠ b.2) ∧ okF ns a' w' k' ∧ k' ≤ k + ms.length
  | [], bs, done, a, w, k, o6, R, _, hd, _, _, hne, hF, _ => ⟨a, w, k, bs, o6, [], by simp [forM_nil], by simpa using hd, hne, hF, by simp⟩
  | m :: ms, bs, done, a, w, k, o6, R, hm, hd, h9, hp, hne, hF, hk => by
    simp only [List.length_cons] at h9 hk
    have e0 : done ++ (m :: ms).map (fun m => (x, m)) = (done ++ [(x, m)]) ++ ms.map fun m => (x, m) := by simp
    rw [e0] at hp hm ⊢
    have hb' : ∀ b ∈ bs ++ [(x, m)], b.1 ∈ hs.map (·.1) ∧ b.2 ∈ hs.map (·.1) := fun b h => hm b (List.mem_append_left _ ((hd.append (List.Sublist.refl _)).subset h))
    obtain ⟨a1, w1, k1, bs1, G, e1, e2, e3, e4, e5⟩ := bH_ok (K := K) (R := R) (M := M) (F := F) c hN hl hr hb' hd (by omega) (hp.sublist (List.sublist_append_left _ _)) hne hF (by omega)
    obtain ⟨a2, w2, k2, bs2, o6', G2, q1, q2, q3, q5, q6⟩ := loopM c hN hl hr ms bs1 (done ++ [(x, m)]) a1 w1 k1 (some (.str m)) (R ++ G) hm e2 (by simp; omega) hp e3 e4 (by omega)
    refine ⟨a2, w2, k2, bs2, o6', G ++ G2, ?_, q2, q3, q5, by simp; omega⟩
    have bt : gN 6 (.str m) [some (.ref 0), some (.lst M), some (.lst F), some (encHs hs), some (encBs bs), some (.str x), o6] = some [some (.ref 0), some (.lst M), some (.lst F), some (encHs hs), some (encBs bs), some (.str x), some (.str m)] := rfl
    rw [List.map_cons, forM_cons, bt]
    dsimp only
    rw [e1]
    dsimp only
    rw [q1, List.append_assoc]
def bW : SM := sFor (iSeq (eVar 2)) (gN 6) (bH (K := K))
theorem loopW (c : Sy K h cs) {hs : List Hand} {fs : List Str} {M : List D} (hN : (hs.map (·.1)).Nodup) (hl : hs.length ≤ 3) (hf : fs.length ≤ 3) (hr : ∀ p ∈ hs, p.2 ∈ menuL) : ∀ (ps : List Str) (bs done : List Way) (a w k : Int) (o5 o6 : Option D) (R : Store), (∀ b ∈ done ++ ps.flatMap (fun x => fs.map fun y => (x, y)), b.1 ∈ hs.map (·.1) ∧ b.2 ∈ hs.map (·.1)) →
    bs.Sublist done → done.length + ps.length * 3 ≤ 20 → (done ++ ps.flatMap (fun x => fs.map fun y => (x, y))).Pairwise (fun x y => leW x y = true) → (∀ b ∈ bs, b.1 ≠ b.2) → okF ns a w k → k + ps.length * 3 ≤ 90000 →
    ∃ (a' w' k' : Int) (bs' : List Way) (o5' o6' : Option D) (G : Store), forM (gN 5) (bW (K := K)) (ps.map D.str) [some (.ref 0), some (.lst M), some (.lst (fs.map D.str)), some (encHs hs), some (encBs bs), o5, o6] (fd ns a w k :: R) = .nx [some (.ref 0), some (.lst M), some (.lst (fs.map D.str)), some (encHs hs), some (encBs bs'), o5', o6'] (fd ns a' w' k' :: (R ++ G)) ∧
      bs'.Sublist (done ++ ps.flatMap (fun x => fs.map fun y => (x, y))) ∧ (∀ b ∈ bs', b.1 ≠ b.2) ∧ okF ns a' w' k' ∧ k' ≤ k + ps.length * 3
  | [], bs, done, a, w, k, o5, o6, R, _, hd, _, _, hne, hF, _ => ⟨a, w, k, bs, o5, o6, [], by simp [forM_nil], by simpa using hd, hne, hF, by simp⟩
  | x :: ps, bs, done, a, w, k, o5, o6, R, hm, hd, h9, hp, hne, hF, hk => by
    simp only [List.length_cons] at h9 hk
    have e0 : done ++ (x :: ps).flatMap (fun x => fs.map fun y => (x, y)) = (done ++ fs.map fun y => (x, y)) ++ ps.flatMap (fun x => fs.map fun y => (x, y)) := by simp
    rw [e0] at hp hm ⊢
    obtain ⟨a1, w1, k1, bs1, p6, G, e1, e2, e3, e4, e5⟩ := loopM (K := K) (M := M) (F := fs.map D.str) c hN hl hr fs bs done a w k o6 R (fun b hb => hm b (List.mem_append_left _ hb)) hd (by omega) (hp.sublist (List.sublist_append_left _ _)) hne hF (by omega)
    obtain ⟨a2, w2, k2, bs2, o5', o6', G2, q1, q2, q3, q5, q6⟩ := loopW c hN hl hf hr ps bs1 (done ++ fs.map fun y => (x, y)) a1 w1 k1 (some (.str x)) p6 (R ++ G) hm e2 (by simp; omega) hp e3 e4 (by omega)
    refine ⟨a2, w2, k2, bs2, o5', o6', G ++ G2, ?_, q2, q3, q5, by simp; omega⟩
    have bt : gN 5 (.str x) [some (.ref 0), some (.lst M), some (.lst (fs.map D.str)), some (encHs hs), some (encBs bs), o5, o6] = some [some (.ref 0), some (.lst M), some (.lst (fs.map D.str)), some (encHs hs), some (encBs bs), some (.str x), o6] := rfl
    have bb : bW (K := K) [some (.ref 0), some (.lst M), some (.lst (fs.map D.str)), some (encHs hs), some (encBs bs), some (.str x), o6] (fd ns a w k :: R) = .nx [some (.ref 0), some (.lst M), some (.lst (fs.map D.str)), some (encHs hs), some (encBs bs1), some (.str x), p6] (fd ns a1 w1 k1 :: (R ++ G)) := by
      unfold bW
      simp [e1]
    rw [List.map_cons, forM_cons, bt]
    dsimp only
    rw [bb]
    dsimp only
    rw [q1, List.append_assoc]
theorem home_ok (c : Sy K h cs) (hF : okF ns a w k) (hk : k ≤ 80000) : ∃ (a' w' k' : Int) (fs : List Str) (hs : List Hand) (bs : List Way) (G : Store), folkB fs = true ∧ hs.map (·.1) = fs ∧ (∀ p ∈ hs, p.2 ∈ menuL) ∧ bs.Sublist (prodL fs) ∧ F_law_home K [.ref 0] (fd ns a w k :: R) = .ok (encH hs bs) (fd ns a' w' k' :: (R ++ G)) ∧ okF ns a' w' k' ∧ k' ≤ k + 14 := by
  have sz := sizeLine_eq
  obtain ⟨a1, w1, k1, r, d1, l1, u1, f1, g1⟩ := draw_ok (K := K) (R := R) (b := 3) hF (by omega) (by omega) (by omega)
  obtain ⟨n, rfl⟩ := Int.eq_ofNat_of_zero_le l1
  obtain ⟨k1', k2', k3', k4', k5', k6'⟩ := folkH_ok n (by omega)
  generalize folkH n = fs at k1' k2' k3' k4' k5' k6'
  have fl := (folk_parts k1').1
  obtain ⟨a2, w2, k2, hs, n1, n2, e2, f2, g2⟩ := lcP (K := K) (R := R) (F := some (.lst (fs.map D.str))) (X3 := none) (X4 := none) (X6 := none) fs [] a1 w1 k1 f1 (by omega) (by simp; omega)
  have hl : hs.length ≤ 3 := by rw [← n1, List.length_map] at fl; exact fl
  obtain ⟨a3, w3, k3, bs, o5, o6, G, e3, q2, q3, q5, q6⟩ := loopW (K := K) (M := menuH.map encR) (fs := fs) (hs := hs) c (by rw [n1]; exact k2') hl fl n2 fs [] [] a2 w2 k2 none none R (fun b hb => by
    rw [List.nil_append] at hb
    obtain ⟨x, h1, h2⟩ := List.mem_flatMap.mp hb
    obtain ⟨y, h3, rfl⟩ := List.mem_map.mp h2
    rw [n1]
    exact ⟨h1, h3⟩) .slnil (by simp; omega) (by rw [List.nil_append]; exact pairB_of k4') (by simp) f2 (by omega)
  refine ⟨a3, w3, k3, fs, hs, bs, G, k1', n1, n2, ?_, ?_, q5, by omega⟩
  · rw [← k3']
    have := (List.Sublist.filter (fun b : Way => !(b.2 == b.1)) q2)
    rw [List.filter_eq_self.mpr fun b hb => by simpa using fun e => q3 b hb e.symm] at this
    exact this
  · unfold F_law_home
    change defM 7 (sSeq _ (sSeq _ (sSeq _ (sSeq _ (sSeq (sFor _ _ (bW (K := K))) _))))) _ _ = _
    have ad : ∀ (xs ys : List D) S, addD (.lst xs) (.lst ys) S = if xs.length + ys.length ≤ sizeLine then .ok (.lst (xs ++ ys)) S else .bad := fun xs ys S => rfl
    simp only [menuH, encR, List.map_cons, List.map_nil] at e2 e3
    rw [show encBs [] = D.tup [] from rfl] at e3
    simp [wipeD, ad, d1, k5', e2, e3]
end
end K84
end
section
set_option Elab.async false
set_option linter.all false
set_option maxRecDepth 100000
set_option maxHeartbeats 1048576
namespace K84
open PySem PySem.Spec PySem.W PyProof.Rows L2 LamX He MM
section
variable {K : PySem.W.Frag} {h : Heap} {cs : List (Addr × Addr)} {S R : Store} {ns : List Int} {a w k : Int}
/-! ### what is shown -/
abbrev hP (p : Hand) : PyData := .tuple [.str p.1, .tuple (p.2.map PyData.str)]
abbrev hbP (hs : List Hand) (bs : List Way) : PyData := .tuple [.tuple (hs.map hP), .tuple (bs.map wP)]
theorem pds_hs (hs : List Hand) : pds0 (hs.map encP) = some (hs.map hP) := by
  induction hs with
  | nil => rfl
  | cons p hs ih => simp [pds0, pd0, pds_strs, ih]
theorem pd_hb {hs : List Hand} {bs : List Way} : pd0 (encH hs bs) = some (hbP hs bs) := by
  simp [pd0, pds0, pds_hs, pds_ways]
section
variable {α : Type} {f : α → PyData}
theorem all_showable : ∀ {xs : List α}, (∀ x ∈ xs, (f x).showable = true) → PyData.showableAll (xs.map f) = true
  | [], _ => by simp [PyData.showableAll]
  | x :: xs, h => by
    simp only [List.map_cons, PyData.showableAll, Bool.and_eq_true]
    exact ⟨h x List.mem_cons_self, all_showable fun y hy => h y (List.mem_cons_of_mem _ hy)⟩
theorem all_short {B : Nat} : ∀ {xs : List α}, (∀ x ∈ xs, (f x).leavesShort B = true) → PyData.leavesShortAll B (xs.map f) = true
  | [], _ => by simp [PyData.leavesShortAll]
  | x :: xs, h => by
    simp only [List.map_cons, PyData.leavesShortAll, Bool.and_eq_true]
    exact ⟨h x List.mem_cons_self, all_short fun y hy => h y (List.mem_cons_of_mem _ hy)⟩
theorem all_depth {m : Nat} : ∀ {xs : List α}, (∀ x ∈ xs, (f x).depth ≤ m) → PyData.depthAll (xs.map f) ≤ m
  | [], _ => by simp [PyData.depthAll]
  | x :: xs, h => by
    simp only [PyData.depthAll, List.map_cons]
    exact Nat.max_le.mpr ⟨h x List.mem_cons_self, all_depth fun y hy => h y (List.mem_cons_of_mem _ hy)⟩
theorem all_bulk {g : α → Nat} {m : Nat} : ∀ {xs : List α}, (∀ x ∈ xs, (f x).bulk ≤ g x + m) → PyData.bulkAll (xs.map f) ≤ (xs.map g).sum + xs.length * (m + 1)
  | [], _ => by simp [PyData.bulkAll]
  | x :: xs, h => by
    have ih := all_bulk (g := g) (m := m) (xs := xs) fun y hy => h y (List.mem_cons_of_mem _ hy)
    have := h x List.mem_cons_self
    simp only [List.map_cons, PyData.bulkAll, List.sum_cons, List.length_cons, Nat.add_mul, Nat.one_mul]
    omega
end
theorem lw_sum {c : Nat} {xs : List Str} : (xs.map (·.length)).sum + xs.length ≤ (lw c xs).length + 1 := by
  unfold lw
  split
  · rename_i e; subst e; exact Nat.zero_le _
  · rename_i e
    have := join_sum_eq c e
    omega
theorem letB_low {c : Nat} (h : letB c = true) : c < 16 ^ 8 := by
  have e : letB c = decide (c ∈ ("abcdefghijklmnopqrstuvwxyz" : Str).cps.toList) := StrLaws.found_one _ c
  rw [e, decide_eq_true_eq] at h
  have q : ∀ z ∈ ("abcdefghijklmnopqrstuvwxyz" : Str).cps.toList, z < 16 ^ 8 := by decide
  exact q c h
theorem word_short {x : Str} {B : Nat} (h : wordB x = true) : (PyData.str x).leavesShort B = true := by
  unfold wordB at h
  rw [Bool.and_eq_true, List.all_eq_true] at h
  simp only [PyData.leavesShort, List.all_eq_true, decide_eq_true_eq]
  exact fun c hc => letB_low (h.2 c hc)
theorem let_short {x : Str} {B : Nat} (h : letW x = true) : (PyData.str x).leavesShort B = true := by
  have e : ∀ y ∈ kl_LET_WORDS, (PyData.str y).leavesShort 0 = true := by decide
  exact e x (let_mem h)
theorem hb_ok {hs : List Hand} {bs : List Way} (h : houseB hs bs = true) (hl : (hword hs bs).length ≤ 20000) :
    (hbP hs bs).showable = true ∧ (hbP hs bs).leavesShort 13 = true ∧ (hbP hs bs).depth ≤ 10 ∧ (hbP hs bs).bulk ≤ 120000 := by
  obtain ⟨g0, g1, g2⟩ := house_parts h
  rw [hword_len] at hl
  refine ⟨?_, ?_, ?_, ?_⟩
  · simp only [PyData.showable, PyData.showableAll, Bool.and_eq_true, and_true]
    refine ⟨all_showable fun p _ => ?_, all_showable fun b _ => ?_⟩
    · simp only [PyData.showable, PyData.showableAll, Bool.and_eq_true, and_true, true_and]
      exact all_showable fun _ _ => by simp only [PyData.showable]
    · simp only [PyData.showable, PyData.showableAll, Bool.and_eq_true, and_true, true_and]
  · simp only [PyData.leavesShort, PyData.leavesShortAll, Bool.and_eq_true, and_true]
    refine ⟨all_short fun p hp => ?_, all_short fun b hb => ?_⟩
    · have q : handB p = true := List.all_eq_true.mp g1 p hp
      unfold handB at q
      rw [Bool.and_eq_true] at q
      have r := q.2
      unfold rulesB at r
      rw [Bool.and_eq_true, List.all_eq_true] at r
      have t := word_short (B := 13) q.1
      have t2 := all_short (f := PyData.str) (B := 13) (xs := p.2) fun x hx => let_short (r.1 x hx)
      simp only [PyData.leavesShort] at t ⊢
      simp only [PyData.leavesShort, PyData.leavesShortAll, Bool.and_eq_true, and_true]
      exact ⟨t, t2⟩
    · have q : wayB b = true := List.all_eq_true.mp g2 b hb
      unfold wayB at q
      rw [Bool.and_eq_true] at q
      have t := word_short (B := 13) q.1
      have t2 := word_short (B := 13) q.2
      simp only [PyData.leavesShort] at t t2 ⊢
      simp only [PyData.leavesShort, PyData.leavesShortAll, Bool.and_eq_true, and_true]
      exact ⟨t, t2⟩
  · have d1 : PyData.depthAll (hs.map hP) ≤ 3 := all_depth fun p _ => by
      have := all_depth (f := PyData.str) (xs := p.2) (m := 0) fun _ _ => by simp [PyData.depth]
      simp [PyData.depth, PyData.depthAll]
      omega
    have d2 : PyData.depthAll (bs.map wP) ≤ 3 := all_depth fun p _ => by simp [PyData.depth, PyData.depthAll]
    simp [PyData.depth, PyData.depthAll]
    omega
  · have b1 : PyData.bulkAll (hs.map hP) ≤ (hs.map fun p => (pw p).length).sum + hs.length * 3 := all_bulk fun p _ => by
      have e := all_bulk (f := PyData.str) (g := fun x => x.length) (m := 0) (xs := p.2) fun x _ => by simp [PyData.bulk, Str.length]
      have e2 := lw_sum (c := 44) (xs := p.2)
      have e3 : p.1.cps.size = p.1.length := rfl
      simp only [PyData.bulk, PyData.bulkAll]
      rw [pw_len]
      omega
    have b2 : PyData.bulkAll (bs.map wP) ≤ (bs.map fun b => (bw b).length).sum + bs.length * 2 := all_bulk fun b _ => by
      have e3 : b.1.cps.size = b.1.length := rfl
      have e4 : b.2.cps.size = b.2.length := rfl
      simp only [PyData.bulk, PyData.bulkAll]
      rw [bw_len]
      omega
    have s1 := join_sum 59 (hs.map pw)
    have s2 := lw_sum (c := 59) (xs := bs.map bw)
    rw [List.map_map, List.length_map] at s1 s2
    have t1 : (hs.map fun p => (pw p).length) = hs.map ((fun x => x.length) ∘ pw) := rfl
    have t2 : (bs.map fun p => (bw p).length) = bs.map ((fun x => x.length) ∘ bw) := rfl
    rw [t1] at b1
    rw [t2] at b2
    simp only [PyData.bulk, PyData.bulkAll]
    omega
theorem repr_ok {d : D} {p : PyData} (e : ∀ S, pd S d = some p) (h1 : p.showable = true) (h2 : p.leavesShort 13 = true) (h3 : p.depth ≤ 60) (h4 : p.bulk ≤ 2 ^ 20) : ∀ S, reprD [d] S = .ok (.str p.shown) S := by
  intro S
  have ok : reprOk p = true := by
    unfold reprOk
    simp only [decide_eq_true_eq, Bool.and_eq_true]
    exact ⟨⟨h1, PyData.shown_fits_bulk (by decide) (by decide) h2 h4⟩, h3⟩
  unfold reprD
  dsimp only
  rw [e]
  dsimp only
  rw [if_pos ok]
theorem repr_house {hs : List Hand} {bs : List Way} (h : houseB hs bs = true) (hl : (hword hs bs).length ≤ 20000) : ∃ z, ∀ S, reprD [encH hs bs] S = .ok (.str z) S := by
  obtain ⟨e1, e2, e3, e4⟩ := hb_ok h hl
  exact ⟨_, repr_ok (p := hbP hs bs) (fun S => pd_hb) e1 e2 (by omega) (Nat.le_trans e4 (by decide))⟩
theorem rdH_house {p : Str} {hs : List Hand} {bs : List Way} (h : rdH p = some (hs, bs)) : houseB hs bs = true := by
  unfold rdH at h
  split at h
  · split at h
    · split at h
      · rename_i q; cases h; exact q
      · cases h
    · cases h
  · cases h
theorem told_word {t : Str} {x : List Hand × List Way} (h : rdO t = .told x) : hword x.1 x.2 = t ∧ houseB x.1 x.2 = true := by
  unfold rdO at h
  rcases q : Txt.split t (one 32) with _ | ⟨p, r⟩
  · rw [q] at h; cases h
  · rw [q] at h
    dsimp only at h
    cases z : rdH p with
    | none => rw [z] at h; cases h
    | some y =>
      rw [z] at h
      cases r with
      | nil =>
        cases h
        have j := cut_join t 32
        rw [q] at j
        have e : p = t := j
        exact ⟨(word_back (hs := x.1) (bs := x.2) z).trans e, rdH_house (hs := x.1) (bs := x.2) z⟩
      | cons q' r' => cases h
theorem word_told {hs : List Hand} {bs : List Way} (h : houseB hs bs = true) : rdO (hword hs bs) = .told (hs, bs) := by
  obtain ⟨g0, g1, g2⟩ := house_parts h
  have k1 := List.all_eq_true.mp g1
  have k2 := List.all_eq_true.mp g2
  have n : ¬ has 32 (hword hs bs) := by
    intro hx
    unfold hword at hx
    rw [has_app, has_app, has_one] at hx
    rcases hx with (hx | hx) | hx
    · rcases has_join hx with h | ⟨x, a, b⟩
      · omega
      · obtain ⟨p, u, v⟩ := List.mem_map.mp a
        exact pw_has (k1 p u) (v ▸ b) (by omega)
    · omega
    · rcases lw_has hx with h | h | ⟨x, a, b⟩
      · omega
      · omega
      · obtain ⟨p, u, v⟩ := List.mem_map.mp a
        exact bw_has (k2 p u) (v ▸ b) (by omega)
  have s : Txt.split (hword hs bs) (one 32) = [hword hs bs] := cut_back (c := 32) (ps := [hword hs bs]) (by omega) (by simp) fun p hp => by
    rw [List.mem_singleton.mp hp]; exact n
  unfold rdO
  rw [s]
  dsimp only
  rw [word_fwd h]
theorem no_small {t : Str} {k : Int} (h : rdO t = .no k) : k = 0 ∨ k = 1 := by
  unfold rdO at h
  split at h
  · cases h; exact .inl rfl
  · split at h <;> cases h <;> first | exact .inl rfl | exact .inr rfl
theorem repr_due {t : Str} (hl : t.length ≤ 20000) : ∃ z, ∀ S, reprD [dueD (rdO t)] S = .ok (.str z) S := by
  cases q : rdO t with
  | told x =>
    obtain ⟨e, hh⟩ := told_word q
    obtain ⟨e1, e2, e3, e4⟩ := hb_ok hh (by rw [e]; exact hl)
    have s : PyData.leavesShort 13 (.str "told") = true := by decide
    exact ⟨_, repr_ok (p := .tuple [.str "told", hbP x.1 x.2]) (fun S => by
      show pd0 (.tup [.str "told", encH x.1 x.2]) = _
      unfold pd0 pds0 pds0 pds0
      rw [pd_hb]
      rfl) (by simp only [PyData.showable, PyData.showableAll, Bool.and_eq_true, and_true, true_and] at e1 ⊢; exact e1)
      (by unfold PyData.leavesShort PyData.leavesShortAll PyData.leavesShortAll PyData.leavesShortAll; rw [s, e2]; rfl)
      (by have d : PyData.depth (.tuple [.str "told", hbP x.1 x.2]) = (hbP x.1 x.2).depth + 1 := by
            conv => lhs; unfold PyData.depth PyData.depthAll PyData.depthAll PyData.depthAll
            have : PyData.depth (.str "told") = 0 := by simp [PyData.depth]
            rw [this]
            omega
          omega)
      (by have d : PyData.bulk (.tuple [.str "told", hbP x.1 x.2]) = (hbP x.1 x.2).bulk + 6 := by
            conv => lhs; unfold PyData.bulk PyData.bulkAll PyData.bulkAll PyData.bulkAll
            have : PyData.bulk (.str "told") = 4 := by decide
            rw [this]
            omega
          have : (2 : Nat) ^ 20 = 1048576 := by decide
          omega)⟩
  | no k =>
    rcases no_small q with e | e
    · subst e
      exact ⟨_, repr_ok (p := .tuple [.str "page", .int 0, .int 0]) (fun S => rfl) (by decide) (by kernel_rfl) (by decide) (by decide)⟩
    · subst e
      exact ⟨_, repr_ok (p := .tuple [.str "page", .int 0, .int 1]) (fun S => rfl) (by decide) (by kernel_rfl) (by decide) (by decide)⟩
end
end K84
end
section
set_option Elab.async false
set_option linter.all false
set_option maxRecDepth 100000
set_option maxHeartbeats 0
namespace K84
open PySem PySem.Spec PySem.W PyProof.Rows L2 LamX He MM
abbrev R : PySem.W.OpenRow := PySem.W.OpenLaw.row PySem.Challenge.rw_mustmays_k84_house_words
abbrev hk : PySem.W.Hook := hookM 7 lm fs fn
def ob (s : PySem.W.SharedT) : AlM := obsM 7 lm fs fn (HandSHeadRun.getT s)
theorem ob_eq (s : PySem.W.SharedT) : ob s = hk.obs s.abs := obsM_eq (HandSHeadRun.getT_eq s)
def loose0 : List PySem.Str := ["_wall", "__name__", "NOTHING", "listed_words", "house_word", "LET_WORDS", "LETTERS", "LONGEST", "is_word", "MustError", "LackError", "NoPaper", "NoRules", "NoMore", "NoShowing", "NoText"]
def loose1 : List PySem.Str := ["NoRow", "NoHand", "NoName", "NoStep", "are_rising", "is_rules", "is_pair_of_two", "are_hands", "is_draft", "rules_bar", "is_house", "need_rules", "need_bridge", "bridged_from", "lets_draft", "rule_in"]
def loose2 : List PySem.Str := ["parts_by", "rules_in", "bridge_in", "house_in", "WordTaker", "read_house", "_law_feed", "_law_draw", "_law_said", "_law_home", "_law_home_word", "_law_any_home", "_law_home_in", "_law_read", "_law_read_due", "_law_bent_word"]
def loose : List PySem.Str := loose0 ++ loose1 ++ loose2
theorem run (w : World) : HandSHeadRun.RunEq R (PySem.W.view R.prog [54]) hk ob 20000 loose w := by
  intro os
  kernel_rfl
end K84
end
section
set_option Elab.async false
set_option linter.all false
set_option maxRecDepth 100000
set_option maxHeartbeats 2097152
namespace K84
open PySem PySem.Spec PySem.W PyProof.Rows L2 LamX He MM
/-- the law, over plain data -/
def Plain : Prop := ∀ (K : PySem.W.Frag) (h : Heap) (cs : List (Addr × Addr)) (ns : List Int), Sy K h cs → ns.length ≤ 63 → ∃ S', F_law K [.frn (ns.map D.int)] [] = .ok (.bl true) S'
/-- the world at the entry -/
def Z0 (H : Hp) : Hp := fun b => match H b with
  | some (.frz o u) => some (.frz o u)
  | some (.lst xs) => some (.lst xs)
  | _ => none
theorem z0_same (H : Hp) : Same (Z0 H) H := fun b o e => by
  unfold Z0 at e
  split at e
  · rename_i q; rw [q]; exact e
  · rename_i q; rw [q]; exact e
  · cases e
theorem z0_fz (H : Hp) : ∀ a o, Z0 H a = some o → Fz o := fun b o e => by
  unfold Z0 at e
  split at e
  · cases e; trivial
  · cases e; trivial
  · cases e
theorem z0_sq {K : PySem.W.Frag} {H : Hp} {a : Addr} {vs : List V} (h : SqL K H a vs) : SqL K (Z0 H) a vs := by
  rcases (h) with (h | ⟨o, h⟩) | h
  · exact .inl (.inl (by unfold Z0; rw [h]))
  · exact .inl (.inr ⟨o, by unfold Z0; rw [h]⟩)
  · exact .inr h
theorem sp_law {K : PySem.W.Frag} {h : Heap} {cs : List (Addr × Addr)} (c : Sy K h cs) (pl : Plain) {PP : Addr} {H : Hp} {a : Addr} {ns : List Int} (hl : ns.length ≤ 63) (hP : H PP = some (.tbl #[])) (hS : SqL K H a (ns.map V.int)) :
    spM K ⟨[(PP, lamQ)], none, none⟩ 1 (F_law K) [.ref a] H (fun v _ => v = .bl true) fun _ _ _ => False := by
  obtain ⟨S', e⟩ := pl K h cs ns c hl
  refine ⟨⟨Z0 H, fun _ => none, fun _ => none, none⟩, [.frn (ns.map D.int)], [], rfl, .cons (.frn (z0_sq hS) (VRs.ints ns)) .nil, ?_, ?_⟩
  · refine ⟨z0_same H, z0_fz H, fun n o hn => (by simp at hn), fun n m a hn => (by cases hn), fun n a hn => (by cases hn), fun p hp => ?_, fun b o hb => (by cases hb), fun n a o hn => (by simp at hn), fun a o _ => rfl, ⟨fun q hq => (by cases hq), fun W0 h0 => (by cases h0)⟩, fun b o hb => (by cases hb)⟩
    have e : p = (PP, lamQ) := List.mem_singleton.mp hp
    subst e
    exact TabS.nil hP
  · rw [e]
    exact fun W' v H' _ r _ => by cases r; rfl
theorem law_at (pl : Plain) (w : World) (mg : Str → Option Value) (fa : Addr) (h : Heap) (Y : hk.says w h) (G : h.Ns mainGlobals mg) (hmg : mg ("law" : PySem.Str) = some (.ref fa)) :
    ∃ K : PySem.W.Frag, K.In h ∧ LawAtG PySem.Challenge.rw_mustmays_k84_house_words w K 12 63 "_law_script" mg fa h := by
  obtain ⟨K, cs, c⟩ := Y
  have e := hmg.symm.trans (g_law c G)
  cases e
  obtain ⟨fd, F⟩ := fd_law (K := K) c
  obtain ⟨PP, rfl⟩ : ∃ PP, cs = [((codeTab K ("_law_home", none)).1, PP)] := by
    have e := c.ecs
    match cs, e with
    | [(x, y)], e =>
      have e' : [x] = [(codeTab K ("_law_home", none)).1] := e
      rw [List.cons.injEq] at e'
      exact ⟨y, by rw [e'.1]⟩
    | [], e => cases e
    | _ :: _ :: _, e => exact absurd (congrArg List.length e) (by simp [lm])
  refine ⟨K, c.kin, fd, _, spM K ⟨[(PP, lamQ)], none, none⟩ 1 (F_law K), c.tab, c.nT, c.hd, fun s u => ?_, fun H a ns hl _ hP hS => sp_law c pl hl (hP _ List.mem_cons_self) hS, fun base KB GB TB => ?_⟩
  · exact FunD.bindsA (ps := ["_law_script"]) F (fun _ _ _ _ _ _ us hl => match us, hl with | [_], _ => rfl) s [u] rfl
  · exact fn_law (T := ⟨[(PP, lamQ)], none, none⟩) c G rfl rfl rfl (TB _ List.mem_cons_self) F
end K84
open PyProof.Rows PySem.Calls PySem.W PySem
theorem k84_holds_of (pl : K84.Plain) : PySem.Challenge.rw_mustmays_k84_house_words.Holds := by
  w_on; o_law
  refine HandSHeadRun.head_any (r := OpenLaw.row PySem.Challenge.rw_mustmays_k84_house_words) (q := view (OpenLaw.row PySem.Challenge.rw_mustmays_k84_house_words).prog [54]) (H := K84.hk) (ob := K84.ob) (M := 20000) (loose := K84.loose) (d := HandSHeadRun.topDef (OpenLaw.row PySem.Challenge.rw_mustmays_k84_house_words).prog 54) (kwd := []) K84.ob_eq
    (by kernel_rfl) (fun s => by kernel_rfl) K84.run (by kernel_rfl) (by kernel_rfl) (by kernel_rfl) (by rfl) (by first | assumption | decide +kernel) (by decide +kernel) ⟨rfl, rfl, rfl, rfl, rfl, by decide +kernel⟩ ?hw ?hc
  case hw => w_witness2
  case hc =>
    refine MM.walk_G (l := PySem.Challenge.rw_mustmays_k84_house_words) (n := 63) (k := 12) (x := "_law_script") rfl (by decide) (by kernel_rfl) ⟨⟨rfl, by decide, by decide⟩, rfl⟩ ?F
    intro w mg fa h Y G hmg0
    have hmg : mg ("law" : PySem.Str) = some (.ref fa) := by -- law
      have e : (HandSHeadRun.topDef (OpenLaw.row PySem.Challenge.rw_mustmays_k84_house_words).prog 54).name = ("law" : PySem.Str) := by kernel_rfl
      rw [← e]
      exact hmg0
    exact K84.law_at pl w mg fa h Y G hmg
end
section
set_option Elab.async false
set_option linter.all false
set_option maxRecDepth 100000
set_option maxHeartbeats 1048576
namespace K84
open PySem PySem.Spec PySem.W PyProof.Rows L2 LamX He MM
section
variable {K : PySem.W.Frag} {h : Heap} {cs : List (Addr × Addr)} {S R : Store} {ns : List Int} {a w k : Int}
/-! ### the law -/
def tl : Nat → Nat → List D
  | _, 0 => []
  | t, n + 1 => .int t :: tl (t + 1) n
def Bd (t : Nat) : Nat := if t % 3 = 0 then 2500 else if t % 3 = 1 then 601 else 1203
theorem Bd_le {t : Nat} : Bd t ≤ 2500 := by
  unfold Bd
  split
  · omega
  · split <;> omega
def bT : SM := (sSeq (sAsg (eCall (cM 1 (F_law_read K)) (aCons (eVar 4) aNil)) (gN 6))
    (sSeq (sIf (bTest (e2 neD (eCall reprD (aCons (eVar 6) aNil)) (eCall reprD (aCons (eCall (cM 1 (F_law_read_due K)) (aCons (eVar 4) aNil)) aNil)))) (sRet (eC (.bl false))) sNext)
    (sSeq (sIf (bAnd (bTest (e2 eqD (e2 ixD (eVar 6) (eC (.int 0))) (eC (.str "told")))) (bAnd (bTest (e2 ltD (eCall lenD (aCons (e2 ixD (e2 ixD (eVar 6) (eC (.int 1))) (eC (.int 0))) aNil)) (eC (.int 4)))) (bTest (e2 neD (eCall (cM 1 (F_house_word K)) (aCons (e2 ixD (eVar 6) (eC (.int 1))) aNil)) (eVar 4))))) (sRet (eC (.bl false))) sNext)
    (sAsg (eCall (cM 2 (F_law_bent_word K)) (aCons (eVar 1) (aCons (eIf (bTest (e2 gtD (e2 modD (eVar 5) (eC (.int 3))) (eC (.int 0)))) (eVar 4) (eCall (cM 1 (F_law_home_word K)) (aCons (eVar 3) aNil))) aNil))) (gN 4)))))
def bLook : SM := sSeq (sIf (bTest (e2 neD (eCall reprD (aCons (eVar 6) aNil)) (eCall reprD (aCons (eCall (cM 1 (F_law_read_due K)) (aCons (eVar 4) aNil)) aNil)))) (sRet (eC (.bl false))) sNext)
    (sIf (bAnd (bTest (e2 eqD (e2 ixD (eVar 6) (eC (.int 0))) (eC (.str "told")))) (bAnd (bTest (e2 ltD (eCall lenD (aCons (e2 ixD (e2 ixD (eVar 6) (eC (.int 1))) (eC (.int 0))) aNil)) (eC (.int 4)))) (bTest (e2 neD (eCall (cM 1 (F_house_word K)) (aCons (e2 ixD (eVar 6) (eC (.int 1))) aNil)) (eVar 4))))) (sRet (eC (.bl false))) sNext)
theorem var_due {r : RdO} : varD (some (dueD r)) S = .ok (dueD r) S := by cases r <;> rfl
theorem ne_same {z : Str} : neD (.str z) (.str z) S = .ok (.bl false) S := by simp
theorem turn_ok (c : Sy K h cs) {d0 d2 d6 : Option D} {hs : List Hand} {bs : List Way} {t : Nat} {p : Str} (hh : houseB hs bs = true) (hw : (hword hs bs).length ≤ 300 ∧ hs.length ≤ 3 ∧ bs.length ≤ 6) (hp : p.length ≤ Bd t) (hF : okF ns a w k) (hk : k ≤ 80000) :
    ∃ (a' w' k' : Int) (p' : Str) (d6' : Option D) (G : Store), bT (K := K) [d0, some (.ref 0), d2, some (encH hs bs), some (.str p), some (.int t), d6] (fd ns a w k :: R) = .nx [d0, some (.ref 0), d2, some (encH hs bs), some (.str p'), some (.int t), d6'] (fd ns a' w' k' :: (R ++ G)) ∧ p'.length ≤ Bd (t + 1) ∧ okF ns a' w' k' ∧ k' ≤ k + 4 := by
  have hp0 : p.length ≤ 2500 := Nat.le_trans hp Bd_le
  have ht : tiny p := by show p.length ≤ 50000; omega
  obtain ⟨G1, e1⟩ := law_read_ok (S := fd ns a w k :: R) c ht
  obtain ⟨G2, e2'⟩ := law_read_due_ok (S := (fd ns a w k :: R) ++ G1) c ht
  obtain ⟨z, er⟩ := repr_due (t := p) (by omega)
  have lw' := fun S => law_word_ok (K := K) (S := S) (hs := hs) (bs := bs) (by show (hword hs bs).length ≤ 50000; omega) (by show hs.length ≤ 100000; omega) (by show bs.length ≤ 100000; omega)
  -- what is bent
  obtain ⟨src, q1, q2⟩ : ∃ src : Str, (∀ δ : Env', δ = [d0, some (.ref 0), d2, some (encH hs bs), some (.str p), some (.int t), some (dueD (rdO p))] → (eIf (bTest (e2 gtD (e2 modD (eVar 5) (eC (.int 3))) (eC (.int 0)))) (eVar 4) (eCall (cM 1 (F_law_home_word K)) (aCons (eVar 3) aNil))) δ ((fd ns a w k :: R) ++ G1 ++ G2) = .ok (.str src) ((fd ns a w k :: R) ++ G1 ++ G2)) ∧ 2 * src.length + 1 ≤ Bd (t + 1) := by
    by_cases m : t % 3 = 0
    · refine ⟨hword hs bs, fun δ hδ => ?_, ?_⟩
      · subst hδ
        have m' : ¬ (0 : Int) < (t : Int) % 3 := by omega
        simp [m', lw']
      · unfold Bd
        have : (t + 1) % 3 = 1 := by omega
        rw [this]
        simp
        omega
    · refine ⟨p, fun δ hδ => ?_, ?_⟩
      · subst hδ
        have m' : (0 : Int) < (t : Int) % 3 := by omega
        simp [m']
      · unfold Bd at hp ⊢
        rw [if_neg m] at hp
        by_cases m1 : t % 3 = 1
        · have : (t + 1) % 3 = 2 := by omega
          rw [if_pos m1] at hp
          rw [this]
          simp
          omega
        · have : (t + 1) % 3 = 0 := by omega
          rw [if_neg m1] at hp
          rw [this]
          simp
          omega
  have ls : src.length ≤ 2500 := by
    have : Bd (t + 1) ≤ 2500 := Bd_le
    omega
  obtain ⟨a', w', k', p', b1, b2, b3, b4⟩ := bent_ok (K := K) (R := R ++ G1 ++ G2) (t := src) hF (by omega) (by omega)
  refine ⟨a', w', k', p', some (dueD (rdO p)), G1 ++ G2, ?_, by omega, b3, b4⟩
  have look : bLook (K := K) [d0, some (.ref 0), d2, some (encH hs bs), some (.str p), some (.int t), some (dueD (rdO p))] ((fd ns a w k :: R) ++ G1) = .nx [d0, some (.ref 0), d2, some (encH hs bs), some (.str p), some (.int t), some (dueD (rdO p))] ((fd ns a w k :: R) ++ G1 ++ G2) := by
    unfold bLook
    generalize (fd ns a w k :: R) ++ G1 = S1 at e2'
    have s1 : sIf (bTest (e2 neD (eCall reprD (aCons (eVar 6) aNil)) (eCall reprD (aCons (eCall (cM 1 (F_law_read_due K)) (aCons (eVar 4) aNil)) aNil)))) (sRet (eC (.bl false))) sNext [d0, some (.ref 0), d2, some (encH hs bs), some (.str p), some (.int t), some (dueD (rdO p))] S1 = .nx [d0, some (.ref 0), d2, some (encH hs bs), some (.str p), some (.int t), some (dueD (rdO p))] (S1 ++ G2) := by
      simp [var_due, er, e2']
    rw [sSeq_ap, s1]
    dsimp only
    cases q : rdO p with
    | told x =>
      obtain ⟨t1, t2⟩ := told_word q
      obtain ⟨xh, xb⟩ := x
      have i0 : ∀ S, ixD (dueD (.told (xh, xb))) (.int 0) S = .ok (.str "told") S := fun S => rfl
      have i1 : ∀ S, ixD (dueD (.told (xh, xb))) (.int 1) S = .ok (encH xh xb) S := fun S => rfl
      have i2 : ∀ S, ixD (encH xh xb) (.int 0) S = .ok (encHs xh) S := fun S => rfl
      by_cases l : xh.length < 4
      · have l1 : xb.length ≤ 100000 := by
          have s1 := lw_sum (c := 59) (xs := xb.map bw)
          have s2 := hword_len (hs := xh) (bs := xb)
          dsimp only at t1
          rw [t1] at s2
          rw [List.length_map] at s1
          omega
        have hwd := fun S => house_word_ok (K := K) (S := S) (hs := xh) (bs := xb) (by dsimp only at t1; rw [t1]; exact ht) (by show xh.length ≤ 100000; omega) l1
        have l' : (xh.length : Int) < 4 := by omega
        dsimp only at t1
        simp [var_due, i0, i1, i2, l', hwd, t1]
      · have l' : ¬ (xh.length : Int) < 4 := by omega
        simp [var_due, i0, i1, i2, l']
    | no k =>
      have i0 : ∀ S, ixD (dueD (.no k)) (.int 0) S = .ok (.str "page") S := fun S => rfl
      have rt : ((("page" : Str) == "told") = false) := by decide
      simp [var_due, i0, rt]
  have lst : sAsg (eCall (cM 2 (F_law_bent_word K)) (aCons (eVar 1) (aCons (eIf (bTest (e2 gtD (e2 modD (eVar 5) (eC (.int 3))) (eC (.int 0)))) (eVar 4) (eCall (cM 1 (F_law_home_word K)) (aCons (eVar 3) aNil))) aNil))) (gN 4) [d0, some (.ref 0), d2, some (encH hs bs), some (.str p), some (.int t), some (dueD (rdO p))] ((fd ns a w k :: R) ++ G1 ++ G2) = .nx [d0, some (.ref 0), d2, some (encH hs bs), some (.str p'), some (.int t), some (dueD (rdO p))] (fd ns a' w' k' :: (R ++ (G1 ++ G2))) := by
    have q1' := q1 _ rfl
    rw [sAsg_ap, eCall_ap, bind_ap, aCons_ap, bind_ap]
    simp only [eVar_ap, List.getElem?_cons_succ, List.getElem?_cons_zero, Option.getD_some, var_ref]
    rw [bind_ap, aCons_ap, bind_ap, q1']
    simp only [List.append_assoc] at b1
    simp [b1]
  have rd : sAsg (eCall (cM 1 (F_law_read K)) (aCons (eVar 4) aNil)) (gN 6) [d0, some (.ref 0), d2, some (encH hs bs), some (.str p), some (.int t), d6] (fd ns a w k :: R) = .nx [d0, some (.ref 0), d2, some (encH hs bs), some (.str p), some (.int t), some (dueD (rdO p))] ((fd ns a w k :: R) ++ G1) := by
    simp [e1]
  unfold bT
  rw [sSeq_ap, rd]
  dsimp only
  unfold bLook at look
  rw [sSeq_ap] at look ⊢
  revert look
  generalize sIf (bTest (e2 neD (eCall reprD (aCons (eVar 6) aNil)) (eCall reprD (aCons (eCall (cM 1 (F_law_read_due K)) (aCons (eVar 4) aNil)) aNil)))) (sRet (eC (.bl false))) sNext [d0, some (.ref 0), d2, some (encH hs bs), some (.str p), some (.int t), some (dueD (rdO p))] ((fd ns a w k :: R) ++ G1) = r
  intro look
  cases r with
  | nx δ1 S1 =>
    dsimp only at look ⊢
    rw [sSeq_ap, look]
    dsimp only
    exact lst
  | _ => cases look
theorem turns_ok (c : Sy K h cs) {d0 d2 : Option D} {hs : List Hand} {bs : List Way} (hh : houseB hs bs = true) (hw : (hword hs bs).length ≤ 300 ∧ hs.length ≤ 3 ∧ bs.length ≤ 6) : ∀ (n t : Nat) (p : Str) (a w k : Int) (d5 d6 : Option D) (R : Store), p.length ≤ Bd t → okF ns a w k → k + n * 4 ≤ 80000 →
    ∃ (a' w' k' : Int) (p' : Str) (d5' d6' : Option D) (G : Store), forM (gN 5) (bT (K := K)) (tl t n) [d0, some (.ref 0), d2, some (encH hs bs), some (.str p), d5, d6] (fd ns a w k :: R) = .nx [d0, some (.ref 0), d2, some (encH hs bs), some (.str p'), d5', d6'] (fd ns a' w' k' :: (R ++ G)) ∧ okF ns a' w' k' ∧ k' ≤ k + n * 4
  | 0, t, p, a, w, k, d5, d6, R, _, hF, _ => ⟨a, w, k, p, d5, d6, [], by simp [tl, forM_nil], hF, by omega⟩
  | n + 1, t, p, a, w, k, d5, d6, R, hp, hF, hk => by
    obtain ⟨a1, w1, k1, p1, q6, G, e1, e2, e3, e4⟩ := turn_ok (R := R) (d0 := d0) (d2 := d2) (d6 := d6) c hh hw hp hF (by omega)
    obtain ⟨a2, w2, k2, p2, q5, q6', G2, f1, f2, f3⟩ := turns_ok c hh hw n (t + 1) p1 a1 w1 k1 (some (.int t)) q6 (R ++ G) e2 e3 (by omega)
    refine ⟨a2, w2, k2, p2, q5, q6', G ++ G2, ?_, f2, by omega⟩
    have bt : gN 5 (.int t) [d0, some (.ref 0), d2, some (encH hs bs), some (.str p), d5, d6] = some [d0, some (.ref 0), d2, some (encH hs bs), some (.str p), some (.int t), d6] := rfl
    unfold tl
    rw [forM_cons, bt]
    dsimp only
    rw [e1]
    dsimp only
    rw [f1, List.append_assoc]
def bLap : SM := (sSeq (sAsg (eIf (bTest (e2 gtD (eVar 2) (eC (.int 0)))) (eCall (cM 1 (F_law_any_home K)) (aCons (eVar 1) aNil)) (eCall (cM 1 (F_law_home K)) (aCons (eVar 1) aNil))) (gN 3))
    (sSeq (sAsg (eCall (cM 1 (F_law_home_word K)) (aCons (eVar 3) aNil)) (gN 4))
    (sSeq (sIf (bOr (bTest (e2 neD (eCall (cM 1 (F_house_word K)) (aCons (eVar 3) aNil)) (eVar 4))) (bTest (e2 neD (eCall reprD (aCons (eCall (cM 1 (F_read_house K)) (aCons (eVar 4) aNil)) aNil)) (eCall reprD (aCons (eVar 3) aNil))))) (sRet (eC (.bl false))) sNext)
    (sFor (iCall rng1 (aCons (eC (.int 9)) aNil)) (gN 5) (bT (K := K))))))
theorem lap_ok (c : Sy K h cs) {d0 d3 d4 d5 d6 : Option D} {t : Nat} (hF : okF ns a w k) (hk : k ≤ 70000) :
    ∃ (a' w' k' : Int) (d3' d4' d5' d6' : Option D) (G : Store), bLap (K := K) [d0, some (.ref 0), some (.int t), d3, d4, d5, d6] (fd ns a w k :: R) = .nx [d0, some (.ref 0), some (.int t), d3', d4', d5', d6'] (fd ns a' w' k' :: (R ++ G)) ∧ okF ns a' w' k' ∧ k' ≤ k + 50 := by
  have hm : ∃ (a' w' k' : Int) (fs : List Str) (hs : List Hand) (bs : List Way) (G : Store), folkB fs = true ∧ hs.map (·.1) = fs ∧ (∀ p ∈ hs, p.2 ∈ menuL) ∧ bs.Sublist (prodL fs) ∧ sAsg (eIf (bTest (e2 gtD (eVar 2) (eC (.int 0)))) (eCall (cM 1 (F_law_any_home K)) (aCons (eVar 1) aNil)) (eCall (cM 1 (F_law_home K)) (aCons (eVar 1) aNil))) (gN 3) [d0, some (.ref 0), some (.int t), d3, d4, d5, d6] (fd ns a w k :: R) = .nx [d0, some (.ref 0), some (.int t), some (encH hs bs), d4, d5, d6] (fd ns a' w' k' :: (R ++ G)) ∧ okF ns a' w' k' ∧ k' ≤ k + 14 := by
    by_cases z : t = 0
    · obtain ⟨a', w', k', fs, hs, bs, G, h1, h2, h3, h4, h5, h6, h7⟩ := home_ok (R := R) c hF (by omega)
      refine ⟨a', w', k', fs, hs, bs, G, h1, h2, h3, h4, ?_, h6, h7⟩
      subst z
      simp [h5]
    · obtain ⟨a', w', k', fs, hs, bs, G, h1, h2, h3, h4, h5, h6, h7⟩ := any_home_ok (K := K) (R := R) hF (by omega)
      refine ⟨a', w', k', fs, hs, bs, G, h1, h2, h3, h4, ?_, h6, h7⟩
      have z' : 0 < t := by omega
      simp [z', h5]
  obtain ⟨a1, w1, k1, fs, hs, bs, G1, h1, h2, h3, h4, h5, h6, h7⟩ := hm
  have hh := drawn_house h1 h2 h3 h4
  have sz := drawn_size h1 h2 h3 h4
  have lw1 := fun S => law_word_ok (K := K) (S := S) (hs := hs) (bs := bs) (by show (hword hs bs).length ≤ 50000; omega) (by show hs.length ≤ 100000; omega) (by show bs.length ≤ 100000; omega)
  have lw2 := fun S => house_word_ok (K := K) (S := S) (hs := hs) (bs := bs) (by show (hword hs bs).length ≤ 50000; omega) (by show hs.length ≤ 100000; omega) (by show bs.length ≤ 100000; omega)
  obtain ⟨G2, r1⟩ := read_house_ok (S := fd ns a1 w1 k1 :: (R ++ G1)) c (t := hword hs bs) (by show (hword hs bs).length ≤ 50000; omega)
  rw [word_told hh] at r1
  dsimp only at r1
  obtain ⟨z, er⟩ := repr_house hh (by omega)
  have vH : ∀ S, varD (some (encH hs bs)) S = .ok (encH hs bs) S := fun S => rfl
  have s3 : sIf (bOr (bTest (e2 neD (eCall (cM 1 (F_house_word K)) (aCons (eVar 3) aNil)) (eVar 4))) (bTest (e2 neD (eCall reprD (aCons (eCall (cM 1 (F_read_house K)) (aCons (eVar 4) aNil)) aNil)) (eCall reprD (aCons (eVar 3) aNil))))) (sRet (eC (.bl false))) sNext [d0, some (.ref 0), some (.int t), some (encH hs bs), some (.str (hword hs bs)), d5, d6] (fd ns a1 w1 k1 :: (R ++ G1)) = .nx [d0, some (.ref 0), some (.int t), some (encH hs bs), some (.str (hword hs bs)), d5, d6] (fd ns a1 w1 k1 :: (R ++ G1) ++ G2) := by
    have r1' : F_read_house K [.str (hword hs bs)] (fd ns a1 w1 k1 :: (R ++ G1)) = .ok (encH hs bs) (fd ns a1 w1 k1 :: (R ++ G1) ++ G2) := r1
    have w2 := lw2 (fd ns a1 w1 k1 :: (R ++ G1))
    have er1 := er (fd ns a1 w1 k1 :: (R ++ G1) ++ G2)
    rw [sIf_ap, bOr_ap, bind_ap, bTest_ap, bind_ap, e2_ap, bind_ap, eCall_ap, bind_ap, aCons_ap, bind_ap]
    simp only [eVar_ap, List.getElem?_cons_succ, List.getElem?_cons_zero, Option.getD_some, vH, bind_ap, aNil_ap, pure_ap, cM_ap, List.length_cons, List.length_nil, if_true, w2, var_str, ne_same, isBl_ap, Bool.false_eq_true, if_false, bTest_ap, e2_ap, eCall_ap, aCons_ap, r1', er1, ite_ap, sNext_ap]
  obtain ⟨a2, w2, k2, p', d5', d6', G3, f1, f2, f3⟩ := turns_ok (ns := ns) (d0 := d0) (d2 := some (.int t)) c hh sz 9 0 (hword hs bs) a1 w1 k1 d5 d6 (R ++ G1 ++ G2) (by unfold Bd; simp; omega) h6 (by omega)
  refine ⟨a2, w2, k2, some (encH hs bs), some (.str p'), d5', d6', G1 ++ G2 ++ G3, ?_, f2, by omega⟩
  have s2 : sAsg (eCall (cM 1 (F_law_home_word K)) (aCons (eVar 3) aNil)) (gN 4) [d0, some (.ref 0), some (.int t), some (encH hs bs), d4, d5, d6] (fd ns a1 w1 k1 :: (R ++ G1)) = .nx [d0, some (.ref 0), some (.int t), some (encH hs bs), some (.str (hword hs bs)), d5, d6] (fd ns a1 w1 k1 :: (R ++ G1)) := by
    have w2 := lw1 (fd ns a1 w1 k1 :: (R ++ G1))
    rw [sAsg_ap, eCall_ap, bind_ap, aCons_ap, bind_ap]
    simp only [eVar_ap, List.getElem?_cons_succ, List.getElem?_cons_zero, Option.getD_some, vH, bind_ap, aNil_ap, pure_ap, cM_ap, List.length_cons, List.length_nil, if_true, w2]
    simp [w2]
  have s4 : sFor (iCall rng1 (aCons (eC (.int 9)) aNil)) (gN 5) (bT (K := K)) [d0, some (.ref 0), some (.int t), some (encH hs bs), some (.str (hword hs bs)), d5, d6] (fd ns a1 w1 k1 :: (R ++ G1) ++ G2) = .nx [d0, some (.ref 0), some (.int t), some (encH hs bs), some (.str p'), d5', d6'] (fd ns a2 w2 k2 :: (R ++ (G1 ++ G2 ++ G3))) := by
    have rg : ∀ S, rng1 [.int 9] S = .ok (tl 0 9) S := fun S => by
      show M.ask _ _ S = _
      rw [ask_ap, if_pos (by decide)]
      rfl
    have e : (fd ns a1 w1 k1 :: (R ++ G1) ++ G2) = fd ns a1 w1 k1 :: (R ++ G1 ++ G2) := by simp
    rw [e, sFor_ap, iCall_ap, bind_ap, aCons_ap]
    simp only [bind_ap, eC_ap, aNil_ap, pure_ap, rg]
    rw [f1]
    simp
  unfold bLap
  rw [sSeq_ap, h5]
  dsimp only
  rw [sSeq_ap, s2]
  dsimp only
  rw [sSeq_ap, s3]
  dsimp only
  exact s4
theorem laps_ok (c : Sy K h cs) {d0 : Option D} : ∀ (n t : Nat) (a w k : Int) (d2 d3 d4 d5 d6 : Option D) (R : Store), okF ns a w k → k + n * 50 ≤ 70000 →
    ∃ (a' w' k' : Int) (d2' d3' d4' d5' d6' : Option D) (G : Store), forM (gN 2) (bLap (K := K)) (tl t n) [d0, some (.ref 0), d2, d3, d4, d5, d6] (fd ns a w k :: R) = .nx [d0, some (.ref 0), d2', d3', d4', d5', d6'] (fd ns a' w' k' :: (R ++ G))
  | 0, t, a, w, k, d2, d3, d4, d5, d6, R, _, _ => ⟨a, w, k, d2, d3, d4, d5, d6, [], by simp [tl, forM_nil]⟩
  | n + 1, t, a, w, k, d2, d3, d4, d5, d6, R, hF, hk => by
    obtain ⟨a1, w1, k1, q3, q4, q5, q6, G, e1, e2, e3⟩ := lap_ok (R := R) (d0 := d0) (d3 := d3) (d4 := d4) (d5 := d5) (d6 := d6) (t := t) c hF (by omega)
    obtain ⟨a2, w2, k2, r2, r3, r4, r5, r6, G2, f1⟩ := laps_ok c n (t + 1) a1 w1 k1 (some (.int t)) q3 q4 q5 q6 (R ++ G) e2 (by omega)
    refine ⟨a2, w2, k2, r2, r3, r4, r5, r6, G ++ G2, ?_⟩
    have bt : gN 2 (.int t) [d0, some (.ref 0), d2, d3, d4, d5, d6] = some [d0, some (.ref 0), some (.int t), d3, d4, d5, d6] := rfl
    unfold tl
    rw [forM_cons, bt]
    dsimp only
    rw [e1]
    dsimp only
    rw [f1, List.append_assoc]
def bPage : SM := (sIf (bTest (e2 neD (eCall reprD (aCons (eCall (cM 1 (F_law_read K)) (aCons (eVar 4) aNil)) aNil)) (eCall reprD (aCons (eCall (cM 1 (F_law_read_due K)) (aCons (eVar 4) aNil)) aNil)))) (sRet (eC (.bl false))) sNext)
theorem pages_ok (c : Sy K h cs) {d0 d1 d2 d3 d5 d6 : Option D} : ∀ (ps : List Str) (d4 : Option D) (S : Store), (∀ p ∈ ps, p.length ≤ 20000) →
    ∃ (d4' : Option D) (G : Store), forM (gN 4) (bPage (K := K)) (ps.map D.str) [d0, d1, d2, d3, d4, d5, d6] S = .nx [d0, d1, d2, d3, d4', d5, d6] (S ++ G)
  | [], d4, S, _ => ⟨d4, [], by simp [forM_nil]⟩
  | p :: ps, d4, S, hp => by
    have lp := hp p List.mem_cons_self
    have ht : tiny p := by show p.length ≤ 50000; omega
    obtain ⟨G1, e1⟩ := law_read_ok (S := S) c ht
    obtain ⟨G2, e2⟩ := law_read_due_ok (S := S ++ G1) c ht
    obtain ⟨z, er⟩ := repr_due (t := p) lp
    obtain ⟨q4, G3, e3⟩ := pages_ok c (d0 := d0) (d1 := d1) (d2 := d2) (d3 := d3) (d5 := d5) (d6 := d6) ps (some (.str p)) (S ++ G1 ++ G2) fun q hq => hp q (List.mem_cons_of_mem _ hq)
    refine ⟨q4, G1 ++ G2 ++ G3, ?_⟩
    have bt : gN 4 (.str p) [d0, d1, d2, d3, d4, d5, d6] = some [d0, d1, d2, d3, some (.str p), d5, d6] := rfl
    have bb : bPage (K := K) [d0, d1, d2, d3, some (.str p), d5, d6] S = .nx [d0, d1, d2, d3, some (.str p), d5, d6] (S ++ G1 ++ G2) := by
      unfold bPage
      simp [e1, e2, er]
    rw [List.map_cons, forM_cons, bt]
    dsimp only
    rw [bb]
    dsimp only
    rw [e3]
    simp
theorem plain : Plain := by
  intro K h cs ns c hl
  have f0 := feed_ok (K := K) (S := []) hl
  rw [List.nil_append] at f0
  obtain ⟨a, w, k, q2, q3, q4, q5, q6, G, e1⟩ := laps_ok (ns := ns) (d0 := some (.frn (ns.map D.int))) c 6 0 0 0 0 none none none none none [] ⟨hl, by omega, by omega, by omega⟩ (by omega)
  obtain ⟨q4', G2, e2⟩ := pages_ok (d0 := some (.frn (ns.map D.int))) (d1 := some (.ref 0)) (d2 := q2) (d3 := q3) (d5 := q5) (d6 := q6) c ["", " ", "-/-", "/", "h:/-", "h:-/", "h:-", ":-/-", "h:on,on/-", "h:self,on/-", "k:-;h:-/-"] q4 (fd ns a w k :: ([] ++ G)) (by decide)
  have rg : ∀ S, rng1 [.int 6] S = .ok (tl 0 6) S := fun S => by
    show M.ask _ _ S = _
    rw [ask_ap, if_pos (by decide)]
    rfl
  refine ⟨fd ns a w k :: ([] ++ G) ++ G2, ?_⟩
  unfold F_law
  change defM 7 (sSeq _ (sSeq (sFor _ _ (bLap (K := K))) (sSeq (sFor _ _ (bPage (K := K))) _))) _ _ = _
  have s11 : 11 ≤ sizeLine := sz11
  simp only [List.map_cons, List.map_nil, List.nil_append] at e2 e1
  simp [f0, rg, e1, e2]
end
end K84

end
set_option Elab.async false
set_option maxRecDepth 100000 in
set_option maxHeartbeats 0 in
theorem PySem.Challenge.cw_mustmays_k84_house_words_holds : PySem.Challenge.rw_mustmays_k84_house_words.Holds := by
  exact k84_holds_of K84.plain
