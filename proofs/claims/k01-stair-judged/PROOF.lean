import PyProof.Rows.All
import Wide.All
import OpenK.AllK
import Wide.FinOn
import HandS.ForMost
import HandS.Exc
import HandS.ExcOwn
import HandS.TryOnly
import HandS.TryMany
import HandS.ExcInit
import HandS.ExcField
import HandS.ExcIs
import HandS.WordsExc
import HandS.IsInst
import HandS.TupAny
import HandS.Rev
import HandS.Wide
import HandS.TupLe
import HandS.NoneIn
import HandS.Flow
import HandS.Deep
import HandS.SortInts
import KE.KTupSum
import HandS.SortKw
import KE.KSortedM
import KE.GoesMore
import PyProof.EnumMake
import HandS.CallSlots
import PyProof.ReprLen
import PyProof.FitsInt
import PySem.Challenge.RW_hornstairs_k01_stair_judged_by_boxes
set_option Elab.async false
set_option linter.all false
set_option maxRecDepth 100000
namespace HC
open PySem PySem.Spec L2
open PyProof.Rows hiding St

/-! ## data -/
inductive D where
  | non | bl (b : Bool) | int (i : Int) | str (x : Str)
  | tup (xs : List D) | lst (xs : List D) | rol (xs : List D) | dct (ks vs : List D) | obj (c : Nat) (vs : List D) | loc (n : Nat) | err
instance : Inhabited D := ⟨.non⟩
inductive SO where
  | lst (xs : List D) | dct (ks vs : List D) | ins (c : Nat) (vs : List D)
/-- what an expression comes to: a value (fresh: an object that nobody else holds), an exception of the class c with its attributes, or nothing told -/
inductive Res where
  | ok (d : D) (fr : Bool) | ex (c : Nat) (as : List D) | bad
abbrev Sl := List (Option D)
abbrev CE := Sl → List SO → Res

/-- what is known of the text: the written part, the classes' places and the names of their attributes -/
structure GX where
  K : PySem.W.Frag
  cl : Nat → Addr
  fn : Nat → List Str
  xc : Option (Addr × Nat × List D × Value × Option Addr) := none

abbrev FZ := Addr → Prop
/-- a list that is never written: the script -/
def Rol (K : PySem.W.Frag) (H : Hp) (a : Addr) (xs : List V) : Prop := (∃ o, H a = some (.frz o (.lst xs))) ∨
    ∃ (o : Obj) (its : Array Value) (n : Nat), K.lookup a = some o ∧ o.cls = .type "list" ∧ o.dict = none ∧ o.data = .seq its n ∧ its.size ≤ sizeLine ∧ Vals xs its.toList
theorem Rol.sq {K : PySem.W.Frag} {H : Hp} {a : Addr} {xs : List V} (h : Rol K H a xs) : SqL K H a xs := h.imp .inr fun h => h
def SqF (H : Hp) (F : FZ) (a : Addr) (xs : List V) : Prop := F a ∧ H a = some (.lst xs) ∧ xs.length ≤ sizeLine
def keyD : Key → D
  | .inl i => .int i
  | .inr x => .str x
def keysD : List Key → D := fun ks => .tup (ks.map keyD)

mutual
/-- the value v is the data d; F: the frozen objects -/
def RepP (g : GX) (H : Hp) (F : FZ) : D → V → Prop
  | .non, v => v = .non
  | .bl b, v => v = .bl b
  | .int i, v => v = .int i
  | .str x, v => v = .str x
  | .tup ds, v => ∃ a vs, v = .ref a ∧ (SqT g.K H a vs ∧ vs.length ≤ sizeLine) ∧ RepL g H F ds vs
  | .lst ds, v => ∃ a vs, v = .ref a ∧ SqF H F a vs ∧ RepL g H F ds vs
  | .rol ds, v => ∃ a vs, v = .ref a ∧ (Rol g.K H a vs ∧ vs.length ≤ sizeLine) ∧ RepL g H F ds vs
  | .dct ks ds, v => ∃ a vs, v = .ref a ∧ F a ∧ RepL g H F ds vs ∧
      ((∃ kvs, Rd H a (.dK kvs) ∧ ks = kvs.map (fun p => keyD p.1) ∧ vs = kvs.map (·.2)) ∨
       (∃ kvs, Rd H a (.dT kvs) ∧ ks = kvs.map (fun p => keysD p.1) ∧ vs = kvs.map (·.2)))
  | .obj c ds, v => ∃ a dx fs vs, v = .ref a ∧ F a ∧ H a = some (.ins (g.cl c) dx fs) ∧ fs.map (·.1) = g.fn c ∧ vs = fs.map (·.2) ∧ RepL g H F ds vs
  | .loc _, _ => False
  | .err, v => ∃ p, g.xc = some p ∧ v = .ref p.1
def RepL (g : GX) (H : Hp) (F : FZ) : List D → List V → Prop
  | [], vs => vs = []
  | d :: ds, vs => ∃ v ws, vs = v :: ws ∧ RepP g H F d v ∧ RepL g H F ds ws
end

/-- a value that may be one of the store -/
def RepV (g : GX) (H : Hp) (F : FZ) (μ : List Addr) (d : D) (v : V) : Prop :=
  (∃ n a, d = .loc n ∧ μ[n]? = some a ∧ v = .ref a) ∨ RepP g H F d v
def RepVs (g : GX) (H : Hp) (F : FZ) (μ : List Addr) (ds : List D) (vs : List V) : Prop := Paired (RepV g H F μ) ds vs
def RepO (g : GX) (H : Hp) (F : FZ) (μ : List Addr) : SO → Addr → Prop
  | .lst xs, a => ∃ vs, H a = some (.lst vs) ∧ vs.length ≤ sizeLine ∧ RepVs g H F μ xs vs
  | .dct ks ws, a => ∃ vs, RepVs g H F μ ws vs ∧
      ((∃ kvs, H a = some (.dK kvs) ∧ ks = kvs.map (fun p => keyD p.1) ∧ vs = kvs.map (·.2)) ∨
       (∃ kvs, H a = some (.dT kvs) ∧ ks = kvs.map (fun p => keysD p.1) ∧ vs = kvs.map (·.2)))
  | .ins c ws, a => ∃ dx fs vs, H a = some (.ins (g.cl c) dx fs) ∧ (∃ m, fs.map (·.1) = (g.fn c).take m) ∧ vs = fs.map (·.2) ∧ RepVs g H F μ ws vs
/-- a fresh object -/
def RepN (g : GX) (H : Hp) (F : FZ) : D → Addr → Prop
  | .lst xs, a => ∃ vs, H a = some (.lst vs) ∧ vs.length ≤ sizeLine ∧ RepL g H F xs vs
  | .dct ks ws, a => ∃ vs, RepL g H F ws vs ∧
      ((∃ kvs, H a = some (.dK kvs) ∧ ks = kvs.map (fun p => keyD p.1) ∧ vs = kvs.map (·.2)) ∨
       (∃ kvs, H a = some (.dT kvs) ∧ ks = kvs.map (fun p => keysD p.1) ∧ vs = kvs.map (·.2)))
  | .obj c ws, a => ∃ dx fs vs, H a = some (.ins (g.cl c) dx fs) ∧ fs.map (·.1) = g.fn c ∧ vs = fs.map (·.2) ∧ RepL g H F ws vs
  | _, _ => False

/-- an exception's class and attributes -/
def RepX (g : GX) (H : Hp) (F : FZ) (μ : List Addr) (c : Nat) (as : List D) (cls : Value) (dx : Option Addr) : Prop :=
  cls = .ref (g.cl c) ∧ ∃ (x : Addr) (vs : List V), dx = some x ∧ RepVs g H F μ as vs ∧ ∃ fs : List (Str × V), H x = some (.xd fs) ∧ ∀ (i : Nat) (f : Str) (v : V), (g.fn c)[i]? = some f → vs[i]? = some v → fs.lookup f = some v

structure Rel (g : GX) (μ : List Addr) (F : FZ) (σ : Sl) (S : List SO) (σc : St) (H : Hp) : Prop where
  env : ∀ (i : Nat) d, σ[i]? = some (some d) → ∃ v, σc[i]? = some (some v) ∧ RepV g H F μ d v
  len : σ.length = σc.length
  st : ∀ (n : Nat) o, S[n]? = some o → ∃ a, μ[n]? = some a ∧ RepO g H F μ o a
  ml : μ.length = S.length
  nd : μ.Nodup
  ap : ∀ a, a ∈ μ → ¬ F a
  dom : ∀ a, F a → ∃ o, H a = some o
  xc : ∀ p, g.xc = some p → RepX g H F μ p.2.1 p.2.2.1 p.2.2.2.1 p.2.2.2.2

/-- the frozen ones grow by what was free -/
structure FX (F : FZ) (H : Hp) (F' : FZ) (H' : Hp) : Prop where
  up : ∀ a, F a → F' a
  nw : ∀ a, F' a → F a ∨ H a = none
  dom : ∀ a, F' a → ∃ o, H' a = some o

def RepR (g : GX) (H0 H : Hp) (F : FZ) (μ : List Addr) (d : D) (fr : Bool) (v : V) : Prop :=
  (fr = false ∧ RepV g H F μ d v) ∨ (fr = true ∧ ∃ a, v = .ref a ∧ H0 a = none ∧ ¬ F a ∧ a ∉ μ ∧ RepN g H F d a)
def Ok (g : GX) (E : XK) (H : Hp) (F : FZ) (μ : List Addr) (r : Res) (Q : VK) : Prop := match r with
  | .ok d fr => ∀ v H' F', Same H H' → FX F H F' H' → RepR g H H' F' μ d fr v → Q v H'
  | .ex c as => ∀ cls dx H' F', Same H H' → FX F H F' H' → RepX g H' F' μ c as cls dx → E cls dx H'
  | .bad => False
/-- a wish about exceptions at the slots as they are -/
abbrev wat (W : WX) (σ : St) : XK := fun c d H => W c d σ H
/-- the reading of an expression, from the function that tells what it comes to -/
def T (g : GX) (W : WX) (f : CE) : TE := fun σc H Q => ∃ μ F σ S, Rel g μ F σ S σc H ∧ Ok g (wat W σc) H F μ (f σ S) Q
/-- .. of a test -/
abbrev TB (g : GX) (E : WX) (f : CE) : TT := tTest (T g E f)

theorem _root_.L2.PE.hc {X : Cx} {e : Expr} {t t' : TE} (h : PE X e t) (w : ∀ σ H Q, t' σ H Q → t σ H Q) : PE X e t' := ⟨fun pins s σ H Q I q => h.run pins s σ H Q I (w _ _ _ q)⟩
theorem _root_.L2.PT.hc {X : Cx} {e : Expr} {t t' : TT} (h : PT X e t) (w : ∀ σ H Q, t' σ H Q → t σ H Q) : PT X e t' := ⟨fun pins s σ H Q I q => h.run pins s σ H Q I (w _ _ _ q)⟩
theorem _root_.L2.PW.hc {X : Cx} {e : Expr} {t t' : TT} (h : PW X e t) (w : ∀ σ H Q, t' σ H Q → t σ H Q) : PW X e t' := ⟨fun wh pins s σ H Q I q => h.run wh pins s σ H Q I (w _ _ _ q)⟩
theorem _root_.L2.PA.hc {X : Cx} {es : List Expr} {t t' : TA} (h : PA X es t) (w : ∀ σ H Q, t' σ H Q → t σ H Q) : PA X es t' := ⟨fun pos pins s σ H Q I q => h.run pos pins s σ H Q I (w _ _ _ q)⟩
theorem _root_.L2.PS.hc {X : Cx} {st : Stmt} {t t' : TS} (h : PS X st t) (w : ∀ D σ H, t' D σ H → t D σ H) : PS X st t' := ⟨fun pins s σ H D I q => h.run pins s σ H D I (w _ _ _ q)⟩
theorem _root_.L2.PSs.hc {X : Cx} {st : List Stmt} {t t' : TS} (h : PSs X st t) (w : ∀ D σ H, t' D σ H → t D σ H) : PSs X st t' := ⟨fun pins s σ H D I q => h.run pins s σ H D I (w _ _ _ q)⟩
theorem _root_.L2.PI.hc {X : Cx} {tg it : Expr} {t t' : TI} (h : PI X tg it t) (w : ∀ σ H Q, t' σ H Q → t σ H Q) : PI X tg it t' := ⟨fun pins s σ H Q I q => h.run pins s σ H Q I (w _ _ _ q)⟩
theorem _root_.L2.PG.hc {X : Cx} {tg : Expr} {t t' : TG} (h : PG X tg t) (w : ∀ v σ H Q, t' v σ H Q → t v σ H Q) : PG X tg t' := ⟨fun pins s σ H v u Q I r q => h.run pins s σ H v u Q I r (w _ _ _ _ q)⟩

/-! ## how the relations are carried on -/
theorem Rd.same {H H' : Hp} (s : Same H H') {a : Addr} {o : HO} (h : Rd H a o) : Rd H' a o := h.elim (fun h => .inl (s _ _ h)) fun ⟨ob, h⟩ => .inr ⟨ob, s _ _ h⟩
theorem SqT.same {K : PySem.W.Frag} {H H' : Hp} {a : Addr} {xs : List V} (s : Same H H') (h : SqT K H a xs) : SqT K H' a xs := h.elim (fun h => .inl (Rd.same s h)) .inr
theorem SqF.mono {H H' : Hp} {F F' : FZ} {a : Addr} {xs : List V} (s : Same H H') (u : ∀ a, F a → F' a) (h : SqF H F a xs) : SqF H' F' a xs := ⟨u _ h.1, s _ _ h.2.1, h.2.2⟩
section
variable {g : GX} {H H' : Hp} {F F' : FZ}
mutual
theorem RepP.mono (s : Same H H') (u : ∀ a, F a → F' a) : ∀ (d : D) (v : V), RepP g H F d v → RepP g H' F' d v
  | .non, _, h => h
  | .bl _, _, h => h
  | .int _, _, h => h
  | .str _, _, h => h
  | .tup ds, v, h => by
    obtain ⟨a, vs, e, h1, h2⟩ := h
    exact ⟨a, vs, e, ⟨SqT.same s h1.1, h1.2⟩, RepL.mono s u ds vs h2⟩
  | .lst ds, v, h => by
    obtain ⟨a, vs, e, h1, h2⟩ := h
    exact ⟨a, vs, e, SqF.mono s u h1, RepL.mono s u ds vs h2⟩
  | .rol ds, v, h => by
    obtain ⟨a, vs, e, h1, h2⟩ := h
    exact ⟨a, vs, e, ⟨h1.1.imp (fun ⟨o, h⟩ => ⟨o, s _ _ h⟩) fun h => h, h1.2⟩, RepL.mono s u ds vs h2⟩
  | .dct ks ds, v, h => by
    obtain ⟨a, vs, e, h1, h2, h3⟩ := h
    refine ⟨a, vs, e, u _ h1, RepL.mono s u ds vs h2, ?_⟩
    rcases h3 with ⟨kvs, q1, q2⟩ | ⟨kvs, q1, q2⟩
    · exact .inl ⟨kvs, Rd.same s q1, q2⟩
    · exact .inr ⟨kvs, Rd.same s q1, q2⟩
  | .obj c ds, v, h => by
    obtain ⟨a, dx, fs, vs, e, h1, h2, h3, h4, h5⟩ := h
    exact ⟨a, dx, fs, vs, e, u _ h1, s _ _ h2, h3, h4, RepL.mono s u ds vs h5⟩
  | .loc _, _, h => h
  | .err, _, h => h
theorem RepL.mono (s : Same H H') (u : ∀ a, F a → F' a) : ∀ (ds : List D) (vs : List V), RepL g H F ds vs → RepL g H' F' ds vs
  | [], _, h => h
  | d :: ds, vs, h => by
    obtain ⟨v, ws, e, h1, h2⟩ := h
    exact ⟨v, ws, e, RepP.mono s u d v h1, RepL.mono s u ds ws h2⟩
end
theorem RepV.mono {μ : List Addr} {d : D} {v : V} (s : Same H H') (u : ∀ a, F a → F' a) (h : RepV g H F μ d v) : RepV g H' F' μ d v := h.imp (fun h => h) (RepP.mono s u _ _)
theorem RepVs.mono {μ : List Addr} {ds : List D} {vs : List V} (s : Same H H') (u : ∀ a, F a → F' a) (h : RepVs g H F μ ds vs) : RepVs g H' F' μ ds vs := Paired.mapP h fun _ _ => RepV.mono s u
theorem RepO.mono {μ : List Addr} (s : Same H H') (u : ∀ a, F a → F' a) : ∀ {o : SO} {a : Addr}, RepO g H F μ o a → RepO g H' F' μ o a
  | .lst xs, a, ⟨vs, h1, h2, h3⟩ => ⟨vs, s _ _ h1, h2, h3.mono s u⟩
  | .dct ks ws, a, ⟨vs, h1, h2⟩ => ⟨vs, h1.mono s u, h2.imp (fun ⟨kvs, q1, q2⟩ => ⟨kvs, s _ _ q1, q2⟩) fun ⟨kvs, q1, q2⟩ => ⟨kvs, s _ _ q1, q2⟩⟩
  | .ins c ws, a, ⟨dx, fs, vs, h1, h2, h3, h4⟩ => ⟨dx, fs, vs, s _ _ h1, h2, h3, h4.mono s u⟩
theorem RepN.mono (s : Same H H') (u : ∀ a, F a → F' a) : ∀ {d : D} {a : Addr}, RepN g H F d a → RepN g H' F' d a
  | .lst xs, a, ⟨vs, h1, h2, h3⟩ => ⟨vs, s _ _ h1, h2, RepL.mono s u _ _ h3⟩
  | .dct ks ws, a, ⟨vs, h1, h2⟩ => ⟨vs, RepL.mono s u _ _ h1, h2.imp (fun ⟨kvs, q1, q2⟩ => ⟨kvs, s _ _ q1, q2⟩) fun ⟨kvs, q1, q2⟩ => ⟨kvs, s _ _ q1, q2⟩⟩
  | .obj c ws, a, ⟨dx, fs, vs, h1, h2, h3, h4⟩ => ⟨dx, fs, vs, s _ _ h1, h2, h3, RepL.mono s u _ _ h4⟩
  | .non, _, h => h.elim | .bl _, _, h => h.elim | .int _, _, h => h.elim | .str _, _, h => h.elim | .tup _, _, h => h.elim | .rol _, _, h => h.elim | .loc _, _, h => h.elim | .err, _, h => h.elim
theorem RepX.mono {μ : List Addr} {c : Nat} {as : List D} {cls : Value} {dx : Option Addr} (s : Same H H') (u : ∀ a, F a → F' a) : RepX g H F μ c as cls dx → RepX g H' F' μ c as cls dx :=
  fun ⟨h1, x, vs, h2, h3, fs, h4, h5⟩ => ⟨h1, x, vs, h2, h3.mono s u, fs, s _ _ h4, h5⟩
theorem RepO.there {μ : List Addr} : ∀ {o : SO} {a : Addr}, RepO g H F μ o a → ∃ u, H a = some u
  | .lst xs, a, ⟨vs, h1, _⟩ => ⟨_, h1⟩
  | .dct ks ws, a, ⟨vs, h1, h2⟩ => h2.elim (fun ⟨_, q, _⟩ => ⟨_, q⟩) fun ⟨_, q, _⟩ => ⟨_, q⟩
  | .ins c ws, a, ⟨dx, fs, vs, h1, _⟩ => ⟨_, h1⟩
theorem RepN.there : ∀ {d : D} {a : Addr}, RepN g H F d a → ∃ u, H a = some u
  | .lst xs, a, ⟨vs, h1, _⟩ => ⟨_, h1⟩
  | .dct ks ws, a, ⟨vs, h1, h2⟩ => h2.elim (fun ⟨_, q, _⟩ => ⟨_, q⟩) fun ⟨_, q, _⟩ => ⟨_, q⟩
  | .obj c ws, a, ⟨dx, fs, vs, h1, _⟩ => ⟨_, h1⟩
  | .non, _, h => h.elim | .bl _, _, h => h.elim | .int _, _, h => h.elim | .str _, _, h => h.elim | .tup _, _, h => h.elim | .rol _, _, h => h.elim | .loc _, _, h => h.elim | .err, _, h => h.elim
end

theorem FX.refl {F : FZ} {H : Hp} (d : ∀ a, F a → ∃ o, H a = some o) : FX F H F H := ⟨fun _ h => h, fun _ h => .inl h, d⟩
theorem same_none {H H' : Hp} (s : Same H H') {a : Addr} (h : H' a = none) : H a = none := by
  cases e : H a with
  | none => rfl
  | some o => rw [s _ _ e] at h; cases h
theorem FX.trans {F F1 F2 : FZ} {H H1 H2 : Hp} (s : Same H H1) (a : FX F H F1 H1) (b : FX F1 H1 F2 H2) : FX F H F2 H2 :=
  ⟨fun x h => b.up _ (a.up _ h), fun x h => (b.nw _ h).elim (fun h => a.nw _ h) fun h => .inr (same_none s h), b.dom⟩
theorem same_new {H : Hp} {p : Addr} {o : HO} (h : H p = none) : Same H (upd H p o) := fun b x e => by
  rw [upd_ne (ne_of_none e h)]; exact e

section
variable {g : GX} {μ : List Addr} {F F' : FZ} {σ : Sl} {S : List SO} {σc : St} {H H' : Hp}
theorem Rel.at_mu (R : Rel g μ F σ S σc H) {a : Addr} (h : a ∈ μ) : ∃ (n : Nat) (o : SO), S[n]? = some o ∧ μ[n]? = some a ∧ RepO g H F μ o a := by
  obtain ⟨n, hn, e⟩ := List.getElem_of_mem h
  have hs : n < S.length := by rw [← R.ml]; exact hn
  obtain ⟨b, h1, h2⟩ := R.st n _ (List.getElem?_eq_getElem hs)
  rw [List.getElem?_eq_getElem hn, e] at h1
  cases h1
  exact ⟨n, _, List.getElem?_eq_getElem hs, by rw [List.getElem?_eq_getElem hn, e], h2⟩
theorem Rel.mu_there (R : Rel g μ F σ S σc H) {a : Addr} (h : a ∈ μ) : ∃ u, H a = some u := let ⟨_, _, _, _, q⟩ := R.at_mu h; q.there
theorem Rel.mono (R : Rel g μ F σ S σc H) (s : Same H H') (x : FX F H F' H') : Rel g μ F' σ S σc H' :=
  ⟨fun i d h => let ⟨v, h1, h2⟩ := R.env i d h; ⟨v, h1, h2.mono s x.up⟩, R.len, fun n o h => let ⟨a, h1, h2⟩ := R.st n o h; ⟨a, h1, h2.mono s x.up⟩, R.ml, R.nd,
    fun a h f => (x.nw a f).elim (R.ap a h) fun z => by
      obtain ⟨u, e⟩ := R.mu_there h
      rw [z] at e
      exact (nomatch e), x.dom, fun p h => (R.xc p h).mono s x.up⟩
theorem Rel.fx (R : Rel g μ F σ S σc H) : FX F H F H := FX.refl R.dom
theorem RepR.val {d : D} {v : V} {H0 : Hp} (h : RepV g H F μ d v) : RepR g H0 H F μ d false v := .inl ⟨rfl, h⟩
/-- a fresh object is frozen -/
theorem RepR.frz {d : D} {fr : Bool} {v : V} (x : FX F H F' H') (r : RepR g H H' F' μ d fr v) : ∃ F2 : FZ, FX F H F2 H' ∧ (∀ a, F' a → F2 a) ∧ RepV g H' F2 μ d v := by
  rcases r with ⟨_, r⟩ | ⟨_, a, rfl, h0, nf, nm, r⟩
  · exact ⟨F', x, fun _ h => h, r⟩
  · have hd : ∀ b, (F' b ∨ b = a) → ∃ o, H' b = some o := fun b h => h.elim (x.dom b) fun e => by subst e; exact r.there
    refine ⟨fun b => F' b ∨ b = a, ⟨fun b h => .inl (x.up b h), fun b h => h.elim (x.nw b) fun e => .inr (by rw [e]; exact h0), hd⟩, fun b h => .inl h, .inr ?_⟩
    · have r2 := r.mono (F' := fun b => F' b ∨ b = a) (fun _ _ e => e) fun b h => .inl h
      cases d with
      | lst xs =>
        obtain ⟨vs, q1, q2, q3⟩ := r2
        exact ⟨a, vs, rfl, ⟨.inr rfl, q1, q2⟩, q3⟩
      | dct ks ws =>
        obtain ⟨vs, q1, q2⟩ := r2
        exact ⟨a, vs, rfl, .inr rfl, q1, q2.imp (fun ⟨kvs, z, y⟩ => ⟨kvs, .inl z, y⟩) fun ⟨kvs, z, y⟩ => ⟨kvs, .inl z, y⟩⟩
      | obj c ws =>
        obtain ⟨dx, fs, vs, q1, q2, q3, q4⟩ := r2
        exact ⟨a, dx, fs, vs, rfl, .inr rfl, q1, q2, q3, q4⟩
      | _ => exact r2.elim
end
end HC

namespace HC
open PySem PySem.Spec L2
open PyProof.Rows hiding St

/-! ## functions of data -/
def lim : Nat := 16777216
theorem lim_eq : sizeLine = lim := sizeLine_eq
def gets {α : Type} : List α → Nat → Option α
  | [], _ => none
  | d :: _, 0 => some d
  | _ :: r, n + 1 => gets r n
theorem gets_eq {α : Type} : ∀ (l : List α) (n : Nat), gets l n = l[n]?
  | [], _ => by simp [gets]
  | _ :: _, 0 => rfl
  | _ :: r, n + 1 => by simp [gets, gets_eq r n]
def D.pure : D → Bool
  | .loc _ => false
  | _ => true
def pureL : List D → Bool
  | [] => true
  | d :: r => d.pure && pureL r
/-- the items of a list (a frozen one, one of the store) -/
def lstOf (S : List SO) : D → Option (List D)
  | .lst xs => some xs
  | .loc n => match gets S n with
    | some (.lst xs) => some xs
    | _ => none
  | _ => none
def tupOf : D → Option (List D)
  | .tup xs => some xs
  | _ => none
/-- .. of a list that is read -/
def rdOf (S : List SO) : D → Option (List D)
  | .rol xs => some xs
  | d => lstOf S d
/-- .. of a list or a tuple -/
def seqOf (S : List SO) : D → Option (List D)
  | .tup xs => some xs
  | d => rdOf S d

section
variable {g : GX} {μ : List Addr} {F F' : FZ} {σ : Sl} {S : List SO} {σc : St} {H H' : Hp}
theorem RepV.pure {d : D} {v : V} (r : RepV g H F μ d v) (p : d.pure = true) : RepP g H F d v := by
  rcases r with ⟨n, a, rfl, _, _⟩ | r
  · exact (nomatch p)
  · exact r
theorem RepP.v {d : D} {v : V} (r : RepP g H F d v) : RepV g H F μ d v := .inr r
theorem RepL.vs : ∀ {ds : List D} {vs : List V}, RepL g H F ds vs → RepVs g H F μ ds vs
  | [], _, h => by
    cases (show _ = [] from h)
    exact .nil
  | d :: ds, vs, h => by
    obtain ⟨v, ws, rfl, h1, h2⟩ := h
    exact .cons h1.v h2.vs
theorem RepVs.pure : ∀ {ds : List D} {vs : List V}, RepVs g H F μ ds vs → pureL ds = true → RepL g H F ds vs
  | _, _, .nil, _ => rfl
  | _, _, .cons (a := d) r t, p => by
    have p2 : (d.pure && pureL _) = true := p
    rw [Bool.and_eq_true] at p2
    exact ⟨_, _, rfl, r.pure p2.1, RepVs.pure t p2.2⟩
theorem RepVs.length {ds : List D} {vs : List V} (r : RepVs g H F μ ds vs) : ds.length = vs.length := Paired.length r
theorem RepL.length {ds : List D} {vs : List V} (r : RepL g H F ds vs) : ds.length = vs.length := (r.vs (μ := [])).length
theorem RepVs.get {ds : List D} {vs : List V} (r : RepVs g H F μ ds vs) : ∀ {i : Nat} {d : D}, ds[i]? = some d → ∃ v, vs[i]? = some v ∧ RepV g H F μ d v := by
  induction r with
  | nil =>
    intro i d h
    simp at h
  | cons r t ih =>
    intro i d h
    cases i with
    | zero =>
      simp at h
      subst h
      exact ⟨_, rfl, r⟩
    | succ i =>
      simp at h
      obtain ⟨v, h1, h2⟩ := ih h
      exact ⟨v, by simpa using h1, h2⟩
theorem Rel.get (R : Rel g μ F σ S σc H) {i : Nat} {d : D} (h : gets σ i = some (some d)) : ∃ v, σc[i]? = some (some v) ∧ RepV g H F μ d v := R.env i d (by rw [← gets_eq]; exact h)
/-- a list of the data is a list of the heap -/
theorem Rel.lst (R : Rel g μ F σ S σc H) {d : D} {v : V} {xs : List D} (r : RepV g H F μ d v) (h : lstOf S d = some xs) : ∃ a vs, v = .ref a ∧ H a = some (.lst vs) ∧ vs.length ≤ sizeLine ∧ RepVs g H F μ xs vs := by
  rcases r with ⟨n, a, rfl, e, rfl⟩ | r
  · have h : (match gets S n with | some (.lst xs) => some xs | _ => none) = some xs := h
    cases q : gets S n with
    | none => rw [q] at h; cases h
    | some o =>
      rw [q] at h
      cases o with
      | lst ys =>
        have e2 : ys = xs := Option.some.inj h
        subst e2
        obtain ⟨b, e3, vs, h1, h2, h3⟩ := R.st n _ (by rw [← gets_eq]; exact q)
        rw [e] at e3
        cases e3
        exact ⟨a, vs, rfl, h1, h2, h3⟩
      | _ => cases h
  · cases d with
    | lst ys =>
      have e2 : ys = xs := Option.some.inj h
      subst e2
      obtain ⟨a, vs, rfl, h1, h2⟩ := r
      exact ⟨a, vs, rfl, h1.2.1, h1.2.2, h2.vs⟩
    | loc n => exact r.elim
    | _ => cases h
theorem Rel.rd (R : Rel g μ F σ S σc H) {d : D} {v : V} {xs : List D} (r : RepV g H F μ d v) (h : rdOf S d = some xs) : ∃ a vs, v = .ref a ∧ SqL g.K H a vs ∧ vs.length ≤ sizeLine ∧ RepVs g H F μ xs vs := by
  cases d with
  | rol ys =>
    have e2 : ys = xs := Option.some.inj h
    subst e2
    rcases r with ⟨n, a, e, _⟩ | ⟨a, vs, rfl, h1, h2⟩
    · cases e
    · exact ⟨a, vs, rfl, h1.1.sq, h1.2, h2.vs⟩
  | _ =>
    obtain ⟨a, vs, e, h1, h2⟩ := R.lst r h
    exact ⟨a, vs, e, SqL.of h1, h2⟩
theorem RepV.tup {d : D} {v : V} {xs : List D} (r : RepV g H F μ d v) (h : tupOf d = some xs) : ∃ a vs, v = .ref a ∧ SqT g.K H a vs ∧ vs.length ≤ sizeLine ∧ RepL g H F xs vs := by
  cases d with
  | tup ys =>
    have e2 : ys = xs := Option.some.inj h
    subst e2
    rcases r with ⟨n, a, e, _⟩ | ⟨a, vs, rfl, h1, h2⟩
    · cases e
    · exact ⟨a, vs, rfl, h1.1, h1.2, h2⟩
  | _ => cases h
theorem seqOf_cases {d : D} {xs : List D} (h : seqOf S d = some xs) : tupOf d = some xs ∨ rdOf S d = some xs := by
  cases d with
  | tup ys => exact .inl h
  | _ => exact .inr h
theorem RepV.int {i : Int} {v : V} (r : RepV g H F μ (.int i) v) : v = .int i := by
  rcases r with ⟨n, a, e, _⟩ | r
  · cases e
  · exact r
theorem RepV.bl {b : Bool} {v : V} (r : RepV g H F μ (.bl b) v) : v = .bl b := by
  rcases r with ⟨n, a, e, _⟩ | r
  · cases e
  · exact r
theorem RepV.str {x : Str} {v : V} (r : RepV g H F μ (.str x) v) : v = .str x := by
  rcases r with ⟨n, a, e, _⟩ | r
  · cases e
  · exact r
theorem RepV.non {v : V} (r : RepV g H F μ .non v) : v = .non := by
  rcases r with ⟨n, a, e, _⟩ | r
  · cases e
  · exact r
end

/-! ## names and constants -/
def cVar (i : Nat) : CE := fun σ _ => match gets σ i with
  | some (some d) => .ok d false
  | _ => .bad
def cD (d : D) : CE := fun _ _ => .ok d false
section
variable {X : Cx} {g : GX} {E : WX}
theorem q_var (i : Nat) {x : Str} {pos : Pos} (hN : X.N[i]? = some x := by rfl) (hv : Vis X.env.scope x := by first | exact Or.inl rfl | exact Or.inr (Or.inl rfl) | exact Or.inr (Or.inr rfl)) (hd : (x == ("__debug__" : Str)) = false := by decide)
    (hcd : (x == ("__classdict__" : Str)) = false := by decide) : PE X (.Name x pos) (T g E (cVar i)) := (pe_var hN hv hd hcd).hc fun σc H Q ⟨μ, F, σ, S, R, q⟩ => by
  unfold cVar at q
  split at q
  · rename_i d e
    obtain ⟨v, h1, h2⟩ := R.get e
    exact ⟨v, h1, q v H F (Same.refl H) R.fx (.val h2)⟩
  · exact q.elim
theorem q_int {i j pos} : PE X (.Constant (.int i) j pos) (T g E (cD (.int i))) := pe_int.hc fun σc H Q ⟨μ, F, σ, S, R, q⟩ => q _ H F (Same.refl H) R.fx (.val (.inr rfl))
theorem q_bl {b j pos} : PE X (.Constant (.bool b) j pos) (T g E (cD (.bl b))) := pe_bl.hc fun σc H Q ⟨μ, F, σ, S, R, q⟩ => q _ H F (Same.refl H) R.fx (.val (.inr rfl))
theorem q_non {j pos} : PE X (.Constant .none j pos) (T g E (cD .non)) := pe_non.hc fun σc H Q ⟨μ, F, σ, S, R, q⟩ => q _ H F (Same.refl H) R.fx (.val (.inr rfl))
theorem q_str {x j pos} : PE X (.Constant (.str x) j pos) (T g E (cD (.str x))) := pe_str.hc fun σc H Q ⟨μ, F, σ, S, R, q⟩ => q _ H F (Same.refl H) R.fx (.val (.inr rfl))
end

/-! ## two values in a row; operators -/
def cBin (fn : List SO → D → D → Res) (a b : CE) : CE := fun σ S => match a σ S with
  | .ok x _ => match b σ S with
    | .ok y _ => fn S x y
    | .ex c as => .ex c as
    | .bad => .bad
  | .ex c as => .ex c as
  | .bad => .bad
/-- what an operator's reading asks follows from what is told of the data -/
def Lk2 (g : GX) (r : R2) (fn : List SO → D → D → Res) : Prop :=
  ∀ (E : XK) (μ : List Addr) (F : FZ) (σ : Sl) (S : List SO) (σc : St) (H : Hp) (x y : D) (vx vy : V) (Q : VK), Rel g μ F σ S σc H → RepV g H F μ x vx → RepV g H F μ y vy → Ok g E H F μ (fn S x y) Q → r vx vy H Q
theorem Ok.from {g : GX} {E : XK} {H H1 : Hp} {F F1 : FZ} {μ : List Addr} {r : Res} {Q : VK} (h : Ok g E H F μ r Q) (s : Same H H1) (x : FX F H F1 H1) : Ok g E H1 F1 μ r Q := by
  cases r with
  | ok d fr =>
    intro v H' F' s' x' rr
    refine h v H' F' (s.trans s') (x.trans s x') ?_
    rcases rr with ⟨e, rr⟩ | ⟨e, a, ev, h0, r2⟩
    · exact .inl ⟨e, rr⟩
    · exact .inr ⟨e, a, ev, same_none s h0, r2⟩
  | ex c as => exact fun cls dx H' F' s' x' rr => h cls dx H' F' (s.trans s') (x.trans s x') rr
  | bad => exact h
theorem Ok.x {g : GX} {E : XK} {H : Hp} {F : FZ} {μ : List Addr} {c : Nat} {as : List D} {Q Q' : VK} (h : Ok g E H F μ (.ex c as) Q) : Ok g E H F μ (.ex c as) Q' := h
/-- both operands -/
theorem T.two {g : GX} {E : WX} {a b : CE} {fn : List SO → D → D → Res} {σc : St} {H : Hp} {Q : VK} {R2' : V → V → Hp → Prop}
    (h : T g E (cBin fn a b) σc H Q)
    (w : ∀ (μ : List Addr) (F : FZ) (σ : Sl) (S : List SO) (H2 : Hp) (x y : D) (vx vy : V), Rel g μ F σ S σc H2 → RepV g H2 F μ x vx → RepV g H2 F μ y vy → Ok g (wat E σc) H2 F μ (fn S x y) Q → R2' vx vy H2) :
    T g E a σc H fun x H1 => T g E b σc H1 fun y H2 => R2' x y H2 := by
  obtain ⟨μ, F, σ, S, R, q⟩ := h
  refine ⟨μ, F, σ, S, R, ?_⟩
  unfold cBin at q
  cases ea : a σ S with
  | bad => rw [ea] at q; exact q
  | ex c as => rw [ea] at q; exact q
  | ok x fx =>
    rw [ea] at q
    intro vx H1 F1 s1 x1 r1
    obtain ⟨F2, x2, u2, rx⟩ := r1.frz x1
    have R2 := R.mono s1 x2
    refine ⟨μ, F2, σ, S, R2, ?_⟩
    have q : Ok g (wat E σc) H F μ (match b σ S with | .ok y _ => fn S x y | .ex c as => .ex c as | .bad => .bad) Q := q
    cases eb : b σ S with
    | bad => rw [eb] at q; exact q
    | ex c as => rw [eb] at q; exact (q.from s1 x2).x
    | ok y fy =>
      rw [eb] at q
      intro vy H3 F3 s3 x3 r3
      obtain ⟨F4, x4, u4, ry⟩ := r3.frz x3
      exact w μ F4 σ S H3 x y vx vy (R2.mono s3 x4) (rx.mono s3 x4.up) ry ((q.from s1 x2).from s3 x4)
section
variable {X : Cx} {g : GX} {E : WX} {a b : Expr} {fa fb : CE} {pos : Pos} {r : R2} {fn : List SO → D → D → Res}
theorem q_op {op : Operator} (ho : OpR X (binaryOp op) r) (l : Lk2 g r fn) (ha : PE X a (T g E fa)) (hb : PE X b (T g E fb)) : PE X (.BinOp a op b pos) (T g E (cBin fn fa fb)) :=
  (pe_op ho ha hb).hc fun σc H Q h => T.two h fun μ F σ S H2 x y vx vy R rx ry q => l (wat E σc) μ F σ S σc H2 x y vx vy Q R rx ry q
theorem q_cmp {op : CmpOp} (ho : OpR X (compareOp op) r) (l : Lk2 g r fn) (ha : PE X a (T g E fa)) (hb : PE X b (T g E fb)) (hm : behindInMarks op b = false := by first | exact nomark _ | rfl) : PE X (.Compare a [op] [b] pos) (T g E (cBin fn fa fb)) :=
  (pe_cmpR ho ha hb hm).hc fun σc H Q h => T.two h fun μ F σ S H2 x y vx vy R rx ry q => l (wat E σc) μ F σ S σc H2 x y vx vy Q R rx ry q
/-- a comparison as a test -/
theorem q_cmpT {op : CmpOp} (ho : OpR X (compareOp op) r) (l : Lk2 g r fn) (ha : PE X a (T g E fa)) (hb : PE X b (T g E fb)) (hm : behindInMarks op b = false := by first | exact nomark _ | rfl) : PT X (.Compare a [op] [b] pos) (TB g E (cBin fn fa fb)) :=
  (pt_cmpR ho ha hb hm).hc fun σc H Q h => T.two h fun μ F σ S H2 x y vx vy R rx ry q => l (wat E σc) μ F σ S σc H2 x y vx vy _ R rx ry q
end

/-! ### arithmetic -/
def bAdd (S : List SO) (x y : D) : Res := match x, y with
  | .int i, .int j => .ok (.int (i + j)) false
  | .tup xs, .tup ys => if xs.length + ys.length ≤ lim then .ok (.tup (xs ++ ys)) false else .bad
  | .str i, .str j => if i.length + j.length ≤ lim then .ok (.str (i ++ j)) false else .bad
  | x, y => match lstOf S x, lstOf S y with
    | some xs, some ys => if xs.length + ys.length ≤ lim then (if pureL xs && pureL ys then .ok (.lst (xs ++ ys)) true else .bad) else .bad
    | _, _ => .bad
def bSub (_ : List SO) (x y : D) : Res := match x, y with
  | .int i, .int j => .ok (.int (i - j)) false
  | _, _ => .bad
/-- a size that the machine takes -/
def small (i : Int) : Bool := i.natAbs < 18446744073709551616
def repL (n : Nat) (xs : List D) : List D := match n with
  | 0 => []
  | n + 1 => xs ++ repL n xs
def bMul (S : List SO) (x y : D) : Res := match x, y with
  | .int i, .int j => if small i || small j || (i.natAbs.log2 + j.natAbs.log2 < 100000) then .ok (.int (i * j)) false else .bad
  | x, .int k => match lstOf S x with
    | some xs => if 0 ≤ k && xs.length * k.toNat ≤ lim && k.toNat ≤ lim && pureL xs then .ok (.lst (repL k.toNat xs)) true else .bad
    | none => .bad
  | _, _ => .bad
def bFdiv (_ : List SO) (x y : D) : Res := match x, y with
  | .int i, .int j => if 0 < j && j < 1073741824 then .ok (.int (i / j)) false else (if 0 < j && j.natAbs.log2 < 8000 then .ok (.int (i / j)) false else .bad)
  | _, _ => .bad
def bMod (_ : List SO) (x y : D) : Res := match x, y with
  | .int i, .int j => if 0 < j then .ok (.int (i % j)) false else .bad
  | _, _ => .bad
def bPow (_ : List SO) (x y : D) : Res := match x, y with
  | .int i, .int j => if 0 ≤ j && j ≤ 1000000 && i.natAbs < 18446744073709551616 then .ok (.int (i ^ j.toNat)) false else .bad
  | _, _ => .bad
end HC

namespace HC
open PySem PySem.Spec L2
open PyProof.Rows hiding St

section
variable {g : GX} {E : XK} {H : Hp} {F : FZ} {μ : List Addr} {Q : VK} {d : D}
/-- a value that stands already -/
theorem Ok.here (dom : ∀ a, F a → ∃ o, H a = some o) (q : Ok g E H F μ (.ok d false) Q) {v : V} (r : RepV g H F μ d v) : Q v H := q v H F (Same.refl H) (FX.refl dom) (.inl ⟨rfl, r⟩)
/-- a new tuple -/
theorem Ok.tup {p : Addr} {ds : List D} {vs : List V} (dom : ∀ a, F a → ∃ o, H a = some o) (q : Ok g E H F μ (.ok (.tup ds) false) Q) (hp : H p = none) (hl : vs.length ≤ sizeLine) (r : RepL g H F ds vs) : Q (.ref p) (upd H p (.tup vs)) := by
  have s : Same H (upd H p (.tup vs)) := same_new hp
  refine q _ _ F s ⟨fun _ h => h, fun _ h => .inl h, fun a h => ?_⟩ (.inl ⟨rfl, .inr ⟨p, vs, rfl, ⟨.inl (.inl upd_same), hl⟩, RepL.mono s (fun _ h => h) _ _ r⟩⟩)
  obtain ⟨o, e⟩ := dom a h
  exact ⟨o, s _ _ e⟩
/-- a new list -/
theorem Ok.lst {p : Addr} {ds : List D} {vs : List V} (dom : ∀ a, F a → ∃ o, H a = some o) (mu : ∀ a, a ∈ μ → ∃ o, H a = some o) (q : Ok g E H F μ (.ok (.lst ds) true) Q) (hp : H p = none) (hl : vs.length ≤ sizeLine) (r : RepL g H F ds vs) : Q (.ref p) (upd H p (.lst vs)) := by
  have s : Same H (upd H p (.lst vs)) := same_new hp
  refine q _ _ F s ⟨fun _ h => h, fun _ h => .inl h, fun a h => ?_⟩ (.inr ⟨rfl, p, rfl, hp, fun h => ?_, fun h => ?_, vs, upd_same, hl, RepL.mono s (fun _ h => h) _ _ r⟩)
  · obtain ⟨o, e⟩ := dom a h
    exact ⟨o, s _ _ e⟩
  · obtain ⟨o, e⟩ := dom p h
    rw [hp] at e; cases e
  · obtain ⟨o, e⟩ := mu p h
    rw [hp] at e; cases e
end
theorem RepL.append {g : GX} {H : Hp} {F : FZ} : ∀ {xs ys : List D} {vs ws : List V}, RepL g H F xs vs → RepL g H F ys ws → RepL g H F (xs ++ ys) (vs ++ ws)
  | [], _, _, _, h, k => by
    cases (show _ = [] from h)
    exact k
  | _ :: _, _, _, _, h, k => by
    obtain ⟨v, us, rfl, h1, h2⟩ := h
    exact ⟨v, _, rfl, h1, h2.append k⟩
theorem RepL.drop {g : GX} {H : Hp} {F : FZ} : ∀ (n : Nat) {xs : List D} {vs : List V}, RepL g H F xs vs → RepL g H F (xs.drop n) (vs.drop n)
  | 0, _, _, h => h
  | n + 1, [], _, h => by
    cases (show _ = [] from h)
    exact rfl
  | n + 1, _ :: _, _, h => by
    obtain ⟨v, us, rfl, h1, h2⟩ := h
    exact h2.drop n
theorem RepL.take {g : GX} {H : Hp} {F : FZ} : ∀ (n : Nat) {xs : List D} {vs : List V}, RepL g H F xs vs → RepL g H F (xs.take n) (vs.take n)
  | 0, _, _, h => rfl
  | n + 1, [], _, h => by
    cases (show _ = [] from h)
    exact rfl
  | n + 1, _ :: _, _, h => by
    obtain ⟨v, us, rfl, h1, h2⟩ := h
    exact ⟨v, _, rfl, h1, h2.take n⟩
theorem RepL.rep {g : GX} {H : Hp} {F : FZ} {xs : List D} {vs : List V} (h : RepL g H F xs vs) : ∀ n, RepL g H F (repL n xs) (List.replicate n vs).flatten
  | 0 => rfl
  | n + 1 => by
    show RepL g H F (xs ++ repL n xs) (vs ++ (List.replicate n vs).flatten)
    exact h.append (h.rep n)

section
variable {X : Cx} {g : GX}
theorem lk_add : Lk2 g (fun x y H Q => rI0 (fun i j => .int (i + j)) x y H Q ∨ (rCatA g.K x y H Q ∨ ((∃ i j, x = .str i ∧ y = .str j ∧ i.length + j.length ≤ sizeLine ∧ Q (.str (i ++ j)) H) ∨ rCat x y H Q))) bAdd := by
  intro E μ F σ S σc H x y vx vy Q R rx ry q
  unfold bAdd at q
  split at q
  · exact .inl ⟨_, _, rx.int, ry.int, q.here R.dom (.inr rfl)⟩
  · rename_i xs ys
    split at q
    · rename_i hl
      obtain ⟨a, vs, rfl, h1, h2, h3⟩ := rx.tup (xs := xs) rfl
      obtain ⟨b, ws, rfl, k1, k2, k3⟩ := ry.tup (xs := ys) rfl
      have l1 := h3.length
      have l2 := k3.length
      have hl2 : vs.length + ws.length ≤ sizeLine := by rw [lim_eq, ← l1, ← l2]; exact hl
      refine .inr (.inl ⟨a, b, vs, ws, rfl, rfl, h1, k1, hl2, fun e => ?_, fun _ e => ?_, fun n1 n2 p hp => ?_⟩)
      · subst e
        have e2 : xs = [] := List.length_eq_zero_iff.mp l1
        subst e2
        exact q.here R.dom ry
      · subst e
        have e2 : ys = [] := List.length_eq_zero_iff.mp l2
        subst e2
        rw [List.append_nil] at q
        exact q.here R.dom rx
      · exact q.tup R.dom hp (by rw [List.length_append]; exact hl2) (h3.append k3)
    · exact q.elim
  · split at q
    · rename_i hl
      exact .inr (.inr (.inl ⟨_, _, rx.str, ry.str, by rw [lim_eq]; exact hl, q.here R.dom (.inr rfl)⟩))
    · exact q.elim
  · split at q
    · rename_i xs ys ex ey
      split at q
      · rename_i hl
        split at q
        · rename_i hp
          rw [Bool.and_eq_true] at hp
          obtain ⟨a, vs, rfl, h1, h2, h3⟩ := R.lst rx ex
          obtain ⟨b, ws, rfl, k1, k2, k3⟩ := R.lst ry ey
          have l1 := h3.length
          have l2 := k3.length
          have hl2 : vs.length + ws.length ≤ sizeLine := by rw [lim_eq, ← l1, ← l2]; exact hl
          refine .inr (.inr (.inr ⟨a, b, vs, ws, rfl, rfl, h1, k1, hl2, fun p hn => ?_⟩))
          exact q.lst R.dom (fun a h => R.mu_there h) hn (by rw [List.length_append]; exact hl2) ((h3.pure hp.1).append (k3.pure hp.2))
        · exact q.elim
      · exact q.elim
    · exact q.elim
theorem op_addA : OpR X (binaryOp .Add) (fun x y H Q => rI0 (fun i j => .int (i + j)) x y H Q ∨ (rCatA X.K x y H Q ∨ ((∃ i j, x = .str i ∧ y = .str j ∧ i.length + j.length ≤ sizeLine ∧ Q (.str (i ++ j)) H) ∨ rCat x y H Q))) := op_add.or (op_catA.or (op_add_str.or op_cat))
theorem lk_sub : Lk2 g (rI0 fun i j => .int (i - j)) bSub := by
  intro E μ F σ S σc H x y vx vy Q R rx ry q
  unfold bSub at q
  split at q
  · exact ⟨_, _, rx.int, ry.int, q.here R.dom (.inr rfl)⟩
  · exact q.elim
theorem small_ok {i : Int} (h : small i = true) : -(2 ^ 64) < i ∧ i < 2 ^ 64 := by
  have h2 : i.natAbs < 18446744073709551616 := of_decide_eq_true h
  omega
theorem lk_mul : Lk2 g (fun x y H Q => rI CMul (fun i j => .int (i * j)) x y H Q ∨ (rI CMulW (fun i j => .int (i * j)) x y H Q ∨ rRep x y H Q)) bMul := by
  intro E μ F σ S σc H x y vx vy Q R rx ry q
  unfold bMul at q
  split at q
  · rename_i i j
    split at q
    · rename_i h
      rw [Bool.or_eq_true, Bool.or_eq_true] at h
      have q2 := q.here R.dom (v := .int (i * j)) (.inr rfl)
      rcases h with (h | h) | h
      · exact .inl ⟨_, _, rx.int, ry.int, .inl (small_ok h), q2⟩
      · exact .inl ⟨_, _, rx.int, ry.int, .inr (small_ok h), q2⟩
      · exact .inr (.inl ⟨_, _, rx.int, ry.int, Nat.lt_trans (of_decide_eq_true h) (by decide), q2⟩)
    · exact q.elim
  · rename_i k _
    split at q
    · rename_i xs ex
      split at q
      · rename_i h
        simp only [Bool.and_eq_true, decide_eq_true_eq] at h
        obtain ⟨⟨⟨h1, h2⟩, h3⟩, h4⟩ := h
        obtain ⟨a, vs, rfl, k1, k2, k3⟩ := R.lst rx ex
        have l1 := k3.length
        have hk : k.toNat ≤ 16777216 := h3
        have hl : vs.length * k.toNat ≤ sizeLine := by rw [lim_eq, ← l1]; exact h2
        refine .inr (.inr ⟨a, k, vs, rfl, ry.int, k1, by omega, by omega, hl, fun p hp => ?_⟩)
        refine q.lst R.dom (fun a h => R.mu_there h) hp ?_ ((k3.pure h4).rep _)
        rw [List.length_flatten, List.map_replicate, List.sum_replicate_nat, Nat.mul_comm]
        exact hl
      · exact q.elim
    · exact q.elim
  · exact q.elim
theorem op_mulA : OpR X (binaryOp .Mult) (fun x y H Q => rI CMul (fun i j => .int (i * j)) x y H Q ∨ (rI CMulW (fun i j => .int (i * j)) x y H Q ∨ rRep x y H Q)) := op_mul.or (op_mulW.or op_rep)
theorem lk_fdiv : Lk2 g (fun x y H Q => rI CDiv (fun i j => .int (i / j)) x y H Q ∨ rI CDivW (fun i j => .int (i / j)) x y H Q) bFdiv := by
  intro E μ F σ S σc H x y vx vy Q R rx ry q
  unfold bFdiv at q
  split at q
  · rename_i i j
    split at q
    · rename_i h
      simp only [Bool.and_eq_true, decide_eq_true_eq] at h
      exact .inl ⟨_, _, rx.int, ry.int, h, q.here R.dom (.inr rfl)⟩
    · split at q
      · rename_i h
        simp only [Bool.and_eq_true, decide_eq_true_eq] at h
        exact .inr ⟨_, _, rx.int, ry.int, ⟨h.1, by omega⟩, q.here R.dom (.inr rfl)⟩
      · exact q.elim
  · exact q.elim
theorem op_fdivA : OpR X (binaryOp .FloorDiv) (fun x y H Q => rI CDiv (fun i j => .int (i / j)) x y H Q ∨ rI CDivW (fun i j => .int (i / j)) x y H Q) := op_fdiv.or op_fdivW
theorem lk_mod : Lk2 g (rI (fun _ j => 0 < j) fun i j => .int (i % j)) bMod := by
  intro E μ F σ S σc H x y vx vy Q R rx ry q
  unfold bMod at q
  split at q
  · split at q
    · rename_i h
      exact ⟨_, _, rx.int, ry.int, h, q.here R.dom (.inr rfl)⟩
    · exact q.elim
  · exact q.elim
theorem lk_pow : Lk2 g (rI CPow fun i j => .int (i ^ j.toNat)) bPow := by
  intro E μ F σ S σc H x y vx vy Q R rx ry q
  unfold bPow at q
  split at q
  · split at q
    · rename_i h
      simp only [Bool.and_eq_true, decide_eq_true_eq] at h
      exact ⟨_, _, rx.int, ry.int, ⟨h.1.1, h.1.2, h.2⟩, q.here R.dom (.inr rfl)⟩
    · exact q.elim
  · exact q.elim
end

/-! ### == -/
mutual
/-- Python's == -/
def eqD : D → D → Bool
  | .non, .non => true
  | .bl a, .bl b => a == b
  | .bl a, .int j => (if a then 1 else 0) == j
  | .int i, .bl b => i == (if b then 1 else 0)
  | .int i, .int j => i == j
  | .str x, .str y => x == y
  | .lst xs, .lst ys => eqL xs ys
  | .rol xs, .lst ys => eqL xs ys
  | .lst xs, .rol ys => eqL xs ys
  | .rol xs, .rol ys => eqL xs ys
  | .tup xs, .tup ys => eqL xs ys
  | _, _ => false
def eqL : List D → List D → Bool
  | [], [] => true
  | x :: xs, y :: ys => eqD x y && eqL xs ys
  | _, _ => false
end
mutual
/-- plain data, no more than n deep -/
def plainD : Nat → D → Bool
  | _, .non => true
  | _, .bl _ => true
  | _, .int _ => true
  | _, .str x => PyData.strOk x
  | 0, _ => false
  | n + 1, .tup xs => plainDs n xs
  | n + 1, .lst xs => plainDs n xs
  | n + 1, .rol xs => plainDs n xs
  | _, _ => false
def plainDs : Nat → List D → Bool
  | _, [] => true
  | n, x :: xs => plainD n x && plainDs n xs
end
/-- a list of the store, frozen for a look -/
def look (S : List SO) (d : D) : D := match d with
  | .loc n => match gets S n with
    | some (.lst xs) => .lst xs
    | _ => d
  | d => d
def bEq (S : List SO) (x y : D) : Res := match x, y with
  | .int i, .int j => .ok (.bl (decide (i = j))) false
  | .str i, .str j => .ok (.bl (decide (i = j))) false
  | .bl i, .bl j => .ok (.bl (decide (i = j))) false
  | x, y => let a := look S x; let b := look S y; if plainD 30 a && plainD 30 b then .ok (.bl (eqD a b)) false else .bad
def bNe (S : List SO) (x y : D) : Res := match x, y with
  | .int i, .int j => .ok (.bl (!decide (i = j))) false
  | .str i, .str j => .ok (.bl (!decide (i = j))) false
  | .bl i, .bl j => .ok (.bl (!decide (i = j))) false
  | x, y => let a := look S x; let b := look S y; if plainD 30 a && plainD 30 b then .ok (.bl (!eqD a b)) false else .bad

mutual
def toPy : D → PyData
  | .non => .none
  | .bl b => .bool b
  | .int i => .int i
  | .str x => .str x
  | .tup xs => .tuple (toPys xs)
  | .lst xs => .list (toPys xs)
  | .rol xs => .list (toPys xs)
  | _ => .dict []
def toPys : List D → List PyData
  | [] => []
  | x :: xs => toPy x :: toPys xs
end
mutual
theorem plain_can : ∀ (n : Nat) (d : D), plainD n d = true → (toPy d).canLay0 = true ∧ (toPy d).depth ≤ n
  | _, .non, _ => by simp [toPy, PyData.canLay0, PyData.depth]
  | _, .bl _, _ => by simp [toPy, PyData.canLay0, PyData.depth]
  | _, .int _, _ => by simp [toPy, PyData.canLay0, PyData.depth]
  | _, .str x, h => by
    cases ‹Nat› <;> (simp only [plainD] at h; simp [toPy, PyData.canLay0, PyData.depth, h])
  | 0, .tup xs, h => by simp [plainD] at h
  | 0, .lst xs, h => by simp [plainD] at h
  | 0, .rol xs, h => by simp [plainD] at h
  | n + 1, .tup xs, h => by
    have h2 := plains_can n xs (by simpa [plainD] using h)
    simp only [toPy, PyData.canLay0, PyData.depth]
    exact ⟨h2.1, by omega⟩
  | n + 1, .lst xs, h => by
    have h2 := plains_can n xs (by simpa [plainD] using h)
    simp only [toPy, PyData.canLay0, PyData.depth]
    exact ⟨h2.1, by omega⟩
  | n + 1, .rol xs, h => by
    have h2 := plains_can n xs (by simpa [plainD] using h)
    simp only [toPy, PyData.canLay0, PyData.depth]
    exact ⟨h2.1, by omega⟩
  | n, .dct _ _, h => by cases n <;> simp [plainD] at h
  | n, .obj _ _, h => by cases n <;> simp [plainD] at h
  | n, .loc _, h => by cases n <;> simp [plainD] at h
  | n, .err, h => by cases n <;> simp [plainD] at h
theorem plains_can : ∀ (n : Nat) (xs : List D), plainDs n xs = true → PyData.canLayAll0 (toPys xs) = true ∧ PyData.depthAll (toPys xs) ≤ n
  | _, [], _ => by simp [toPys, PyData.canLayAll0, PyData.depthAll]
  | n, x :: xs, h => by
    simp only [plainDs, Bool.and_eq_true] at h
    have h1 := plain_can n x h.1
    have h2 := plains_can n xs h.2
    simp only [toPys, PyData.canLayAll0, PyData.depthAll, Bool.and_eq_true]
    exact ⟨⟨h1.1, h2.1⟩, by omega⟩
end

mutual
theorem eq_py : ∀ (n m : Nat) (a b : D), plainD n a = true → plainD m b = true → eqD a b = PyData.eqv (toPy a) (toPy b)
  | n, m, a, b, ha, hb => by
    cases a with
    | dct _ _ => cases n <;> simp [plainD] at ha
    | obj _ _ => cases n <;> simp [plainD] at ha
    | loc _ => cases n <;> simp [plainD] at ha
    | err => cases n <;> simp [plainD] at ha
    | tup xs =>
      cases b with
      | dct _ _ => cases m <;> simp [plainD] at hb
      | obj _ _ => cases m <;> simp [plainD] at hb
      | loc _ => cases m <;> simp [plainD] at hb
      | err => cases m <;> simp [plainD] at hb
      | tup ys =>
        cases n with
        | zero => simp [plainD] at ha
        | succ n =>
          cases m with
          | zero => simp [plainD] at hb
          | succ m =>
            simp only [eqD, toPy, PyData.eqv]
            exact eqs_py n m xs ys (by simpa [plainD] using ha) (by simpa [plainD] using hb)
      | _ => simp [eqD, toPy, PyData.eqv]
    | lst xs =>
      cases b with
      | dct _ _ => cases m <;> simp [plainD] at hb
      | obj _ _ => cases m <;> simp [plainD] at hb
      | loc _ => cases m <;> simp [plainD] at hb
      | err => cases m <;> simp [plainD] at hb
      | lst ys =>
        cases n with
        | zero => simp [plainD] at ha
        | succ n =>
          cases m with
          | zero => simp [plainD] at hb
          | succ m =>
            simp only [eqD, toPy, PyData.eqv]
            exact eqs_py n m xs ys (by simpa [plainD] using ha) (by simpa [plainD] using hb)
      | rol ys =>
        cases n with
        | zero => simp [plainD] at ha
        | succ n =>
          cases m with
          | zero => simp [plainD] at hb
          | succ m =>
            simp only [eqD, toPy, PyData.eqv]
            exact eqs_py n m xs ys (by simpa [plainD] using ha) (by simpa [plainD] using hb)
      | _ => simp [eqD, toPy, PyData.eqv]
    | rol xs =>
      cases b with
      | dct _ _ => cases m <;> simp [plainD] at hb
      | obj _ _ => cases m <;> simp [plainD] at hb
      | loc _ => cases m <;> simp [plainD] at hb
      | err => cases m <;> simp [plainD] at hb
      | lst ys =>
        cases n with
        | zero => simp [plainD] at ha
        | succ n =>
          cases m with
          | zero => simp [plainD] at hb
          | succ m =>
            simp only [eqD, toPy, PyData.eqv]
            exact eqs_py n m xs ys (by simpa [plainD] using ha) (by simpa [plainD] using hb)
      | rol ys =>
        cases n with
        | zero => simp [plainD] at ha
        | succ n =>
          cases m with
          | zero => simp [plainD] at hb
          | succ m =>
            simp only [eqD, toPy, PyData.eqv]
            exact eqs_py n m xs ys (by simpa [plainD] using ha) (by simpa [plainD] using hb)
      | _ => simp [eqD, toPy, PyData.eqv]
    | _ =>
      cases b with
      | dct _ _ => cases m <;> simp [plainD] at hb
      | obj _ _ => cases m <;> simp [plainD] at hb
      | loc _ => cases m <;> simp [plainD] at hb
      | err => cases m <;> simp [plainD] at hb
      | _ => simp [eqD, toPy, PyData.eqv]
theorem eqs_py : ∀ (n m : Nat) (xs ys : List D), plainDs n xs = true → plainDs m ys = true → eqL xs ys = PyData.eqvAll (toPys xs) (toPys ys)
  | n, m, [], [], _, _ => by simp [eqL, toPys, PyData.eqvAll]
  | n, m, [], y :: ys, _, _ => by simp [eqL, toPys, PyData.eqvAll]
  | n, m, x :: xs, [], _, _ => by simp [eqL, toPys, PyData.eqvAll]
  | n, m, x :: xs, y :: ys, ha, hb => by
    simp only [plainDs, Bool.and_eq_true] at ha hb
    simp only [eqL, toPys, PyData.eqvAll]
    rw [eq_py n m x y ha.1 hb.1, eqs_py n m xs ys ha.2 hb.2]
end
section
variable {g : GX} {H : Hp} {F : FZ} {μ : List Addr}
mutual
theorem dp_of : ∀ (n : Nat) (d : D) (v : V), RepP g H F d v → plainD n d = true → Dp g.K H v (toPy d)
  | _, .non, v, r, _ => by
    cases (show v = .non from r)
    exact .non
  | _, .bl b, v, r, _ => by
    cases (show v = .bl b from r)
    exact .bl b
  | _, .int i, v, r, _ => by
    cases (show v = .int i from r)
    exact .int i
  | _, .str x, v, r, _ => by
    cases (show v = .str x from r)
    exact .str x
  | 0, .tup xs, _, _, h => by simp [plainD] at h
  | 0, .lst xs, _, _, h => by simp [plainD] at h
  | 0, .rol xs, _, _, h => by simp [plainD] at h
  | n + 1, .tup xs, v, r, h => by
    obtain ⟨a, vs, rfl, h1, h2⟩ := r
    exact .tup h1.1 (dps_of n xs vs h2 (by simpa [plainD] using h))
  | n + 1, .lst xs, v, r, h => by
    obtain ⟨a, vs, rfl, h1, h2⟩ := r
    exact .lst (SqL.of h1.2.1) (dps_of n xs vs h2 (by simpa [plainD] using h))
  | n + 1, .rol xs, v, r, h => by
    obtain ⟨a, vs, rfl, h1, h2⟩ := r
    exact .lst h1.1.sq (dps_of n xs vs h2 (by simpa [plainD] using h))
  | n, .dct _ _, _, _, h => by cases n <;> simp [plainD] at h
  | n, .obj _ _, _, _, h => by cases n <;> simp [plainD] at h
  | n, .loc _, _, _, h => by cases n <;> simp [plainD] at h
  | n, .err, _, _, h => by cases n <;> simp [plainD] at h
theorem dps_of : ∀ (n : Nat) (ds : List D) (vs : List V), RepL g H F ds vs → plainDs n ds = true → DpAll g.K H vs (toPys ds)
  | _, [], vs, r, _ => by
    cases (show vs = [] from r)
    exact .nil
  | n, d :: ds, vs, r, h => by
    obtain ⟨v, ws, rfl, h1, h2⟩ := r
    simp only [plainDs, Bool.and_eq_true] at h
    exact .cons (dp_of n d v h1 h.1) (dps_of n ds ws h2 h.2)
end
theorem plain_pure : ∀ {n : Nat} {d : D}, plainD n d = true → d.pure = true := fun {n d} h => by
  cases d with
  | loc _ => cases n <;> simp [plainD] at h
  | _ => rfl
theorem plains_pure : ∀ {n : Nat} {ds : List D}, plainDs n ds = true → pureL ds = true
  | _, [], _ => rfl
  | n, d :: ds, h => by
    simp only [plainDs, Bool.and_eq_true] at h
    show (d.pure && pureL ds) = true
    rw [plain_pure h.1, plains_pure h.2] <;> rfl
variable {σ : Sl} {S : List SO} {σc : St}
theorem Rel.dp (R : Rel g μ F σ S σc H) {n : Nat} {d : D} {v : V} (r : RepV g H F μ d v) (h : plainD n (look S d) = true) : Dp g.K H v (toPy (look S d)) := by
  cases d with
  | loc k =>
    cases q : gets S k with
    | none =>
      have e : look S (.loc k) = .loc k := by unfold look; simp only [q]
      rw [e] at h
      cases n <;> simp [plainD] at h
    | some o =>
      cases o with
      | lst xs =>
        have e : look S (.loc k) = .lst xs := by unfold look; simp only [q]
        have e2 : lstOf S (.loc k) = some xs := by unfold lstOf; simp only [q]
        rw [e] at h ⊢
        obtain ⟨a, vs, rfl, k1, k2, k3⟩ := R.lst r e2
        cases n with
        | zero => simp [plainD] at h
        | succ n =>
          have h' : plainDs n xs = true := by simpa [plainD] using h
          exact .lst (SqL.of k1) (dps_of n xs vs (k3.pure (plains_pure h')) h')
      | dct _ _ =>
        have e : look S (.loc k) = .loc k := by unfold look; simp only [q]
        rw [e] at h
        cases n <;> simp [plainD] at h
      | ins _ _ =>
        have e : look S (.loc k) = .loc k := by unfold look; simp only [q]
        rw [e] at h
        cases n <;> simp [plainD] at h
  | _ => exact dp_of n _ v (r.pure rfl) h
theorem shaped_of {n : Nat} {d : D} (h : plainD n d = true) (hn : n ≤ 64) : SeqAt.shaped (toPy d) = true := by
  obtain ⟨h1, h2⟩ := plain_can n d h
  unfold SeqAt.shaped
  rw [h1]
  simp
  omega
theorem lk_eq : Lk2 g (fun x y H Q => rEq x y H Q ∨ rEqD g.K x y H Q) bEq := by
  intro E μ F σ S σc H x y vx vy Q R rx ry q
  have key : Ok g E H F μ (let a := look S x; let b := look S y; if plainD 30 a && plainD 30 b then .ok (.bl (eqD a b)) false else .bad) Q → rEqD g.K vx vy H Q := by
    intro q
    dsimp only at q
    split at q
    · rename_i h
      rw [Bool.and_eq_true] at h
      refine ⟨_, _, R.dp rx h.1, R.dp ry h.2, shaped_of h.1 (by decide), shaped_of h.2 (by decide), ?_⟩
      rw [← eq_py 30 30 _ _ h.1 h.2]
      exact q.here R.dom (.inr rfl)
    · exact q.elim
  unfold bEq at q
  split at q
  · rename_i i j
    refine .inr ⟨.int i, .int j, by cases rx.int; exact .int i, by cases ry.int; exact .int j, rfl, rfl, ?_⟩
    have e : PyData.eqv (.int i) (.int j) = decide (i = j) := by simp only [PyData.eqv, Bool.beq_eq_decide_eq]
    rw [e]
    exact q.here R.dom (.inr rfl)
  · rename_i i j
    cases rx.str
    cases ry.str
    exact .inl ⟨rfl, by rw [show decide (V.str i = V.str j) = decide (i = j) by simp]; exact q.here R.dom (.inr rfl)⟩
  · rename_i i j
    cases rx.bl
    cases ry.bl
    exact .inl ⟨rfl, by rw [show decide (V.bl i = V.bl j) = decide (i = j) by simp]; exact q.here R.dom (.inr rfl)⟩
  · exact .inr (key q)
theorem lk_ne : Lk2 g (fun x y H Q => rNe x y H Q ∨ rNeD g.K x y H Q) bNe := by
  intro E μ F σ S σc H x y vx vy Q R rx ry q
  have key : Ok g E H F μ (let a := look S x; let b := look S y; if plainD 30 a && plainD 30 b then .ok (.bl (!eqD a b)) false else .bad) Q → rNeD g.K vx vy H Q := by
    intro q
    dsimp only at q
    split at q
    · rename_i h
      rw [Bool.and_eq_true] at h
      refine ⟨_, _, R.dp rx h.1, R.dp ry h.2, shaped_of h.1 (by decide), shaped_of h.2 (by decide), ?_⟩
      rw [← eq_py 30 30 _ _ h.1 h.2]
      exact q.here R.dom (.inr rfl)
    · exact q.elim
  unfold bNe at q
  split at q
  · rename_i i j
    refine .inr ⟨.int i, .int j, by cases rx.int; exact .int i, by cases ry.int; exact .int j, rfl, rfl, ?_⟩
    have e : PyData.eqv (.int i) (.int j) = decide (i = j) := by simp only [PyData.eqv, Bool.beq_eq_decide_eq]
    rw [e]
    exact q.here R.dom (.inr rfl)
  · rename_i i j
    cases rx.str
    cases ry.str
    exact .inl ⟨rfl, by rw [show decide (V.str i = V.str j) = decide (i = j) by simp]; exact q.here R.dom (.inr rfl)⟩
  · rename_i i j
    cases rx.bl
    cases ry.bl
    exact .inl ⟨rfl, by rw [show decide (V.bl i = V.bl j) = decide (i = j) by simp]; exact q.here R.dom (.inr rfl)⟩
  · exact .inr (key q)
end
end HC

namespace HC
open PySem PySem.Spec L2
open PyProof.Rows hiding St

/-! ### orders of ints, None -/
def bCmp (p : Int → Int → Bool) (_ : List SO) (x y : D) : Res := match x, y with
  | .int i, .int j => .ok (.bl (p i j)) false
  | _, _ => .bad
theorem lk_cmp {g : GX} {p : Int → Int → Bool} : Lk2 g (rI0 fun i j => .bl (p i j)) (bCmp p) := by
  intro E μ F σ S σc H x y vx vy Q R rx ry q
  unfold bCmp at q
  split at q
  · exact ⟨_, _, rx.int, ry.int, q.here R.dom (.inr rfl)⟩
  · exact q.elim
abbrev bLt := bCmp fun i j => decide (i < j)
abbrev bLe := bCmp fun i j => decide (i ≤ j)
abbrev bGt := bCmp fun i j => decide (j < i)
abbrev bGe := bCmp fun i j => decide (j ≤ i)
def isNon : D → Bool
  | .non => true
  | _ => false
def bIs (_ : List SO) (x y : D) : Res := match y with
  | .non => .ok (.bl (isNon x)) false
  | .bl b => match x with
    | .bl a => .ok (.bl (decide (a = b))) false
    | _ => .bad
  | _ => .bad
def bIsNot (_ : List SO) (x y : D) : Res := match y with
  | .non => .ok (.bl (!isNon x)) false
  | .bl b => match x with
    | .bl a => .ok (.bl (!decide (a = b))) false
    | _ => .bad
  | _ => .bad
theorem isNon_v {g : GX} {H : Hp} {F : FZ} {μ : List Addr} {x : D} {v : V} (r : RepV g H F μ x v) : decide (v = .non) = isNon x := by
  rcases r with ⟨n, a, rfl, _, rfl⟩ | r
  · rfl
  · cases x with
    | non => cases (show v = .non from r); rfl
    | bl b => cases (show v = .bl b from r); rfl
    | int b => cases (show v = .int b from r); rfl
    | str b => cases (show v = .str b from r); rfl
    | tup _ => obtain ⟨a, vs, rfl, _⟩ := r; rfl
    | lst _ => obtain ⟨a, vs, rfl, _⟩ := r; rfl
    | rol _ => obtain ⟨a, vs, rfl, _⟩ := r; rfl
    | dct _ _ => obtain ⟨a, vs, rfl, _⟩ := r; rfl
    | obj _ _ => obtain ⟨a, _, _, _, rfl, _⟩ := r; rfl
    | loc _ => exact r.elim
    | err => obtain ⟨p, _, rfl⟩ := r; rfl
theorem lk_is {g : GX} : Lk2 g (fun x y H Q => (y = .non ∧ Q (.bl (decide (x = .non))) H) ∨ (∃ a b, x = .bl a ∧ y = .bl b ∧ Q (.bl (decide (a = b))) H)) bIs := by
  intro E μ F σ S σc H x y vx vy Q R rx ry q
  unfold bIs at q
  split at q
  · exact .inl ⟨ry.non, by rw [isNon_v rx]; exact q.here R.dom (.inr rfl)⟩
  · split at q
    · exact .inr ⟨_, _, rx.bl, ry.bl, q.here R.dom (.inr rfl)⟩
    · exact q.elim
  · exact q.elim
theorem lk_isnot {g : GX} : Lk2 g (fun x y H Q => (y = .non ∧ Q (.bl (!decide (x = .non))) H) ∨ (∃ a b, x = .bl a ∧ y = .bl b ∧ Q (.bl (!decide (a = b))) H)) bIsNot := by
  intro E μ F σ S σc H x y vx vy Q R rx ry q
  unfold bIsNot at q
  split at q
  · exact .inl ⟨ry.non, by rw [isNon_v rx]; exact q.here R.dom (.inr rfl)⟩
  · split at q
    · exact .inr ⟨_, _, rx.bl, ry.bl, q.here R.dom (.inr rfl)⟩
    · exact q.elim
  · exact q.elim
theorem op_isA {X : Cx} : OpR X (compareOp .Is) (fun x y H Q => (y = .non ∧ Q (.bl (decide (x = .non))) H) ∨ (∃ a b, x = .bl a ∧ y = .bl b ∧ Q (.bl (decide (a = b))) H)) := op_isN.or op_is_bl
theorem op_isnotA {X : Cx} : OpR X (compareOp .IsNot) (fun x y H Q => (y = .non ∧ Q (.bl (!decide (x = .non))) H) ∨ (∃ a b, x = .bl a ∧ y = .bl b ∧ Q (.bl (!decide (a = b))) H)) := op_notN.or op_isnot_bl

/-! ### truth, and, or, not, if -/
def truth (S : List SO) (d : D) : Option Bool := match d with
  | .non => some false
  | .bl b => some b
  | .int i => some (i != 0)
  | .str x => if x.length ≤ lim then some ((x.length : Int) != 0) else none
  | .tup xs => some (!xs.isEmpty)
  | d => match rdOf S d with
    | some xs => some (!xs.isEmpty)
    | none => none
theorem isEmpty_len {α β : Type} {xs : List α} {ys : List β} (h : xs.length = ys.length) : xs.isEmpty = ys.isEmpty := by
  cases xs <;> cases ys <;> simp at h <;> rfl
theorem Rel.tru {g : GX} {μ : List Addr} {F : FZ} {σ : Sl} {S : List SO} {σc : St} {H : Hp} (R : Rel g μ F σ S σc H) {d : D} {v : V} {b : Bool} (r : RepV g H F μ d v) (h : truth S d = some b) : TruV g.K v H b := by
  unfold truth at h
  split at h
  · cases r.non
    exact (Option.some.inj h).symm
  · cases r.bl
    exact (Option.some.inj h).symm
  · cases r.int
    exact (Option.some.inj h).symm
  · cases r.str
    split at h
    · rename_i hl
      exact ⟨by rw [lim_eq]; exact hl, (Option.some.inj h).symm⟩
    · cases h
  · rename_i xs
    obtain ⟨a, vs, rfl, h1, h2, h3⟩ := r.tup (xs := xs) rfl
    rw [← Option.some.inj h, isEmpty_len h3.length]
    exact .inr (.inl ⟨vs, h1, rfl⟩)
  · split at h
    · rename_i xs ex
      obtain ⟨a, vs, rfl, h1, h2, h3⟩ := R.rd r ex
      rw [← Option.some.inj h, isEmpty_len h3.length]
      exact .inl ⟨vs, h1, rfl⟩
    · cases h

def cTru (f : CE) : CE := fun σ S => match f σ S with
  | .ok d _ => match truth S d with
    | some b => .ok (.bl b) false
    | none => .bad
  | .ex c as => .ex c as
  | .bad => .bad
def cNot (f : CE) : CE := fun σ S => match f σ S with
  | .ok d _ => match truth S d with
    | some b => .ok (.bl (!b)) false
    | none => .bad
  | .ex c as => .ex c as
  | .bad => .bad
def cAnd (a b : CE) : CE := fun σ S => match a σ S with
  | .ok d _ => match truth S d with
    | some true => b σ S
    | some false => .ok d false
    | none => .bad
  | .ex c as => .ex c as
  | .bad => .bad
def cOr (a b : CE) : CE := fun σ S => match a σ S with
  | .ok d _ => match truth S d with
    | some true => .ok d false
    | some false => b σ S
    | none => .bad
  | .ex c as => .ex c as
  | .bad => .bad
def cIf (c a b : CE) : CE := fun σ S => match c σ S with
  | .ok (.bl true) _ => a σ S
  | .ok (.bl false) _ => b σ S
  | .ok _ _ => .bad
  | .ex c as => .ex c as
  | .bad => .bad
section
variable {X : Cx} {g : GX} {E : WX} {a b c : Expr} {fa fb fc : CE} {pos : Pos}
/-- one value, then what follows of it -/
theorem T.one {f : CE} {k : Sl → List SO → D → Res} {σc : St} {H : Hp} {Q : VK} {R1 : V → Hp → Prop}
    (h : T g E (fun σ S => match f σ S with | .ok d _ => k σ S d | .ex c as => .ex c as | .bad => .bad) σc H Q)
    (w : ∀ (μ : List Addr) (F : FZ) (σ : Sl) (S : List SO) (H1 : Hp) (d : D) (v : V), Rel g μ F σ S σc H1 → RepV g H1 F μ d v → Ok g (wat E σc) H1 F μ (k σ S d) Q → R1 v H1) : T g E f σc H R1 := by
  obtain ⟨μ, F, σ, S, R, q⟩ := h
  refine ⟨μ, F, σ, S, R, ?_⟩
  dsimp only at q
  cases ea : f σ S with
  | bad => rw [ea] at q; exact q
  | ex c as => rw [ea] at q; exact q
  | ok d fr =>
    rw [ea] at q
    intro v H1 F1 s1 x1 r1
    obtain ⟨F2, x2, u2, rx⟩ := r1.frz x1
    exact w μ F2 σ S H1 d v (R.mono s1 x2) rx (q.from s1 x2)
def cTwo (f : CE) (k : Sl → List SO → D → Res) : CE := fun σ S => match f σ S with
  | .ok d _ => k σ S d
  | .ex c as => .ex c as
  | .bad => .bad
theorem Rel.bind {μ : List Addr} {F : FZ} {σ : Sl} {S : List SO} {f : CE} {k : Sl → List SO → D → Res} {σc : St} {H : Hp} {Q : VK} {R1 : V → Hp → Prop} (R : Rel g μ F σ S σc H) (q : Ok g (wat E σc) H F μ (cTwo f k σ S) Q)
    (w : ∀ (H1 : Hp) (F1 : FZ) (d : D) (v : V), Same H H1 → FX F H F1 H1 → Rel g μ F1 σ S σc H1 → RepV g H1 F1 μ d v → Ok g (wat E σc) H1 F1 μ (k σ S d) Q → R1 v H1) : T g E f σc H R1 := by
  refine ⟨μ, F, σ, S, R, ?_⟩
  unfold cTwo at q
  cases ea : f σ S with
  | bad => rw [ea] at q; exact q
  | ex c as => rw [ea] at q; exact q
  | ok d fr =>
    rw [ea] at q
    intro v H1 F1 s1 x1 r1
    obtain ⟨F2, x2, u2, rx⟩ := r1.frz x1
    exact w H1 F2 d v s1 x2 (R.mono s1 x2) rx (q.from s1 x2)
/-- a test, then what follows of it -/
theorem TB.one {f : CE} {k : Sl → List SO → Bool → Res} {σc : St} {H : Hp} {Q : VK} {R1 : Bool → Hp → Prop}
    (h : T g E (fun σ S => match f σ S with | .ok (.bl b) _ => k σ S b | .ok _ _ => .bad | .ex c as => .ex c as | .bad => .bad) σc H Q)
    (w : ∀ (μ : List Addr) (F : FZ) (σ : Sl) (S : List SO) (H1 : Hp) (b : Bool), Rel g μ F σ S σc H1 → Ok g (wat E σc) H1 F μ (k σ S b) Q → R1 b H1) : TB g E f σc H R1 := by
  obtain ⟨μ, F, σ, S, R, q⟩ := h
  refine ⟨μ, F, σ, S, R, ?_⟩
  dsimp only at q
  cases ea : f σ S with
  | bad => rw [ea] at q; exact q
  | ex c as => rw [ea] at q; exact q
  | ok d fr =>
    rw [ea] at q
    cases d with
    | bl b =>
      intro v H1 F1 s1 x1 r1
      obtain ⟨F2, x2, u2, rx⟩ := r1.frz x1
      exact ⟨b, rx.bl, w μ F2 σ S H1 b (R.mono s1 x2) (q.from s1 x2)⟩
    | _ => exact q.elim
theorem Rel.ok (R : Rel g μ F σ S σc H) {f : CE} {Q : VK} (q : Ok g (wat E σc) H F μ (f σ S) Q) : T g E f σc H Q := ⟨μ, F, σ, S, R, q⟩

theorem q_tru (ha : PE X a (T g E fa)) (hg : X.K = g.K := by rfl) (he : ∀ whole, isTrue a X.env whole = (do let v ← whole; standAt a.pos; holding [v] (truthy v)) := by intro _; rfl) : PT X a (TB g E (cTru fa)) :=
  (pt_truth ha he).hc fun σc H Q h => T.one h fun μ F σ S H1 d v R r q => by
    split at q
    · rename_i b e
      obtain ⟨k, e2, z⟩ := q.here R.dom (v := .bl b) (.inr rfl)
      cases e2
      exact ⟨b, by rw [hg]; exact R.tru r e, z⟩
    · exact q.elim
/-- a value that is True or False, as a test -/
theorem q_trB (ha : PE X a (T g E fa)) (he : ∀ whole, isTrue a X.env whole = (do let v ← whole; standAt a.pos; holding [v] (truthy v)) := by intro _; rfl) : PT X a (TB g E fa) := pt_val ha he
theorem q_not (ha : PE X a (T g E fa)) (hg : X.K = g.K := by rfl) : PE X (.UnaryOp .Not a pos) (T g E (cNot fa)) :=
  (pe_notT ha).hc fun σc H Q h => T.one h fun μ F σ S H1 d v R r q => by
    split at q
    · rename_i b e
      exact ⟨b, by rw [hg]; exact R.tru r e, q.here R.dom (.inr rfl)⟩
    · exact q.elim
def cNotB (f : CE) : CE := fun σ S => match f σ S with
  | .ok (.bl b) _ => .ok (.bl (!b)) false
  | .ok _ _ => .bad
  | .ex c as => .ex c as
  | .bad => .bad
theorem q_notT (ha : PT X a (TB g E fa)) : PT X (.UnaryOp .Not a pos) (TB g E (cNotB fa)) :=
  (pt_not ha).hc fun σc H Q h => TB.one (k := fun _ _ b => .ok (.bl (!b)) false) h fun μ F σ S H1 b R q => by
    obtain ⟨k, e, z⟩ := q.here R.dom (v := .bl (!b)) (.inr rfl)
    cases e
    exact z
theorem q_one {op} (ha : PE X a (T g E fa)) : PE X (.BoolOp op [a] pos) (T g E fa) := pe_one ha
theorem q_and {rest : List Expr} (ha : PE X a (T g E fa)) (hb : PE X (.BoolOp .And (b :: rest) pos) (T g E fb)) (hg : X.K = g.K := by rfl) : PE X (.BoolOp .And (a :: b :: rest) pos) (T g E (cAnd fa fb)) :=
  (pe_andT ha hb).hc fun σc H Q h => T.one (k := fun σ S d => match truth S d with | some true => fb σ S | some false => .ok d false | none => .bad) h fun μ F σ S H1 d v R r q => by
    split at q
    · rename_i e
      exact ⟨true, by rw [hg]; exact R.tru r e, iteT (R.ok q)⟩
    · rename_i e
      exact ⟨false, by rw [hg]; exact R.tru r e, iteF (q.here R.dom r)⟩
    · exact q.elim
theorem q_or {rest : List Expr} (ha : PE X a (T g E fa)) (hb : PE X (.BoolOp .Or (b :: rest) pos) (T g E fb)) (hg : X.K = g.K := by rfl) : PE X (.BoolOp .Or (a :: b :: rest) pos) (T g E (cOr fa fb)) :=
  (pe_orT ha hb).hc fun σc H Q h => T.one (k := fun σ S d => match truth S d with | some true => .ok d false | some false => fb σ S | none => .bad) h fun μ F σ S H1 d v R r q => by
    split at q
    · rename_i e
      exact ⟨true, by rw [hg]; exact R.tru r e, iteT (q.here R.dom r)⟩
    · rename_i e
      exact ⟨false, by rw [hg]; exact R.tru r e, iteF (R.ok q)⟩
    · exact q.elim
/-- tests joined -/
def cAndB (a b : CE) : CE := fun σ S => match a σ S with
  | .ok (.bl true) _ => b σ S
  | .ok (.bl false) _ => .ok (.bl false) false
  | .ok _ _ => .bad
  | .ex c as => .ex c as
  | .bad => .bad
def cOrB (a b : CE) : CE := fun σ S => match a σ S with
  | .ok (.bl true) _ => .ok (.bl true) false
  | .ok (.bl false) _ => b σ S
  | .ok _ _ => .bad
  | .ex c as => .ex c as
  | .bad => .bad
theorem two_b {f : CE} {kt kf : CE} (σ : Sl) (S : List SO) : (match f σ S with | .ok (.bl true) _ => kt σ S | .ok (.bl false) _ => kf σ S | .ok _ _ => .bad | .ex c as => .ex c as | .bad => (.bad : Res)) =
    (match f σ S with | .ok (.bl b) _ => (fun σ S (b : Bool) => if b = true then kt σ S else kf σ S) σ S b | .ok _ _ => .bad | .ex c as => .ex c as | .bad => (.bad : Res)) := by
  cases f σ S with
  | ok d fr =>
    cases d with
    | bl b => cases b <;> rfl
    | _ => rfl
  | _ => rfl
theorem TB.two {f kt kf : CE} {σc : St} {H : Hp} {Q : VK} {R1 : Bool → Hp → Prop}
    (h : T g E (fun σ S => match f σ S with | .ok (.bl true) _ => kt σ S | .ok (.bl false) _ => kf σ S | .ok _ _ => .bad | .ex c as => .ex c as | .bad => .bad) σc H Q)
    (w : ∀ (μ : List Addr) (F : FZ) (σ : Sl) (S : List SO) (H1 : Hp) (b : Bool), Rel g μ F σ S σc H1 → Ok g (wat E σc) H1 F μ (if b = true then kt σ S else kf σ S) Q → R1 b H1) : TB g E f σc H R1 := by
  refine TB.one (k := fun σ S b => if b = true then kt σ S else kf σ S) ?_ w
  obtain ⟨μ, F, σ, S, R, q⟩ := h
  have e := two_b (f := f) (kt := kt) (kf := kf) σ S
  dsimp only at q e
  rw [e] at q
  exact ⟨μ, F, σ, S, R, q⟩
theorem w_and1 (ha : PT X a (TB g E fa)) : PW X (.BoolOp .And [a] pos) (TB g E fa) := pw_and1 ha
theorem w_or1 (ha : PT X a (TB g E fa)) : PW X (.BoolOp .Or [a] pos) (TB g E fa) := pw_or1 ha
theorem w_and {rest : List Expr} (ha : PT X a (TB g E fa)) (hb : PW X (.BoolOp .And (b :: rest) pos) (TB g E fb)) : PW X (.BoolOp .And (a :: b :: rest) pos) (TB g E (cAndB fa fb)) :=
  (pw_and ha hb).hc fun σc H Q h => TB.two (kt := fb) (kf := fun _ _ => .ok (.bl false) false) h fun μ F σ S H1 c R q => by
    cases c with
    | true => exact iteT (R.ok q)
    | false =>
      obtain ⟨k, e, z⟩ := q.here R.dom (v := .bl false) (.inr rfl)
      cases e
      exact iteF z
theorem w_or {rest : List Expr} (ha : PT X a (TB g E fa)) (hb : PW X (.BoolOp .Or (b :: rest) pos) (TB g E fb)) : PW X (.BoolOp .Or (a :: b :: rest) pos) (TB g E (cOrB fa fb)) :=
  (pw_or ha hb).hc fun σc H Q h => TB.two (kt := fun _ _ => .ok (.bl true) false) (kf := fb) h fun μ F σ S H1 c R q => by
    cases c with
    | true =>
      obtain ⟨k, e, z⟩ := q.here R.dom (v := .bl true) (.inr rfl)
      cases e
      exact iteT z
    | false => exact iteF (R.ok q)
theorem q_if (hc : PT X c (TB g E fc)) (ha : PE X a (T g E fa)) (hb : PE X b (T g E fb)) : PE X (.IfExp c a b pos) (T g E (cIf fc fa fb)) :=
  (pe_ifExp hc ha hb).hc fun σc H Q h => TB.two (kt := fa) (kf := fb) h fun μ F σ S H1 c R q => by
    cases c with
    | true => exact iteT (R.ok q)
    | false => exact iteF (R.ok q)
end

/-! ### arguments, tuples, lists -/
inductive ResL where
  | ok (ds : List D) | ex (c : Nat) (as : List D) | bad
abbrev CA := Sl → List SO → ResL
def OkL (g : GX) (E : XK) (H : Hp) (F : FZ) (μ : List Addr) (r : ResL) (Q : List V → Hp → Prop) : Prop := match r with
  | .ok ds => ∀ vs H' F', Same H H' → FX F H F' H' → RepVs g H' F' μ ds vs → Q vs H'
  | .ex c as => ∀ cls dx H' F', Same H H' → FX F H F' H' → RepX g H' F' μ c as cls dx → E cls dx H'
  | .bad => False
def TL (g : GX) (E : WX) (f : CA) : TA := fun σc H Q => ∃ μ F σ S, Rel g μ F σ S σc H ∧ OkL g (wat E σc) H F μ (f σ S) Q
theorem OkL.from {g : GX} {E : XK} {H H1 : Hp} {F F1 : FZ} {μ : List Addr} {r : ResL} {Q : List V → Hp → Prop} (h : OkL g E H F μ r Q) (s : Same H H1) (x : FX F H F1 H1) : OkL g E H1 F1 μ r Q := by
  cases r with
  | ok d => exact fun v H' F' s' x' rr => h v H' F' (s.trans s') (x.trans s x') rr
  | ex c as => exact fun cls dx H' F' s' x' rr => h cls dx H' F' (s.trans s') (x.trans s x') rr
  | bad => exact h
def cNil : CA := fun _ _ => .ok []
def cCons (a : CE) (r : CA) : CA := fun σ S => match a σ S with
  | .ok d _ => match r σ S with
    | .ok ds => .ok (d :: ds)
    | .ex c as => .ex c as
    | .bad => .bad
  | .ex c as => .ex c as
  | .bad => .bad
/-- what a call does with its arguments -/
def cApp (fn : List SO → List D → Res) (f : CA) : CE := fun σ S => match f σ S with
  | .ok ds => fn S ds
  | .ex c as => .ex c as
  | .bad => .bad
theorem TL.app {g : GX} {E : WX} {f : CA} {fn : List SO → List D → Res} {σc : St} {H : Hp} {Q : VK} {R1 : List V → Hp → Prop} (h : T g E (cApp fn f) σc H Q)
    (w : ∀ (μ : List Addr) (F : FZ) (σ : Sl) (S : List SO) (H1 : Hp) (ds : List D) (vs : List V), Rel g μ F σ S σc H1 → RepVs g H1 F μ ds vs → Ok g (wat E σc) H1 F μ (fn S ds) Q → R1 vs H1) : TL g E f σc H R1 := by
  obtain ⟨μ, F, σ, S, R, q⟩ := h
  refine ⟨μ, F, σ, S, R, ?_⟩
  unfold cApp at q
  cases ea : f σ S with
  | bad => rw [ea] at q; exact q
  | ex c as => rw [ea] at q; exact q
  | ok ds =>
    rw [ea] at q
    exact fun vs H1 F1 s1 x1 r1 => w μ F1 σ S H1 ds vs (R.mono s1 x1) r1 (q.from s1 x1)
def fTup (_ : List SO) (ds : List D) : Res := if pureL ds && decide (ds.length ≤ lim) then .ok (.tup ds) false else .bad
def fLst (_ : List SO) (ds : List D) : Res := if pureL ds && decide (ds.length ≤ lim) then .ok (.lst ds) true else .bad
section
variable {X : Cx} {g : GX} {E : WX} {e : Expr} {es : List Expr} {f : CE} {fr : CA} {pos : Pos}
theorem qa_nil : PA X [] (TL g E cNil) := pa_nil.hc fun σc H Q ⟨μ, F, σ, S, R, q⟩ => q [] H F (Same.refl H) R.fx .nil
theorem qa_cons (ha : PE X e (T g E f)) (hr : PA X es (TL g E fr)) (hs : starEach (e :: es) X.env = (false, eval e X.env) :: starEach es X.env := by rfl) : PA X (e :: es) (TL g E (cCons f fr)) :=
  (pa_cons ha hr hs).hc fun σc H Q ⟨μ, F, σ, S, R, q⟩ => by
    refine ⟨μ, F, σ, S, R, ?_⟩
    unfold cCons at q
    cases ea : f σ S with
    | bad => rw [ea] at q; exact q
    | ex c as => rw [ea] at q; exact q
    | ok d fl =>
      rw [ea] at q
      intro v H1 F1 s1 x1 r1
      obtain ⟨F2, x2, u2, rx⟩ := r1.frz x1
      refine ⟨μ, F2, σ, S, R.mono s1 x2, ?_⟩
      have q : OkL g (wat E σc) H F μ (match fr σ S with | .ok ds => .ok (d :: ds) | .ex c as => .ex c as | .bad => .bad) Q := q
      cases eb : fr σ S with
      | bad => rw [eb] at q; exact q
      | ex c as =>
        rw [eb] at q
        exact fun cls dx H' F' s' x' rr => q cls dx H' F' (s1.trans s') (x2.trans s1 x') rr
      | ok ds =>
        rw [eb] at q
        exact fun vs H3 F3 s3 x3 r3 => q (v :: vs) H3 F3 (s1.trans s3) (x2.trans s1 x3) (.cons (rx.mono s3 x3.up) r3)
theorem q_tup {x1} (h : PA X es (TL g E fr)) : PE X (.Tuple es x1 pos) (T g E (cApp fTup fr)) := (pe_tup h).hc fun σc H Q h => TL.app h fun μ F σ S H1 ds vs R r q => by
  unfold fTup at q
  split at q
  · rename_i hp
    rw [Bool.and_eq_true, decide_eq_true_eq] at hp
    have hl : vs.length ≤ sizeLine := by rw [lim_eq, ← r.length]; exact hp.2
    exact ⟨hl, fun p hn => q.tup R.dom hn hl (r.pure hp.1)⟩
  · exact q.elim
theorem q_lst (h : PA X es (TL g E fr)) : PE X (.List es pos) (T g E (cApp fLst fr)) := (pe_lst h).hc fun σc H Q h => TL.app h fun μ F σ S H1 ds vs R r q => by
  unfold fLst at q
  split at q
  · rename_i hp
    rw [Bool.and_eq_true, decide_eq_true_eq] at hp
    have hl : vs.length ≤ sizeLine := by rw [lim_eq, ← r.length]; exact hp.2
    exact ⟨hl, fun p hn => q.lst R.dom (fun a h => R.mu_there h) hn hl (r.pure hp.1)⟩
  · exact q.elim
end
end HC

namespace HC
open PySem PySem.Spec L2
open PyProof.Rows hiding St

/-! ## places, slices -/
def atD (xs : List D) (i : Int) : Option D := match i with
  | .ofNat n => gets xs n
  | .negSucc m => if m + 1 ≤ xs.length then gets xs (xs.length - (m + 1)) else none
theorem atD_at {xs : List D} {i : Int} {d : D} (h : atD xs i = some d) {α : Type} {vs : List α} (hl : xs.length = vs.length) : ∃ j : Nat, xs[j]? = some d ∧ ∀ v, vs[j]? = some v → atI vs i = some v := by
  unfold atD at h
  split at h
  · rename_i n
    rw [gets_eq] at h
    exact ⟨n, h, fun v e => atI_nat e⟩
  · rename_i m
    split at h
    · rename_i hm
      rw [gets_eq] at h
      refine ⟨_, h, fun v e => ?_⟩
      unfold atI ixN
      rw [if_neg (by omega), ← hl, if_pos (by omega)]
      show vs[(Int.negSucc m + (xs.length : Int)).toNat]? = some v
      rw [show (Int.negSucc m + (xs.length : Int)).toNat = xs.length - (m + 1) by omega]
      exact e
    · cases h
def strAt (z : Str) (i : Int) : Option Nat := match i with
  | .ofNat n => gets z.cps.toList n
  | .negSucc m => if m + 1 ≤ z.cps.toList.length then gets z.cps.toList (z.cps.toList.length - (m + 1)) else none
theorem strAt_at {z : Str} {i : Int} {c : Nat} (h : strAt z i = some c) : atI z.cps.toList i = some c := by
  unfold strAt at h
  split at h
  · rw [gets_eq] at h
    exact atI_nat h
  · rename_i m
    split at h
    · rename_i hm
      rw [gets_eq] at h
      unfold atI ixN
      rw [if_neg (by omega), if_pos (by omega)]
      show z.cps.toList[(Int.negSucc m + (z.cps.toList.length : Int)).toNat]? = some c
      rw [show (Int.negSucc m + (z.cps.toList.length : Int)).toNat = z.cps.toList.length - (m + 1) by omega]
      exact h
    · cases h
def bIx (S : List SO) (x y : D) : Res := match y with
  | .int i => match seqOf S x with
    | some xs => match atD xs i with
      | some d => .ok d false
      | none => .bad
    | none => match x with
      | .str z => if z.length ≤ lim then (match strAt z i with
        | some c => .ok (.str ⟨#[c]⟩) false
        | none => .bad) else .bad
      | _ => .bad
  | _ => .bad
section
variable {g : GX} {μ : List Addr} {F : FZ} {σ : Sl} {S : List SO} {σc : St} {H : Hp}
/-- a list or a tuple -/
theorem Rel.seq (R : Rel g μ F σ S σc H) {d : D} {v : V} {xs : List D} (r : RepV g H F μ d v) (h : seqOf S d = some xs) : ∃ a vs, v = .ref a ∧ (SqL g.K H a vs ∨ SqT g.K H a vs) ∧ vs.length ≤ sizeLine ∧ RepVs g H F μ xs vs := by
  rcases seqOf_cases h with e | e
  · obtain ⟨a, vs, rfl, h1, h2, h3⟩ := r.tup e
    exact ⟨a, vs, rfl, .inr h1, h2, h3.vs⟩
  · obtain ⟨a, vs, rfl, h1, h2, h3⟩ := R.rd r e
    exact ⟨a, vs, rfl, .inl h1, h2, h3⟩
theorem lk_ix : Lk2 g (rIx g.K) bIx := by
  intro E μ F σ S σc H x y vx vy Q R rx ry q
  unfold bIx at q
  split at q
  · split at q
    · rename_i i xs ex
      split at q
      · rename_i d ed
        obtain ⟨a, vs, rfl, h1, h2, h3⟩ := R.seq rx ex
        obtain ⟨j, ej, k⟩ := atD_at ed h3.length
        obtain ⟨v, ev, rv⟩ := h3.get ej
        have z := q.here R.dom rv
        rcases h1 with h1 | h1
        · exact .inl ⟨a, vs, _, v, rfl, ry.int, h1, k v ev, z⟩
        · exact .inr (.inl ⟨a, vs, _, v, rfl, ry.int, h1, k v ev, z⟩)
      · exact q.elim
    · split at q
      · split at q
        · rename_i hl
          split at q
          · rename_i c ec
            exact .inr (.inr ⟨_, _, c, rx.str, ry.int, by rw [lim_eq]; exact hl, strAt_at ec, q.here R.dom (.inr rfl)⟩)
          · exact q.elim
        · exact q.elim
      · exact q.elim
  · exact q.elim
end
section
variable {X : Cx} {g : GX} {E : WX} {a b : Expr} {fa fb fc : CE} {pos p2 : Pos}
theorem q_ix (ha : PE X a (T g E fa)) (hb : PE X b (T g E fb)) (hg : X.K = g.K := by rfl) (hs : PlainIx b := by exact fun _ _ => rfl) : PE X (.Subscript a b pos) (T g E (cBin bIx fa fb)) :=
  (pe_ix ix_seq ha hb hs).hc fun σc H Q h => T.two h fun μ F σ S H2 x y vx vy R rx ry q => by rw [hg]; exact lk_ix (wat E σc) μ F σ S σc H2 x y vx vy Q R rx ry q

/-- a part of a slice -/
inductive ResP where
  | ok (i : Option Int) | ex (c : Nat) (as : List D) | bad
def cutI (n d : Nat) : Option Int → Nat
  | none => d
  | some (.ofNat k) => if k ≤ n then k else n
  | some (.negSucc m) => n - (m + 1)
theorem cutI_eq (n d : Nat) (o : Option Int) : cutI n d o = HT.sIx n d o := by
  cases o with
  | none => rfl
  | some i =>
    cases i with
    | ofNat k =>
      show (if k ≤ n then k else n) = _
      rw [show HT.sIx n d (some (Int.ofNat k)) = min k n from HT.sIx_nat n d k]
      split <;> omega
    | negSucc m =>
      show n - (m + 1) = HT.sIx n d (some (Int.negSucc m))
      have h := HT.clip_eq (Int.negSucc m) n d
      rw [if_pos (by omega)] at h
      omega
def cutD (xs : List D) (lo hi : Option Int) : List D := let n := xs.length; let a := cutI n 0 lo; (xs.drop a).take (cutI n n hi - a)
def fCut (S : List SO) (x : D) (lo hi : Option Int) : Res := match x with
  | .tup xs => .ok (.tup (cutD xs lo hi)) false
  | x => match rdOf S x with
    | some xs => if pureL xs then .ok (.lst (cutD xs lo hi)) true else .bad
    | none => .bad

def kInt (k : Int → Res) : D → Res
  | .int i => k i
  | _ => .bad
def cCutLH (f l h : CE) : CE := cTwo f fun σ S x => cTwo l (fun σ S => kInt fun i => cTwo h (fun _ S => kInt fun j => fCut S x (some i) (some j)) σ S) σ S
def cCutL (f l : CE) : CE := cTwo f fun σ S x => cTwo l (fun _ S => kInt fun i => fCut S x (some i) none) σ S
def cCutH (f h : CE) : CE := cTwo f fun σ S x => cTwo h (fun _ S => kInt fun j => fCut S x none (some j)) σ S
def cCutA (f : CE) : CE := cTwo f fun _ S x => fCut S x none none
theorem RepL.cut {H : Hp} {F : FZ} {xs : List D} {vs : List V} (r : RepL g H F xs vs) (lo hi : Option Int) : RepL g H F (cutD xs lo hi) (cutV vs lo hi) := by
  have e : cutD xs lo hi = (xs.drop (HT.sIx vs.length 0 lo)).take (HT.sIx vs.length vs.length hi - HT.sIx vs.length 0 lo) := by
    unfold cutD
    dsimp only
    rw [cutI_eq, cutI_eq, r.length]
  rw [e]
  exact (r.drop _).take _
theorem cut_whole {vs : List V} {lo hi : Option Int} (h : HT.sIx vs.length 0 lo = 0 ∧ HT.sIx vs.length vs.length hi = vs.length) {xs : List D} (hl : xs.length = vs.length) : cutD xs lo hi = xs := by
  unfold cutD
  dsimp only
  rw [cutI_eq, cutI_eq, hl, h.1, h.2, ← hl]
  simp
theorem lk_cut {E : XK} {H : Hp} {μ : List Addr} {F : FZ} {σ : Sl} {S : List SO} {σc : St} {x : D} {vx : V} {lo hi : Option Int} {Q : VK} (R : Rel g μ F σ S σc H) (rx : RepV g H F μ x vx) (q : Ok g E H F μ (fCut S x lo hi) Q) :
    (rSlA g.K vx lo hi H Q ∨ rSlL g.K vx lo hi H Q) := by
  unfold fCut at q
  split at q
  · rename_i xs
    obtain ⟨a, vs, rfl, h1, h2, h3⟩ := rx.tup (xs := xs) rfl
    refine .inl ⟨a, vs, rfl, h1, fun w => ?_, fun _ p hp => ?_⟩
    · rw [cut_whole w h3.length] at q
      exact q.here R.dom rx
    · exact q.tup R.dom hp (Nat.le_trans (cutV_length _ _ _) h2) (h3.cut _ _)
  · split at q
    · rename_i xs ex
      split at q
      · rename_i hp
        obtain ⟨a, vs, rfl, h1, h2, h3⟩ := R.rd rx ex
        exact .inr ⟨a, vs, rfl, h1, fun p hn => q.lst R.dom (fun a h => R.mu_there h) hn (Nat.le_trans (cutV_length _ _ _) h2) ((h3.pure hp).cut _ _)⟩
      · exact q.elim
    · exact q.elim
theorem kInt_ok {E : XK} {H : Hp} {μ : List Addr} {F : FZ} {k : Int → Res} {d : D} {v : V} {Q : VK} (r : RepV g H F μ d v) (q : Ok g E H F μ (kInt k d) Q) : ∃ i, v = .int i ∧ Ok g E H F μ (k i) Q := by
  cases d with
  | int i => exact ⟨i, r.int, q⟩
  | _ => exact q.elim
theorem q_slLH {l h : Expr} (ha : PE X a (T g E fa)) (hl : PE X l (T g E fb)) (hh : PE X h (T g E fc)) (hg : X.K = g.K := by rfl) : PE X (.Subscript a (.Slice (some l) (some h) none p2) pos) (T g E (cCutLH fa fb fc)) :=
  (pe_slice (sl_tupA.or sl_list) ha (po_some hl) (po_some hh)).hc fun σc H Q ⟨μ, F, σ, S, R, q⟩ => R.bind q fun H1 F1 x v s1 x1 R1 rx q => R1.bind q fun H2 F2 y w s2 x2 R2 ry q => by
    obtain ⟨i, rfl, q⟩ := kInt_ok ry q
    refine ⟨i, rfl, R2.bind q fun H3 F3 z w s3 x3 R3 rz q => ?_⟩
    obtain ⟨j, rfl, q⟩ := kInt_ok rz q
    exact ⟨j, rfl, by rw [hg]; exact lk_cut R3 ((rx.mono s2 x2.up).mono s3 x3.up) q⟩
theorem q_slL {l : Expr} (ha : PE X a (T g E fa)) (hl : PE X l (T g E fb)) (hg : X.K = g.K := by rfl) : PE X (.Subscript a (.Slice (some l) none none p2) pos) (T g E (cCutL fa fb)) :=
  (pe_slice (sl_tupA.or sl_list) ha (po_some hl) po_none).hc fun σc H Q ⟨μ, F, σ, S, R, q⟩ => R.bind q fun H1 F1 x v s1 x1 R1 rx q => R1.bind q fun H2 F2 y w s2 x2 R2 ry q => by
    obtain ⟨i, rfl, q⟩ := kInt_ok ry q
    exact ⟨i, rfl, by rw [hg]; exact lk_cut R2 (rx.mono s2 x2.up) q⟩
theorem q_slH {l : Expr} (ha : PE X a (T g E fa)) (hl : PE X l (T g E fb)) (hg : X.K = g.K := by rfl) : PE X (.Subscript a (.Slice none (some l) none p2) pos) (T g E (cCutH fa fb)) :=
  (pe_slice (sl_tupA.or sl_list) ha po_none (po_some hl)).hc fun σc H Q ⟨μ, F, σ, S, R, q⟩ => R.bind q fun H1 F1 x v s1 x1 R1 rx q => R1.bind q fun H2 F2 y w s2 x2 R2 ry q => by
    obtain ⟨i, rfl, q⟩ := kInt_ok ry q
    exact ⟨i, rfl, by rw [hg]; exact lk_cut R2 (rx.mono s2 x2.up) q⟩
theorem q_slA (ha : PE X a (T g E fa)) (hg : X.K = g.K := by rfl) : PE X (.Subscript a (.Slice none none none p2) pos) (T g E (cCutA fa)) :=
  (pe_slice (sl_tupA.or sl_list) ha po_none po_none).hc fun σc H Q ⟨μ, F, σ, S, R, q⟩ => R.bind q fun H1 F1 x v s1 x1 R1 rx q => by
    show rSlA X.K v none none H1 Q ∨ rSlL X.K v none none H1 Q
    rw [hg]
    exact lk_cut R1 rx q
end
end HC

namespace HC
open PySem PySem.Spec L2
open PyProof.Rows hiding St

/-! ## calls of built-ins -/
def LkC (g : GX) (r : List V → Hp → VK → Prop) (fn : List SO → List D → Res) : Prop :=
  ∀ (E : XK) (μ : List Addr) (F : FZ) (σ : Sl) (S : List SO) (σc : St) (H : Hp) (ds : List D) (vs : List V) (Q : VK), Rel g μ F σ S σc H → RepVs g H F μ ds vs → Ok g E H F μ (fn S ds) Q → r vs H Q
section
variable {X : Cx} {g : GX} {E : WX} {x : Str} {p pos : Pos} {e : Expr} {es : List Expr} {f : CA} {id T' : String} {r : List V → Hp → VK → Prop} {fn : List SO → List D → Res}
theorem q_callB (hc : CallR X (.builtin id) r) (l : LkC g r fn) (hg : Gl X x) (hm : X.mg x = none) (hv : bootBuiltins x = some (.builtin id)) (ha : PA X (e :: es) (TL g E f)) (hn : x ≠ "__name__" := by decide) (hdb : (x == ("__debug__" : Str)) = false := by decide)
    (he : starEach (e :: es) X.env = (false, eval e X.env) :: starEach es X.env := by rfl) (hpl : (backTo pos (starEach es X.env)).any (·.1) = false := by rfl) : PE X (.Call (.Name x p) (e :: es) [] pos) (T g E (cApp fn f)) :=
  (pe_callB hc hg hm hv ha hn hdb he hpl).hc fun σc H Q h => TL.app h fun μ F σ S H1 ds vs R r q => l (wat E σc) μ F σ S σc H1 ds vs Q R r q
theorem q_callTy (hc : CallR X (.type T') r) (l : LkC g r fn) (hg : Gl X x) (hm : X.mg x = none) (hv : bootBuiltins x = some (.type T')) (ha : PA X (e :: es) (TL g E f)) (hn : x ≠ "__name__" := by decide) (hdb : (x == ("__debug__" : Str)) = false := by decide)
    (he : starEach (e :: es) X.env = (false, eval e X.env) :: starEach es X.env := by rfl) (hpl : (backTo pos (starEach es X.env)).any (·.1) = false := by rfl) : PE X (.Call (.Name x p) (e :: es) [] pos) (T g E (cApp fn f)) :=
  (pe_callTy hc hg hm hv ha hn hdb he hpl).hc fun σc H Q h => TL.app h fun μ F σ S H1 ds vs R r q => l (wat E σc) μ F σ S σc H1 ds vs Q R r q
theorem CallR.or {f : Value} {r r' : List V → Hp → VK → Prop} (h : CallR X f r) (h' : CallR X f r') : CallR X f (fun xs H Q => r xs H Q ∨ r' xs H Q) := by
  intro pins s σ H xs us Q I rv q
  rcases q with q | q
  · exact h pins s σ H xs us Q I rv q
  · exact h' pins s σ H xs us Q I rv q
end
theorem RepVs.one {g : GX} {H : Hp} {F : FZ} {μ : List Addr} {d : D} {vs : List V} (r : RepVs g H F μ [d] vs) : ∃ v, vs = [v] ∧ RepV g H F μ d v := by
  cases r with
  | cons r t =>
    cases t
    exact ⟨_, rfl, r⟩
theorem RepVs.two {g : GX} {H : Hp} {F : FZ} {μ : List Addr} {d e : D} {vs : List V} (r : RepVs g H F μ [d, e] vs) : ∃ v w, vs = [v, w] ∧ RepV g H F μ d v ∧ RepV g H F μ e w := by
  cases r with
  | cons r t =>
    obtain ⟨w, rfl, t2⟩ := RepVs.one t
    exact ⟨_, w, rfl, r, t2⟩

/-- len -/
def fLen (S : List SO) (ds : List D) : Res := match ds with
  | [d] => match seqOf S d with
    | some xs => .ok (.int xs.length) false
    | none => match d with
      | .str z => if z.length ≤ lim then .ok (.int z.length) false else .bad
      | _ => .bad
  | _ => .bad
theorem lk_len {g : GX} : LkC g (fun xs H Q => ∃ x n, xs = [x] ∧ LenV g.K x H n ∧ Q (.int n) H) fLen := by
  intro E μ F σ S σc H ds vs Q R r q
  unfold fLen at q
  split at q
  · obtain ⟨v, rfl, rv⟩ := r.one
    split at q
    · rename_i d xs ex
      obtain ⟨a, ws, rfl, h1, h2, h3⟩ := R.seq rv ex
      refine ⟨_, ws.length, rfl, ?_, ?_⟩
      · rcases h1 with h1 | h1
        · exact .inl ⟨ws, h1, rfl⟩
        · exact .inr ⟨ws, h1, rfl⟩
      · rw [← h3.length]
        exact q.here R.dom (.inr rfl)
    · split at q
      · split at q
        · rename_i hl
          cases rv.str
          exact ⟨_, _, rfl, ⟨by rw [lim_eq]; exact hl, rfl⟩, q.here R.dom (.inr rfl)⟩
        · exact q.elim
      · exact q.elim
  · exact q.elim
/-- int -/
def fInt (_ : List SO) (ds : List D) : Res := match ds with
  | [.int i] => .ok (.int i) false
  | [.bl b] => .ok (.int (if b then 1 else 0)) false
  | _ => .bad
theorem lk_int {g : GX} : LkC g (fun xs H Q => (∃ i, xs = [.int i] ∧ Q (.int i) H) ∨ ∃ k, xs = [.bl k] ∧ Q (.int (if k then 1 else 0)) H) fInt := by
  intro E μ F σ S σc H ds vs Q R r q
  unfold fInt at q
  split at q
  · obtain ⟨v, rfl, rv⟩ := r.one
    cases rv.int
    exact .inl ⟨_, rfl, q.here R.dom (.inr rfl)⟩
  · obtain ⟨v, rfl, rv⟩ := r.one
    cases rv.bl
    exact .inr ⟨_, rfl, q.here R.dom (.inr rfl)⟩
  · exact q.elim
/-- tuple, list -/
def fTuple (S : List SO) (ds : List D) : Res := match ds with
  | [.tup xs] => .ok (.tup xs) false
  | [d] => match rdOf S d with
    | some xs => if pureL xs then .ok (.tup xs) false else .bad
    | none => .bad
  | _ => .bad
theorem lk_tuple {g : GX} : LkC g (fun xs H Q => ∃ p ys, xs = [.ref p] ∧ ((SqL g.K H p ys ∧ ∀ l, H l = none → Q (.ref l) (upd H l (.tup ys))) ∨ (SqT g.K H p ys ∧ Q (.ref p) H))) fTuple := by
  intro E μ F σ S σc H ds vs Q R r q
  unfold fTuple at q
  split at q
  · rename_i xs
    obtain ⟨v, rfl, rv⟩ := r.one
    obtain ⟨a, ws, rfl, h1, h2, h3⟩ := rv.tup (xs := xs) rfl
    exact ⟨a, ws, rfl, .inr ⟨h1, q.here R.dom rv⟩⟩
  · obtain ⟨v, rfl, rv⟩ := r.one
    split at q
    · rename_i xs ex
      split at q
      · rename_i hp
        obtain ⟨a, ws, rfl, h1, h2, h3⟩ := R.rd rv ex
        exact ⟨a, ws, rfl, .inl ⟨h1, fun l hl => q.tup R.dom hl h2 (h3.pure hp)⟩⟩
      · exact q.elim
    · exact q.elim
  · exact q.elim
def fList (S : List SO) (ds : List D) : Res := match ds with
  | [d] => match seqOf S d with
    | some xs => if pureL xs then .ok (.lst xs) true else .bad
    | none => .bad
  | _ => .bad
theorem lk_list {g : GX} : LkC g (fun xs H Q => ∃ p ys, xs = [.ref p] ∧ (SqL g.K H p ys ∨ SqT g.K H p ys) ∧ ∀ l, H l = none → Q (.ref l) (upd H l (.lst ys))) fList := by
  intro E μ F σ S σc H ds vs Q R r q
  unfold fList at q
  split at q
  · obtain ⟨v, rfl, rv⟩ := r.one
    split at q
    · rename_i xs ex
      split at q
      · rename_i hp
        obtain ⟨a, ws, rfl, h1, h2, h3⟩ := R.seq rv ex
        exact ⟨a, ws, rfl, h1, fun l hl => q.lst R.dom (fun a h => R.mu_there h) hl h2 (h3.pure hp)⟩
      · exact q.elim
    · exact q.elim
  · exact q.elim

/-! ### ints, bools in a row -/
def intsOf : List D → Option (List Int)
  | [] => some []
  | .int i :: r => match intsOf r with
    | some ns => some (i :: ns)
    | none => none
  | _ => none
def blsOf : List D → Option (List Bool)
  | [] => some []
  | .bl i :: r => match blsOf r with
    | some ns => some (i :: ns)
    | none => none
  | _ => none
def sumI : List Int → Int
  | [] => 0
  | i :: r => i + sumI r
theorem sumI_eq : ∀ ns : List Int, sumI ns = ns.sum
  | [] => rfl
  | i :: r => by
    show i + sumI r = _
    rw [sumI_eq r, List.sum_cons]
theorem RepVs.ints {g : GX} {H : Hp} {F : FZ} {μ : List Addr} : ∀ {ds : List D} {vs : List V} {ns : List Int}, RepVs g H F μ ds vs → intsOf ds = some ns → vs = ns.map V.int
  | _, _, ns, .nil, h => by
    cases (show some [] = some ns from h)
    rfl
  | _, _, ns, .cons (a := d) r t, h => by
    cases d with
    | int i =>
      unfold intsOf at h
      split at h
      · rename_i ms e
        cases h
        rw [r.int, RepVs.ints t e]
        rfl
      · cases h
    | _ => cases h
theorem RepVs.bls {g : GX} {H : Hp} {F : FZ} {μ : List Addr} : ∀ {ds : List D} {vs : List V} {ns : List Bool}, RepVs g H F μ ds vs → blsOf ds = some ns → vs = ns.map V.bl
  | _, _, ns, .nil, h => by
    cases (show some [] = some ns from h)
    rfl
  | _, _, ns, .cons (a := d) r t, h => by
    cases d with
    | bl i =>
      unfold blsOf at h
      split at h
      · rename_i ms e
        cases h
        rw [r.bl, RepVs.bls t e]
        rfl
      · cases h
    | _ => cases h
/-- sum of a tuple -/
def rSumT (K : PySem.W.Frag) : List V → Hp → VK → Prop := fun vs H Q => ∃ (a : Addr) (ns : List Int), vs = [V.ref a] ∧ SqT K H a (ns.map V.int) ∧ Q (.int ns.sum) H
theorem vals_intsAre {ns : List Int} : ∀ {us : List Value}, Vals (ns.map V.int) us → IntsAre us ns := by
  induction ns with
  | nil =>
    intro us r
    cases r
    exact .nil
  | cons n ns ih =>
    intro us r
    cases r with
    | cons r t =>
      obtain ⟨tk, rfl⟩ := r
      exact .cons _ _ (ih t)
theorem cr_sumT {X : Cx} (hc : X.calm = true) : CallR X (.builtin "sum") (rSumT X.K) := by
  intro pins s σ H vs us Q I r h
  obtain ⟨a, ns, rfl, hs, q⟩ := h
  obtain ⟨its, rv, hl, hz⟩ := I.tuple hs
  cases r with
  | cons r t =>
    cases t
    cases r
    have hi := vals_intsAre rv
    obtain ⟨xs, hx⟩ := hi.allInts.items
    have hn : numsOf its.toArray.toList = ns := by rw [show its.toArray.toList = its from rfl, hi.numsOf]
    rw [hx] at hn
    rw [nums_intItems] at hn
    rw [hx] at hl
    refine PySem.W.ktm_sumG (I.ok.hd hc) hl fun h' tk t' hk => ⟨.int _, H, I.kept hk, ?_, q⟩
    rw [preSum_eq, List.take_of_length_le (by simp), hn]
    exact ⟨t', rfl⟩
def fSum (S : List SO) (ds : List D) : Res := match ds with
  | [d] => match seqOf S d with
    | some xs => match intsOf xs with
      | some ns => .ok (.int (sumI ns)) false
      | none => .bad
    | none => .bad
  | _ => .bad
theorem lk_sum {g : GX} : LkC g (fun xs H Q => rSum g.K xs H Q ∨ rSumT g.K xs H Q) fSum := by
  intro E μ F σ S σc H ds vs Q R r q
  unfold fSum at q
  split at q
  · obtain ⟨v, rfl, rv⟩ := r.one
    split at q
    · rename_i xs ex
      split at q
      · rename_i ns en
        obtain ⟨a, ws, rfl, h1, h2, h3⟩ := R.seq rv ex
        have e := h3.ints en
        subst e
        have z := q.here R.dom (v := .int (sumI ns)) (.inr rfl)
        rw [sumI_eq] at z
        rcases h1 with h1 | h1
        · exact .inl ⟨a, ns, rfl, h1, z⟩
        · exact .inr ⟨a, ns, rfl, h1, z⟩
      · exact q.elim
    · exact q.elim
  · exact q.elim
theorem cr_sumA {X : Cx} (hc : X.calm = true) : CallR X (.builtin "sum") (fun xs H Q => rSum X.K xs H Q ∨ rSumT X.K xs H Q) := (cr_sum hc).or (cr_sumT hc)
def allB : List Bool → Bool
  | [] => true
  | b :: r => b && allB r
def anyB : List Bool → Bool
  | [] => false
  | b :: r => b || anyB r
theorem allB_eq : ∀ bs : List Bool, allB bs = bs.all id
  | [] => rfl
  | b :: r => by
    show (b && allB r) = _
    rw [allB_eq r] <;> rfl
theorem anyB_eq : ∀ bs : List Bool, anyB bs = bs.any id
  | [] => rfl
  | b :: r => by
    show (b || anyB r) = _
    rw [anyB_eq r] <;> rfl
def fAll (S : List SO) (ds : List D) : Res := match ds with
  | [d] => match rdOf S d with
    | some xs => match blsOf xs with
      | some ns => .ok (.bl (allB ns)) false
      | none => .bad
    | none => .bad
  | _ => .bad
def fAny (S : List SO) (ds : List D) : Res := match ds with
  | [d] => match rdOf S d with
    | some xs => match blsOf xs with
      | some ns => .ok (.bl (anyB ns)) false
      | none => .bad
    | none => .bad
  | _ => .bad
theorem lk_all {g : GX} : LkC g (rAll g.K) fAll := by
  intro E μ F σ S σc H ds vs Q R r q
  unfold fAll at q
  split at q
  · obtain ⟨v, rfl, rv⟩ := r.one
    split at q
    · rename_i xs ex
      split at q
      · rename_i ns en
        obtain ⟨a, ws, rfl, h1, h2, h3⟩ := R.rd rv ex
        have e := h3.bls en
        subst e
        have z := q.here R.dom (v := .bl (allB ns)) (.inr rfl)
        rw [allB_eq] at z
        exact ⟨a, ns, rfl, h1, z⟩
      · exact q.elim
    · exact q.elim
  · exact q.elim
theorem lk_any {g : GX} : LkC g (rAny g.K) fAny := by
  intro E μ F σ S σc H ds vs Q R r q
  unfold fAny at q
  split at q
  · obtain ⟨v, rfl, rv⟩ := r.one
    split at q
    · rename_i xs ex
      split at q
      · rename_i ns en
        obtain ⟨a, ws, rfl, h1, h2, h3⟩ := R.rd rv ex
        have e := h3.bls en
        subst e
        have z := q.here R.dom (v := .bl (anyB ns)) (.inr rfl)
        rw [anyB_eq] at z
        exact ⟨a, ns, rfl, h1, z⟩
      · exact q.elim
    · exact q.elim
  · exact q.elim
def fMax2 (_ : List SO) (ds : List D) : Res := match ds with
  | [.int i, .int j] => .ok (.int (if j > i then j else i)) false
  | _ => .bad
def fMin2 (_ : List SO) (ds : List D) : Res := match ds with
  | [.int i, .int j] => .ok (.int (if j < i then j else i)) false
  | _ => .bad
theorem lk_max2 {g : GX} : LkC g (fun xs H Q => ∃ i j, xs = [.int i, .int j] ∧ Q (.int (if j > i then j else i)) H) fMax2 := by
  intro E μ F σ S σc H ds vs Q R r q
  unfold fMax2 at q
  split at q
  · obtain ⟨v, w, rfl, rv, rw'⟩ := r.two
    cases rv.int
    cases rw'.int
    exact ⟨_, _, rfl, q.here R.dom (.inr rfl)⟩
  · exact q.elim
theorem lk_min2 {g : GX} : LkC g (fun xs H Q => ∃ i j, xs = [.int i, .int j] ∧ Q (.int (if j < i then j else i)) H) fMin2 := by
  intro E μ F σ S σc H ds vs Q R r q
  unfold fMin2 at q
  split at q
  · obtain ⟨v, w, rfl, rv, rw'⟩ := r.two
    cases rv.int
    cases rw'.int
    exact ⟨_, _, rfl, q.here R.dom (.inr rfl)⟩
  · exact q.elim
def fAbs (_ : List SO) (ds : List D) : Res := match ds with
  | [.int i] => .ok (.int (if i < 0 then -i else i)) false
  | _ => .bad
theorem lk_abs {g : GX} : LkC g (fun xs H Q => ∃ i, xs = [.int i] ∧ Q (.int (if i < 0 then -i else i)) H) fAbs := by
  intro E μ F σ S σc H ds vs Q R r q
  unfold fAbs at q
  split at q
  · obtain ⟨v, rfl, rv⟩ := r.one
    cases rv.int
    exact ⟨_, rfl, q.here R.dom (.inr rfl)⟩
  · exact q.elim
/-- max, min of a list -/
def maxI (i : Int) : List Int → Int
  | [] => i
  | j :: r => maxI (if j > i then j else i) r
def minI (i : Int) : List Int → Int
  | [] => i
  | j :: r => minI (if j < i then j else i) r
theorem maxI_spec : ∀ (r : List Int) (i : Int), (maxI i r = i ∨ maxI i r ∈ r) ∧ i ≤ maxI i r ∧ ∀ y, y ∈ r → y ≤ maxI i r
  | [], i => ⟨.inl rfl, Int.le_refl _, fun y h => (nomatch h)⟩
  | j :: r, i => by
    obtain ⟨h1, h2, h3⟩ := maxI_spec r (if j > i then j else i)
    have e : maxI i (j :: r) = maxI (if j > i then j else i) r := rfl
    rw [e]
    refine ⟨?_, ?_, fun y hy => ?_⟩
    · rcases h1 with h1 | h1
      · rw [h1]
        split
        · exact .inr (List.mem_cons_self ..)
        · exact .inl rfl
      · exact .inr (List.mem_cons_of_mem _ h1)
    · refine Int.le_trans ?_ h2
      split <;> omega
    · rcases List.mem_cons.mp hy with rfl | hy
      · refine Int.le_trans ?_ h2
        split <;> omega
      · exact h3 y hy
theorem minI_spec : ∀ (r : List Int) (i : Int), (minI i r = i ∨ minI i r ∈ r) ∧ minI i r ≤ i ∧ ∀ y, y ∈ r → minI i r ≤ y
  | [], i => ⟨.inl rfl, Int.le_refl _, fun y h => (nomatch h)⟩
  | j :: r, i => by
    obtain ⟨h1, h2, h3⟩ := minI_spec r (if j < i then j else i)
    have e : minI i (j :: r) = minI (if j < i then j else i) r := rfl
    rw [e]
    refine ⟨?_, ?_, fun y hy => ?_⟩
    · rcases h1 with h1 | h1
      · rw [h1]
        split
        · exact .inr (List.mem_cons_self ..)
        · exact .inl rfl
      · exact .inr (List.mem_cons_of_mem _ h1)
    · refine Int.le_trans h2 ?_
      split <;> omega
    · rcases List.mem_cons.mp hy with rfl | hy
      · refine Int.le_trans h2 ?_
        split <;> omega
      · exact h3 y hy
def fMaxL (S : List SO) (ds : List D) : Res := match ds with
  | [d] => match rdOf S d with
    | some xs => match intsOf xs with
      | some (i :: ns) => .ok (.int (maxI i ns)) false
      | _ => .bad
    | none => .bad
  | _ => .bad
def fMinL (S : List SO) (ds : List D) : Res := match ds with
  | [d] => match rdOf S d with
    | some xs => match intsOf xs with
      | some (i :: ns) => .ok (.int (minI i ns)) false
      | _ => .bad
    | none => .bad
  | _ => .bad
theorem lk_maxL {g : GX} : LkC g (rMax g.K) fMaxL := by
  intro E μ F σ S σc H ds vs Q R r q
  unfold fMaxL at q
  split at q
  · obtain ⟨v, rfl, rv⟩ := r.one
    split at q
    · rename_i xs ex
      split at q
      · rename_i i ns en
        obtain ⟨a, ws, rfl, h1, h2, h3⟩ := R.rd rv ex
        have e := h3.ints en
        subst e
        refine ⟨a, i :: ns, rfl, h1, Nat.succ_pos _, fun m hm hle => ?_⟩
        obtain ⟨k1, k2, k3⟩ := maxI_spec ns i
        have e2 : m = maxI i ns := by
          refine Int.le_antisymm ?_ (hle _ ?_)
          · rcases List.mem_cons.mp hm with rfl | hm
            · exact k2
            · exact k3 m hm
          · rcases k1 with k1 | k1
            · rw [k1]; exact List.mem_cons_self ..
            · exact List.mem_cons_of_mem _ k1
        rw [e2]
        exact q.here R.dom (.inr rfl)
      · exact q.elim
    · exact q.elim
  · exact q.elim
theorem lk_minL {g : GX} : LkC g (rMin g.K) fMinL := by
  intro E μ F σ S σc H ds vs Q R r q
  unfold fMinL at q
  split at q
  · obtain ⟨v, rfl, rv⟩ := r.one
    split at q
    · rename_i xs ex
      split at q
      · rename_i i ns en
        obtain ⟨a, ws, rfl, h1, h2, h3⟩ := R.rd rv ex
        have e := h3.ints en
        subst e
        refine ⟨a, i :: ns, rfl, h1, Nat.succ_pos _, fun m hm hle => ?_⟩
        obtain ⟨k1, k2, k3⟩ := minI_spec ns i
        have e2 : m = minI i ns := by
          refine Int.le_antisymm (hle _ ?_) ?_
          · rcases k1 with k1 | k1
            · rw [k1]; exact List.mem_cons_self ..
            · exact List.mem_cons_of_mem _ k1
          · rcases List.mem_cons.mp hm with rfl | hm
            · exact k2
            · exact k3 m hm
        rw [e2]
        exact q.here R.dom (.inr rfl)
      · exact q.elim
    · exact q.elim
  · exact q.elim
end HC

namespace HC
open PySem PySem.Spec L2
open PyProof.Rows hiding St

/-! ## what is walked -/
/-- the items, told ahead (st) or as the store stands at each turn (dy) -/
inductive ResI where
  | st (ds : List D) | dy (it : List SO → Option (List D)) | ex (c : Nat) (as : List D) | bad
abbrev CI := Sl → List SO → ResI
structure Later (μ : List Addr) (F : FZ) (H : Hp) (μ' : List Addr) (F' : FZ) (H' : Hp) : Prop where
  mu : ∃ ν, μ' = μ ++ ν ∧ ∀ a, a ∈ ν → H a = none
  up : ∀ a, F a → F' a
  keep : ∀ a o, a ∉ μ → H a = some o → H' a = some o
  dom : ∀ a, H' a = none → H a = none
  nw : ∀ a, F' a → F a ∨ H a = none
theorem Later.refl {μ : List Addr} {F : FZ} {H : Hp} : Later μ F H μ F H := ⟨⟨[], by simp, fun a h => (nomatch h)⟩, fun _ h => h, fun _ _ _ h => h, fun _ h => h, fun _ h => .inl h⟩
theorem Later.trans {μ μ1 μ2 : List Addr} {F F1 F2 : FZ} {H H1 H2 : Hp} (a : Later μ F H μ1 F1 H1) (b : Later μ1 F1 H1 μ2 F2 H2) : Later μ F H μ2 F2 H2 := by
  obtain ⟨ν, e, n⟩ := a.mu
  obtain ⟨ν', e', n'⟩ := b.mu
  refine ⟨⟨ν ++ ν', by rw [e', e, List.append_assoc], fun x h => ?_⟩, fun x h => b.up _ (a.up _ h), fun x o h e2 => b.keep x o (fun hm => ?_) (a.keep x o h e2), fun x h => a.dom x (b.dom x h), fun x h => (b.nw x h).elim (a.nw x) fun h => .inr (a.dom x h)⟩
  · rcases List.mem_append.mp h with h | h
    · exact n x h
    · exact a.dom x (n' x h)
  · rw [e] at hm
    rcases List.mem_append.mp hm with hm | hm
    · exact h hm
    · rw [n x hm] at e2; cases e2
theorem Later.of {μ : List Addr} {F F' : FZ} {H H' : Hp} (s : Same H H') (x : FX F H F' H') : Later μ F H μ F' H' := ⟨⟨[], by simp, fun a h => (nomatch h)⟩, x.up, fun a o _ h => s a o h, fun a h => same_none s h, x.nw⟩
/-- what an iterator of the machine yields, from the items of the data -/
def Wk (g : GX) (μ : List Addr) (F : FZ) (H : Hp) (J : It) (it : List SO → Option (List D)) : Prop :=
  ∀ (μ' : List Addr) (F' : FZ) (σ' : Sl) (S' : List SO) (σc' : St) (H' : Hp), Later μ F H μ' F' H' → Rel g μ' F' σ' S' σc' H' → ∀ ds, it S' = some ds → ds.length ≤ sizeLine ∧ ∀ i : Nat,
    (i < ds.length → J.go i H') ∧ (∀ x H2, J.yld i H' x H2 → Same H' H2 ∧ ∀ d, ds[i]? = some d → RepV g H2 F' μ' d x) ∧ (ds.length ≤ i → J.stop i H')
theorem Wk.later {g : GX} {μ μ1 : List Addr} {F F1 : FZ} {H H1 : Hp} {J : It} {it : List SO → Option (List D)} (w : Wk g μ F H J it) (l : Later μ F H μ1 F1 H1) : Wk g μ1 F1 H1 J it :=
  fun μ' F' σ' S' σc' H' l' R => w μ' F' σ' S' σc' H' (l.trans l') R
def OkI (g : GX) (E : XK) (H : Hp) (F : FZ) (μ : List Addr) (r : ResI) (R : It → Hp → Prop) : Prop := match r with
  | .st ds => ∀ J H' F', Same H H' → FX F H F' H' → Wk g μ F' H' J (fun _ => some ds) → R J H'
  | .dy it => ∀ J H' F', Same H H' → FX F H F' H' → Wk g μ F' H' J it → R J H'
  | .ex c as => ∀ cls dx H' F', Same H H' → FX F H F' H' → RepX g H' F' μ c as cls dx → E cls dx H'
  | .bad => False
def TIt (g : GX) (W : WX) (f : CI) : TI := fun σc H R => ∃ μ F σ S, Rel g μ F σ S σc H ∧ OkI g (wat W σc) H F μ (f σ S) R
/-- a value that is walked -/
def iVal (f : CE) : CI := fun σ S => match f σ S with
  | .ok (.tup xs) _ => .st xs
  | .ok (.lst xs) _ => .st xs
  | .ok (.rol xs) _ => .st xs
  | .ok (.loc n) _ => match lstOf S (.loc n) with
    | some _ => .dy fun S => lstOf S (.loc n)
    | none => .bad
  | .ok _ _ => .bad
  | .ex c as => .ex c as
  | .bad => .bad
section
variable {g : GX} {μ μ' : List Addr} {F F' : FZ} {σ : Sl} {S : List SO} {σc : St} {H H' : Hp} {a : Addr} {xs : List V}
theorem Rel.no_mu (R : Rel g μ F σ S σc H) {o : HO} (h : H a = some o) (no : (∀ ys, o ≠ .lst ys) ∧ (∀ ys, o ≠ .dK ys) ∧ (∀ ys, o ≠ .dT ys) ∧ ∀ C dx fs, o ≠ .ins C dx fs) : a ∉ μ := fun hm => by
  obtain ⟨n, o2, _, _, ro⟩ := R.at_mu hm
  cases o2 with
  | lst zs =>
    obtain ⟨vs, q, _⟩ := ro
    rw [h] at q
    exact no.1 _ (Option.some.inj q)
  | dct ks ws =>
    obtain ⟨vs, _, q⟩ := ro
    rcases q with ⟨kvs, q, _⟩ | ⟨kvs, q, _⟩
    · rw [h] at q
      exact no.2.1 _ (Option.some.inj q)
    · rw [h] at q
      exact no.2.2.1 _ (Option.some.inj q)
  | ins c ws =>
    obtain ⟨dx, fs, vs, q, _⟩ := ro
    rw [h] at q
    exact no.2.2.2 _ _ _ (Option.some.inj q)
theorem Later.tup (R : Rel g μ F σ S σc H) (l : Later μ F H μ' F' H') (h : H a = some (.tup xs)) : H' a = some (.tup xs) :=
  l.keep a _ (R.no_mu h ⟨fun _ z => (nomatch z), fun _ z => (nomatch z), fun _ z => (nomatch z), fun _ _ _ z => (nomatch z)⟩) h
theorem Later.frz (R : Rel g μ F σ S σc H) (l : Later μ F H μ' F' H') {o : Obj} {u : HO} (h : H a = some (.frz o u)) : H' a = some (.frz o u) :=
  l.keep a _ (R.no_mu h ⟨fun _ z => (nomatch z), fun _ z => (nomatch z), fun _ z => (nomatch z), fun _ _ _ z => (nomatch z)⟩) h
theorem Later.sq (R : Rel g μ F σ S σc H) (l : Later μ F H μ' F' H') (h : SqT g.K H a xs) : SqT g.K H' a xs := by
  rcases h with (h | ⟨ob, h⟩) | h
  · exact .inl (.inl (l.tup R h))
  · exact .inl (.inr ⟨ob, l.frz R h⟩)
  · exact .inr h
theorem Later.rol (R : Rel g μ F σ S σc H) (l : Later μ F H μ' F' H') (h : Rol g.K H a xs) : Rol g.K H' a xs := h.imp (fun ⟨o, h⟩ => ⟨o, l.frz R h⟩) fun h => h
end
section
variable {g : GX} {μ μ' : List Addr} {F F' : FZ} {σ : Sl} {S : List SO} {σc : St} {H H' : Hp}
mutual
theorem RepP.later (R : Rel g μ F σ S σc H) (l : Later μ F H μ' F' H') : ∀ (d : D) (v : V), RepP g H F d v → RepP g H' F' d v
  | .non, _, h => h
  | .bl _, _, h => h
  | .int _, _, h => h
  | .str _, _, h => h
  | .tup ds, v, h => by
    obtain ⟨a, vs, e, h1, h2⟩ := h
    exact ⟨a, vs, e, ⟨l.sq R h1.1, h1.2⟩, RepL.later R l ds vs h2⟩
  | .lst ds, v, h => by
    obtain ⟨a, vs, e, ⟨h1, h2, h3⟩, h4⟩ := h
    exact ⟨a, vs, e, ⟨l.up _ h1, l.keep _ _ (fun hm => R.ap _ hm h1) h2, h3⟩, RepL.later R l ds vs h4⟩
  | .rol ds, v, h => by
    obtain ⟨a, vs, e, h1, h2⟩ := h
    exact ⟨a, vs, e, ⟨l.rol R h1.1, h1.2⟩, RepL.later R l ds vs h2⟩
  | .dct ks ds, v, h => by
    obtain ⟨a, vs, e, h1, h2, h3⟩ := h
    refine ⟨a, vs, e, l.up _ h1, RepL.later R l ds vs h2, ?_⟩
    have k : ∀ o, Rd H a o → Rd H' a o := fun o h => h.elim (fun h => .inl (l.keep _ _ (fun hm => R.ap _ hm h1) h)) fun ⟨ob, h⟩ => .inr ⟨ob, l.keep _ _ (fun hm => R.ap _ hm h1) h⟩
    rcases h3 with ⟨kvs, q1, q2⟩ | ⟨kvs, q1, q2⟩
    · exact .inl ⟨kvs, k _ q1, q2⟩
    · exact .inr ⟨kvs, k _ q1, q2⟩
  | .obj c ds, v, h => by
    obtain ⟨a, dx, fs, vs, e, h1, h2, h3, h4, h5⟩ := h
    exact ⟨a, dx, fs, vs, e, l.up _ h1, l.keep _ _ (fun hm => R.ap _ hm h1) h2, h3, h4, RepL.later R l ds vs h5⟩
  | .loc _, _, h => h
  | .err, _, h => h
theorem RepL.later (R : Rel g μ F σ S σc H) (l : Later μ F H μ' F' H') : ∀ (ds : List D) (vs : List V), RepL g H F ds vs → RepL g H' F' ds vs
  | [], _, h => h
  | d :: ds, vs, h => by
    obtain ⟨v, ws, e, h1, h2⟩ := h
    exact ⟨v, ws, e, RepP.later R l d v h1, RepL.later R l ds ws h2⟩
end

theorem RepV.later (R : Rel g μ F σ S σc H) (l : Later μ F H μ' F' H') {d : D} {v : V} (r : RepV g H F μ d v) : RepV g H' F' μ' d v := by
  rcases r with ⟨n, a, e, h, e2⟩ | r
  · obtain ⟨ν, en, _⟩ := l.mu
    exact .inl ⟨n, a, e, by rw [en, List.getElem?_append_left (List.getElem?_eq_some_iff.mp h).1]; exact h, e2⟩
  · exact .inr (RepP.later R l d v r)
theorem RepVs.later (R : Rel g μ F σ S σc H) (l : Later μ F H μ' F' H') {ds : List D} {vs : List V} (r : RepVs g H F μ ds vs) : RepVs g H' F' μ' ds vs := Paired.mapP r fun _ _ => RepV.later R l
theorem RepX.later (R : Rel g μ F σ S σc H) (l : Later μ F H μ' F' H') {c : Nat} {as : List D} {cls : Value} {dx : Option Addr} (r : RepX g H F μ c as cls dx) : RepX g H' F' μ' c as cls dx := by
  obtain ⟨h1, x, vs, h2, h3, fs, h4, h5⟩ := r
  exact ⟨h1, x, vs, h2, RepVs.later R l h3, fs, l.keep x _ (R.no_mu h4 ⟨fun _ z => (nomatch z), fun _ z => (nomatch z), fun _ z => (nomatch z), fun _ _ _ z => (nomatch z)⟩) h4, h5⟩
theorem wk_list {a : Addr} {it : List SO → Option (List D)}
    (h : ∀ (μ' : List Addr) (F' : FZ) (σ' : Sl) (S' : List SO) (σc' : St) (H' : Hp), Later μ F H μ' F' H' → Rel g μ' F' σ' S' σc' H' → ∀ ds, it S' = some ds → ∃ vs, SqL g.K H' a vs ∧ vs.length ≤ sizeLine ∧ RepVs g H' F' μ' ds vs) : Wk g μ F H (Itl g.K a) it :=
  fun μ' F' σ' S' σc' H' l R ds e => by
    obtain ⟨vs, h1, hz, h2⟩ := h μ' F' σ' S' σc' H' l R ds e
    have hl := h2.length
    refine ⟨by rw [hl]; exact hz, fun i => ?_⟩
    refine ⟨fun hi => ⟨vs, vs[i]'(by omega), h1, List.getElem?_eq_getElem (by omega)⟩, fun x H2 hy => ?_, fun hi => ⟨vs, h1, by omega⟩⟩
    obtain ⟨e2, hx⟩ := hy
    subst e2
    refine ⟨Same.refl _, fun d hd => ?_⟩
    obtain ⟨v, hv, rv⟩ := h2.get hd
    have hx := hx vs h1
    rw [hv] at hx
    cases hx
    exact rv
theorem wk_tup {a : Addr} {it : List SO → Option (List D)}
    (h : ∀ (μ' : List Addr) (F' : FZ) (σ' : Sl) (S' : List SO) (σc' : St) (H' : Hp), Later μ F H μ' F' H' → Rel g μ' F' σ' S' σc' H' → ∀ ds, it S' = some ds → ∃ vs, SqT g.K H' a vs ∧ vs.length ≤ sizeLine ∧ RepVs g H' F' μ' ds vs) : Wk g μ F H (Itt g.K a) it :=
  fun μ' F' σ' S' σc' H' l R ds e => by
    obtain ⟨vs, h1, hz, h2⟩ := h μ' F' σ' S' σc' H' l R ds e
    have hl := h2.length
    refine ⟨by rw [hl]; exact hz, fun i => ?_⟩
    refine ⟨fun hi => ⟨vs, vs[i]'(by omega), h1, List.getElem?_eq_getElem (by omega)⟩, fun x H2 hy => ?_, fun hi => ⟨vs, h1, by omega⟩⟩
    obtain ⟨e2, hx⟩ := hy
    subst e2
    refine ⟨Same.refl _, fun d hd => ?_⟩
    obtain ⟨v, hv, rv⟩ := h2.get hd
    have hx := hx vs h1
    rw [hv] at hx
    cases hx
    exact rv
/-- a value's list or tuple, for as long as it stands -/
theorem Wk.val (R : Rel g μ F σ S σc H) {d : D} {v : V} (r : RepV g H F μ d v) : match d with
    | .tup xs => ∃ a vs, v = .ref a ∧ SqT g.K H a vs ∧ Wk g μ F H (Itt g.K a) (fun _ => some xs)
    | .lst xs => ∃ a vs, v = .ref a ∧ SqL g.K H a vs ∧ Wk g μ F H (Itl g.K a) (fun _ => some xs)
    | .rol xs => ∃ a vs, v = .ref a ∧ SqL g.K H a vs ∧ Wk g μ F H (Itl g.K a) (fun _ => some xs)
    | .loc n => (∃ xs, lstOf S (.loc n) = some xs) → ∃ a vs, v = .ref a ∧ SqL g.K H a vs ∧ Wk g μ F H (Itl g.K a) (fun S => lstOf S (.loc n))
    | _ => True := by
  cases d with
  | tup xs =>
    obtain ⟨a, vs, rfl, h1, h2, h3⟩ := r.tup (xs := xs) rfl
    exact ⟨a, vs, rfl, h1, wk_tup fun μ' F' σ' S' σc' H' l R' ds e => by
      cases (show some xs = some ds from e)
      exact ⟨vs, l.sq R h1, h2, (RepL.later R l _ _ h3).vs⟩⟩
  | lst xs =>
    obtain ⟨a, vs, rfl, ⟨k1, k2, k3⟩, h2⟩ := r.pure rfl
    exact ⟨a, vs, rfl, SqL.of k2, wk_list fun μ' F' σ' S' σc' H' l R' ds e => by
      cases (show some xs = some ds from e)
      exact ⟨vs, SqL.of (l.keep _ _ (fun hm => R.ap _ hm k1) k2), k3, (RepL.later R l _ _ h2).vs⟩⟩
  | rol xs =>
    obtain ⟨a, vs, rfl, ⟨k1, k2⟩, h2⟩ := r.pure rfl
    exact ⟨a, vs, rfl, k1.sq, wk_list fun μ' F' σ' S' σc' H' l R' ds e => by
      cases (show some xs = some ds from e)
      exact ⟨vs, (l.rol R k1).sq, k2, (RepL.later R l _ _ h2).vs⟩⟩
  | loc n =>
    rintro ⟨xs, ex⟩
    obtain ⟨a, vs, rfl, h1, h2, h3⟩ := R.lst r ex
    refine ⟨a, vs, rfl, SqL.of h1, wk_list fun μ' F' σ' S' σc' H' l R' ds e => ?_⟩
    obtain ⟨b, ws, e2, k1, k2, k3⟩ := R'.lst (RepV.later R l r) e
    cases e2
    exact ⟨ws, SqL.of k1, k2, k3⟩
  | _ => trivial
end
section
variable {X : Cx} {g : GX} {W : WX} {tg e : Expr} {f : CE} {es : List Expr} {fa : CA} {p pos : Pos}
theorem it_val (he : PE X e (T g W f)) (hg : X.K = g.K := by rfl) : PI X tg e (TIt g W (iVal f)) := by
  have key : PI X tg e (fun σ H R => iTup X.K (T g W f) σ H R ∨ iList X.K (T g W f) σ H R) := ⟨fun pins s σ H R I h => h.elim ((pi_tup he).run pins s σ H R I) ((pi_list he).run pins s σ H R I)⟩
  refine key.hc fun σc H R ⟨μ, F, σ, S, Rl, q⟩ => ?_
  unfold iVal at q
  have bad : ∀ {A : Prop}, OkI g (wat W σc) H F μ .bad R → A := fun h => h.elim
  cases ef : f σ S with
  | bad => rw [ef] at q; exact bad q
  | ex c as => rw [ef] at q; exact .inl ⟨μ, F, σ, S, Rl, by rw [ef]; exact q⟩
  | ok d fr =>
    rw [ef] at q
    cases d with
    | tup xs =>
      refine .inl ⟨μ, F, σ, S, Rl, ?_⟩
      rw [ef]
      intro v H1 F1 s1 x1 r1
      obtain ⟨F2, x2, u2, rx⟩ := r1.frz x1
      obtain ⟨a, vs, rfl, h1, w⟩ := Wk.val (Rl.mono s1 x2) rx
      rw [hg]
      exact ⟨a, rfl, ⟨vs, h1⟩, q _ H1 F2 s1 x2 w⟩
    | lst xs =>
      refine .inr ⟨μ, F, σ, S, Rl, ?_⟩
      rw [ef]
      intro v H1 F1 s1 x1 r1
      obtain ⟨F2, x2, u2, rx⟩ := r1.frz x1
      obtain ⟨a, vs, rfl, h1, w⟩ := Wk.val (Rl.mono s1 x2) rx
      rw [hg]
      exact ⟨a, rfl, ⟨vs, h1⟩, q _ H1 F2 s1 x2 w⟩
    | rol xs =>
      refine .inr ⟨μ, F, σ, S, Rl, ?_⟩
      rw [ef]
      intro v H1 F1 s1 x1 r1
      obtain ⟨F2, x2, u2, rx⟩ := r1.frz x1
      obtain ⟨a, vs, rfl, h1, w⟩ := Wk.val (Rl.mono s1 x2) rx
      rw [hg]
      exact ⟨a, rfl, ⟨vs, h1⟩, q _ H1 F2 s1 x2 w⟩
    | loc n =>
      cases el : lstOf S (.loc n) with
      | none =>
        have q : OkI g (wat W σc) H F μ (match lstOf S (.loc n) with | some _ => .dy fun S => lstOf S (.loc n) | none => .bad) R := q
        rw [el] at q
        exact bad q
      | some xs =>
      have q : OkI g (wat W σc) H F μ (match lstOf S (.loc n) with | some _ => .dy fun S => lstOf S (.loc n) | none => .bad) R := q
      rw [el] at q
      refine .inr ⟨μ, F, σ, S, Rl, ?_⟩
      rw [ef]
      intro v H1 F1 s1 x1 r1
      obtain ⟨F2, x2, u2, rx⟩ := r1.frz x1
      have R1 := Rl.mono s1 x2
      obtain ⟨a, vs, rfl, h1, w⟩ := Wk.val R1 rx ⟨xs, el⟩
      rw [hg]
      exact ⟨a, rfl, ⟨vs, h1⟩, q _ H1 F2 s1 x2 w⟩
    | _ => exact bad q
end
end HC

/-! enumerate over a tuple -/
namespace HC
section
open PySem
open AutoSeq1 (wpAny_loadPart')
open Sem (wp)
theorem enumT_new (a : Addr) (items : Array Value) (ob : Obj) (hcl : ob.cls = .type "tuple") (n : Nat) (hda : ob.data = .seq items n) :
    Meets (Builtin.«enumerate.__new__» ⟨[.type "enumerate", .ref a], []⟩) (fun _ R s => s.heap.get? a = some ob ∧
      R (.ok (.ret (.ref (s.heap.push { cls := .type "tuple_iterator", data := .fields #[.ref a, .int 0 0] }).objs.size)))
        { s with heap := (s.heap.push { cls := .type "tuple_iterator", data := .fields #[.ref a, .int 0 0] }).push { cls := .type "enumerate", data := .fields #[.none, .bool false, .ref s.heap.objs.size, rawInt 0, .none, .none] } }) :=
  .of_wp fun prog w A R s hh => by
    obtain ⟨hp, gg, dd, tk, os⟩ := s
    obtain ⟨hl, h⟩ := hh
    have hsub := sub_enumerate
    have hT : Heap.IsTuple (Shared.heap ⟨hp, gg, dd, tk, os⟩) a items := ⟨_, hl, hcl, n, hda⟩
    wp_walk using wpAny_loadPart' hl
    refine wpAny_stack_any fun st => wpAny_pure ?_
    split
    · rename_i c _ _ _ _ _
      cases (c == Value.type "enumerate")
      · wp_walk using wpAny_loadPart' hl, wpAny_pyIter_tuple hT
        exact ⟨_, rfl, h⟩
      · wp_walk using wpAny_loadPart' hl, wpAny_pyIter_tuple hT
        exact ⟨_, rfl, h⟩
    · wp_walk using wpAny_loadPart' hl, wpAny_pyIter_tuple hT
      exact ⟨_, rfl, h⟩
theorem enumT_call {prog : Program} {w : World} {A : Around} {E : Value → Shared → Prop} {s : Shared} {l : Addr} {items : Array Value} {Q : Value → Shared → Prop} (hL : s.heap.IsTuple l items)
    (h : ∀ h', IsEnum h' (s.heap.objs.size + 1) s.heap.objs.size 0 .none → h'.IsTupleIter s.heap.objs.size l 0 → h'.objs.size = s.heap.objs.size + 2 →
      (∀ b o, s.heap.get? b = some o → h'.get? b = some o) → Q (.ref (s.heap.objs.size + 1)) { s with heap := h' }) :
    wpAny (model prog w) A (call (.type "enumerate") [.ref l]) Q E s := by
  obtain ⟨ob, hl, hc, n, hd⟩ := hL
  refine callType_new F.called_enumerate (by decide) (F.typeCall_enumerate_1 _) (F.newCall_enumerate_1 _) (fun obj => F.args_object_init_2 obj _) F.entry_enumerate_new
    (enumT_new l items ob hc n hd) ⟨hl, ?_⟩
  have hz : (s.heap.push { cls := .type "tuple_iterator", data := .fields #[.ref l, .int 0 0] }).objs.size = s.heap.objs.size + 1 := Heap.size_push ..
  show _ ∧ _
  rw [hz]
  have he : IsEnum ((s.heap.push { cls := .type "tuple_iterator", data := .fields #[.ref l, .int 0 0] }).push
      { cls := .type "enumerate", data := .fields #[.none, .bool false, .ref s.heap.objs.size, rawInt 0, .none, .none] }) (s.heap.objs.size + 1) s.heap.objs.size 0 .none := by
    have q := Heap.get?_push_size (s.heap.push { cls := .type "tuple_iterator", data := .fields #[.ref l, .int 0 0] })
      (o := { cls := .type "enumerate", data := .fields #[.none, .bool false, .ref s.heap.objs.size, rawInt 0, .none, .none] }) rfl
    rw [hz] at q
    exact q
  exact ⟨⟨_, he, rfl⟩, h _ he ⟨_, Heap.get?_push_of_some _ (Heap.get?_push_size _ rfl), rfl, rfl⟩ (by rw [Heap.size_push, hz]) fun b o x => Heap.get?_push_of_some _ (Heap.get?_push_of_some _ x)⟩
theorem enumT_end {prog : Program} {w : World} {A : Around} {E : Value → Shared → Prop} {s : Shared} {e it l : Addr} {i : Nat} {items : Array Value} {old : Value} {Q : Option Value → Shared → Prop} (hh : A.handled = none)
    (he : IsEnum s.heap e it i old) (hit : s.heap.IsTupleIter it l i) (hl : s.heap.IsTuple l items) (hx : items[i]? = none)
    (hQ : ∀ h', Heap.ExtBut it s.heap h' → Q none { s with heap := h' }) : wpAny (model prog w) A (pyNext (.ref e)) Q E s := by
  have hT : s.TypeIs (.ref e) "enumerate" := ⟨_, he, rfl⟩
  unfold pyNext
  refine wpAny_bind (wpAny_attempt (wpAny_callSpecial?_slot (name := Str.ofString "__next__") hT F.slot_enumerate_next
    (wpAny_call_entry F.slot_enumerate_next hT F.entry_enumerate_next ?_ (F.args_enumerate_next_1 _))))
  show wpAny _ _ (field (.ref e) 2 >>= _) _ _ _
  refine wpAny_bind (wpAny_field he rfl (x := .ref it) rfl ?_)
  refine wpAny_bind (wpAny_nextOf_tuple_end hh hit hl hx fun h' x he' hx' => ?_)
  obtain ⟨o, ho, hc⟩ := hx'
  exact wpAny_bind (wpAny_isInstance (T := "StopIteration") (b := true) ⟨o, ho, hc⟩ isSubtype_stop (wpAny_pure (hQ _ he')))
end
open PySem PySem.Spec L2
open PyProof.Rows hiding St
/-- the tuple at a, each item in a new pair -/
def IteT (K : PySem.W.Frag) (a : Addr) : It :=
  ⟨fun i H => ∃ (xs : List V) (x : V), SqT K H a xs ∧ xs[i]? = some x, fun i H v H' => ∃ p x, v = .ref p ∧ H p = none ∧ H' = upd H p (.tup [.int (i : Nat), x]) ∧ ∀ xs, SqT K H a xs → xs[i]? = some x, fun i H => ∃ xs : List V, SqT K H a xs ∧ xs.length ≤ i⟩
theorem turn_enumT {P : Program} {w : World} {K : PySem.W.Frag} {elts : List Expr} {kk : Nat} {tpos : Pos} (a e it : Addr) :
    Turn P w K (.Tuple elts kk tpos) (IteT K a) [e, it] e (fun i h => (∃ old, IsEnum h e it ((i : Nat) : Int) old) ∧ h.IsTupleIter it a i ∧ e ≠ it) where
  mem := by simp
  obj := fun i h st b hb => by
    obtain ⟨⟨old, he⟩, ⟨o, ho, hc, hd⟩, _⟩ := st
    rcases (by simpa using hb : b = e ∨ b = it) with z | z
    · rw [z]; exact ⟨_, he, fun v q => nomatch q⟩
    · rw [z]; exact ⟨o, ho, fun v q => by rw [hd] at q; cases q⟩
  keep := fun i h h' st k => let ⟨⟨old, he⟩, hi, hne⟩ := st; ⟨⟨old, k e (by simp) _ he⟩, hi.at fun o q => k it (by simp) o q, hne⟩
  item := by
    intro X hP hw hK hc i pins s σ H E I hf st hg
    subst hP hw hK
    obtain ⟨⟨old, he⟩, hit, hne⟩ := st
    obtain ⟨xs, x, hq, hx⟩ := hg
    obtain ⟨its, rv, p, hz⟩ := I.tuple hq
    obtain ⟨u, hu, ru⟩ := rv.get hx
    have hel : e < s.heap.objs.size := Heap.lt_size he
    have hil : it < s.heap.objs.size := let ⟨_, q, _⟩ := hit; Heap.lt_size q
    have hae : a ≠ e := fun z => by
      obtain ⟨o, ho, hcl, _⟩ := p
      rw [z, he] at ho
      cases ho
      simp at hcl
    have hai : a ≠ it := fun z => by
      obtain ⟨o, ho, hcl, _⟩ := p
      obtain ⟨o2, ho2, hcl2, _⟩ := id hit
      rw [z, ho2] at ho
      cases ho
      rw [hcl2] at hcl
      simp at hcl
    have pt : s.heap.IsTuple a its.toArray := p
    have hi : i < its.toArray.size := by
      have h1 := (List.getElem?_eq_some_iff.mp hu).1
      simpa using h1
    have De : Draws X.prog X.w X.A.in1 it [it, a] its.toArray.size (fun i v => its.toArray[i]? = some v) (fun i h => h.IsTupleIter it a i ∧ h.IsTuple a its.toArray)   := Draws.tuple (A := X.A.in1) (I.ok.hd hc) it a hai its.toArray
    refine wpAny_pyNext_enum_itemD De he ⟨hit, pt⟩ hi hne (by
      intro z
      rcases (by simpa using z : e = it ∨ e = a) with z | z
      · exact hne z
      · exact hae z.symm) fun y h' tk hy ho hit' hT hsz hk => ?_
    have ey : y = u := by
      have hu' : its.toArray[i]? = some u := by simpa using hu
      exact Option.some.inj (hy.symm.trans hu')
    subst ey
    refine ⟨_, rfl, wpAny_letOwnedTupleGo_enum (s := { s with heap := h', toks := tk + 1 }) ho fun h'' he' sb => ?_⟩
    have hT2 : h''.get? s.heap.objs.size = some { cls := .type "tuple", data := .seq #[.int i tk, y] } := (sb.2 _ (Nat.ne_of_gt hel)).trans hT
    have new : ObjOk X.prog X.w (upd H s.heap.objs.size (.tup [.int (i : Nat), x])) h'' s.heap.objs.size (.tup [.int (i : Nat), x]) :=
      ⟨by show 2 ≤ sizeLine; decide, [.int i tk, y], .cons ⟨_, rfl⟩ (.cons ru .nil), ⟨_, hT2, rfl, _, rfl⟩⟩
    have I1 : Inv X pins σ (upd H s.heap.objs.size (.tup [.int (i : Nat), x])) { s with heap := h'', toks := tk + 1 } :=
      I.turnedNew (ch := [e, it]) (fun b ob hb q => (sb.2 b (fun z => hb (by simp [z]))).trans (hk b ob (fun z => hb (by simp [z])) (fun z => hb (by simp [z])) q)) hf (Nat.le_refl _) new
    refine ⟨.ref s.heap.objs.size, _, I1, rfl, ⟨_, x, rfl, I.hok.fresh (Nat.le_refl _), rfl, fun ys hy => by rw [I.tuple_inj hy hq]; exact hx⟩, ⟨⟨y, ?_⟩, hit'.1.at fun o q => (sb.2 it (Ne.symm hne)).trans q, hne⟩, fun b hb => ?_⟩
    · have e1 : ((i + 1 : Nat) : Int) = (i : Int) + 1 := by omega
      rw [e1]
      exact he'
    · have hb' : b < s.heap.objs.size := by
        rcases (by simpa using hb : b = e ∨ b = it) with z | z
        · rw [z]; exact hel
        · rw [z]; exact hil
      rw [upd_ne (Nat.ne_of_lt hb')]
      exact (hf b hb).1
  done := by
    intro X hP hw hK hc i pins s σ H E I hf st hg
    subst hP hw hK
    obtain ⟨⟨old, he⟩, hit, hne⟩ := st
    obtain ⟨xs, hq, hx⟩ := hg
    obtain ⟨its, rv, p, hz⟩ := I.tuple hq
    obtain ⟨f0, f1, f2, f3, f4, f5⟩ := hf it (by simp)
    have hl := rv.length
    have hai : a ≠ it := fun z => by
      obtain ⟨o, ho, hcl, _⟩ := p
      obtain ⟨o2, ho2, hcl2, _⟩ := id hit
      rw [z, ho2] at ho
      cases ho
      rw [hcl2] at hcl
      simp at hcl
    have pt : s.heap.IsTuple a its.toArray := p
    exact enumT_end (I.ok.hd hc) he hit pt (by simp; omega) fun h' eb => ⟨rfl, I.turned (t' := s.toks) (fun b o hb q => eb b o hb q) f0 f1 f3 f4 f5⟩
  self := fun A i s Q E st h => let ⟨⟨_, he⟩, _⟩ := st; wpAny_pyIter_enum he h
end HC

namespace HC
open PySem PySem.Spec L2
open PyProof.Rows hiding St
def iEnumT (K : PySem.W.Frag) (ta : TA) : TI := fun σ H R => ta σ H fun vs H1 => ∃ a xs, vs = [.ref a] ∧ SqT K H1 a xs ∧ R (IteT K a) H1
theorem pi_enumT {X : Cx} {e : Expr} {ta : TA} {p pos tpos : Pos} {elts : List Expr} {kk : Nat} (hg : Gl X "enumerate") (hm : X.mg "enumerate" = none) (ha : PA X [e] ta) (hs : starEach [e] X.env = [(false, eval e X.env)] := by rfl) :
    PI X (.Tuple elts kk tpos) (.Call (.Name "enumerate" p) [e] [] pos) (iEnumT X.K ta) := by
  refine ⟨fun pins s σ H R I h => Call_ (ld_blt I hg hm boot_enumerate (PyProof.Rows.callWith_type1 (thn (ha.run pos pins s σ H _ I h) fun us s1 ⟨vs, H1, I1, r1, q1⟩ => ?_) hs rfl))⟩
  obtain ⟨a, xs, ex, hq, q⟩ := q1
  subst ex
  cases r1 with
  | cons r rr =>
    cases rr
    cases r
    obtain ⟨its, rv, p', hz⟩ := I1.tuple hq
    refine enumT_call (show s1.heap.IsTuple a its.toArray from p') fun h' he hit hsz hk => wpAny_pyIter_enum he ?_
    have I2 : Inv X pins σ H1 { s1 with heap := h' } := I1.kept (t' := s1.toks) hk
    refine ⟨s1.heap.objs.size + 1, [s1.heap.objs.size + 1, s1.heap.objs.size], _, _, H1, rfl, I2, turn_enumT a (s1.heap.objs.size + 1) s1.heap.objs.size, ⟨⟨.none, he⟩, hit, Nat.succ_ne_self _⟩, fun b hb => ?_, q⟩
    have hle : s1.heap.objs.size ≤ b := by
      rcases (by simpa using hb : b = s1.heap.objs.size + 1 ∨ b = s1.heap.objs.size) with z | z
      · rw [z]; exact Nat.le_succ _
      · rw [z]; exact Nat.le_refl _
    exact I1.fpOk hle (I1.hok.fresh hle)

/-! ## ranges -/
def rangeD (lo : Int) : Nat → List D
  | 0 => []
  | n + 1 => .int lo :: rangeD (lo + 1) n
theorem rangeD_len : ∀ (n : Nat) (lo : Int), (rangeD lo n).length = n
  | 0, _ => rfl
  | n + 1, lo => by
    show (rangeD (lo + 1) n).length + 1 = n + 1
    rw [rangeD_len n]
theorem rangeD_get : ∀ (n : Nat) (lo : Int) (i : Nat) (d : D), (rangeD lo n)[i]? = some d → d = .int (lo + i)
  | 0, _, i, d, h => by simp [rangeD] at h
  | n + 1, lo, 0, d, h => by
    simp [rangeD] at h
    rw [← h]
    simp
  | n + 1, lo, i + 1, d, h => by
    have h' : (rangeD (lo + 1) n)[i]? = some d := by simpa [rangeD] using h
    rw [rangeD_get n (lo + 1) i d h']
    congr 1
    omega
def downD (lo : Int) : Nat → List D
  | 0 => []
  | n + 1 => .int lo :: downD (lo - 1) n
theorem downD_len : ∀ (n : Nat) (lo : Int), (downD lo n).length = n
  | 0, _ => rfl
  | n + 1, lo => by
    show (downD (lo - 1) n).length + 1 = n + 1
    rw [downD_len n]
theorem downD_get : ∀ (n : Nat) (lo : Int) (i : Nat) (d : D), (downD lo n)[i]? = some d → d = .int (lo + (i : Nat) * (-1))
  | 0, _, i, d, h => by simp [downD] at h
  | n + 1, lo, 0, d, h => by
    simp [downD] at h
    rw [← h]
    simp
  | n + 1, lo, i + 1, d, h => by
    have h' : (downD (lo - 1) n)[i]? = some d := by simpa [downD] using h
    rw [downD_get n (lo - 1) i d h']
    congr 1
    omega
def inRg (i : Int) : Bool := decide (i < 4611686018427387904) && decide (-4611686018427387904 ≤ i)
theorem inRg_ok {i : Int} (h : inRg i = true) : -(2 ^ 62) ≤ i ∧ i < 2 ^ 62 := by
  unfold inRg at h
  rw [Bool.and_eq_true, decide_eq_true_eq, decide_eq_true_eq] at h
  omega
def rg1 (_ : List SO) (ds : List D) : ResI := match ds with
  | [.int j] => if inRg j && decide (j.toNat ≤ lim) then .st (rangeD 0 j.toNat) else .bad
  | _ => .bad
def rg2 (_ : List SO) (ds : List D) : ResI := match ds with
  | [.int i, .int j] => if inRg i && inRg j && decide ((j - i).toNat ≤ lim) then .st (rangeD i (j - i).toNat) else .bad
  | _ => .bad
def rg3 (_ : List SO) (ds : List D) : ResI := match ds with
  | [.int i, .int j, .int c] => if decide (c = -1) && (inRg i && inRg j) && decide ((i - j).toNat ≤ lim) then .st (downD i (i - j).toNat) else .bad
  | _ => .bad
def iApp (fn : List SO → List D → ResI) (f : CA) : CI := fun σ S => match f σ S with
  | .ok ds => fn S ds
  | .ex c as => .ex c as
  | .bad => .bad
theorem OkI.from {g : GX} {E : XK} {H H1 : Hp} {F F1 : FZ} {μ : List Addr} {r : ResI} {R : It → Hp → Prop} (h : OkI g E H F μ r R) (s : Same H H1) (x : FX F H F1 H1) : OkI g E H1 F1 μ r R := by
  cases r with
  | st d => exact fun J H' F' s' x' rr => h J H' F' (s.trans s') (x.trans s x') rr
  | dy d => exact fun J H' F' s' x' rr => h J H' F' (s.trans s') (x.trans s x') rr
  | ex c as => exact fun cls dx H' F' s' x' rr => h cls dx H' F' (s.trans s') (x.trans s x') rr
  | bad => exact h
theorem TL.appI {g : GX} {E : WX} {f : CA} {fn : List SO → List D → ResI} {σc : St} {H : Hp} {R : It → Hp → Prop} {R1 : List V → Hp → Prop} (h : TIt g E (iApp fn f) σc H R)
    (w : ∀ (μ : List Addr) (F : FZ) (σ : Sl) (S : List SO) (H1 : Hp) (ds : List D) (vs : List V), Rel g μ F σ S σc H1 → RepVs g H1 F μ ds vs → OkI g (wat E σc) H1 F μ (fn S ds) R → R1 vs H1) : TL g E f σc H R1 := by
  obtain ⟨μ, F, σ, S, Rl, q⟩ := h
  refine ⟨μ, F, σ, S, Rl, ?_⟩
  unfold iApp at q
  cases ea : f σ S with
  | bad => rw [ea] at q; exact q
  | ex c as => rw [ea] at q; exact q
  | ok ds =>
    rw [ea] at q
    exact fun vs H1 F1 s1 x1 r1 => w μ F1 σ S H1 ds vs (Rl.mono s1 x1) r1 (q.from s1 x1)
section
variable {g : GX} {μ : List Addr} {F : FZ} {σ : Sl} {S : List SO} {σc : St} {H : Hp}
theorem wk_range (lo : Int) (n : Nat) (hn : n ≤ lim) : Wk g μ F H (Itr lo n) (fun _ => some (rangeD lo n)) := fun μ' F' σ' S' σc' H' l R ds e => by
  cases (show some (rangeD lo n) = some ds from e)
  rw [rangeD_len]
  refine ⟨by rw [lim_eq]; exact hn, fun i => ?_⟩
  refine ⟨fun h => h, fun x H2 hy => ?_, fun h => h⟩
  obtain ⟨e2, hx⟩ := hy
  subst e2
  refine ⟨Same.refl _, fun d hd => ?_⟩
  rw [rangeD_get n lo i d hd, hx]
  exact .inr rfl
theorem wk_down (lo : Int) (n : Nat) (hn : n ≤ lim) : Wk g μ F H (Itc lo (-1) n) (fun _ => some (downD lo n)) := fun μ' F' σ' S' σc' H' l R ds e => by
  cases (show some (downD lo n) = some ds from e)
  rw [downD_len]
  refine ⟨by rw [lim_eq]; exact hn, fun i => ?_⟩
  refine ⟨fun h => h, fun x H2 hy => ?_, fun h => h⟩
  obtain ⟨e2, hx⟩ := hy
  subst e2
  refine ⟨Same.refl _, fun d hd => ?_⟩
  rw [downD_get n lo i d hd, hx]
  exact .inr rfl
theorem RepVs.three {d e f : D} {vs : List V} (r : RepVs g H F μ [d, e, f] vs) : ∃ u v w, vs = [u, v, w] ∧ RepV g H F μ d u ∧ RepV g H F μ e v ∧ RepV g H F μ f w := by
  cases r with
  | cons r t =>
    obtain ⟨v, w, rfl, t1, t2⟩ := RepVs.two t
    exact ⟨_, v, w, rfl, r, t1, t2⟩
end
section
variable {X : Cx} {g : GX} {W : WX} {tg a b c : Expr} {f : CA} {p pos : Pos}
theorem it_range1 (hg : Gl X "range") (hm : X.mg "range" = none) (ha : PA X [a] (TL g W f)) (hs : starEach [a] X.env = [(false, eval a X.env)] := by rfl) : PI X tg (.Call (.Name "range" p) [a] [] pos) (TIt g W (iApp rg1 f)) :=
  (pi_range1 hg hm ha hs).hc fun σc H R h => TL.appI h fun μ F σ S H1 ds vs Rl r q => by
    unfold rg1 at q
    split at q
    · rename_i j
      obtain ⟨v, rfl, rv⟩ := r.one
      cases rv.int
      split at q
      · rename_i hj
        rw [Bool.and_eq_true, decide_eq_true_eq] at hj
        obtain ⟨h1, h2⟩ := inRg_ok hj.1
        exact ⟨j, rfl, h1, h2, q _ H1 F (Same.refl _) Rl.fx (wk_range 0 _ hj.2)⟩
      · exact q.elim
    · exact q.elim
theorem it_range2 (hg : Gl X "range") (hm : X.mg "range" = none) (ha : PA X [a, b] (TL g W f)) (hs : starEach [a, b] X.env = [(false, eval a X.env), (false, eval b X.env)] := by rfl) (hs2 : starEach [b] X.env = [(false, eval b X.env)] := by rfl) : PI X tg (.Call (.Name "range" p) [a, b] [] pos) (TIt g W (iApp rg2 f)) :=
  (pi_range2 hg hm ha hs hs2).hc fun σc H R h => TL.appI h fun μ F σ S H1 ds vs Rl r q => by
    unfold rg2 at q
    split at q
    · rename_i i j
      obtain ⟨v, w, rfl, rv, rw'⟩ := r.two
      cases rv.int
      cases rw'.int
      split at q
      · rename_i hj
        rw [Bool.and_eq_true, Bool.and_eq_true, decide_eq_true_eq] at hj
        obtain ⟨h1, h2⟩ := inRg_ok hj.1.1
        obtain ⟨h3, h4⟩ := inRg_ok hj.1.2
        exact ⟨i, j, rfl, ⟨h1, h2, h3, h4⟩, q _ H1 F (Same.refl _) Rl.fx (wk_range i _ hj.2)⟩
      · exact q.elim
    · exact q.elim
theorem it_range3 (hg : Gl X "range") (hm : X.mg "range" = none) (ha : PA X [a, b, c] (TL g W f)) (hs : starEach [a, b, c] X.env = (false, eval a X.env) :: starEach [b, c] X.env := by rfl) (hpl : (backTo pos (starEach [b, c] X.env)).any (·.1) = false := by rfl) : PI X tg (.Call (.Name "range" p) [a, b, c] [] pos) (TIt g W (iApp rg3 f)) :=
  (pi_range3 hg hm ha hs hpl).hc fun σc H R h => TL.appI h fun μ F σ S H1 ds vs Rl r q => by
    unfold rg3 at q
    split at q
    · rename_i i j c
      obtain ⟨u, v, w, rfl, ru, rv, rw'⟩ := r.three
      cases ru.int
      cases rv.int
      cases rw'.int
      split at q
      · rename_i hj
        rw [Bool.and_eq_true, Bool.and_eq_true, Bool.and_eq_true, decide_eq_true_eq, decide_eq_true_eq] at hj
        obtain ⟨⟨rfl, hi, hj⟩, hn⟩ := hj
        obtain ⟨h1, h2⟩ := inRg_ok hi
        obtain ⟨h3, h4⟩ := inRg_ok hj
        exact ⟨i, j, -1, _, rfl, RgC.neg h1 h2 h3 h4, q _ H1 F (Same.refl _) Rl.fx (wk_down i _ hn)⟩
      · exact q.elim
    · exact q.elim
end

/-! ## enumerate, reversed -/
def enumD (i : Int) : List D → List D
  | [] => []
  | d :: r => .tup [.int i, d] :: enumD (i + 1) r
theorem enumD_len : ∀ (ds : List D) (i : Int), (enumD i ds).length = ds.length
  | [], _ => rfl
  | d :: r, i => by
    show (enumD (i + 1) r).length + 1 = r.length + 1
    rw [enumD_len r]
theorem enumD_get : ∀ (ds : List D) (k : Int) (i : Nat) (d : D), (enumD k ds)[i]? = some d → ∃ e, ds[i]? = some e ∧ d = .tup [.int (k + i), e]
  | [], _, i, d, h => by simp [enumD] at h
  | e :: r, k, 0, d, h => by
    simp [enumD] at h
    exact ⟨e, rfl, by rw [← h]; simp⟩
  | e :: r, k, i + 1, d, h => by
    have h' : (enumD (k + 1) r)[i]? = some d := by simpa [enumD] using h
    obtain ⟨e2, h1, h2⟩ := enumD_get r (k + 1) i d h'
    exact ⟨e2, by simpa using h1, by rw [h2, show k + 1 + (i : Int) = k + ((i + 1 : Nat) : Int) by omega]⟩
def enI (S : List SO) (ds : List D) : ResI := match ds with
  | [.tup xs] => .st (enumD 0 xs)
  | [.lst xs] => .st (enumD 0 xs)
  | [.rol xs] => .st (enumD 0 xs)
  | [.loc n] => match lstOf S (.loc n) with
    | some _ => .dy fun S => match lstOf S (.loc n) with
      | some xs => if pureL xs then some (enumD 0 xs) else none
      | none => none
    | none => .bad
  | _ => .bad
section
variable {g : GX} {μ : List Addr} {F : FZ} {σ : Sl} {S : List SO} {σc : St} {H : Hp}
theorem wk_enum {a : Addr} {it : List SO → Option (List D)}
    (h : ∀ (μ' : List Addr) (F' : FZ) (σ' : Sl) (S' : List SO) (σc' : St) (H' : Hp), Later μ F H μ' F' H' → Rel g μ' F' σ' S' σc' H' → ∀ ds, it S' = some ds → ∃ xs vs, ds = enumD 0 xs ∧ SqL g.K H' a vs ∧ vs.length ≤ sizeLine ∧ RepL g H' F' xs vs) : Wk g μ F H (Ite g.K a) it :=
  fun μ' F' σ' S' σc' H' l R ds e => by
    obtain ⟨xs, vs, rfl, h1, hz, h2⟩ := h μ' F' σ' S' σc' H' l R ds e
    have hl := h2.length
    rw [enumD_len]
    refine ⟨by rw [hl]; exact hz, fun i => ?_⟩
    refine ⟨fun hi => ⟨vs, vs[i]'(by omega), h1, List.getElem?_eq_getElem (by omega)⟩, fun x H2 hy => ?_, fun hi => ⟨vs, h1, by omega⟩⟩
    obtain ⟨p, y, rfl, hp, rfl, hx⟩ := hy
    refine ⟨same_new hp, fun d hd => ?_⟩
    obtain ⟨e2, he2, rfl⟩ := enumD_get xs 0 i d hd
    obtain ⟨v, hv, rv⟩ := (h2.vs (μ := [])).get he2
    have hx := hx vs h1
    rw [hv] at hx
    obtain rfl : v = y := Option.some.inj hx
    rcases rv with ⟨n, a2, _, z, _⟩ | rv
    · simp at z
    · refine .inr ⟨p, [.int (i : Nat), v], rfl, ⟨.inl (.inl upd_same), by show 2 ≤ sizeLine; decide⟩, _, _, rfl, ?_, v, [], rfl, RepP.mono (same_new hp) (fun _ h => h) _ _ rv, rfl⟩
      show V.int (i : Nat) = .int (0 + (i : Nat))
      rw [Int.zero_add]
theorem wk_enumT {a : Addr} {it : List SO → Option (List D)}
    (h : ∀ (μ' : List Addr) (F' : FZ) (σ' : Sl) (S' : List SO) (σc' : St) (H' : Hp), Later μ F H μ' F' H' → Rel g μ' F' σ' S' σc' H' → ∀ ds, it S' = some ds → ∃ xs vs, ds = enumD 0 xs ∧ SqT g.K H' a vs ∧ vs.length ≤ sizeLine ∧ RepL g H' F' xs vs) : Wk g μ F H (IteT g.K a) it :=
  fun μ' F' σ' S' σc' H' l R ds e => by
    obtain ⟨xs, vs, rfl, h1, hz, h2⟩ := h μ' F' σ' S' σc' H' l R ds e
    have hl := h2.length
    rw [enumD_len]
    refine ⟨by rw [hl]; exact hz, fun i => ?_⟩
    refine ⟨fun hi => ⟨vs, vs[i]'(by omega), h1, List.getElem?_eq_getElem (by omega)⟩, fun x H2 hy => ?_, fun hi => ⟨vs, h1, by omega⟩⟩
    obtain ⟨p, y, rfl, hp, rfl, hx⟩ := hy
    refine ⟨same_new hp, fun d hd => ?_⟩
    obtain ⟨e2, he2, rfl⟩ := enumD_get xs 0 i d hd
    obtain ⟨v, hv, rv⟩ := (h2.vs (μ := [])).get he2
    have hx := hx vs h1
    rw [hv] at hx
    obtain rfl : v = y := Option.some.inj hx
    rcases rv with ⟨n, a2, _, z, _⟩ | rv
    · simp at z
    · refine .inr ⟨p, [.int (i : Nat), v], rfl, ⟨.inl (.inl upd_same), by show 2 ≤ sizeLine; decide⟩, _, _, rfl, ?_, v, [], rfl, RepP.mono (same_new hp) (fun _ h => h) _ _ rv, rfl⟩
      show V.int (i : Nat) = .int (0 + (i : Nat))
      rw [Int.zero_add]
end
section
variable {X : Cx} {g : GX} {W : WX} {e : Expr} {f : CA} {p pos tpos : Pos} {elts : List Expr} {kk : Nat}
theorem it_enum (hG : Gl X "enumerate") (hm : X.mg "enumerate" = none) (ha : PA X [e] (TL g W f)) (hg : X.K = g.K := by rfl) (hs : starEach [e] X.env = [(false, eval e X.env)] := by rfl) :
    PI X (.Tuple elts kk tpos) (.Call (.Name "enumerate" p) [e] [] pos) (TIt g W (iApp enI f)) := by
  have key : PI X (.Tuple elts kk tpos) (.Call (.Name "enumerate" p) [e] [] pos) (fun σ H R => TL g W f σ H fun vs H1 => (∃ a xs, vs = [.ref a] ∧ SqL X.K H1 a xs ∧ R (Ite X.K a) H1) ∨ ∃ a xs, vs = [.ref a] ∧ SqT X.K H1 a xs ∧ R (IteT X.K a) H1) := by
    refine ⟨fun pins s σ H R I h => Call_ (ld_blt I hG hm boot_enumerate (PyProof.Rows.callWith_type1 (thn (ha.run pos pins s σ H _ I h) fun us s1 ⟨vs, H1, I1, r1, q1⟩ => ?_) hs rfl))⟩
    rcases q1 with ⟨a, xs, ex, hq, q⟩ | ⟨a, xs, ex, hq, q⟩
    · subst ex
      cases r1 with
      | cons r rr =>
        cases rr
        cases r
        obtain ⟨its, rv, p', hz⟩ := I1.list hq
        refine call_enumerate_list p'.isList fun h' he hit hsz hk => wpAny_pyIter_enum he ?_
        have I2 : Inv X pins σ H1 { s1 with heap := h' } := I1.kept (t' := s1.toks) hk
        refine ⟨s1.heap.objs.size + 1, [s1.heap.objs.size + 1, s1.heap.objs.size], _, _, H1, rfl, I2, turn_enum a (s1.heap.objs.size + 1) s1.heap.objs.size, ⟨⟨.none, he⟩, hit, Nat.succ_ne_self _⟩, fun b hb => ?_, q⟩
        have hle : s1.heap.objs.size ≤ b := by
          rcases (by simpa using hb : b = s1.heap.objs.size + 1 ∨ b = s1.heap.objs.size) with z | z
          · rw [z]; exact Nat.le_succ _
          · rw [z]; exact Nat.le_refl _
        exact I1.fpOk hle (I1.hok.fresh hle)
    · subst ex
      cases r1 with
      | cons r rr =>
        cases rr
        cases r
        obtain ⟨its, rv, p', hz⟩ := I1.tuple hq
        refine enumT_call (show s1.heap.IsTuple a its.toArray from p') fun h' he hit hsz hk => wpAny_pyIter_enum he ?_
        have I2 : Inv X pins σ H1 { s1 with heap := h' } := I1.kept (t' := s1.toks) hk
        refine ⟨s1.heap.objs.size + 1, [s1.heap.objs.size + 1, s1.heap.objs.size], _, _, H1, rfl, I2, turn_enumT a (s1.heap.objs.size + 1) s1.heap.objs.size, ⟨⟨.none, he⟩, hit, Nat.succ_ne_self _⟩, fun b hb => ?_, q⟩
        have hle : s1.heap.objs.size ≤ b := by
          rcases (by simpa using hb : b = s1.heap.objs.size + 1 ∨ b = s1.heap.objs.size) with z | z
          · rw [z]; exact Nat.le_succ _
          · rw [z]; exact Nat.le_refl _
        exact I1.fpOk hle (I1.hok.fresh hle)
  refine key.hc fun σc H R h => TL.appI h fun μ F σ S H1 ds vs Rl r q => ?_
  rw [hg]
  unfold enI at q
  split at q
  · rename_i xs
    obtain ⟨v, rfl, rv⟩ := r.one
    obtain ⟨a, ws, rfl, h1, h2, h3⟩ := rv.tup (xs := xs) rfl
    refine .inr ⟨a, ws, rfl, h1, q _ H1 F (Same.refl _) Rl.fx (wk_enumT fun μ' F' σ' S' σc' H' l R' ds e => ?_)⟩
    cases (show some (enumD 0 xs) = some ds from e)
    exact ⟨xs, ws, rfl, l.sq Rl h1, h2, RepL.later Rl l _ _ h3⟩
  · rename_i xs
    obtain ⟨v, rfl, rv⟩ := r.one
    obtain ⟨a, ws, rfl, ⟨k1, k2, k3⟩, h2⟩ := rv.pure rfl
    refine .inl ⟨a, ws, rfl, SqL.of k2, q _ H1 F (Same.refl _) Rl.fx (wk_enum fun μ' F' σ' S' σc' H' l R' ds e => ?_)⟩
    cases (show some (enumD 0 xs) = some ds from e)
    exact ⟨xs, ws, rfl, SqL.of (l.keep _ _ (fun hm => Rl.ap _ hm k1) k2), k3, RepL.later Rl l _ _ h2⟩
  · rename_i xs
    obtain ⟨v, rfl, rv⟩ := r.one
    obtain ⟨a, ws, rfl, ⟨k1, k2⟩, h2⟩ := rv.pure rfl
    refine .inl ⟨a, ws, rfl, k1.sq, q _ H1 F (Same.refl _) Rl.fx (wk_enum fun μ' F' σ' S' σc' H' l R' ds e => ?_)⟩
    cases (show some (enumD 0 xs) = some ds from e)
    exact ⟨xs, ws, rfl, (l.rol Rl k1).sq, k2, RepL.later Rl l _ _ h2⟩
  · rename_i n
    obtain ⟨v, rfl, rv⟩ := r.one
    split at q
    · rename_i xs0 ex0
      obtain ⟨a, ws, rfl, h1, h2, h3⟩ := Rl.lst rv ex0
      refine .inl ⟨a, ws, rfl, SqL.of h1, q _ H1 F (Same.refl _) Rl.fx (wk_enum fun μ' F' σ' S' σc' H' l R' ds e => ?_)⟩
      split at e
      · rename_i xs ex
        split at e
        · rename_i hp
          cases e
          obtain ⟨b, us, e2, k1, k2, k3⟩ := R'.lst (RepV.later Rl l rv) ex
          cases e2
          exact ⟨xs, us, rfl, SqL.of k1, k2, k3.pure hp⟩
        · cases e
      · cases e
    · exact q.elim
  · exact q.elim
end
end HC

namespace HC
open PySem PySem.Spec L2
open PyProof.Rows hiding St

/-! ## targets -/
abbrev TgF := D → Sl → Option Sl
abbrev TgsF := List D → Sl → Option Sl
def setD (σ : Sl) (i : Nat) (d : D) : Sl := σ.set i (some d)
def tgName (i : Nat) : TgF := fun d σ => some (setD σ i d)
def tgNil : TgsF := fun ds σ => match ds with
  | [] => some σ
  | _ => none
def tgCons (a : TgF) (r : TgsF) : TgsF := fun ds σ => match ds with
  | d :: ds => match a d σ with
    | some σ1 => r ds σ1
    | none => none
  | [] => none
def tgTup (n : Nat) (t : TgsF) : TgF := fun d σ => match d with
  | .tup ds => if ds.length = n then t ds σ else none
  | _ => none
/-- the slots but ss are as they were -/
def But (ss : List Nat) (σ σ' : St) : Prop := σ'.length = σ.length ∧ ∀ j, j ∉ ss → σ'[j]? = σ[j]?
theorem But.refl {ss : List Nat} {σ : St} : But ss σ σ := ⟨rfl, fun _ _ => rfl⟩
theorem But.trans {s1 s2 : List Nat} {σ σ1 σ2 : St} (a : But s1 σ σ1) (b : But s2 σ1 σ2) : But (s1 ++ s2) σ σ2 :=
  ⟨b.1.trans a.1, fun j h => by rw [List.mem_append, not_or] at h; rw [b.2 j h.2, a.2 j h.1]⟩
theorem But.mono {s1 s2 : List Nat} {σ σ1 : St} (a : But s1 σ σ1) (h : ∀ j ∈ s1, j ∈ s2) : But s2 σ σ1 := ⟨a.1, fun j hj => a.2 j fun z => hj (h j z)⟩
def TGt (g : GX) (ss : List Nat) (A : TgF) : TG := fun v σc H Q => ∃ μ F σ S d σ', Rel g μ F σ S σc H ∧ RepV g H F μ d v ∧ A d σ = some σ' ∧ ∀ σc', Rel g μ F σ' S σc' H → But ss σc σc' → Q σc' H
def TGts (g : GX) (ss : List Nat) (A : TgsF) : TGs := fun vs σc H Q => ∃ μ F σ S ds σ', Rel g μ F σ S σc H ∧ RepVs g H F μ ds vs ∧ A ds σ = some σ' ∧ ∀ σc', Rel g μ F σ' S σc' H → But ss σc σc' → Q σc' H
section
variable {g : GX} {μ : List Addr} {F : FZ} {σ : Sl} {S : List SO} {σc : St} {H : Hp}
theorem Rel.set (R : Rel g μ F σ S σc H) {i : Nat} {d : D} {v : V} (r : RepV g H F μ d v) : Rel g μ F (setD σ i d) S (σc.set i (some v)) H := by
  refine ⟨fun j e h => ?_, by unfold setD; rw [List.length_set, List.length_set]; exact R.len, R.st, R.ml, R.nd, R.ap, R.dom, R.xc⟩
  unfold setD at h
  by_cases hj : i = j
  · subst hj
    by_cases hl : i < σ.length
    · rw [List.getElem?_set_self hl] at h
      cases h
      exact ⟨v, by rw [List.getElem?_set_self (by rw [← R.len]; exact hl)], r⟩
    · rw [List.getElem?_eq_none (by rw [List.length_set]; omega)] at h
      cases h
  · rw [List.getElem?_set_ne hj] at h
    rw [List.getElem?_set_ne hj]
    exact R.env j e h
theorem But.set {i : Nat} {v : Option V} : But [i] σc (σc.set i v) := ⟨by rw [List.length_set], fun j hj => by rw [List.getElem?_set_ne]; intro z; subst z; simp at hj⟩
end
section
variable {X : Cx} {g : GX} {pos : Pos}
theorem tg_name {i : Nat} {x : Str} (hN : X.N.Nodup) (hi : X.N[i]? = some x) (hx : Loc X.env.scope x) (hf : X.fn x = true ∨ X.env.scope.names.lookup x = some .local := by first | exact .inl rfl | exact .inr rfl | assumption) : PG X (.Name x pos) (TGt g [i] (tgName i)) :=
  (pg_name hN hi hx hf).hc fun v σc H Q ⟨μ, F, σ, S, d, σ', R, r, e, q⟩ => by
    cases (show some (setD σ i d) = some σ' from e)
    exact q _ (R.set r) .set
theorem tgs_nil : PGs X [] (TGts g [] tgNil) := ⟨fun pins s σ0 H vs us Q I rv ⟨μ, F, σ, S, ds, σ', R, r, e, q⟩ => by
  refine pgs_nil.run pins s σ0 H vs us Q I rv ?_
  cases ds with
  | nil =>
    cases (show some σ = some σ' from e)
    cases r
    exact ⟨rfl, q _ R .refl⟩
  | cons _ _ => cases e⟩
theorem tgs_cons {e : Expr} {es : List Expr} {s1 s2 : List Nat} {A : TgF} {B : TgsF} (h1 : PG X e (TGt g s1 A)) (h2 : PGs X es (TGts g s2 B))
    (hs : (assignEach (e :: es) X.env).map (·.2) = assign e X.env :: (assignEach es X.env).map (·.2) := by rfl) : PGs X (e :: es) (TGts g (s1 ++ s2) (tgCons A B)) := ⟨fun pins s σ0 H vs us Q I rv ⟨μ, F, σ, S, ds, σ', R, r, e, q⟩ => by
  refine (pgs_cons h1 h2 hs).run pins s σ0 H vs us Q I rv ?_
  cases ds with
  | nil => cases e
  | cons d ds =>
    cases r with
    | cons rd rr =>
      have e2 : (match A d σ with | some σ1 => B ds σ1 | none => none) = some σ' := e
      split at e2
      · rename_i σ1 e1
        exact ⟨_, _, rfl, μ, F, σ, S, d, σ1, R, rd, e1, fun σc1 R1 b1 => ⟨μ, F, σ1, S, ds, σ', R1, rr, e2, fun σc2 R2 b2 => q σc2 R2 (b1.trans b2)⟩⟩
      · cases e2⟩
theorem tg_tup {es : List Expr} {k : Nat} {ss : List Nat} {B : TgsF} {n : Nat} (hc : X.calm = true) (h : PGs X es (TGts g ss B)) (hg : X.K = g.K := by rfl)
    (hn : (assignEach es X.env).length = n := by rfl) (hst : (assignEach es X.env).findIdx? (·.1) = none := by rfl) : PG X (.Tuple es k pos) (TGt g ss (tgTup n B)) :=
  (pg_tup hc h hn hst).hc fun v σc H Q ⟨μ, F, σ, S, d, σ', R, r, e, q⟩ => by
    unfold tgTup at e
    split at e
    · rename_i ds
      split at e
      · rename_i hl
        obtain ⟨a, vs, rfl, h1, h2, h3⟩ := r.tup (xs := ds) rfl
        exact ⟨a, vs, rfl, by rw [hg]; exact h1, by rw [← h3.length]; exact hl, μ, F, σ, S, ds, σ', R, h3.vs, e, q⟩
      · cases e
    · cases e
end

/-! ## list comprehensions -/
def wipeD (σ : Sl) : List Nat → Sl
  | [] => σ
  | v :: vs => (wipeD σ vs).set v none
theorem wipeD_some {σ : Sl} {i : Nat} {x : D} : ∀ {vs : List Nat}, (wipeD σ vs)[i]? = some (some x) → σ[i]? = some (some x) ∧ i ∉ vs
  | [], h => ⟨h, by simp⟩
  | v :: vs, h => by
    unfold wipeD at h
    by_cases hi : v = i
    · subst hi
      by_cases hv : v < (wipeD σ vs).length
      · rw [List.getElem?_set_self hv] at h; cases h
      · rw [List.getElem?_eq_none (by rw [List.length_set]; omega)] at h; cases h
    · rw [List.getElem?_set_ne hi] at h
      obtain ⟨h1, h2⟩ := wipeD_some h
      refine ⟨h1, fun z => ?_⟩
      rcases List.mem_cons.mp z with z | z
      · exact hi z.symm
      · exact h2 z
theorem wipeD_len (σ : Sl) : ∀ vs : List Nat, (wipeD σ vs).length = σ.length
  | [] => rfl
  | v :: vs => by unfold wipeD; rw [List.length_set, wipeD_len σ vs]
theorem wipe_off {σ : St} {i : Nat} : ∀ {vs : List Nat}, i ∉ vs → (wipe σ vs)[i]? = σ[i]?
  | [], _ => rfl
  | v :: vs, h => by
    unfold wipe
    rw [List.getElem?_set_ne (fun z => h (by rw [z]; exact List.mem_cons_self ..)), wipe_off fun z => h (List.mem_cons_of_mem _ z)]
theorem wipe_on {σ : St} {i : Nat} : ∀ {vs : List Nat}, i ∈ vs → (wipe σ vs)[i]? = if i < σ.length then some none else none
  | v :: vs, h => by
    unfold wipe
    by_cases hi : v = i
    · subst hi
      by_cases hv : v < σ.length
      · rw [List.getElem?_set_self (by rw [wipe_length]; exact hv), if_pos hv]
      · rw [List.getElem?_eq_none (by rw [List.length_set, wipe_length]; omega), if_neg hv]
    · rw [List.getElem?_set_ne hi]
      rcases List.mem_cons.mp h with z | z
      · exact absurd z.symm hi
      · exact wipe_on z
theorem wipe_but {σ σ' : St} {ss vs : List Nat} (b : But ss (wipe σ vs) σ') (h : ∀ j ∈ ss, j ∈ vs) : wipe σ' vs = wipe σ vs := by
  apply List.ext_getElem?
  intro j
  have hl : σ'.length = σ.length := b.1.trans (wipe_length σ vs)
  by_cases hj : j ∈ vs
  · rw [wipe_on hj, wipe_on hj, hl]
  · rw [wipe_off hj, b.2 j fun z => hj (h j z)]
theorem Rel.wipe {g : GX} {μ : List Addr} {F : FZ} {σ : Sl} {S : List SO} {σc : St} {H : Hp} (R : Rel g μ F σ S σc H) (vs : List Nat) : Rel g μ F (wipeD σ vs) S (wipe σc vs) H :=
  ⟨fun j e h => by
    obtain ⟨h1, h2⟩ := wipeD_some h
    rw [wipe_off h2]
    exact R.env j e h1, by rw [wipeD_len, wipe_length]; exact R.len, R.st, R.ml, R.nd, R.ap, R.dom, R.xc⟩
/-- the items that the comprehension makes -/
def compL (A : TgF) (t f : CE) (σ : Sl) (S : List SO) : List D → Option (List D)
  | [] => some []
  | d :: ds => match A d σ with
    | some σ1 => match t σ1 S with
      | .ok (.bl true) _ => match f σ1 S with
        | .ok y _ => if y.pure then (match compL A t f σ S ds with
          | some r => some (y :: r)
          | none => none) else none
        | _ => none
      | .ok (.bl false) _ => compL A t f σ S ds
      | _ => none
    | none => none
def cTrue : CE := fun _ _ => .ok (.bl true) false
def kComp (A : TgF) (t f : CE) (ws : List Nat) (σ : Sl) (S : List SO) (ds : List D) : Res := match compL A t f (wipeD σ ws) S ds with
  | some r => .ok (.lst r) true
  | none => .bad
def cComp (it : CI) (A : TgF) (ws : List Nat) (t f : CE) : CE := fun σ S => match it σ S with
  | .st ds => kComp A t f ws σ S ds
  | .dy i => match i S with
    | some ds => kComp A t f ws σ S ds
    | none => .bad
  | .ex c as => .ex c as
  | .bad => .bad
/-- no exception -/
def W0 : WX := fun _ _ _ _ => False
theorem compL_le {A : TgF} {t f : CE} {σ : Sl} {S : List SO} : ∀ {ds r : List D}, compL A t f σ S ds = some r → r.length ≤ ds.length
  | [], r, h => by
    cases (show some [] = some r from h)
    exact Nat.le_refl _
  | d :: ds, r, h => by
    unfold compL at h
    split at h
    · split at h
      · split at h
        · split at h
          · split at h
            · rename_i e
              cases h
              have := compL_le e
              simp only [List.length_cons]
              omega
            · cases h
          · cases h
        · cases h
      · have := compL_le h
        simp only [List.length_cons]
        omega
      · cases h
    · cases h
section
variable {g : GX} {H : Hp} {F : FZ} {b : Addr} {o : HO} {us : List V}
mutual
/-- a plain value does not see a store into an object that is not frozen -/
theorem RepP.writeG (nt : ∀ xs, H b ≠ some (.tup xs)) (nz : ∀ ob u, H b ≠ some (.frz ob u)) (nf : ¬ F b) : ∀ (d : D) (v : V), RepP g H F d v → RepP g (upd H b o) F d v
  | .non, _, h => h
  | .bl _, _, h => h
  | .int _, _, h => h
  | .str _, _, h => h
  | .tup ds, v, h => by
    obtain ⟨a, vs, e, ⟨h1, hz⟩, h2⟩ := h
    refine ⟨a, vs, e, ⟨?_, hz⟩, RepL.writeG nt nz nf ds vs h2⟩
    rcases h1 with (h1 | ⟨ob, h1⟩) | h1
    · exact .inl (.inl ((upd_ne (fun z => nt _ (z ▸ h1))).trans h1))
    · exact .inl (.inr ⟨ob, (upd_ne (fun z => nz _ _ (z ▸ h1))).trans h1⟩)
    · exact .inr h1
  | .lst ds, v, h => by
    obtain ⟨a, vs, e, ⟨h1, h2, h3⟩, h4⟩ := h
    have na : a ≠ b := fun z => nf (z ▸ h1)
    exact ⟨a, vs, e, ⟨h1, (upd_ne na).trans h2, h3⟩, RepL.writeG nt nz nf ds vs h4⟩
  | .rol ds, v, h => by
    obtain ⟨a, vs, e, ⟨h1, hz⟩, h2⟩ := h
    refine ⟨a, vs, e, ⟨?_, hz⟩, RepL.writeG nt nz nf ds vs h2⟩
    rcases h1 with ⟨ob, h1⟩ | h1
    · exact .inl ⟨ob, (upd_ne (fun z => nz _ _ (z ▸ h1))).trans h1⟩
    · exact .inr h1
  | .dct ks ds, v, h => by
    obtain ⟨a, vs, e, h1, h2, h3⟩ := h
    have na : a ≠ b := fun z => nf (z ▸ h1)
    have k : ∀ u, Rd H a u → Rd (upd H b o) a u := fun u h => h.elim (fun h => .inl ((upd_ne na).trans h)) fun ⟨ob, h⟩ => .inr ⟨ob, (upd_ne na).trans h⟩
    refine ⟨a, vs, e, h1, RepL.writeG nt nz nf ds vs h2, ?_⟩
    rcases h3 with ⟨kvs, q1, q2⟩ | ⟨kvs, q1, q2⟩
    · exact .inl ⟨kvs, k _ q1, q2⟩
    · exact .inr ⟨kvs, k _ q1, q2⟩
  | .obj c ds, v, h => by
    obtain ⟨a, dx, fs, vs, e, h1, h2, h3, h4, h5⟩ := h
    have na : a ≠ b := fun z => nf (z ▸ h1)
    exact ⟨a, dx, fs, vs, e, h1, (upd_ne na).trans h2, h3, h4, RepL.writeG nt nz nf ds vs h5⟩
  | .loc _, _, h => h
  | .err, _, h => h
theorem RepL.writeG (nt : ∀ xs, H b ≠ some (.tup xs)) (nz : ∀ ob u, H b ≠ some (.frz ob u)) (nf : ¬ F b) : ∀ (ds : List D) (vs : List V), RepL g H F ds vs → RepL g (upd H b o) F ds vs
  | [], _, h => h
  | d :: ds, vs, h => by
    obtain ⟨v, ws, e, h1, h2⟩ := h
    exact ⟨v, ws, e, RepP.writeG nt nz nf d v h1, RepL.writeG nt nz nf ds ws h2⟩
end
theorem RepP.write (hb : H b = some (.lst us)) (nf : ¬ F b) (d : D) (v : V) : RepP g H F d v → RepP g (upd H b o) F d v := RepP.writeG (fun xs z => by rw [hb] at z; exact nomatch z) (fun ob u z => by rw [hb] at z; exact nomatch z) nf d v
theorem RepL.write (hb : H b = some (.lst us)) (nf : ¬ F b) (ds : List D) (vs : List V) : RepL g H F ds vs → RepL g (upd H b o) F ds vs := RepL.writeG (fun xs z => by rw [hb] at z; exact nomatch z) (fun ob u z => by rw [hb] at z; exact nomatch z) nf ds vs
end
section
variable {g : GX} {μ : List Addr} {F : FZ} {σ : Sl} {S : List SO} {σc : St} {H1 : Hp} {J : It} {ds : List D}
theorem comp_walk {A : TgF} {ss ws : List Nat} {t f : CE} {res : List D} {it : List SO → Option (List D)} {D' : Addr} {Qd : Hp → Prop} (R : Rel g μ F σ S σc H1) (hw : Wk g μ F H1 J it) (eit : it S = some ds) (hD : H1 D' = none) (hss : ∀ j ∈ ss, j ∈ ws)
    (e : compL A t f (wipeD σ ws) S ds = some res)
    (q : ∀ (H : Hp) (F' : FZ) (vs : List V), Same H1 H → FX F H1 F' H → ¬ F' D' → D' ∉ μ → H D' = some (.lst vs) → vs.length ≤ sizeLine → RepL g H F' res vs → Qd H) :
    ∃ W : Nat → Nat → Hp → Prop, (∃ m, W 0 m (upd H1 D' (.lst []))) ∧ ∀ i m H, W i m H →
      (J.stop i H ∧ Qd H) ∨ (J.go i H ∧ ∃ Nx : Hp → Prop, (∀ H', Nx H' → ∃ m', m' < m ∧ W (i + 1) m' H') ∧ ∀ x H', J.yld i H x H' → TGt g ss A x (L2.wipe σc ws) H' fun σ2 H2 => L2.wipe σ2 ws = L2.wipe σc ws ∧ TB g W0 t σ2 H2 fun b H3 =>
        if b = true then T g W0 f σ2 H3 fun y H4 => ∃ acc, H4 D' = some (.lst acc) ∧ acc.length < sizeLine ∧ Nx (upd H4 D' (.lst (acc ++ [y]))) else Nx H3) := by
  -- what holds ahead of turn i
  let Inv' : Nat → Hp → Prop := fun i H => i ≤ ds.length ∧ ∃ (F' : FZ) (vs : List V) (acc rest : List D), Same H1 H ∧ FX F H1 F' H ∧ ¬ F' D' ∧ H D' = some (.lst vs) ∧ RepL g H F' acc vs ∧ acc.length ≤ i ∧ compL A t f (wipeD σ ws) S (ds.drop i) = some rest ∧ res = acc ++ rest
  have nmu : D' ∉ μ := fun h => by
    obtain ⟨u, e⟩ := R.mu_there h
    rw [hD] at e; cases e
  have nF : ¬ F D' := fun h => by
    obtain ⟨u, e⟩ := R.dom _ h
    rw [hD] at e; cases e
  have hlen : ds.length ≤ sizeLine := (hw μ F σ S σc H1 .refl R ds eit).1
  refine ⟨fun i m H => m = ds.length - i ∧ Inv' i H, ⟨ds.length, rfl, Nat.zero_le _, F, [], [], res, same_new hD, ⟨fun _ h => h, fun _ h => .inl h, fun a h => ?_⟩, nF, upd_same, rfl, Nat.le_refl _, e, rfl⟩, ?_⟩
  · obtain ⟨o, e⟩ := R.dom a h
    exact ⟨o, same_new hD _ _ e⟩
  rintro i m H ⟨rfl, hi, F', vs, acc, rest, sm, fx, nf, hd, ra, la, er, es⟩
  have R2 : Rel g μ F' σ S σc H := R.mono sm fx
  obtain ⟨_, wk⟩ := hw μ F' σ S σc H (.of sm fx) R2 ds eit
  obtain ⟨go, yl, stop⟩ := wk i
  by_cases hlt : i < ds.length
  · have ed : ds.drop i = ds[i] :: ds.drop (i + 1) := List.drop_eq_getElem_cons hlt
    rw [ed] at er
    unfold compL at er
    refine .inr ⟨go hlt, Inv' (i + 1), fun H' p' => ⟨ds.length - (i + 1), by omega, rfl, p'⟩, fun x H' hy => ?_⟩
    obtain ⟨sm', rx⟩ := yl x H' hy
    have rx := rx _ (List.getElem?_eq_getElem hlt)
    have fx0 : FX F' H F' H' := ⟨fun _ h => h, fun _ h => .inl h, fun a h => let ⟨o, e⟩ := fx.dom a h; ⟨o, sm' _ _ e⟩⟩
    have R3 : Rel g μ F' (wipeD σ ws) S (L2.wipe σc ws) H' := (R2.mono sm' fx0).wipe ws
    split at er
    · rename_i σ1 eA
      refine ⟨μ, F', wipeD σ ws, S, ds[i], σ1, R3, rx, eA, fun σ2 R4 bt => ⟨wipe_but bt hss, ?_⟩⟩
      split at er
      · rename_i fr et
        refine ⟨μ, F', σ1, S, R4, ?_⟩
        rw [et]
        intro v H5 F5 s5 x5 r5
        obtain ⟨F6, x6, u6, r6⟩ := r5.frz x5
        refine ⟨true, r6.bl, iteT ?_⟩
        have R6 : Rel g μ F6 σ1 S σ2 H5 := R4.mono s5 x6
        split at er
        · rename_i y fy ef
          split at er
          · rename_i hp
            split at er
            · rename_i r' er'
              cases er
              refine ⟨μ, F6, σ1, S, R6, ?_⟩
              rw [ef]
              intro yv H7 F7 s7 x7 r7
              obtain ⟨F8, x8, u8, r8⟩ := r7.frz x7
              have sall : Same H H7 := (sm'.trans s5).trans s7
              have xall : FX F' H F8 H7 := (fx0.trans sm' x6).trans (sm'.trans s5) x8
              have up8 : ∀ a, F' a → F8 a := xall.up
              have hlv := ra.length
              refine ⟨vs, sall _ _ hd, by omega, by omega, F8, vs ++ [yv], acc ++ [y], r', ?_, ?_, ?_, upd_same, ?_, by rw [List.length_append]; simp; omega, er', by simp [es]⟩
              · exact fun b o eb => by
                  rw [upd_ne (fun z => by rw [z, hD] at eb; cases eb)]
                  exact sall _ _ (sm _ _ eb)
              · refine ⟨fun a h => up8 _ (fx.up _ h), fun a h => (xall.nw a h).elim (fx.nw a) fun z => .inr (same_none sm z), fun a h => ?_⟩
                obtain ⟨o, eo⟩ := x8.dom a h
                by_cases ha : a = D'
                · exact ⟨_, by rw [ha]; exact upd_same⟩
                · exact ⟨o, by rw [upd_ne ha]; exact eo⟩
              · intro h
                rcases xall.nw _ h with h | h
                · exact nf h
                · rw [hd] at h; cases h
              · -- the new list's items
                have n8 : ¬ F8 D' := fun h => by
                  rcases xall.nw _ h with h | h
                  · exact nf h
                  · rw [hd] at h; cases h
                refine RepL.write (sall _ _ hd) n8 _ _ (RepL.append (RepL.mono sall up8 _ _ ra) ⟨yv, [], rfl, r8.pure hp, rfl⟩)
            · cases er
          · cases er
        · cases er
      · rename_i fr et
        refine ⟨μ, F', σ1, S, R4, ?_⟩
        rw [et]
        intro v H5 F5 s5 x5 r5
        obtain ⟨F6, x6, u6, r6⟩ := r5.frz x5
        have sall : Same H H5 := sm'.trans s5
        have xall : FX F' H F6 H5 := fx0.trans sm' x6
        refine ⟨false, r6.bl, iteF ⟨by omega, F6, vs, acc, rest, sm.trans sall, fx.trans sm xall, ?_, sall _ _ hd, RepL.mono sall xall.up _ _ ra, by omega, er, es⟩⟩
        intro h
        rcases xall.nw _ h with h | h
        · exact nf h
        · rw [hd] at h; cases h
      · cases er
    · cases er
  · have ei : i = ds.length := by omega
    have e0 : ds.drop i = [] := List.drop_eq_nil_of_le (by omega)
    rw [e0] at er
    cases (show some [] = some rest from er)
    rw [List.append_nil] at es
    subst es
    exact .inl ⟨stop (by omega), q H F' vs sm fx nf nmu hd (by have := ra.length; omega) ra⟩
end
section
variable {X : Cx} {g : GX} {W : WX} {elt tg iter : Expr} {scope : Scope} {own : List (Str × Nat)} {pos : Pos} {fi : CI} {A : TgF} {ss : List Nat} {fe ft : CE} {ifs : List Expr}
/-- the block of a comprehension -/
abbrev blkX (X : Cx) (scope : Scope) (s : Shared) (H : Hp) (C : Addr) (cl : List (Str × Addr)) (fp : List Addr) : Cx := X.blk s H scope (compEnvC scope cl C X.env) fp
theorem tLc_of {σc : St} {H : Hp} {Q : VK} (hss : ∀ j ∈ ss, j ∈ own.map (·.2)) (h : T g W (cComp fi A (own.map (·.2)) ft fe) σc H Q) : tLc (TIt g W fi) (TGt g ss A) (TB g W0 ft) (T g W0 fe) (own.map (·.2)) σc H Q := by
  obtain ⟨μ, F, σ, S, R, q⟩ := h
  refine ⟨μ, F, σ, S, R, ?_⟩
  unfold cComp at q
  have fin : ∀ {ds : List D} {it : List SO → Option (List D)} (J : It) (H1 : Hp) (F1 : FZ), Same H H1 → FX F H F1 H1 → Wk g μ F1 H1 J it → it S = some ds → Ok g (wat W σc) H F μ (kComp A ft fe (own.map (·.2)) σ S ds) Q →
      ∀ D', H1 D' = none → ∃ W : Nat → Nat → Hp → Prop, (∃ m, W 0 m (upd H1 D' (.lst []))) ∧ ∀ i m H, W i m H →
      (J.stop i H ∧ Q (.ref D') H) ∨ (J.go i H ∧ ∃ Nx : Hp → Prop, (∀ H', Nx H' → ∃ m', m' < m ∧ W (i + 1) m' H') ∧ ∀ x H', J.yld i H x H' → TGt g ss A x (L2.wipe σc (own.map (·.2))) H' fun σ2 H2 => L2.wipe σ2 (own.map (·.2)) = L2.wipe σc (own.map (·.2)) ∧ TB g W0 ft σ2 H2 fun b H3 =>
        if b = true then T g W0 fe σ2 H3 fun y H4 => ∃ acc, H4 D' = some (.lst acc) ∧ acc.length < sizeLine ∧ Nx (upd H4 D' (.lst (acc ++ [y]))) else Nx H3) := by
    intro ds it J H1 F1 s1 x1 w e q D' hD
    unfold kComp at q
    split at q
    · rename_i r er
      refine comp_walk (R.mono s1 x1) w e hD hss er fun H2 F2 vs s2 x2 nf nmu hd hz rl => ?_
      exact q (.ref D') H2 F2 (s1.trans s2) (x1.trans s1 x2) (.inr ⟨rfl, D', rfl, same_none s1 hD, nf, nmu, vs, hd, hz, rl⟩)
    · exact q.elim
  cases ei : fi σ S with
  | bad => rw [ei] at q; exact q
  | ex c as => rw [ei] at q; exact q
  | st ds =>
    rw [ei] at q
    exact fun J H1 F1 s1 x1 w => fin J H1 F1 s1 x1 w rfl q
  | dy it =>
    rw [ei] at q
    have q : Ok g (wat W σc) H F μ (match it S with | some ds => kComp A ft fe (own.map (·.2)) σ S ds | none => .bad) Q := q
    intro J H1 F1 s1 x1 w
    split at q
    · rename_i ds e
      exact fin J H1 F1 s1 x1 w e q
    · exact q.elim
theorem q_comp (hc : X.calm = true) (hN : X.N.Nodup) (hi : PI X tg iter (TIt g W fi)) (ok : BlkOk X.N X.env.scope scope own) (hss : ∀ j ∈ ss, j ∈ own.map (·.2))
    (hg : ∀ s H C cl fp, PG (blkX X scope s H C cl fp) tg (TGt g ss A)) (ht : ∀ s H C cl fp, PTs (blkX X scope s H C cl fp) ifs (TB g W0 ft)) (he : ∀ s H C cl fp, PE (blkX X scope s H C cl fp) elt (T g W0 fe)) (hs : ∀ x, foldedSetIterable iter X.env x = pure x := by intro _; rfl) :
    PE X (.ListComp elt [⟨tg, iter, ifs, 0⟩] scope pos) (T g W (cComp fi A (own.map (·.2)) ft fe)) :=
  (pe_lc hc hN hi ok hg ht he hs).hc fun σc H Q h => tLc_of hss h
theorem qt_nil : PTs X [] (TB g W0 cTrue) := ⟨fun pins s σ H Q I ⟨μ, F, σd, S, R, q⟩ => pts_nil.run pins s σ H Q I (by
  obtain ⟨k, e, z⟩ := q (.bl true) H F (Same.refl _) R.fx (.inl ⟨rfl, .inr rfl⟩)
  cases e
  exact z)⟩
theorem qt_one {c : Expr} (h : PT X c (TB g W0 ft)) : PTs X [c] (TB g W0 ft) := pts_one h
end
end HC

namespace HC
open PySem PySem.Spec L2
open PyProof.Rows hiding St

/-! ## statements -/
inductive RS where
  | nx (σ : Sl) (S : List SO) | rt (d : D) (fr : Bool) | bk (σ : Sl) (S : List SO) | ct (σ : Sl) (S : List SO) | ex (c : Nat) (as : List D) (σ : Sl) (S : List SO) | bad
abbrev SC := Sl → List SO → RS
/-- what is handed back: a plain value that stands, or a new object -/
def Back (g : GX) (H : Hp) (μ : List Addr) (H' : Hp) (F' : FZ) (d : D) (fr : Bool) (v : V) : Prop :=
  (fr = false ∧ RepP g H' F' d v) ∨ (fr = true ∧ ∃ a, v = .ref a ∧ (H a = none ∨ a ∈ μ) ∧ ¬ F' a ∧ RepN g H' F' d a)
def OkS (g : GX) (W : WX) (μ : List Addr) (F : FZ) (H : Hp) (r : RS) (Dn : Ends) : Prop := match r with
  | .nx σ' S' => ∀ σc' μ' F' H', Later μ F H μ' F' H' → Rel g μ' F' σ' S' σc' H' → Dn.nx σc' H'
  | .bk σ' S' => ∀ σc' μ' F' H', Later μ F H μ' F' H' → Rel g μ' F' σ' S' σc' H' → Dn.bk σc' H'
  | .ct σ' S' => ∀ σc' μ' F' H', Later μ F H μ' F' H' → Rel g μ' F' σ' S' σc' H' → Dn.ct σc' H'
  | .rt d fr => ∀ v μ' F' H', Later μ F H μ' F' H' → Back g H μ H' F' d fr v → (∀ a, F' a → ∃ o, H' a = some o) → Dn.rt v H'
  | .ex c as σ' S' => ∀ cls dx σc' μ' F' H', Later μ F H μ' F' H' → Rel g μ' F' σ' S' σc' H' → RepX g H' F' μ' c as cls dx → W cls dx σc' H'
  | .bad => False
def TSt (g : GX) (W : WX) (f : SC) : TS := fun Dn σc H => ∃ μ F σ S, Rel g μ F σ S σc H ∧ OkS g W μ F H (f σ S) Dn
theorem OkS.from {g : GX} {W : WX} {μ μ1 : List Addr} {F F1 : FZ} {H H1 : Hp} {r : RS} {Dn : Ends} (l : Later μ F H μ1 F1 H1) (q : OkS g W μ F H r Dn) : OkS g W μ1 F1 H1 r Dn := by
  cases r with
  | nx σ' S' => exact fun σc' μ' F' H' l' => q σc' μ' F' H' (l.trans l')
  | bk σ' S' => exact fun σc' μ' F' H' l' => q σc' μ' F' H' (l.trans l')
  | ct σ' S' => exact fun σc' μ' F' H' l' => q σc' μ' F' H' (l.trans l')
  | rt d fr =>
    intro v μ' F' H' l' b
    refine q v μ' F' H' (l.trans l') (b.imp (fun h => h) fun ⟨e, a, ev, h, r⟩ => ⟨e, a, ev, ?_, r⟩)
    obtain ⟨ν, en, hn⟩ := l.mu
    rcases h with h | h
    · exact .inl (l.dom a h)
    · rw [en] at h
      rcases List.mem_append.mp h with h | h
      · exact .inr h
      · exact .inl (hn a h)
  | ex c as σ' S' => exact fun cls dx σc' μ' F' H' l' => q cls dx σc' μ' F' H' (l.trans l')
  | bad => exact q
def OkS.ends {g : GX} {W : WX} {μ : List Addr} {F : FZ} {H : Hp} {r : RS} {D1 D2 : Ends} (q : OkS g W μ F H r D1) (h : ∀ σ' S', r = .nx σ' S' → OkS g W μ F H (.nx σ' S') D2)
    (e1 : D1.rt = D2.rt) (e2 : D1.bk = D2.bk) (e3 : D1.ct = D2.ct) : OkS g W μ F H r D2 := by
  cases r with
  | nx σ' S' => exact h _ _ rfl
  | bk σ' S' => exact fun σc' μ' F' H' l R => e2 ▸ q σc' μ' F' H' l R
  | ct σ' S' => exact fun σc' μ' F' H' l R => e3 ▸ q σc' μ' F' H' l R
  | rt d fr => exact fun v μ' F' H' l b dm => e1 ▸ q v μ' F' H' l b dm
  | ex c as σ' S' => exact q
  | bad => exact q

def sSkip : SC := fun σ S => .nx σ S
def sSeq (f r : SC) : SC := fun σ S => match f σ S with
  | .nx σ1 S1 => r σ1 S1
  | x => x
/-- an expression, then what is done with it -/
def sVal (f : CE) (k : Sl → List SO → D → Bool → RS) : SC := fun σ S => match f σ S with
  | .ok d fr => k σ S d fr
  | .ex c as => .ex c as σ S
  | .bad => .bad
def sAsg (i : Nat) (f : CE) : SC := sVal f fun σ S d _ => .nx (setD σ i d) S
/-- a new object to a name: it stands in the store -/
def sNew (i : Nat) (f : CE) : SC := sVal f fun σ S d fr => match fr with
  | true => match d with
    | .lst xs => .nx (setD σ i (.loc S.length)) (S ++ [.lst xs])
    | .dct ks ws => .nx (setD σ i (.loc S.length)) (S ++ [.dct ks ws])
    | _ => .bad
  | false => .bad
def sExpr (f : CE) : SC := sVal f fun σ S _ _ => .nx σ S
def retD (S : List SO) (d : D) (fr : Bool) : RS := match d with
  | .loc n => match gets S n with
    | some (.lst xs) => if pureL xs then .rt (.lst xs) true else .bad
    | some (.dct ks ws) => if pureL ws then .rt (.dct ks ws) true else .bad
    | _ => .bad
  | .err => .bad
  | d => .rt d fr
def sRet (f : CE) : SC := sVal f fun _ S d fr => retD S d fr
def sRetN : SC := fun _ _ => .rt .non false
def sIf (c : CE) (a b : SC) : SC := fun σ S => match c σ S with
  | .ok (.bl true) _ => a σ S
  | .ok (.bl false) _ => b σ S
  | .ok _ _ => .bad
  | .ex c as => .ex c as σ S
  | .bad => .bad
section
variable {g : GX} {μ : List Addr} {F : FZ} {σ : Sl} {S : List SO} {σc : St} {H : Hp} {W : WX} {Dn : Ends}
/-- the expression's reading, from the statement's -/
theorem Rel.sval (R : Rel g μ F σ S σc H) {f : CE} {k : Sl → List SO → D → Bool → RS} {Q : VK} (q : OkS g W μ F H (sVal f k σ S) Dn)
    (w : ∀ (d : D) (fr : Bool) (v : V) (H1 : Hp) (F1 : FZ), Same H H1 → FX F H F1 H1 → Rel g μ F1 σ S σc H1 → RepR g H H1 F1 μ d fr v → OkS g W μ F H (k σ S d fr) Dn → Q v H1) : T g W f σc H Q := by
  refine ⟨μ, F, σ, S, R, ?_⟩
  unfold sVal at q
  cases ea : f σ S with
  | bad => rw [ea] at q; exact q
  | ex c as =>
    rw [ea] at q
    exact fun cls dx H' F' s x rx => q cls dx σc μ F' H' (.of s x) (R.mono s x) rx
  | ok d fr =>
    rw [ea] at q
    exact fun v H1 F1 s1 x1 r1 => w d fr v H1 F1 s1 x1 (R.mono s1 x1) r1 q
/-- .. where it is frozen -/
theorem Rel.svalF (R : Rel g μ F σ S σc H) {f : CE} {k : Sl → List SO → D → Bool → RS} {Q : VK} (q : OkS g W μ F H (sVal f k σ S) Dn)
    (w : ∀ (d : D) (fr : Bool) (v : V) (H1 : Hp) (F1 : FZ), Same H H1 → FX F H F1 H1 → Rel g μ F1 σ S σc H1 → RepV g H1 F1 μ d v → OkS g W μ F1 H1 (k σ S d fr) Dn → Q v H1) : T g W f σc H Q := by
  refine ⟨μ, F, σ, S, R, ?_⟩
  unfold sVal at q
  cases ea : f σ S with
  | bad => rw [ea] at q; exact q
  | ex c as =>
    rw [ea] at q
    exact fun cls dx H' F' s x rx => q cls dx σc μ F' H' (.of s x) (R.mono s x) rx
  | ok d fr =>
    rw [ea] at q
    intro v H1 F1 s1 x1 r1
    obtain ⟨F2, x2, u2, r2⟩ := r1.frz x1
    exact w d fr v H1 F2 s1 x2 (R.mono s1 x2) r2 (q.from (.of s1 x2))
theorem OkS.next (R : Rel g μ F σ S σc H) (q : OkS g W μ F H (.nx σ S) Dn) : Dn.nx σc H := q σc μ F H .refl R
end
section
variable {X : Cx} {g : GX} {W : WX} {st : Stmt} {rest : List Stmt} {e : Expr} {f fc : CE} {fs fr : SC} {pos pos' : Pos} {i : Nat} {x : Str}
theorem s_nil : PSs X [] (TSt g W sSkip) := pss_nil.hc fun Dn σ H ⟨μ, F, σd, S, R, q⟩ => q.next R
theorem seq_of {Dn : Ends} {σc : St} {H : Hp} (h : TSt g W (sSeq fs fr) Dn σc H) : tSeq (TSt g W fs) (TSt g W fr) Dn σc H := by
  obtain ⟨μ, F, σ, S, R, q⟩ := h
  refine ⟨μ, F, σ, S, R, ?_⟩
  unfold sSeq at q
  cases ea : fs σ S with
  | nx σ1 S1 =>
    rw [ea] at q
    exact fun σc' μ' F' H' l R' => ⟨μ', F', σ1, S1, R', q.from l⟩
  | bk σ1 S1 => rw [ea] at q; exact q
  | ct σ1 S1 => rw [ea] at q; exact q
  | rt d fr => rw [ea] at q; exact q
  | ex c as σ1 S1 => rw [ea] at q; exact q
  | bad => rw [ea] at q; exact q
theorem s_cons (h1 : PS X st (TSt g W fs)) (h2 : PSs X rest (TSt g W fr)) : PSs X (st :: rest) (TSt g W (sSeq fs fr)) := (pss_cons h1 h2).hc fun Dn σ H h => seq_of h
theorem s_one (h1 : PS X st (TSt g W fs)) : PSs X [st] (TSt g W fs) := pss_one h1
theorem s_pass : PS X (.Pass pos) (TSt g W sSkip) := ps_pass.hc fun Dn σ H ⟨μ, F, σd, S, R, q⟩ => q.next R
theorem s_doc {x j pos pos'} : PS X (.Expr (.Constant (.str x) j pos) pos') (TSt g W sSkip) := ps_doc.hc fun Dn σ H ⟨μ, F, σd, S, R, q⟩ => q.next R
def sBreak : SC := fun σ S => .bk σ S
def sCont : SC := fun σ S => .ct σ S
theorem s_break : PS X (.Break pos) (TSt g W sBreak) := ps_break.hc fun Dn σ H ⟨μ, F, σd, S, R, q⟩ => q σ μ F H .refl R
theorem s_cont : PS X (.Continue pos) (TSt g W sCont) := ps_continue.hc fun Dn σ H ⟨μ, F, σd, S, R, q⟩ => q σ μ F H .refl R
theorem asg_of {Dn : Ends} {σc : St} {H : Hp} (h : TSt g W (sAsg i f) Dn σc H) : tAsg (T g W f) (gName i) Dn σc H := by
  obtain ⟨μ, F, σ, S, R, q⟩ := h
  exact R.svalF q fun d fr v H1 F1 s1 x1 R1 r1 q1 => q1.next (R1.set r1)
theorem s_asg (hN : X.N.Nodup) (hi : X.N[i]? = some x) (hx : Loc X.env.scope x) (he : PE X e (T g W f)) (hs : swapsWith e (some (.Name x pos')) pos.line X.env = pure false := by rfl) (hf : X.fn x = true ∨ X.env.scope.names.lookup x = some .local := by first | exact .inl rfl | exact .inr rfl | assumption) :
    PS X (.Assign [.Name x pos'] e pos) (TSt g W (sAsg i f)) := (ps_set hN hi hx he hs hf).hc fun Dn σ H h => asg_of h
theorem new_of {Dn : Ends} {σc : St} {H : Hp} (h : TSt g W (sNew i f) Dn σc H) : tAsg (T g W f) (gName i) Dn σc H := by
  obtain ⟨μ, F, σ, S, R, q⟩ := h
  refine R.sval q fun d fr v H1 F1 s1 x1 R1 r1 q1 => ?_
  split at q1
  · rcases r1 with ⟨e, _⟩ | ⟨_, a, rfl, h0, nf, nm, rn⟩
    · cases e
    have mk : ∀ o : SO, RepO g H1 F1 (μ ++ [a]) o a → Rel g (μ ++ [a]) F1 (setD σ i (.loc S.length)) (S ++ [o]) (σc.set i (some (.ref a))) H1 := fun o ro => by
      have up : ∀ {d v}, RepV g H1 F1 μ d v → RepV g H1 F1 (μ ++ [a]) d v := fun {d v} h => h.imp (fun ⟨n, b, e, hb, ev⟩ => ⟨n, b, e, by rw [List.getElem?_append_left (List.getElem?_eq_some_iff.mp hb).1]; exact hb, ev⟩) fun h => h
      have ups : ∀ {ds vs}, RepVs g H1 F1 μ ds vs → RepVs g H1 F1 (μ ++ [a]) ds vs := fun {ds vs} h => Paired.mapP h fun _ _ => up
      have R2 : Rel g (μ ++ [a]) F1 σ (S ++ [o]) σc H1 := by
        refine ⟨fun j d h => let ⟨v, h1, h2⟩ := R1.env j d h; ⟨v, h1, up h2⟩, R1.len, fun n o2 h => ?_, by rw [List.length_append, List.length_append, R1.ml]; rfl, ?_, fun b hb => ?_, R1.dom, fun p hp => ?_⟩
        · by_cases hn : n < S.length
          · rw [List.getElem?_append_left hn] at h
            obtain ⟨b, h1, h2⟩ := R1.st n o2 h
            refine ⟨b, by rw [List.getElem?_append_left (by rw [R1.ml]; exact hn)]; exact h1, ?_⟩
            cases o2 with
            | lst xs => obtain ⟨vs, k1, k2, k3⟩ := h2; exact ⟨vs, k1, k2, ups k3⟩
            | dct ks ws => obtain ⟨vs, k1, k2⟩ := h2; exact ⟨vs, ups k1, k2⟩
            | ins c ws => obtain ⟨dx, fs, vs, k1, k2, k3, k4⟩ := h2; exact ⟨dx, fs, vs, k1, k2, k3, ups k4⟩
          · have hn2 : n = S.length := by
              have := (List.getElem?_eq_some_iff.mp h).1
              rw [List.length_append] at this
              simp at this
              omega
            subst hn2
            rw [List.getElem?_append_right (Nat.le_refl _), Nat.sub_self] at h
            cases h
            refine ⟨a, ?_, ro⟩
            rw [← R1.ml, List.getElem?_append_right (Nat.le_refl _), Nat.sub_self]
            rfl
        · rw [List.nodup_append]
          exact ⟨R1.nd, by simp, fun b hb c hc => by
            rw [List.mem_singleton.mp hc]
            intro z
            rw [z] at hb
            exact nm hb⟩
        · rcases List.mem_append.mp hb with hb | hb
          · exact R1.ap b hb
          · rw [List.mem_singleton.mp hb]
            exact nf
        · obtain ⟨h1, x, vs, h2, h3, r⟩ := R1.xc p hp
          exact ⟨h1, x, vs, h2, ups h3, r⟩
      refine R2.set (.inl ⟨S.length, a, rfl, ?_, rfl⟩)
      rw [← R1.ml, List.getElem?_append_right (Nat.le_refl _), Nat.sub_self]
      rfl
    have l1 : Later μ F H (μ ++ [a]) F1 H1 := ⟨⟨[a], rfl, fun b hb => by rw [List.mem_singleton.mp hb]; exact h0⟩, x1.up, fun b o _ h => s1 b o h, fun b h => same_none s1 h, x1.nw⟩
    have fin : ∀ o : SO, RepO g H1 F1 (μ ++ [a]) o a → OkS g W μ F H (.nx (setD σ i (.loc S.length)) (S ++ [o])) Dn → gName i (.ref a) σc H1 Dn.nx := fun o ro q2 => q2 _ _ _ _ l1 (mk o ro)
    split at q1
    · rename_i xs
      obtain ⟨vs, k1, k2, k3⟩ := rn
      exact fin (.lst xs) ⟨vs, k1, k2, k3.vs⟩ q1
    · rename_i ks ws
      obtain ⟨vs, k1, k2⟩ := rn
      exact fin (.dct ks ws) ⟨vs, k1.vs, k2⟩ q1
    · exact q1.elim
  · exact q1.elim

theorem s_new (hN : X.N.Nodup) (hi : X.N[i]? = some x) (hx : Loc X.env.scope x) (he : PE X e (T g W f)) (hs : swapsWith e (some (.Name x pos')) pos.line X.env = pure false := by rfl) (hf : X.fn x = true ∨ X.env.scope.names.lookup x = some .local := by first | exact .inl rfl | exact .inr rfl | assumption) :
    PS X (.Assign [.Name x pos'] e pos) (TSt g W (sNew i f)) := (ps_set hN hi hx he hs hf).hc fun Dn σ H h => new_of h
theorem s_expr (he : PE X e (T g W f)) (hs : swapsWith e none pos.line X.env = pure false := by rfl) : PS X (.Expr e pos) (TSt g W (sExpr f)) := (ps_expr he hs).hc fun Dn σc H ⟨μ, F, σ, S, R, q⟩ =>
  R.svalF q fun d fr v H1 F1 s1 x1 R1 r1 q1 => q1.next R1
theorem s_ret (he : PE X e (T g W f)) : PS X (.Return (some e) pos) (TSt g W (sRet f)) := (ps_ret he).hc fun Dn σc H ⟨μ, F, σ, S, R, q⟩ =>
  R.sval q fun d fr v H1 F1 s1 x1 R1 r1 q1 => by
    have q2 : OkS g W μ F H (retD S d fr) Dn := q1
    have l : Later μ F H μ F1 H1 := .of s1 x1
    unfold retD at q2
    split at q2
    · rename_i n
      rcases r1 with ⟨_, r1⟩ | ⟨_, _, _, _, _, _, r1⟩
      · rcases r1 with ⟨m, a, e, ha, rfl⟩ | r1
        · cases e
          have am : a ∈ μ := List.mem_of_getElem? ha
          split at q2
          · rename_i xs es
            split at q2
            · rename_i hp
              obtain ⟨b, hb, vs, k1, k2, k3⟩ := R1.st n _ (by rw [← gets_eq]; exact es)
              rw [ha] at hb
              cases hb
              exact q2 _ μ F1 H1 l (.inr ⟨rfl, a, rfl, .inr am, R1.ap a am, vs, k1, k2, k3.pure hp⟩) R1.dom
            · exact q2.elim
          · rename_i ks ws es
            split at q2
            · rename_i hp
              obtain ⟨b, hb, vs, k1, k2⟩ := R1.st n _ (by rw [← gets_eq]; exact es)
              rw [ha] at hb
              cases hb
              exact q2 _ μ F1 H1 l (.inr ⟨rfl, a, rfl, .inr am, R1.ap a am, vs, k1.pure hp, k2⟩) R1.dom
            · exact q2.elim
          · exact q2.elim
        · exact r1.elim
      · exact r1.elim
    · exact q2.elim
    · rename_i h1 h2
      refine q2 v μ F1 H1 l ?_ R1.dom
      rcases r1 with ⟨e, r1⟩ | ⟨e, a, ev, h0, nf, nm, rn⟩
      · refine .inl ⟨e, r1.pure ?_⟩
        cases d with
        | loc n => exact absurd rfl (h1 n)
        | _ => rfl
      · exact .inr ⟨e, a, ev, .inl h0, nf, rn⟩
theorem s_retN : PS X (.Return none pos) (TSt g W sRetN) := ps_retN.hc fun Dn σc H ⟨μ, F, σ, S, R, q⟩ => q .non μ F H .refl (.inl ⟨rfl, rfl⟩) R.dom
theorem if_of {c : Expr} {Dn : Ends} {σc : St} {H : Hp} (h : TSt g W (sIf fc fs fr) Dn σc H) : tIfS (TB g W fc) (TSt g W fs) (TSt g W fr) Dn σc H := by
  obtain ⟨μ, F, σ, S, R, q⟩ := h
  refine ⟨μ, F, σ, S, R, ?_⟩
  unfold sIf at q
  cases ea : fc σ S with
  | bad => rw [ea] at q; exact q
  | ex c as =>
    rw [ea] at q
    exact fun cls dx H' F' s x rx => q cls dx σc μ F' H' (.of s x) (R.mono s x) rx
  | ok d fl =>
    rw [ea] at q
    cases d with
    | bl b =>
      intro v H1 F1 s1 x1 r1
      obtain ⟨F2, x2, u2, r2⟩ := r1.frz x1
      refine ⟨b, r2.bl, ?_⟩
      cases b with
      | true => exact iteT ⟨μ, F2, σ, S, R.mono s1 x2, q.from (.of s1 x2)⟩
      | false => exact iteF ⟨μ, F2, σ, S, R.mono s1 x2, q.from (.of s1 x2)⟩
    | _ => exact q.elim
theorem s_if {c : Expr} {a b : List Stmt} (hc : PT X c (TB g W fc)) (ha : PSs X a (TSt g W fs)) (hb : PSs X b (TSt g W fr)) : PS X (.If c a b pos) (TSt g W (sIf fc fs fr)) := (ps_if hc ha hb).hc fun Dn σ H h => if_of (c := c) h
/-- a tuple's parts to names -/
def sAsgT (A : TgF) (f : CE) : SC := sVal f fun σ S d _ => match A d σ with
  | some σ1 => .nx σ1 S
  | none => .bad
theorem s_asgT {tg : Expr} {ss : List Nat} {A : TgF} (he : PE X e (T g W f)) (hg : PG X tg (TGt g ss A)) (hs : swapsWithSole [tg] e pos.line X.env = pure false := by rfl) (hw : swappedStores [tg] e X.env = pure none := by rfl)
    (h1 : (assignEach [tg] X.env).map (·.2) = [assign tg X.env] := by rfl) : PS X (.Assign [tg] e pos) (TSt g W (sAsgT A f)) := (ps_asg he hg hs hw h1).hc fun Dn σc H ⟨μ, F, σ, S, R, q⟩ =>
  R.svalF q fun d fr v H1 F1 s1 x1 R1 r1 q1 => by
    split at q1
    · rename_i σ1 e1
      exact ⟨μ, F1, σ, S, d, σ1, R1, r1, e1, fun σc' R2 _ => q1.next R2⟩
    · exact q1.elim
end
end HC

namespace HC
open PySem PySem.Spec L2
open PyProof.Rows hiding St

/-! ## lists of the store are written -/
section
variable {g : GX} {μ : List Addr} {F : FZ} {σ : Sl} {S : List SO} {σc : St} {H : Hp} {a : Addr} {us : List V} {o : HO}
theorem RepV.write {d : D} {v : V} (hb : H a = some (.lst us)) (nf : ¬ F a) (r : RepV g H F μ d v) : RepV g (upd H a o) F μ d v := r.imp (fun h => h) (RepP.write hb nf _ _)
theorem RepVs.write {ds : List D} {vs : List V} (hb : H a = some (.lst us)) (nf : ¬ F a) (r : RepVs g H F μ ds vs) : RepVs g (upd H a o) F μ ds vs := Paired.mapP r fun _ _ => RepV.write hb nf
theorem nodup_at {α : Type} {l : List α} (nd : l.Nodup) {i j : Nat} {x : α} (hi : l[i]? = some x) (hj : l[j]? = some x) : i = j := by
  obtain ⟨h1, e1⟩ := List.getElem?_eq_some_iff.mp hi
  obtain ⟨h2, e2⟩ := List.getElem?_eq_some_iff.mp hj
  exact (List.getElem_inj nd).mp (e1.trans e2.symm)
/-- the list at n becomes ys -/
theorem Rel.put (R : Rel g μ F σ S σc H) {n : Nat} {xs ys : List D} {ws : List V} (hS : gets S n = some (.lst xs)) (hm : μ[n]? = some a) (hz : ws.length ≤ sizeLine) (hy : RepVs g H F μ ys ws) :
    Rel g μ F σ (S.set n (.lst ys)) σc (upd H a (.lst ws)) ∧ Later μ F H μ F (upd H a (.lst ws)) := by
  rw [gets_eq] at hS
  obtain ⟨b, hb, vs, k1, k2, k3⟩ := R.st n _ hS
  rw [hm] at hb
  cases hb
  have am : a ∈ μ := List.mem_of_getElem? hm
  have nf : ¬ F a := R.ap a am
  refine ⟨⟨fun i d h => let ⟨v, h1, h2⟩ := R.env i d h; ⟨v, h1, h2.write k1 nf⟩, R.len, fun k o2 h => ?_, by rw [List.length_set]; exact R.ml, R.nd, R.ap, fun b hb => ?_, fun p hp => ?_⟩, ⟨⟨[], by simp, fun x h => (nomatch h)⟩, fun _ h => h, fun b o hb e => ?_, fun b h => ?_, fun _ h => .inl h⟩⟩
  · by_cases hk : n = k
    · subst hk
      rw [List.getElem?_set_self (List.getElem?_eq_some_iff.mp hS).1] at h
      cases h
      exact ⟨a, hm, ws, upd_same, hz, hy.write k1 nf⟩
    · rw [List.getElem?_set_ne hk] at h
      obtain ⟨b, h1, h2⟩ := R.st k o2 h
      have nb : b ≠ a := fun z => hk (nodup_at R.nd hm (by rw [← z]; exact h1))
      refine ⟨b, h1, ?_⟩
      cases o2 with
      | lst zs => obtain ⟨vs, q1, q2, q3⟩ := h2; exact ⟨vs, (upd_ne nb).trans q1, q2, q3.write k1 nf⟩
      | dct ks zs =>
        obtain ⟨vs, q1, q2⟩ := h2
        exact ⟨vs, q1.write k1 nf, q2.imp (fun ⟨kvs, z, y⟩ => ⟨kvs, (upd_ne nb).trans z, y⟩) fun ⟨kvs, z, y⟩ => ⟨kvs, (upd_ne nb).trans z, y⟩⟩
      | ins c zs => obtain ⟨dx, fs, vs, q1, q2, q3, q4⟩ := h2; exact ⟨dx, fs, vs, (upd_ne nb).trans q1, q2, q3, q4.write k1 nf⟩
  · obtain ⟨o, e⟩ := R.dom b hb
    have nb : b ≠ a := fun z => nf (z ▸ hb)
    exact ⟨o, (upd_ne nb).trans e⟩
  · obtain ⟨h1, x, vs, h2, h3, fs, h4, h5⟩ := R.xc p hp
    exact ⟨h1, x, vs, h2, h3.write k1 nf, fs, (upd_ne (ne_of h4 k1 (fun z => nomatch z))).trans h4, h5⟩
  · have nb : b ≠ a := fun z => hb (by rw [z]; exact am)
    exact (upd_ne nb).trans e
  · by_cases z : b = a
    · rw [z, upd_same] at h; cases h
    · rw [upd_ne z] at h; exact h
/-- a list of the store, at its place -/
theorem Rel.locl (R : Rel g μ F σ S σc H) {n : Nat} {xs : List D} {v : V} (r : RepV g H F μ (.loc n) v) (hS : gets S n = some (.lst xs)) : ∃ b vs, v = .ref b ∧ μ[n]? = some b ∧ H b = some (.lst vs) ∧ vs.length ≤ sizeLine ∧ RepVs g H F μ xs vs := by
  rcases r with ⟨m, b, e, hm, rfl⟩ | r
  · cases e
    obtain ⟨b2, hb, vs, k1, k2, k3⟩ := R.st n _ (by rw [← gets_eq]; exact hS)
    rw [hm] at hb
    cases hb
    exact ⟨b, vs, rfl, hm, k1, k2, k3⟩
  · exact r.elim
end
def putL (S : List SO) (n : Nat) (ys : List D) : List SO := S.set n (.lst ys)
theorem RepVs.set {g : GX} {H : Hp} {F : FZ} {μ : List Addr} {d : D} {v : V} (r : RepV g H F μ d v) : ∀ {ds : List D} {vs : List V} (i : Nat), RepVs g H F μ ds vs → RepVs g H F μ (ds.set i d) (vs.set i v)
  | _, _, _, .nil => .nil
  | _, _, 0, .cons _ t => .cons r t
  | _, _, i + 1, .cons q t => .cons q (RepVs.set r i t)
theorem RepVs.app {g : GX} {H : Hp} {F : FZ} {μ : List Addr} : ∀ {xs ys : List D} {vs ws : List V}, RepVs g H F μ xs vs → RepVs g H F μ ys ws → RepVs g H F μ (xs ++ ys) (vs ++ ws)
  | _, _, _, _, .nil, s => s
  | _, _, _, _, .cons r t, s => .cons r (RepVs.app t s)
theorem RepVs.take {g : GX} {H : Hp} {F : FZ} {μ : List Addr} : ∀ (n : Nat) {xs : List D} {vs : List V}, RepVs g H F μ xs vs → RepVs g H F μ (xs.take n) (vs.take n)
  | 0, _, _, _ => .nil
  | _ + 1, _, _, .nil => .nil
  | n + 1, _, _, .cons r t => .cons r (RepVs.take n t)
theorem RepVs.drop {g : GX} {H : Hp} {F : FZ} {μ : List Addr} : ∀ (n : Nat) {xs : List D} {vs : List V}, RepVs g H F μ xs vs → RepVs g H F μ (xs.drop n) (vs.drop n)
  | 0, _, _, r => r
  | _ + 1, _, _, .nil => .nil
  | n + 1, _, _, .cons _ t => RepVs.drop n t
/-! ### methods of lists -/
/-- the items, the arguments: the new items, the answer -/
abbrev LM := List D → List D → Option (List D × D)
def LkM (g : GX) (r : V → List V → Hp → VK → Prop) (fn : LM) : Prop :=
  ∀ (μ : List Addr) (F : FZ) (H : Hp) (a : Addr) (xs : List D) (vs : List V) (ds : List D) (us : List V) (ys : List D) (res : D) (Q : VK), H a = some (.lst vs) → vs.length ≤ sizeLine → RepVs g H F μ xs vs → RepVs g H F μ ds us → fn xs ds = some (ys, res) →
    (∀ ws v, RepVs g H F μ ys ws → ws.length ≤ sizeLine → RepV g H F μ res v → Q v (upd H a (.lst ws))) → r (.ref a) us H Q
def sArgs (f : CA) (k : Sl → List SO → List D → RS) : SC := fun σ S => match f σ S with
  | .ok ds => k σ S ds
  | .ex c as => .ex c as σ S
  | .bad => .bad
def locL (S : List SO) (d : D) (k : Nat → List D → RS) : RS := match d with
  | .loc n => match gets S n with
    | some (.lst xs) => k n xs
    | _ => .bad
  | _ => .bad
def kMeth (fn : LM) (n : Nat) (k : Sl → List SO → D → RS) (σ : Sl) (S : List SO) (ds : List D) : RS := match gets S n with
  | some (.lst xs) => match fn xs ds with
    | some (ys, res) => k σ (putL S n ys) res
    | none => .bad
  | _ => .bad
/-- o.m(args), then k of the answer -/
def sMeth (fn : LM) (fo : CE) (fa : CA) (k : Sl → List SO → D → RS) : SC := sVal fo fun σ S x _ => locL S x fun n _ => sArgs fa (kMeth fn n k) σ S
def sMethE (fn : LM) (fo : CE) (fa : CA) : SC := sMeth fn fo fa fun σ S _ => .nx σ S
def sMethA (i : Nat) (fn : LM) (fo : CE) (fa : CA) : SC := sMeth fn fo fa fun σ S d => .nx (setD σ i d) S
section
variable {g : GX} {μ : List Addr} {F : FZ} {σ : Sl} {S : List SO} {σc : St} {H : Hp} {W : WX} {Dn : Ends}
theorem Rel.sargs (R : Rel g μ F σ S σc H) {f : CA} {k : Sl → List SO → List D → RS} {Q : List V → Hp → Prop} (q : OkS g W μ F H (sArgs f k σ S) Dn)
    (w : ∀ (ds : List D) (vs : List V) (H1 : Hp) (F1 : FZ), Same H H1 → FX F H F1 H1 → Rel g μ F1 σ S σc H1 → RepVs g H1 F1 μ ds vs → OkS g W μ F1 H1 (k σ S ds) Dn → Q vs H1) : TL g W f σc H Q := by
  refine ⟨μ, F, σ, S, R, ?_⟩
  unfold sArgs at q
  cases ea : f σ S with
  | bad => rw [ea] at q; exact q
  | ex c as =>
    rw [ea] at q
    exact fun cls dx H' F' s x rx => q cls dx σc μ F' H' (.of s x) (R.mono s x) rx
  | ok ds =>
    rw [ea] at q
    exact fun vs H1 F1 s1 x1 r1 => w ds vs H1 F1 s1 x1 (R.mono s1 x1) r1 (q.from (.of s1 x1))
theorem locL_ok {d : D} {v : V} {k : Nat → List D → RS} (R : Rel g μ F σ S σc H) (r : RepV g H F μ d v) (q : OkS g W μ F H (locL S d k) Dn) :
    ∃ n xs b vs, d = .loc n ∧ gets S n = some (.lst xs) ∧ v = .ref b ∧ μ[n]? = some b ∧ H b = some (.lst vs) ∧ vs.length ≤ sizeLine ∧ RepVs g H F μ xs vs ∧ OkS g W μ F H (k n xs) Dn := by
  unfold locL at q
  split at q
  · rename_i n
    split at q
    · rename_i xs e
      obtain ⟨b, vs, h1, h2, h3, h4, h5⟩ := R.locl r e
      exact ⟨n, xs, b, vs, rfl, e, h1, h2, h3, h4, h5, q⟩
    · exact q.elim
  · exact q.elim
theorem kMeth_ok {fn : LM} {r : V → List V → Hp → VK → Prop} (l : LkM g r fn) {n : Nat} {k : Sl → List SO → D → RS} {b : Addr} {ds : List D} {us : List V} {Q : VK} (R : Rel g μ F σ S σc H) (hm : μ[n]? = some b) (rd : RepVs g H F μ ds us)
    (q : OkS g W μ F H (kMeth fn n k σ S ds) Dn)
    (w : ∀ (S' : List SO) (res : D) (v : V) (H' : Hp), Rel g μ F σ S' σc H' → RepV g H' F μ res v → OkS g W μ F H' (k σ S' res) Dn → Q v H') : r (.ref b) us H Q := by
  unfold kMeth at q
  split at q
  · rename_i xs e
    split at q
    · rename_i ys res ef
      obtain ⟨b2, vs, h1, h2, h3, h4, h5⟩ := R.locl (v := .ref b) (.inl ⟨n, b, rfl, hm, rfl⟩) e
      cases h1
      refine l μ F H b xs vs ds us ys res Q h3 h4 h5 rd ef fun ws v ry hz rr => ?_
      obtain ⟨R', lt⟩ := R.put (ys := ys) e hm hz ry
      exact w _ res v _ R' (rr.write h3 (R.ap b (List.mem_of_getElem? hm))) (q.from lt)
    · exact q.elim
  · exact q.elim
end
section
variable {X : Cx} {g : GX} {W : WX} {o e : Expr} {es : List Expr} {fo : CE} {fa : CA} {fn : LM} {pos apos cpos pos' : Pos} {name : Str} {id : String} {r : V → List V → Hp → VK → Prop} {i : Nat} {x : Str}
theorem meth_read {k : Sl → List SO → D → RS} {Dn : Ends} {σc : St} {H : Hp} {Q : VK} (l : LkM g r fn) (hg : X.K = g.K) (h : TSt g W (sMeth fn fo fa k) Dn σc H)
    (w : ∀ (μ : List Addr) (F : FZ) (σ : Sl) (S' : List SO) (res : D) (v : V) (H' : Hp), Rel g μ F σ S' σc H' → RepV g H' F μ res v → OkS g W μ F H' (k σ S' res) Dn → Q v H') : tBM X.K "list" r (T g W fo) (TL g W fa) σc H Q := by
  obtain ⟨μ, F, σ, S, R, q⟩ := h
  refine R.svalF q fun d fr v H1 F1 s1 x1 R1 r1 q1 => ?_
  obtain ⟨n, xs, b, vs, rfl, e, rfl, hm, hb, hz, rx, q2⟩ := locL_ok R1 r1 q1
  refine ⟨.inl ⟨rfl, vs, SqL.of hb⟩, R1.sargs q2 fun ds us H2 F2 s2 x2 R2 rd q3 => ?_⟩
  exact kMeth_ok l R2 hm rd q3 fun S' res v H' R' rr q' => w μ F2 σ S' res v H' R' rr q'
theorem meth_read0 {k : Sl → List SO → D → RS} {Dn : Ends} {σc : St} {H : Hp} {Q : VK} (l : LkM g r fn) (hg : X.K = g.K) (h : TSt g W (sMeth fn fo cNil k) Dn σc H)
    (w : ∀ (μ : List Addr) (F : FZ) (σ : Sl) (S' : List SO) (res : D) (v : V) (H' : Hp), Rel g μ F σ S' σc H' → RepV g H' F μ res v → OkS g W μ F H' (k σ S' res) Dn → Q v H') : tBM0 X.K "list" r (T g W fo) σc H Q := by
  obtain ⟨μ, F, σ, S, R, q⟩ := h
  refine R.svalF q fun d fr v H1 F1 s1 x1 R1 r1 q1 => ?_
  obtain ⟨n, xs, b, vs, rfl, e, rfl, hm, hb, hz, rx, q2⟩ := locL_ok R1 r1 q1
  refine ⟨.inl ⟨rfl, vs, SqL.of hb⟩, ?_⟩
  exact kMeth_ok (ds := []) l R1 hm .nil q2 fun S' res v H' R' rr q' => w μ F1 σ S' res v H' R' rr q'
/-- o.m(e, ..) as a statement -/
theorem s_methE (slot : Slot "list" name id) (hty : typeOf (.builtin id) = pure (.type "method_descriptor")) (hm : MtR X id r) (l : LkM g r fn) (ho : PE X o (T g W fo)) (ha : PA X (e :: es) (TL g W fa)) (hg : X.K = g.K := by rfl)
    (hbase : attributeBase o name X.env (eval o X.env) = eval o X.env := by rfl) (hs : swapsWith (.Call (.Attribute o name apos) (e :: es) [] cpos) none pos.line X.env = pure false := by rfl)
    (hfew : ((backTo cpos (starEach (e :: es) X.env)).all (fun x => !x.1) && (backToKw cpos (keywordEach [] X.env)).all (fun x => x.1.isSome) && decide ((e :: es).length + ([] : List Keyword).length + (if ([] : List Keyword).isEmpty then 0 else 1) < 30)) = true := by rfl)
    (hline : (apos.endLine == cpos.line) = true := by rfl) (hst : starEach (e :: es) X.env = (false, eval e X.env) :: starEach es X.env := by rfl) (hplain : (backTo cpos (starEach es X.env)).any (·.1) = false := by rfl) :
    PS X (.Expr (.Call (.Attribute o name apos) (e :: es) [] cpos) pos) (TSt g W (sMethE fn fo fa)) :=
  (ps_expr (pe_bm PySem.F.plainAttrs_list slot hty hm ho ha hbase hfew hline hst hplain) hs).hc fun Dn σc H h => meth_read l hg h fun μ F σ S' res v H' R' rr q' => q'.next R'

theorem s_methE0 (slot : Slot "list" name id) (hty : typeOf (.builtin id) = pure (.type "method_descriptor")) (hm : MtR X id r) (l : LkM g r fn) (ho : PE X o (T g W fo)) (hg : X.K = g.K := by rfl)
    (hbase : attributeBase o name X.env (eval o X.env) = eval o X.env := by rfl) (hs : swapsWith (.Call (.Attribute o name apos) [] [] cpos) none pos.line X.env = pure false := by rfl) (hline : (apos.endLine == cpos.line) = true := by rfl) :
    PS X (.Expr (.Call (.Attribute o name apos) [] [] cpos) pos) (TSt g W (sMethE fn fo cNil)) :=
  (ps_expr (pe_bm0 PySem.F.plainAttrs_list slot hty hm ho hbase hline) hs).hc fun Dn σc H h => meth_read0 l hg h fun μ F σ S' res v H' R' rr q' => q'.next R'
/-- x = o.m(..) -/
theorem s_methA0 (hN : X.N.Nodup) (hi : X.N[i]? = some x) (hx : Loc X.env.scope x) (slot : Slot "list" name id) (hty : typeOf (.builtin id) = pure (.type "method_descriptor")) (hm : MtR X id r) (l : LkM g r fn) (ho : PE X o (T g W fo)) (hg : X.K = g.K := by rfl)
    (hbase : attributeBase o name X.env (eval o X.env) = eval o X.env := by rfl) (hs : swapsWith (.Call (.Attribute o name apos) [] [] cpos) (some (.Name x pos')) pos.line X.env = pure false := by rfl) (hline : (apos.endLine == cpos.line) = true := by rfl)
    (hf : X.fn x = true ∨ X.env.scope.names.lookup x = some .local := by first | exact .inl rfl | exact .inr rfl | assumption) :
    PS X (.Assign [.Name x pos'] (.Call (.Attribute o name apos) [] [] cpos) pos) (TSt g W (sMethA i fn fo cNil)) :=
  (ps_set hN hi hx (pe_bm0 PySem.F.plainAttrs_list slot hty hm ho hbase hline) hs hf).hc fun Dn σc H h => meth_read0 l hg h fun μ F σ S' res v H' R' rr q' => q'.next (R'.set rr)
theorem s_methA (hN : X.N.Nodup) (hi : X.N[i]? = some x) (hx : Loc X.env.scope x) (slot : Slot "list" name id) (hty : typeOf (.builtin id) = pure (.type "method_descriptor")) (hm : MtR X id r) (l : LkM g r fn) (ho : PE X o (T g W fo)) (ha : PA X (e :: es) (TL g W fa)) (hg : X.K = g.K := by rfl)
    (hbase : attributeBase o name X.env (eval o X.env) = eval o X.env := by rfl) (hs : swapsWith (.Call (.Attribute o name apos) (e :: es) [] cpos) (some (.Name x pos')) pos.line X.env = pure false := by rfl)
    (hfew : ((backTo cpos (starEach (e :: es) X.env)).all (fun x => !x.1) && (backToKw cpos (keywordEach [] X.env)).all (fun x => x.1.isSome) && decide ((e :: es).length + ([] : List Keyword).length + (if ([] : List Keyword).isEmpty then 0 else 1) < 30)) = true := by rfl)
    (hline : (apos.endLine == cpos.line) = true := by rfl) (hst : starEach (e :: es) X.env = (false, eval e X.env) :: starEach es X.env := by rfl) (hplain : (backTo cpos (starEach es X.env)).any (·.1) = false := by rfl)
    (hf : X.fn x = true ∨ X.env.scope.names.lookup x = some .local := by first | exact .inl rfl | exact .inr rfl | assumption) :
    PS X (.Assign [.Name x pos'] (.Call (.Attribute o name apos) (e :: es) [] cpos) pos) (TSt g W (sMethA i fn fo fa)) :=
  (ps_set hN hi hx (pe_bm PySem.F.plainAttrs_list slot hty hm ho ha hbase hfew hline hst hplain) hs hf).hc fun Dn σc H h => meth_read l hg h fun μ F σ S' res v H' R' rr q' => q'.next (R'.set rr)
end
/-! ### the methods -/
def mAppend : LM := fun xs ds => match ds with
  | [y] => if xs.length < lim then some (xs ++ [y], .non) else none
  | _ => none
theorem lm_append {g : GX} : LkM g rAppend mAppend := by
  intro μ F H a xs vs ds us ys res Q ha hz rx rd e q
  unfold mAppend at e
  split at e
  · rename_i y
    obtain ⟨u, rfl, ru⟩ := rd.one
    split at e
    · rename_i hl
      cases e
      have hv := rx.length
      have h1 : vs.length < sizeLine := by rw [lim_eq, ← hv]; exact hl
      exact ⟨a, vs, u, rfl, rfl, ha, h1, q _ _ (rx.app (.cons ru .nil)) (by rw [List.length_append]; exact h1) (.inr rfl)⟩
    · cases e
  · cases e
def lastD : List D → Option D
  | [] => none
  | [d] => some d
  | _ :: r => lastD r
def initD : List D → List D
  | [] => []
  | [_] => []
  | d :: r => d :: initD r
theorem lastD_eq : ∀ xs : List D, lastD xs = xs[xs.length - 1]?
  | [] => rfl
  | [d] => rfl
  | d :: e :: r => by
    show lastD (e :: r) = _
    rw [lastD_eq (e :: r)]
    simp
theorem initD_eq : ∀ xs : List D, initD xs = xs.dropLast
  | [] => rfl
  | [d] => rfl
  | d :: e :: r => by
    show d :: initD (e :: r) = _
    rw [initD_eq (e :: r)]
    rfl
def mPop : LM := fun xs ds => match ds with
  | [] => match lastD xs with
    | some y => some (initD xs, y)
    | none => none
  | _ => none
theorem lm_pop {g : GX} : LkM g rPop mPop := by
  intro μ F H a xs vs ds us ys res Q ha hz rx rd e q
  unfold mPop at e
  split at e
  · cases rd
    split at e
    · rename_i y ey
      cases e
      rw [lastD_eq] at ey
      obtain ⟨v, hv, rv⟩ := rx.get ey
      rw [rx.length] at hv
      refine ⟨a, vs, v, rfl, rfl, ha, hv, q _ _ ?_ (by rw [List.length_dropLast]; omega) rv⟩
      rw [initD_eq, List.dropLast_eq_take, List.dropLast_eq_take, rx.length]
      exact rx.take _
    · cases e
  · cases e
def mInsert : LM := fun xs ds => match ds with
  | [.int i, y] => if 0 ≤ i && i < 4611686018427387904 && xs.length < lim then some (xs.take i.toNat ++ [y] ++ xs.drop i.toNat, .non) else none
  | _ => none
theorem lm_insert {g : GX} : LkM g (fun x vs H Q => ∃ (l : Addr) (xs : List V) (i : Int) (y : V), x = .ref l ∧ vs = [.int i, y] ∧ H l = some (.lst xs) ∧ xs.length < sizeLine ∧ 0 ≤ i ∧ i < 2 ^ 63 ∧ Q .non (upd H l (.lst (xs.take i.toNat ++ [y] ++ xs.drop i.toNat)))) mInsert := by
  intro μ F H a xs vs ds us ys res Q ha hz rx rd e q
  unfold mInsert at e
  split at e
  · rename_i i y
    obtain ⟨u, w, rfl, ru, rw'⟩ := rd.two
    cases ru.int
    split at e
    · rename_i h
      simp only [Bool.and_eq_true, decide_eq_true_eq] at h
      cases e
      have hv := rx.length
      have h1 : vs.length < sizeLine := by rw [lim_eq, ← hv]; exact h.2
      refine ⟨a, vs, i, w, rfl, rfl, ha, h1, h.1.1, by omega, q _ _ (((rx.take _).app (.cons rw' .nil)).app (rx.drop _)) ?_ (.inr rfl)⟩
      rw [List.length_append, List.length_append, List.length_take, List.length_drop]
      simp
      omega
    · cases e
  · cases e

/-! ## x[i] = e -/
def setI (xs : List D) (i : Int) (y : D) : Option (List D) := match i with
  | .ofNat n => if n < xs.length then some (xs.set n y) else none
  | .negSucc m => if m + 1 ≤ xs.length then some (xs.set (xs.length - (m + 1)) y) else none
theorem setI_ix {xs ys : List D} {i : Int} {y : D} (h : setI xs i y = some ys) : ∃ j, ixN xs.length i = some j ∧ ys = xs.set j y := by
  unfold setI at h
  unfold ixN
  split at h
  · rename_i n
    split at h
    · rename_i hn
      refine ⟨n, ?_, (Option.some.inj h).symm⟩
      have h0 : (0 : Int) ≤ Int.ofNat n := Int.natCast_nonneg n
      have h1 : Int.ofNat n < (xs.length : Int) := Int.ofNat_lt.mpr hn
      rw [if_pos h0, if_pos h1]
      rfl
    · cases h
  · rename_i m
    split at h
    · rename_i hn
      refine ⟨xs.length - (m + 1), ?_, (Option.some.inj h).symm⟩
      rw [if_neg (by omega), if_pos (by omega)]
      congr 1
      omega
    · cases h
def kSub (y : D) (σ : Sl) (S : List SO) (x i : D) : RS := match i with
  | .int i => locL S x fun n xs => match setI xs i y with
    | some ys => .nx σ (putL S n ys)
    | none => .bad
  | _ => .bad
def sTwo (a b : CE) (k : Sl → List SO → D → D → RS) : SC := sVal a fun σ S x _ => sVal b (fun σ S y _ => k σ S x y) σ S
def sSub (fe fo fi : CE) : SC := sVal fe fun σ S y _ => sTwo fo fi (kSub y) σ S
section
variable {g : GX} {μ : List Addr} {F : FZ} {σ : Sl} {S : List SO} {σc : St} {H : Hp} {W : WX} {Dn : Ends}
/-- a store into a list of the store -/
theorem kSub_ok {x i y : D} {vx vi vy : V} {Q : Hp → Prop} (R : Rel g μ F σ S σc H) (rx : RepV g H F μ x vx) (ri : RepV g H F μ i vi) (ry : RepV g H F μ y vy) (q : OkS g W μ F H (kSub y σ S x i) Dn)
    (w : ∀ (S' : List SO) (H' : Hp), Rel g μ F σ S' σc H' → OkS g W μ F H' (.nx σ S') Dn → Q H') : rSetL vx vi vy H Q := by
  unfold kSub at q
  split at q
  · rename_i k
    cases ri.int
    obtain ⟨n, xs, b, vs, rfl, e, rfl, hm, hb, hz, rxs, q2⟩ := locL_ok R rx q
    split at q2
    · rename_i ys ey
      obtain ⟨j, hj, rfl⟩ := setI_ix ey
      rw [rxs.length] at hj
      obtain ⟨R', lt⟩ := R.put (ys := xs.set j y) e hm (by rw [List.length_set]; exact hz) (rxs.set ry j)
      exact ⟨b, vs, k, j, rfl, rfl, hb, hj, w _ _ R' (q2.from lt)⟩
    · exact q2.elim
  · exact q.elim
end
section
variable {X : Cx} {g : GX} {W : WX} {o e i : Expr} {fo fe fi : CE} {pos pos' : Pos}
theorem s_sub (he : PE X e (T g W fe)) (ho : PE X o (T g W fo)) (hi : PE X i (T g W fi))
    (ha : ∀ v, assign (.Subscript o i pos') X.env v = (do
      let ov ← holding [v] (eval o X.env)
      let iv ← holding [v, ov] (eval i X.env)
      standAt pos'
      holding [v, ov, iv] (setItem ov iv v)
      release [v, ov, iv] []) := by intro _; rfl) (hs : swapsWithSole [.Subscript o i pos'] e pos.line X.env = pure false := by rfl) (hw : swappedStores [.Subscript o i pos'] e X.env = pure none := by rfl)
    (h1 : (assignEach [.Subscript o i pos'] X.env).map (·.2) = [assign (.Subscript o i pos') X.env] := by rfl) : PS X (.Assign [.Subscript o i pos'] e pos) (TSt g W (sSub fe fo fi)) :=
  (ps_asg he (pg_sub ho hi set_list ha) hs hw h1).hc fun Dn σc H ⟨μ, F, σ, S, R, q⟩ => R.svalF q fun y fy vy H1 F1 s1 x1 R1 ry q1 =>
    R1.svalF q1 fun x fx vx H2 F2 s2 x2 R2 rx q2 => R2.svalF q2 fun k fk vk H3 F3 s3 x3 R3 rk q3 =>
      kSub_ok R3 (rx.mono s3 x3.up) rk ((ry.mono s2 x2.up).mono s3 x3.up) q3 fun S' H' R' q' => q'.next R'
end

/-! ## x op= e, x[i] op= e -/
def sAug (i : Nat) (fn : List SO → D → D → Res) (f : CE) : SC := fun σ S => match gets σ i with
  | some (some x) => sVal f (fun σ S y _ => match fn S x y with
    | .ok d false => .nx (setD σ i d) S
    | _ => .bad) σ S
  | _ => .bad
def iAdd (_ : List SO) (x y : D) : Res := match x, y with
  | .int i, .int j => .ok (.int (i + j)) false
  | _, _ => .bad
def iMul (_ : List SO) (x y : D) : Res := match x, y with
  | .int i, .int j => if small i || small j then .ok (.int (i * j)) false else .bad
  | _, _ => .bad
theorem lk_iadd {g : GX} : Lk2 g (rI0 fun i j => .int (i + j)) iAdd := by
  intro E μ F σ S σc H x y vx vy Q R rx ry q
  unfold iAdd at q
  split at q
  · exact ⟨_, _, rx.int, ry.int, q.here R.dom (.inr rfl)⟩
  · exact q.elim
theorem lk_imul {g : GX} : Lk2 g (rI CMul fun i j => .int (i * j)) iMul := by
  intro E μ F σ S σc H x y vx vy Q R rx ry q
  unfold iMul at q
  split at q
  · split at q
    · rename_i h
      rw [Bool.or_eq_true] at h
      refine ⟨_, _, rx.int, ry.int, h.imp small_ok small_ok, q.here R.dom (.inr rfl)⟩
    · exact q.elim
  · exact q.elim
def kAugS (fn : List SO → D → D → Res) (fe : CE) (σ : Sl) (S : List SO) (x i : D) : RS := match i with
  | .int k => locL S x fun _ xs => match atD xs k with
    | some z => sVal fe (fun σ S y _ => match fn S z y with
      | .ok d false => kSub d σ S x (.int k)
      | _ => .bad) σ S
    | none => .bad
  | _ => .bad
def sAugS (fn : List SO → D → D → Res) (fo fi fe : CE) : SC := sTwo fo fi (kAugS fn fe)
theorem get_list {X : Cx} : PGet X (rIxL X.K) := by
  intro pins s σ H x y v u Q I rx ry h
  obtain ⟨p, xs, i, z, rfl, rfl, hq, he, q⟩ := h
  cases rx
  obtain ⟨t, rfl⟩ := ry
  obtain ⟨its, r, pl, hz⟩ := I.list hq
  obtain ⟨j, h1, h2, h3, h4, h5⟩ := atI_get he
  obtain ⟨w, ew, rw'⟩ := r.get h2
  have hl := r.length
  have hn : sizeLine < 2 ^ 63 := by rw [sizeLine_eq]; decide
  have hi : xs.length < 2 ^ 63 := Nat.lt_of_le_of_lt hz hn
  have fin : EP X pins σ Q w s := ⟨z, H, I, rw', q⟩
  by_cases h0 : 0 ≤ i
  · have hj : i.toNat = j := by
      rw [seqIndex_of h0 h5] at h1
      exact Option.some.inj h1
    exact wpAny_getItem_list pl.isList h0 (by omega) (by rw [hj]; simpa using ew) fin
  · have hj : (i + (its.toArray.size : Int)).toNat = j := by
      rw [seqIndex_neg (by omega) h4] at h1
      rw [List.size_toArray, ← hl]
      exact Option.some.inj h1
    exact wpAny_getItem_list_neg pl.isList (by omega) (by rw [List.size_toArray]; omega) (by omega) (by rw [hj]; simpa using ew) fin
section
variable {X : Cx} {g : GX} {W : WX} {o e i : Expr} {fo fe fi f : CE} {pos pos' : Pos} {k : Nat} {x : Str} {op : Operator} {r : R2} {fn : List SO → D → D → Res}
theorem s_aug (hN : X.N.Nodup) (hi : X.N[k]? = some x) (hx : Loc X.env.scope x) (he : PE X e (T g W f)) (ho : OpR X (inplaceOp op) r) (l : Lk2 g r fn) (hf : X.fn x = true ∨ X.env.scope.names.lookup x = some .local := by first | exact .inl rfl | exact .inr rfl | assumption) :
    PS X (.AugAssign (.Name x pos') op e pos) (TSt g W (sAug k fn f)) :=
  (ps_aug hN hi hx he ho hf).hc fun Dn σc H ⟨μ, F, σ, S, R, q⟩ => by
    unfold sAug at q
    split at q
    · rename_i d ed
      obtain ⟨v, hv, rv⟩ := R.get ed
      refine ⟨v, hv, R.svalF q fun y fy vy H1 F1 s1 x1 R1 ry q1 => ?_⟩
      split at q1
      · rename_i z ez
        refine l (fun _ _ _ => False) μ F1 σ S σc H1 d y v vy _ R1 (rv.mono s1 x1.up) ry ?_
        rw [ez]
        intro w H2 F2 s2 x2 r2
        rcases r2 with ⟨_, r2⟩ | ⟨e, _⟩
        · exact (q1.from (.of s2 x2)).next ((R1.mono s2 x2).set r2)
        · cases e
      · exact q1.elim
    · exact q.elim
theorem s_augS (ho : PE X o (T g W fo)) (hi : PE X i (T g W fi)) (he : PE X e (T g W fe)) (hp : OpR X (inplaceOp op) r) (l : Lk2 g r fn) (hg : X.K = g.K := by rfl)
    (ha : ∀ ov iv new, augStore i ov iv new = (do holding [new, ov, iv] (setItem ov iv new); release [new, ov, iv] []; pure .next) := by intros; rfl) : PS X (.AugAssign (.Subscript o i pos') op e pos) (TSt g W (sAugS fn fo fi fe)) :=
  (ps_augS ho hi get_list he hp set_list ha).hc fun Dn σc H ⟨μ, F, σ, S, R, q⟩ => by
    have q : OkS g W μ F H (sVal fo (fun σ S x _ => sVal fi (fun σ S y _ => kAugS fn fe σ S x y) σ S) σ S) Dn := q
    refine R.svalF q fun x fx vx H1 F1 s1 x1 R1 rx q1 => R1.svalF q1 fun y fy vy H2 F2 s2 x2 R2 ry q2 => ?_
    unfold kAugS at q2
    split at q2
    · rename_i k
      cases ry.int
      have rx2 := rx.mono s2 x2.up
      obtain ⟨n, xs, b, vs, rfl, e, rfl, hm, hb, hz, rxs, q3⟩ := locL_ok R2 rx2 q2
      split at q3
      · rename_i z ez
        obtain ⟨j, ej, kk⟩ := atD_at ez rxs.length
        obtain ⟨vz, hvz, rz⟩ := rxs.get ej
        refine ⟨b, vs, k, vz, rfl, rfl, SqL.of hb, kk vz hvz, R2.svalF q3 fun w fw vw H3 F3 s3 x3 R3 rw' q4 => ?_⟩
        split at q4
        · rename_i d ed
          refine l (fun _ _ _ => False) μ F3 σ S σc H3 z w vz vw _ R3 (rz.mono s3 x3.up) rw' ?_
          rw [ed]
          intro nv H4 F4 s4 x4 r4
          rcases r4 with ⟨_, r4⟩ | ⟨e, _⟩
          · exact kSub_ok (i := .int k) (R3.mono s4 x4) ((rx2.mono s3 x3.up).mono s4 x4.up) (.inr rfl) r4 (q4.from (.of s4 x4)) fun S' H' R' q' => q'.next R'
          · cases e
        · exact q4.elim
      · exact q3.elim
    · exact q2.elim
end
end HC

namespace HC
open PySem PySem.Spec L2
open PyProof.Rows hiding St

/-! ## loops -/
def forL (A : TgF) (body : SC) : List D → SC
  | [], σ, S => .nx σ S
  | d :: ds, σ, S => match A d σ with
    | some σ1 => match body σ1 S with
      | .nx σ2 S2 => forL A body ds σ2 S2
      | .ct σ2 S2 => forL A body ds σ2 S2
      | .bk σ2 S2 => .nx σ2 S2
      | r => r
    | none => .bad
def forD (A : TgF) (body : SC) (it : List SO → Option (List D)) : Nat → Nat → SC
  | 0, _, _, _ => .bad
  | k + 1, i, σ, S => match it S with
    | some ds => match gets ds i with
      | some d => match A d σ with
        | some σ1 => match body σ1 S with
          | .nx σ2 S2 => forD A body it k (i + 1) σ2 S2
          | .ct σ2 S2 => forD A body it k (i + 1) σ2 S2
          | .bk σ2 S2 => .nx σ2 S2
          | r => r
        | none => .bad
      | none => .nx σ S
    | none => .bad
def fuel : Nat := 1073741824
def sFor (it : CI) (A : TgF) (body : SC) : SC := fun σ S => match it σ S with
  | .st ds => forL A body ds σ S
  | .dy it => forD A body it fuel 0 σ S
  | .ex c as => .ex c as σ S
  | .bad => .bad
def whileF (c : CE) (body : SC) : Nat → SC
  | 0, _, _ => .bad
  | k + 1, σ, S => match c σ S with
    | .ok (.bl true) _ => match body σ S with
      | .nx σ2 S2 => whileF c body k σ2 S2
      | .ct σ2 S2 => whileF c body k σ2 S2
      | .bk σ2 S2 => .nx σ2 S2
      | r => r
    | .ok (.bl false) _ => .nx σ S
    | .ok _ _ => .bad
    | .ex c as => .ex c as σ S
    | .bad => .bad
def sWhile (c : CE) (body : SC) : SC := whileF c body fuel
/-- what is wanted behind a loop's body -/
abbrev lEnds (Dn : Ends) (N : St → Hp → Prop) : Ends := { Dn with nx := N, ct := N, bk := Dn.nx }
section
variable {g : GX} {W : WX} {μ : List Addr} {F : FZ} {H : Hp} {Dn : Ends} {N : St → Hp → Prop}
/-- the body's result, in a loop whose next turn is k -/
theorem OkS.body {r : RS} {k : SC} (q : OkS g W μ F H (match r with | .nx σ2 S2 => k σ2 S2 | .ct σ2 S2 => k σ2 S2 | .bk σ2 S2 => .nx σ2 S2 | r => r) Dn)
    (h : ∀ σ2 S2 σc' μ' F' H', Later μ F H μ' F' H' → Rel g μ' F' σ2 S2 σc' H' → OkS g W μ F H (k σ2 S2) Dn → N σc' H') : OkS g W μ F H r (lEnds Dn N) := by
  cases r with
  | nx σ2 S2 => exact fun σc' μ' F' H' l R => h σ2 S2 σc' μ' F' H' l R q
  | ct σ2 S2 => exact fun σc' μ' F' H' l R => h σ2 S2 σc' μ' F' H' l R q
  | bk σ2 S2 => exact q
  | rt d fr => exact q
  | ex c as σ2 S2 => exact q
  | bad => exact q
end
section
variable {g : GX} {W : WX} {fi : CI} {A : TgF} {ss : List Nat} {body : SC} {fc : CE}
theorem for_of {Dn : Ends} {σc : St} {H : Hp} (h : TSt g W (sFor fi A body) Dn σc H) : tFor (TIt g W fi) (TGt g ss A) (TSt g W body) Dn σc H := by
  obtain ⟨μ, F, σ, S, R, q⟩ := h
  refine ⟨μ, F, σ, S, R, ?_⟩
  unfold sFor at q
  cases ei : fi σ S with
  | bad => rw [ei] at q; exact q
  | ex c as =>
    rw [ei] at q
    exact fun cls dx H' F' s x rx => q cls dx σc μ F' H' (.of s x) (R.mono s x) rx
  | st ds =>
    rw [ei] at q
    intro J H1 F1 s1 x1 w
    have R1 := R.mono s1 x1
    have hlen := (w μ F1 σ S σc H1 .refl R1 ds rfl).1
    let P : Nat → St → Hp → Prop := fun i σ' H' => i ≤ ds.length ∧ ∃ μ2 F2 σ2 S2, Rel g μ2 F2 σ2 S2 σ' H' ∧ Wk g μ2 F2 H' J (fun _ => some ds) ∧ OkS g W μ2 F2 H' (forL A body (ds.drop i) σ2 S2) Dn
    refine ⟨fun i m σ' H' => m = ds.length - i ∧ P i σ' H', ⟨ds.length, by simp, Nat.zero_le _, μ, F1, σ, S, R1, w, q.from (.of s1 x1)⟩, ?_⟩
    rintro i m σ' H' ⟨rfl, hi, μ2, F2, σ2, S2, R2, w2, q2⟩
    obtain ⟨_, wk⟩ := w2 μ2 F2 σ2 S2 σ' H' .refl R2 ds rfl
    obtain ⟨go, yl, stop⟩ := wk i
    by_cases hlt : i < ds.length
    · rw [List.drop_eq_getElem_cons hlt] at q2
      unfold forL at q2
      refine .inr ⟨go hlt, P (i + 1), fun σ3 H3 p => ⟨ds.length - (i + 1), by omega, rfl, p⟩, fun x H3 hy => ?_⟩
      obtain ⟨sm, rx⟩ := yl x H3 hy
      have rx := rx _ (List.getElem?_eq_getElem hlt)
      have fx0 : FX F2 H' F2 H3 := ⟨fun _ h => h, fun _ h => .inl h, fun a h => let ⟨o, e⟩ := R2.dom a h; ⟨o, sm _ _ e⟩⟩
      have R3 := R2.mono sm fx0
      have l3 : Later μ2 F2 H' μ2 F2 H3 := .of sm fx0
      split at q2
      · rename_i σ4 eA
        refine ⟨μ2, F2, σ2, S2, ds[i], σ4, R3, rx, eA, fun σ5 R5 _ => ⟨μ2, F2, σ4, S2, R5, ?_⟩⟩
        have q3 := q2.from l3
        exact OkS.body (k := forL A body (ds.drop (i + 1))) q3 fun σ6 S6 σc' μ' F' H6 l R6 q6 => ⟨by omega, μ', F', σ6, S6, R6, (w2.later l3).later l, q6.from l⟩
      · exact q2.elim
    · have ei2 : i = ds.length := by omega
      rw [List.drop_eq_nil_of_le (by omega)] at q2
      exact .inl ⟨stop (by omega), q2.next R2⟩
  | dy it =>
    rw [ei] at q
    intro J H1 F1 s1 x1 w
    have R1 := R.mono s1 x1
    let P : Nat → Nat → St → Hp → Prop := fun i m σ' H' => ∃ μ2 F2 σ2 S2, Rel g μ2 F2 σ2 S2 σ' H' ∧ Wk g μ2 F2 H' J it ∧ OkS g W μ2 F2 H' (forD A body it m i σ2 S2) Dn
    refine ⟨fun i m σ' H' => P i m σ' H', ⟨fuel, μ, F1, σ, S, R1, w, q.from (.of s1 x1)⟩, ?_⟩
    rintro i m σ' H' ⟨μ2, F2, σ2, S2, R2, w2, q2⟩
    cases m with
    | zero => exact q2.elim
    | succ m =>
      unfold forD at q2
      split at q2
      · rename_i ds ed
        obtain ⟨_, wk⟩ := w2 μ2 F2 σ2 S2 σ' H' .refl R2 ds ed
        obtain ⟨go, yl, stop⟩ := wk i
        split at q2
        · rename_i d eg
          rw [gets_eq] at eg
          have hlt := (List.getElem?_eq_some_iff.mp eg).1
          refine .inr ⟨go hlt, P (i + 1) m, fun σ3 H3 p => ⟨m, by omega, p⟩, fun x H3 hy => ?_⟩
          obtain ⟨sm, rx⟩ := yl x H3 hy
          have rx := rx _ eg
          have fx0 : FX F2 H' F2 H3 := ⟨fun _ h => h, fun _ h => .inl h, fun a h => let ⟨o, e⟩ := R2.dom a h; ⟨o, sm _ _ e⟩⟩
          have R3 := R2.mono sm fx0
          have l3 : Later μ2 F2 H' μ2 F2 H3 := .of sm fx0
          split at q2
          · rename_i σ4 eA
            refine ⟨μ2, F2, σ2, S2, d, σ4, R3, rx, eA, fun σ5 R5 _ => ⟨μ2, F2, σ4, S2, R5, ?_⟩⟩
            have q3 := q2.from l3
            exact OkS.body (k := forD A body it m (i + 1)) q3 fun σ6 S6 σc' μ' F' H6 l R6 q6 => ⟨μ', F', σ6, S6, R6, (w2.later l3).later l, q6.from l⟩
          · exact q2.elim
        · rename_i eg
          rw [gets_eq] at eg
          exact .inl ⟨stop (List.getElem?_eq_none_iff.mp eg), q2.next R2⟩
      · exact q2.elim
theorem while_of {Dn : Ends} {σc : St} {H : Hp} (h : TSt g W (sWhile fc body) Dn σc H) : tWhile (TB g W fc) (TSt g W body) Dn σc H := by
  obtain ⟨μ, F, σ, S, R, q⟩ := h
  refine ⟨fun m σ' H' => ∃ μ2 F2 σ2 S2, Rel g μ2 F2 σ2 S2 σ' H' ∧ OkS g W μ2 F2 H' (whileF fc body m σ2 S2) Dn, ⟨fuel, μ, F, σ, S, R, q⟩, ?_⟩
  rintro m σ' H' ⟨μ2, F2, σ2, S2, R2, q2⟩
  cases m with
  | zero => exact q2.elim
  | succ m =>
    unfold whileF at q2
    refine ⟨μ2, F2, σ2, S2, R2, ?_⟩
    cases ea : fc σ2 S2 with
    | bad => rw [ea] at q2; exact q2
    | ex c as =>
      rw [ea] at q2
      exact fun cls dx H3 F3 s x rx => q2 cls dx σ' μ2 F3 H3 (.of s x) (R2.mono s x) rx
    | ok d fl =>
      rw [ea] at q2
      cases d with
      | bl b =>
        intro v H3 F3 s3 x3 r3
        obtain ⟨F4, x4, u4, r4⟩ := r3.frz x3
        have l := Later.of (μ := μ2) s3 x4
        refine ⟨b, r4.bl, ?_⟩
        cases b with
        | true =>
          refine iteT ⟨fun σ5 H5 => ∃ μ6 F6 σ6 S6, Rel g μ6 F6 σ6 S6 σ5 H5 ∧ OkS g W μ6 F6 H5 (whileF fc body m σ6 S6) Dn, fun σ5 H5 p => ⟨m, by omega, p⟩, μ2, F4, σ2, S2, R2.mono s3 x4, ?_⟩
          exact OkS.body (k := whileF fc body m) (q2.from l) fun σ6 S6 σc' μ' F' H6 l R6 q6 => ⟨μ', F', σ6, S6, R6, q6.from l⟩
        | false => exact iteF ((q2.from l).next (R2.mono s3 x4))
      | _ => exact q2.elim
variable {X : Cx} {tg iter c : Expr} {bd : List Stmt} {pos : Pos}
theorem s_for (hp : PassesOwn (model X.prog X.w) X.A X.env X.xe) (hc : X.calm = true) (hi : PI X tg iter (TIt g W fi)) (hg : PG X tg (TGt g ss A)) (hb : PSs X bd (TSt g W body)) (hs : ∀ x, foldedSetIterable iter X.env x = pure x := by intro _; rfl) :
    PS X (.For tg iter bd [] pos) (TSt g W (sFor fi A body)) := (ps_for hp hc hi hg hb hs).hc fun Dn σ H h => for_of h
theorem s_while (hp : PassesOwn (model X.prog X.w) X.A X.env X.xe) (hc : PT X c (TB g W fc)) (hb : PSs X bd (TSt g W body)) : PS X (.While c bd [] pos) (TSt g W (sWhile fc body)) := (ps_while hp hc hb).hc fun Dn σ H h => while_of h
end
end HC

namespace HC
open PySem PySem.Spec L2
open PyProof.Rows hiding St

/-! ## defs -/
abbrev FnS := List D → Res
def fnSp (g : GX) (m : FnS) : Sp := fun vs H Q E => ∃ (F : FZ) (ds : List D), (∀ a, F a → ∃ o, H a = some o) ∧ RepL g H F ds vs ∧ Ok g E H F [] (m ds) Q
def startD (n : Nat) (ds : List D) : Sl := ds.map some ++ List.replicate (n - ds.length) none
/-- a def of np parameters and n names -/
def runF (np n : Nat) (body : SC) : FnS := fun ds => if ds.length = np then (match body (startD n ds) [] with
  | .rt d fr => .ok d fr
  | .nx _ _ => .ok .non false
  | .ex c as _ _ => if pureL as then .ex c as else .bad
  | _ => .bad) else .bad
theorem start_rel {g : GX} {F : FZ} {H : Hp} {N : List Str} {ds : List D} {vs : List V} (hx : g.xc = none) (dom : ∀ a, F a → ∃ o, H a = some o) (r : RepL g H F ds vs) : Rel g [] F (startD N.length ds) [] (L2.start N vs) H := by
  have hl := r.length
  refine ⟨fun i d h => ?_, ?_, fun n o h => by simp at h, rfl, List.nodup_nil, fun a h => (nomatch h), dom, fun p h => by rw [hx] at h; cases h⟩
  · unfold startD at h
    unfold L2.start
    by_cases hi : i < ds.length
    · rw [List.getElem?_append_left (by simpa using hi), List.getElem?_map] at h
      cases e : ds[i]? with
      | none => rw [e] at h; cases h
      | some d' =>
        rw [e] at h
        cases h
        obtain ⟨v, h1, h2⟩ := (r.vs (μ := [])).get e
        refine ⟨v, ?_, h2⟩
        rw [List.getElem?_append_left (by rw [List.length_map]; omega), List.getElem?_map, h1]
        rfl
    · rw [List.getElem?_append_right (by simpa using hi), List.getElem?_replicate] at h
      split at h <;> cases h
  · unfold startD L2.start
    rw [List.length_append, List.length_append, List.length_map, List.length_map, List.length_replicate, List.length_replicate, hl]
/-- the rule for a def: its body's derivation -/
theorem fn_ok {P : Program} {w : World} {K : PySem.W.Frag} {mg : Str → Option Value} {base : Heap} {g : GX} {x qual : Str} {st : Stmt} {f : Addr} {fd : FuncData} {N ps : List Str} {k : Nat} {body : SC} (Fn : L2.Fun K x qual st f fd) (Sc : FnScope N ps (defScope st)) (hx : g.xc = none)
    (hb : ∀ (cdv : Value) (A : Around) (outer : List Env) (s : Shared) (H : Hp) (E : XK), Room k (A.deeper (envOfC qual (defScope st) s.heap.objs.size f cdv)) →
      PSs (cxOf (L2.CX P w) P w K mg base N qual (defScope st) f cdv A outer s H E) (defBody st) (TSt g (fun c d _ H => E c d H) body)) :
    FnOk P w K mg base (L2.CX P w) (k + 1) f fd ps (fnSp g (runF ps.length N.length body)) := by
  refine Fn.okX Sc (fun vs H Q E h => ?_) (fun cdv A outer s H vs Q E hr h => ?_)
  · obtain ⟨F, ds, dom, r, q⟩ := h
    unfold runF at q
    split at q
    · rename_i e
      rw [← r.length, e]
    · exact q.elim
  · obtain ⟨F, ds, dom, r, q⟩ := h
    unfold runF at q
    split at q
    · refine ⟨_, hb cdv A outer s H E hr, [], F, _, [], start_rel hx dom r, ?_⟩
      cases e : body (startD N.length ds) [] with
      | nx σ' S' =>
        rw [e] at q
        intro σc' μ' F' H' l R
        have sm : Same H H' := fun a o h => l.keep a o (fun z => nomatch z) h
        exact q .non H' F' sm ⟨l.up, l.nw, R.dom⟩ (.inl ⟨rfl, .inr rfl⟩)
      | rt d fr =>
        rw [e] at q
        intro v μ' F' H' l b dm
        have sm : Same H H' := fun a o h => l.keep a o (fun z => nomatch z) h
        refine q v H' F' sm ⟨l.up, l.nw, dm⟩ ?_
        rcases b with ⟨e1, b⟩ | ⟨e1, a, ev, ha, nf, rn⟩
        · exact .inl ⟨e1, .inr b⟩
        · exact .inr ⟨e1, a, ev, (ha.elim (fun h => h) (fun z => nomatch z)), nf, fun z => (nomatch z), rn⟩
      | ex c as σ' S' =>
        rw [e] at q
        intro cls dx σc' μ' F' H' l R rx
        have sm : Same H H' := fun a o h => l.keep a o (fun z => nomatch z) h
        have q : Ok g E H F [] (if pureL as then .ex c as else .bad) Q := q
        split at q
        · rename_i hp
          obtain ⟨h1, y, vs, h2, h3, h4⟩ := rx
          exact q cls dx H' F' sm ⟨l.up, l.nw, R.dom⟩ ⟨h1, y, vs, h2, (h3.pure hp).vs, h4⟩
        · exact q.elim
      | bk _ _ => rw [e] at q; exact q.elim
      | ct _ _ => rw [e] at q; exact q.elim
      | bad => rw [e] at q; exact q.elim
    · exact q.elim

/-! ## calls -/
mutual
/-- data without lists, dicts, objects -/
def flatD : D → Bool
  | .non => true
  | .bl _ => true
  | .int _ => true
  | .str _ => true
  | .tup xs => flatDs xs
  | _ => false
def flatDs : List D → Bool
  | [] => true
  | d :: r => flatD d && flatDs r
end
section
variable {g : GX} {H : Hp} {F F' : FZ}
mutual
theorem flat_rep : ∀ (d : D) (v : V), flatD d = true → RepP g H F d v → RepP g H F' d v
  | .non, _, _, h => h
  | .bl _, _, _, h => h
  | .int _, _, _, h => h
  | .str _, _, _, h => h
  | .tup ds, v, p, h => by
    obtain ⟨a, vs, e, h1, h2⟩ := h
    exact ⟨a, vs, e, h1, flat_reps ds vs (by simpa [flatD] using p) h2⟩
  | .lst _, _, p, _ => by simp [flatD] at p
  | .rol _, _, p, _ => by simp [flatD] at p
  | .dct _ _, _, p, _ => by simp [flatD] at p
  | .obj _ _, _, p, _ => by simp [flatD] at p
  | .loc _, _, p, _ => by simp [flatD] at p
  | .err, _, p, _ => by simp [flatD] at p
theorem flat_reps : ∀ (ds : List D) (vs : List V), flatDs ds = true → RepL g H F ds vs → RepL g H F' ds vs
  | [], _, _, h => h
  | d :: ds, vs, p, h => by
    obtain ⟨v, ws, e, h1, h2⟩ := h
    simp only [flatDs, Bool.and_eq_true] at p
    exact ⟨v, ws, e, flat_rep d v p.1 h1, flat_reps ds ws p.2 h2⟩
end
end
def flatR (d : D) (fr : Bool) : Bool := match fr with
  | false => flatD d
  | true => match d with
    | .lst xs => flatDs xs
    | _ => false
def lends (S : List SO) : List D → Bool
  | [] => true
  | d :: r => (match d with
    | .loc n => (match gets S n with
      | some (.lst xs) => pureL xs
      | _ => false)
    | _ => true) && lends S r
def callD (m : FnS) (S : List SO) (ds : List D) : Res := if pureL ds then m ds else (if lends S ds then (match m (ds.map (look S)) with
  | .ok d fr => if flatR d fr then .ok d fr else .bad
  | .ex c as => if flatDs as then .ex c as else .bad
  | .bad => .bad) else .bad)
section
variable {g : GX} {μ : List Addr} {F : FZ} {σ : Sl} {S : List SO} {σc : St} {H : Hp}
/-- lists of the store are lent for a call -/
theorem Rel.lend (R : Rel g μ F σ S σc H) : ∀ {ds : List D} {vs : List V}, RepVs g H F μ ds vs → lends S ds = true → RepL g H (fun a => F a ∨ a ∈ μ) (ds.map (look S)) vs
  | _, _, .nil, _ => rfl
  | _, _, .cons (a := d) r t, p => by
    unfold lends at p
    rw [Bool.and_eq_true] at p
    obtain ⟨p1, p2⟩ := p
    refine ⟨_, _, rfl, ?_, R.lend t p2⟩
    cases d with
    | loc n =>
      simp only at p1
      split at p1
      · rename_i xs q
        have e : look S (.loc n) = .lst xs := by unfold look; simp only [q]
        rw [e]
        obtain ⟨b, vs, rfl, hm, hb, hz, rx⟩ := R.locl r q
        exact ⟨b, vs, rfl, ⟨.inr (List.mem_of_getElem? hm), hb, hz⟩, RepL.mono (Same.refl _) (fun _ h => .inl h) _ _ (rx.pure p1)⟩
      · exact nomatch p1
    | _ => exact RepP.mono (Same.refl _) (fun _ h => .inl h) _ _ (r.pure rfl)
end
end HC

namespace HC
open PySem PySem.Spec L2
open PyProof.Rows hiding St

/-! ## what a def promises, where no container is being shown -/
def RG (k : Nat) (A : Around) : Prop := Room k A ∧ A.guards = some []
structure FnG (P : Program) (w : World) (K : PySem.W.Frag) (mg : Str → Option Value) (base : Heap) (CX : CXT) (k : Nat) (f : Addr) (fd : FuncData) (ps : List Str) (sp : Sp) : Prop where
  ln : ∀ ds H Q E, sp ds H Q E → ds.length = ps.length
  go : ∀ (A : Around) (out : List Env) (s : Shared) (H : Hp) (ar : Args) (ws : List Value) (ds : List V) (Q : VK) (E : XK), RG k A → Env0 P w K mg base A out s H → BindsTo s fd ar (ps.zip ws) → Vals ds ws → sp ds H Q E → codeAny (model P w) A (.call (.ref f) ar) (CR CX out P w H s Q E) s
theorem RG.mono {j k : Nat} {A : Around} (r : RG k A) (h : j ≤ k) : RG j A := ⟨r.1.mono h, r.2⟩
theorem RG.deeper {k : Nat} {A : Around} (r : RG (k + 1) A) (env : Env) : RG k (A.deeper env) := ⟨r.1.deeper env, r.2⟩
section
variable {P : Program} {w : World} {K : PySem.W.Frag} {mg : Str → Option Value} {base : Heap} {k : Nat} {sp : Sp} {f : Addr} {fd : FuncData} {N ps : List Str}
theorem FnG.mono {CX : CXT} {j : Nat} (F : FnG P w K mg base CX j f fd ps sp) (h : j ≤ k) : FnG P w K mg base CX k f fd ps sp := ⟨F.ln, fun A o s H ar ws ds Q E r => F.go A o s H ar ws ds Q E (r.mono h)⟩
theorem fnG_of {x qual : Str} {st : Stmt} (F : L2.Fun K x qual st f fd) (S : FnScope N ps (defScope st)) (ln : ∀ ds H Q E, sp ds H Q E → ds.length = ps.length)
    (body : ∀ (cdv : Value) (A : Around) (out : List Env) (s : Shared) (H : Hp) (ds : List V) (Q : VK) (E : XK), RG k (A.deeper (envOfC qual (defScope st) s.heap.objs.size f cdv)) → sp ds H Q E →
      ∃ t, PSs (cxOf (L2.CX P w) P w K mg base N qual (defScope st) f cdv A out s H E) (defBody st) t ∧ t { nx := fun _ H1 => Q .non H1, rt := Q } (L2.start N ds) H) : FnG P w K mg base (L2.CX P w) (k + 1) f fd ps sp := by
  obtain ⟨oc, od, kV, doc, pm, an, cdv, ct, osl, rfl, lk, hcd⟩ := F.ex
  refine ⟨ln, fun A out s H ar ws ds Q E hr e0 hb r hs => ?_⟩
  have KX : K.In s.heap := e0.mod.kin.keeps fun b o e => (e0.bs b o e).1
  have lims : s.heap.NoLimit := e0.mod.nolimit.keeps fun b o e => (e0.bs b o e).1
  have kinds : ∀ z ∈ ps.zip ws, (defScope st).names.lookup z.1 = some .local ∨ ((defScope st).names.lookup z.1 = some .cell ∧ ((cellsFrom (s.heap.objs.size + 1) (defScope st).names []).lookup z.1).isSome = true) := by
    rintro ⟨n, v⟩ hz
    exact (S.par n (List.of_mem_zip hz).1).imp (fun q => q) fun q => ⟨q, PySem.W.cellsFrom_some _ _ _ (.inl q)⟩
  refine codeAny_call_function hr.1.depth (KX _ _ lk) rfl S.co S.gen rfl (PySem.W.codeRec_of KX hcd) (hb _ _ _ _ ?_)
  refine wpAny_newFunctionEnv_cells S.kind kinds fun env he s1 x => ?_
  subst he
  refine ⟨lims.keeps x.toInCall.keep, codeAny_func ?_⟩
  obtain ⟨t, ht, hq⟩ := body cdv A out s H ds Q E (hr.deeper _) hs
  have I := inv_start (CX := L2.CX P w) (P := P) (E := E) S hr.1.hd e0 (ln _ _ _ _ hs) r x
  refine wpAny_mono (ht.run [] s1 _ H _ I hq) (fun fl s' hf => ?_) fun e s' he => he
  cases fl with
  | ret u =>
    obtain ⟨v, σ', H1, J, rv, q⟩ := hf
    exact ⟨v, H1, J.os, J.bare, J.base, J.hok, rv, q⟩
  | next =>
    obtain ⟨σ', H1, J, q⟩ := hf
    exact ⟨V.non, H1, J.os, J.bare, J.base, J.hok, rfl, q⟩
  | brk => exact hf.elim fun _ h => h.elim fun _ h => False.elim h.2
  | cont => exact hf.elim fun _ h => h.elim fun _ h => False.elim h.2
end
/-- the rule for a def: its body's derivation -/
theorem fn_okG {P : Program} {w : World} {K : PySem.W.Frag} {mg : Str → Option Value} {base : Heap} {g : GX} {x qual : Str} {st : Stmt} {f : Addr} {fd : FuncData} {N ps : List Str} {k : Nat} {body : SC} (Fn : L2.Fun K x qual st f fd) (Sc : FnScope N ps (defScope st)) (hx : g.xc = none)
    (hb : ∀ (cdv : Value) (A : Around) (outer : List Env) (s : Shared) (H : Hp) (E : XK), RG k (A.deeper (envOfC qual (defScope st) s.heap.objs.size f cdv)) →
      PSs (cxOf (L2.CX P w) P w K mg base N qual (defScope st) f cdv A outer s H E) (defBody st) (TSt g (fun c d _ H => E c d H) body)) :
    FnG P w K mg base (L2.CX P w) (k + 1) f fd ps (fnSp g (runF ps.length N.length body)) := by
  refine fnG_of Fn Sc (fun vs H Q E h => ?_) (fun cdv A outer s H vs Q E hr h => ?_)
  · obtain ⟨F, ds, dom, r, q⟩ := h
    unfold runF at q
    split at q
    · rename_i e
      rw [← r.length, e]
    · exact q.elim
  · obtain ⟨F, ds, dom, r, q⟩ := h
    unfold runF at q
    split at q
    · refine ⟨_, hb cdv A outer s H E hr, [], F, _, [], start_rel hx dom r, ?_⟩
      cases e : body (startD N.length ds) [] with
      | nx σ' S' =>
        rw [e] at q
        intro σc' μ' F' H' l R
        have sm : Same H H' := fun a o h => l.keep a o (fun z => nomatch z) h
        exact q .non H' F' sm ⟨l.up, l.nw, R.dom⟩ (.inl ⟨rfl, .inr rfl⟩)
      | rt d fr =>
        rw [e] at q
        intro v μ' F' H' l b dm
        have sm : Same H H' := fun a o h => l.keep a o (fun z => nomatch z) h
        refine q v H' F' sm ⟨l.up, l.nw, dm⟩ ?_
        rcases b with ⟨e1, b⟩ | ⟨e1, a, ev, ha, nf, rn⟩
        · exact .inl ⟨e1, .inr b⟩
        · exact .inr ⟨e1, a, ev, (ha.elim (fun h => h) (fun z => nomatch z)), nf, fun z => (nomatch z), rn⟩
      | ex c as σ' S' =>
        rw [e] at q
        intro cls dx σc' μ' F' H' l R rx
        have sm : Same H H' := fun a o h => l.keep a o (fun z => nomatch z) h
        have q : Ok g E H F [] (if pureL as then .ex c as else .bad) Q := q
        split at q
        · rename_i hp
          obtain ⟨h1, y, vs, h2, h3, h4⟩ := rx
          exact q cls dx H' F' sm ⟨l.up, l.nw, R.dom⟩ ⟨h1, y, vs, h2, (h3.pure hp).vs, h4⟩
        · exact q.elim
      | bk _ _ => rw [e] at q; exact q.elim
      | ct _ _ => rw [e] at q; exact q.elim
      | bad => rw [e] at q; exact q.elim
    · exact q.elim

/-! ## calls of own defs -/
section
variable {g : GX} {E : XK} {μ : List Addr} {F : FZ} {σ : Sl} {S : List SO} {σc : St} {H : Hp}
theorem RepVs.up {F : FZ} {ds : List D} {vs : List V} (h : RepVs g H F [] ds vs) : RepVs g H F μ ds vs := Paired.mapP h fun _ _ q => q.elim (fun ⟨_, _, _, z, _⟩ => nomatch z) .inr
theorem RepVs.all {F : FZ} : ∀ {ds : List D} {vs : List V}, RepVs g H F [] ds vs → RepL g H F ds vs
  | _, _, .nil => rfl
  | _, _, .cons r t => ⟨_, _, rfl, r.elim (fun ⟨_, _, _, z, _⟩ => nomatch z) fun h => h, RepVs.all t⟩
theorem Ok.called {W : WX} {m : FnS} {ds : List D} {vs : List V} {Q : VK} (R : Rel g μ F σ S σc H) (r : RepVs g H F μ ds vs) (q : Ok g (wat W σc) H F μ (callD m S ds) Q) : fnSp g m vs H Q (WE W σc) := by
  unfold callD at q
  split at q
  · rename_i hp
    refine ⟨F, ds, R.dom, r.pure hp, ?_⟩
    cases e : m ds with
    | ok d fr =>
      rw [e] at q
      intro v H' F' sm fx rr
      refine q v H' F' sm fx ?_
      rcases rr with ⟨e1, b⟩ | ⟨e1, a, ev, ha, nf, _, rn⟩
      · exact .inl ⟨e1, b.elim (fun ⟨_, _, _, z, _⟩ => nomatch z) .inr⟩
      · refine .inr ⟨e1, a, ev, ha, nf, fun hm => ?_, rn⟩
        obtain ⟨u, eu⟩ := R.mu_there hm
        rw [ha] at eu
        exact nomatch eu
    | ex c as =>
      rw [e] at q
      intro cls dx H' F' sm fx rx
      obtain ⟨h1, y, vs, h2, h3, h4⟩ := rx
      exact q cls dx H' F' sm fx ⟨h1, y, vs, h2, h3.up, h4⟩
    | bad => rw [e] at q; exact q.elim
  · split at q
    · rename_i hp
      have hd : ∀ a, (F a ∨ a ∈ μ) → ∃ o, H a = some o := fun a h => h.elim (R.dom a) R.mu_there
      refine ⟨fun a => F a ∨ a ∈ μ, ds.map (look S), hd, R.lend r hp, ?_⟩
      cases e : m (ds.map (look S)) with
      | ok d fr =>
        rw [e] at q
        intro v H' F' sm fx rr
        have q : Ok g (wat W σc) H F μ (if flatR d fr then .ok d fr else .bad) Q := q
        split at q
        · rename_i hf
          refine q v H' F sm ⟨fun _ h => h, fun _ h => .inl h, fun a h => let ⟨o, e⟩ := R.dom a h; ⟨o, sm _ _ e⟩⟩ ?_
          rcases rr with ⟨e1, b⟩ | ⟨e1, a, ev, ha, nf, _, rn⟩
          · subst e1
            refine .inl ⟨rfl, .inr (b.elim (fun ⟨_, _, _, z, _⟩ => nomatch z) fun b => flat_rep d v hf b)⟩
          · subst e1
            cases d with
            | lst xs =>
              obtain ⟨ws, q1, q2, q3⟩ := rn
              have nF : ¬ F a := fun z => by
                obtain ⟨o, eo⟩ := R.dom a z
                rw [ha] at eo
                exact nomatch eo
              refine .inr ⟨rfl, a, ev, ha, nF, fun hm => ?_, ws, q1, q2, flat_reps xs ws hf q3⟩
              obtain ⟨u, eu⟩ := R.mu_there hm
              rw [ha] at eu
              exact nomatch eu
            | _ => exact nomatch hf
        · exact q.elim
      | ex c as =>
        rw [e] at q
        intro cls dx H' F' sm fx rx
        have q : Ok g (wat W σc) H F μ (if flatDs as then .ex c as else .bad) Q := q
        split at q
        · rename_i hf
          obtain ⟨h1, y, vs, h2, h3, h4⟩ := rx
          exact q cls dx H' F sm ⟨fun _ h => h, fun _ h => .inl h, fun a h => let ⟨o, e⟩ := R.dom a h; ⟨o, sm _ _ e⟩⟩ ⟨h1, y, vs, h2, (flat_reps as vs hf h3.all).vs, h4⟩
        · exact q.elim
      | bad => rw [e] at q; exact q.elim
    · exact q.elim
end
section
variable {X : Cx} {g : GX} {W : WX} {k : Nat} {f : Addr} {fd : FuncData} {ps ks : List Str} {m : FnS} {x : Str} {p pos : Pos} {e : Expr} {es : List Expr} {kws : List Keyword} {cf ck : CA}
theorem run_G {sp : Sp} {pins : List (Addr × Obj)} {σ : St} {H : Hp} {s : Shared} {Q : VK} {ar : Args} {ws : List Value} {vs : List V} (Fo : FnG X.prog X.w X.K X.mg X.base (L2.CX X.prog X.w) k f fd ps sp) (hr : RG k X.A) (hx : PassesAt (L2.CX X.prog X.w) X σ (WE W σ))
    (I : Inv X pins σ H s) (hb : BindsTo s fd ar (ps.zip ws)) (r : Vals vs ws) (h : sp vs H Q (WE W σ)) : wpAny (model X.prog X.w) X.A (call (.ref f) ar.pos ar.kw) (EP X pins σ Q) X.xe s := by
  refine wpAny_call (codeAny_mono (Fo.go X.A X.stack s H ar ws vs Q (WE W σ) hr I.env0 hb r h) fun r s' hq => ?_)
  cases r with
  | error e => exact hx pins H s e s' I hq
  | ok fl => cases fl with
    | ret u => exact I.after hq
    | next => exact nomatch hq
    | brk => exact nomatch hq
    | cont => exact nomatch hq
/-- f(e, ..) -/
theorem q_call (Fo : FnG X.prog X.w X.K X.mg X.base (L2.CX X.prog X.w) k f fd ps (fnSp g m)) (hr : RG k X.A) (hg : Gl X x) (hm : X.mg x = some (.ref f)) (hk : PySem.W.keepIn X.K (.ref f) = true) (hb : Binds X.K fd ps []) (tk : Takes X W) (ha : PA X (e :: es) (TL g W cf))
    (hdb : (x == ("__debug__" : Str)) = false := by decide) (he : starEach (e :: es) X.env = (false, eval e X.env) :: starEach es X.env := by rfl) (hpl : (backTo pos (starEach es X.env)).any (·.1) = false := by rfl) :
    PE X (.Call (.Name x p) (e :: es) [] pos) (T g W (cApp (callD m) cf)) := by
  refine ⟨fun pins s σ H Q I h => wpAny_Call_Name_kw (ld_glob I hg hm ?_ hdb)⟩
  refine PySem.W.callWith_K (h₀ := X.base) I.ok.mod.kin hk (thn (ha.run pos pins s σ H (fun vs H1 => fnSp g m vs H1 Q (WE W σ)) I (TL.app h fun μ F σd S H1 ds vs R r q => q.called R r)) fun us s1 ⟨vs, H1, I1, r, q⟩ => ⟨I1.kIn, ?_⟩) he hpl
  have hl : us.length = ps.length := by rw [← r.length]; exact Fo.ln _ _ _ _ q
  have b := hb s1 us I1.kIn (by rw [List.append_nil]; exact hl)
  rw [List.append_nil] at b
  exact run_G (ar := ⟨us, []⟩) Fo hr (passAt tk σ) I1 b r q
/-- f() -/
theorem q_call0 (Fo : FnG X.prog X.w X.K X.mg X.base (L2.CX X.prog X.w) k f fd ps (fnSp g m)) (hr : RG k X.A) (hg : Gl X x) (hm : X.mg x = some (.ref f)) (hk : PySem.W.keepIn X.K (.ref f) = true) (hb : Binds X.K fd ps []) (tk : Takes X W)
    (hdb : (x == ("__debug__" : Str)) = false := by decide) : PE X (.Call (.Name x p) [] [] pos) (T g W (cApp (callD m) cNil)) := by
  refine ⟨fun pins s σ H Q I h => wpAny_Call_Name_kw (ld_glob I hg hm ?_ hdb)⟩
  refine PySem.W.callWith_K0 I.kIn hk ?_
  have q : fnSp g m [] H Q (WE W σ) := by
    obtain ⟨μ, F, σd, S, R, q⟩ := h
    exact Ok.called R (ds := []) .nil q
  have hl : ([] : List Value).length = ps.length := Fo.ln _ _ _ _ q
  have b := hb s [] I.kIn (by rw [List.append_nil]; exact hl)
  rw [List.append_nil] at b
  exact run_G (ar := ⟨[], []⟩) Fo hr (passAt tk σ) I b .nil q
end
end HC

namespace HC
open PySem PySem.Spec L2
open PyProof.Rows hiding St

/-! ## calls by names -/
def pick {α : Type} (z : α) (ix : List Nat) (xs : List α) : List α := ix.map fun i => xs.getD i z
def callKw (ix : List Nat) (n : Nat) (m : FnS) (S : List SO) (ds : List D) : Res := if ds.length = n then callD m S (pick .non ix ds) else .bad
theorem paired_get {α β : Type} {R : α → β → Prop} {xs : List α} {ys : List β} (h : Paired R xs ys) : ∀ (i : Nat) (a : α) (b : β), i < xs.length → R (xs.getD i a) (ys.getD i b) := by
  induction h with
  | nil => exact fun i a b hi => absurd hi (Nat.not_lt_zero i)
  | cons r t ih =>
    intro i a b hi
    cases i with
    | zero => exact r
    | succ i => exact ih i a b (Nat.lt_of_succ_lt_succ hi)
theorem RepVs.pick {g : GX} {H : Hp} {F : FZ} {μ : List Addr} {ds : List D} {vs : List V} (r : RepVs g H F μ ds vs) : ∀ {ix : List Nat}, (∀ i ∈ ix, i < ds.length) → RepVs g H F μ (pick .non ix ds) (pick .non ix vs)
  | [], _ => .nil
  | i :: ix, h => .cons (paired_get r i _ _ (h i (List.mem_cons_self ..))) (r.pick fun j hj => h j (List.mem_cons_of_mem _ hj))
theorem vals_get {vs : List V} {us : List Value} (r : Vals vs us) : ∀ (i : Nat), i < vs.length → RelV (vs.getD i .non) (us.getD i .none) := by
  induction r with
  | nil => exact fun i hi => absurd hi (Nat.not_lt_zero i)
  | cons r t ih =>
    intro i hi
    cases i with
    | zero => exact r
    | succ i => exact ih i (Nat.lt_of_succ_lt_succ hi)
theorem vals_pick {vs : List V} {us : List Value} (r : Vals vs us) : ∀ {ix : List Nat}, (∀ i ∈ ix, i < vs.length) → Vals (pick .non ix vs) (pick .none ix us)
  | [], _ => .nil
  | i :: ix, h => .cons (vals_get r i (h i (List.mem_cons_self ..))) (vals_pick r fun j hj => h j (List.mem_cons_of_mem _ hj))
theorem _root_.L2.PK.hc {X : Cx} {kws : List Keyword} {t t' : TA} (h : PK X kws t) (w : ∀ σ H Q, t' σ H Q → t σ H Q) : PK X kws t' := ⟨fun pos pins s σ H Q I q => h.run pos pins s σ H Q I (w _ _ _ q)⟩
/-- a def's parameters, given by names -/
def BindsKw (fd : FuncData) (ps ks : List Str) (ix : List Nat) : Prop := ∀ (s : Shared) (us : List Value), us.length = ks.length → BindsTo s fd ⟨[], ks.zip us⟩ (ps.zip (pick .none ix us))
theorem bindsKw {K : PySem.W.Frag} {x qual : Str} {st : Stmt} {f : Addr} {fd : FuncData} {ps ks : List Str} {ix : List Nat} (F : L2.Fun K x qual st f fd)
    (h : ∀ (kV doc pm : Value) (an : Option Addr) (cdv ct : Value) (us : List Value), us.length = ks.length → bindArgs (PySem.W.fnOf x qual (defArgs st) (defBody st) (defScope st) .none kV doc pm an cdv ct) ⟨[], ks.zip us⟩ = pure (ps.zip (pick .none ix us))) : BindsKw fd ps ks ix := by
  obtain ⟨oc, od, kV, doc, pm, an, cdv, ct, osl, rfl, lk, hcd⟩ := F.ex
  exact fun s us hl => .of_eq (h kV doc pm an cdv ct us hl)
section
variable {X : Cx} {g : GX} {W : WX} {k : Nat} {f : Addr} {fd : FuncData} {ps ks : List Str} {m : FnS} {x : Str} {p pos kpos : Pos} {e : Expr} {kws : List Keyword} {cf : CE} {ck : CA} {nm : Option Str}
theorem qk_nil : PK X [] (TL g W cNil) := pk_nil.hc fun σc H Q ⟨μ, F, σ, S, R, q⟩ => q [] H F (Same.refl H) R.fx .nil
theorem qk_cons (ha : PE X e (T g W cf)) (hr : PK X kws (TL g W ck)) : PK X (⟨nm, e, kpos⟩ :: kws) (TL g W (cCons cf ck)) :=
  (pk_cons ha hr).hc fun σc H Q ⟨μ, F, σ, S, R, q⟩ => by
    refine ⟨μ, F, σ, S, R, ?_⟩
    unfold cCons at q
    cases ea : cf σ S with
    | bad => rw [ea] at q; exact q
    | ex c as => rw [ea] at q; exact q
    | ok d fl =>
      rw [ea] at q
      intro v H1 F1 s1 x1 r1
      obtain ⟨F2, x2, u2, rx⟩ := r1.frz x1
      refine ⟨μ, F2, σ, S, R.mono s1 x2, ?_⟩
      have q : OkL g (wat W σc) H F μ (match ck σ S with | .ok ds => .ok (d :: ds) | .ex c as => .ex c as | .bad => .bad) Q := q
      cases eb : ck σ S with
      | bad => rw [eb] at q; exact q
      | ex c as =>
        rw [eb] at q
        exact fun cls dx H' F' s' x' rr => q cls dx H' F' (s1.trans s') (x2.trans s1 x') rr
      | ok ds =>
        rw [eb] at q
        exact fun vs H3 F3 s3 x3 r3 => q (v :: vs) H3 F3 (s1.trans s3) (x2.trans s1 x3) (.cons (rx.mono s3 x3.up) r3)
/-- f(k = e, ..) -/
theorem q_callKw (ix : List Nat) (Fo : FnG X.prog X.w X.K X.mg X.base (L2.CX X.prog X.w) k f fd ps (fnSp g m)) (hr : RG k X.A) (hg : Gl X x) (hm : X.mg x = some (.ref f)) (hk : PySem.W.keepIn X.K (.ref f) = true) (hb : BindsKw fd ps ks ix) (tk : Takes X W) (ha : PK X kws (TL g W ck))
    (hix : ix.all (· < ks.length) = true := by decide) (hall : (backToKw pos (keywordEach kws X.env)).all (·.1.isSome) = true := by rfl) (hks : (backToKw pos (keywordEach kws X.env)).filterMap (·.1) = ks := by rfl) (hdb : (x == ("__debug__" : Str)) = false := by decide)
    (hpl : ((backTo pos (starEach [] X.env)).any (·.1) || (backToKw pos (keywordEach kws X.env)).any (·.1.isNone)) = false := by rfl) : PE X (.Call (.Name x p) [] kws pos) (T g W (cApp (callKw ix ks.length m) ck)) := by
  refine ⟨fun pins s σ H Q I h => wpAny_Call_Name_kw (ld_glob I hg hm ?_ hdb)⟩
  refine PySem.W.callWith_KW0 (h₀ := X.base) I.ok.mod.kin hk hall (thn (ha.run pos pins s σ H (fun vs H1 => vs.length = ks.length ∧ fnSp g m (pick .non ix vs) H1 Q (WE W σ)) I (TL.app h fun μ F σd S H1 ds vs R r q => ?_)) fun us s1 ⟨vs, H1, I1, r, hl, q⟩ => ⟨I1.kIn, ?_⟩) hpl
  · unfold callKw at q
    split at q
    · rename_i e
      exact ⟨by rw [← r.length, e], q.called R (r.pick fun i hi => by rw [e]; simpa using List.all_eq_true.mp hix i hi)⟩
    · exact q.elim
  · rw [hks]
    have r2 : Vals (pick .non ix vs) (pick .none ix us) := vals_pick r fun i hi => by rw [hl]; simpa using List.all_eq_true.mp hix i hi
    exact run_G (ar := ⟨[], ks.zip us⟩) Fo hr (passAt tk σ) I1 (hb s1 us (by rw [← r.length, hl])) r2 q
end
end HC

namespace HC
open PySem PySem.Spec L2
open PyProof.Rows hiding St

/-! ## the head -/
theorem only_rol {K : PySem.W.Frag} {H : Hp} {a : Addr} {xs : List V} (o : Only H) (h : SqL K H a xs) : Rol K H a xs := h.imp (fun h => h.elim (fun h => by
  rcases o a with z | ⟨ob, ys, z⟩
  · rw [h] at z; exact nomatch z
  · rw [h] at z; exact nomatch z) fun h => h) fun h => h
theorem reps_ints {g : GX} {H : Hp} {F : FZ} : ∀ ns : List Int, RepL g H F (ns.map D.int) (ns.map V.int)
  | [] => rfl
  | n :: ns => ⟨_, _, rfl, rfl, reps_ints ns⟩
theorem law_sp {g : GX} {m : FnS} {H : Hp} {a : Addr} {ns : List Int} (o : Only H) (h : SqL g.K H a (ns.map V.int)) (hl : ns.length ≤ sizeLine) (e : m [.rol (ns.map D.int)] = .ok (.bl true) false) :
    fnSp g m [.ref a] H (fun v _ => v = .bl true) fun _ _ _ => False := by
  refine ⟨fun _ => False, [.rol (ns.map D.int)], fun _ h => h.elim, ⟨.ref a, [], rfl, ⟨a, _, rfl, ⟨only_rol o h, by rw [List.length_map]; exact hl⟩, reps_ints ns⟩, rfl⟩, ?_⟩
  rw [e]
  intro v H' F' _ _ r
  rcases r with ⟨_, r⟩ | ⟨z, _⟩
  · exact r.elim (fun ⟨_, _, z, _⟩ => nomatch z) fun r => r
  · exact nomatch z
/-- the law's call, at the heap behind the module's body -/
theorem head_call {P : Program} {w : World} {K : PySem.W.Frag} {mg mb : Str → Option Value} {k : Nat} {fa a : Addr} {fd : FuncData} {x : Str} {sp : Sp} {s : Shared} {its : List Value} {ns : List Int} (hr : RG k callerA)
    (inK : K.In s.heap) (top : s.heap.Ns mainGlobals mg) (boot : s.heap.Ns builtinsNs mb) (hboot : ∀ x : Str, x ≠ "__name__" → mb x = bootBuiltins x) (lims : s.heap.NoLimit) (nog : s.gens = #[])
    (scr : s.heap.get? a = some { cls := .type "list", data := .seq its.toArray }) (iv : IntsAre its ns) (short : ns.length ≤ sizeLine)
    (Fo : ∀ B : Heap, K.In B → B.Ns mainGlobals mg → FnG P w K mg B (L2.CX P w) k fa fd [x] sp) (bd : ∀ (s : Shared) (u : Value), BindsTo s fd ⟨[u], []⟩ [(x, u)])
    (say : ∀ H : Hp, Only H → SqL K H a (ns.map V.int) → sp [.ref a] H (fun v _ => v = .bl true) fun _ _ _ => False)
    (noX : ∀ H e s', L2.CX P w [] H s (fun _ _ _ => False) e s' → False) :
    codeAny (model P w) callerA (.call (.ref fa) ⟨[.ref a], []⟩) (fun r s' => r = .ok (.ret (.bool true)) ∧ OldK s.heap s'.heap ∧ s'.os = s.os ∧ AllBare s'.gens) s := by
  have rv : Vals (ns.map V.int) its := vals_ints iv
  have main : ∀ H : Hp, Only H → (∀ b, H b ≠ none → b = a ∧ K.lookup a = none) → SqL K H a (ns.map V.int) → HOk P w H s.heap →
      codeAny (model P w) callerA (.call (.ref fa) ⟨[.ref a], []⟩) (fun r s' => r = .ok (.ret (.bool true)) ∧ OldK s.heap s'.heap ∧ s'.os = s.os ∧ AllBare s'.gens) s := by
    intro H only here sq ok
    have free : ∀ {b : Addr}, b ≠ a → H b = none := fun {b} nb => by
      cases q : H b with
      | none => rfl
      | some u => exact absurd (here b (by rw [q]; exact fun z => nomatch z)).1 nb
    have spaces : ∀ {b : Addr} {m : Str → Option Value}, s.heap.Ns b m → (hidT s.heap H).Ns b m := by
      rintro b m ⟨o, es, ep, e, d, r⟩
      refine ⟨o, es, ep, hidT_get e (free ?_), d, r⟩
      rintro rfl
      rw [scr] at e
      cases e
      exact nomatch d
    have kB : K.In (hidT s.heap H) := fun b o e => hidT_get (inK b o e) (by
      cases q : H b with
      | none => rfl
      | some u =>
        obtain ⟨rfl, z⟩ := here b (by rw [q]; exact fun z => nomatch z)
        rw [z] at e
        exact nomatch e)
    have md : Mod K mg (hidT s.heap H) := ⟨kB, spaces top, ⟨mb, spaces boot, hboot⟩, let ⟨mc, h1, h2⟩ := lims; ⟨mc, spaces h1, h2⟩⟩
    have e0 : Env0 P w K mg (hidT s.heap H) callerA [] s H := ⟨rfl, md, fun b o e => of_hidT e, Nat.le_of_eq (hidT_size _ _), trivial, (fun b hb => absurd (show b ∈ ([] : List Addr) from hb) List.not_mem_nil), ok, .of_eq nog⟩
    refine codeAny_mono ((Fo _ kB (spaces top)).go callerA [] s H ⟨[.ref a], []⟩ [.ref a] [.ref a] _ _ hr e0 (bd s (.ref a)) (.cons rfl .nil) (say H only sq)) fun r s' h => ?_
    cases r with
    | error e => exact (noX H e s' h).elim
    | ok fl => cases fl with
      | next => exact nomatch h
      | brk => exact nomatch h
      | cont => exact nomatch h
      | ret u =>
        obtain ⟨v, H', os, bare, un, ok', r', (rfl : v = .bl true)⟩ := h
        obtain rfl : u = Value.bool true := r'
        refine ⟨rfl, OldK.of_keep fun b o e => ?_, os, bare⟩
        rcases only b with q | ⟨ob, xs, q⟩
        · exact un.keep b o e q (fun z => nomatch z) (fun z => nomatch z)
        · have z1 := (ok b _ q).1
          have z2 := (ok' b _ (un.frzs b ob _ q)).1
          rw [e] at z1
          cases z1
          exact z2
  have len : its.length = ns.length := iv.length
  cases hk : K.lookup a with
  | some o =>
    have e := inK a o hk
    rw [scr] at e
    cases e
    exact main (fun _ => none) (fun _ => .inl rfl) (fun b z => absurd rfl z) (.inr ⟨_, its.toArray, _, hk, rfl, rfl, rfl, by rw [List.size_toArray, len]; exact short, by simpa using rv⟩) fun b u z => nomatch z
  | none =>
    have at_a : ∀ b (u : HO), (if b = a then some (HO.frz { cls := .type "list", data := .seq its.toArray } (.lst (ns.map V.int))) else none) = some u → b = a ∧ u = HO.frz { cls := .type "list", data := .seq its.toArray } (.lst (ns.map V.int)) := fun b u z => by
      split at z
      · rename_i e
        cases z
        exact ⟨e, rfl⟩
      · exact nomatch z
    refine main (fun b => if b = a then some (.frz { cls := .type "list", data := .seq its.toArray } (.lst (ns.map V.int))) else none) (fun b => ?_) (fun b z => ?_) (.inl (.inr ⟨{ cls := .type "list", data := .seq its.toArray }, if_pos rfl⟩)) fun b u z => ?_
    · by_cases hb : b = a
      · exact .inr ⟨_, _, if_pos hb⟩
      · exact .inl (if_neg hb)
    · by_cases hb : b = a
      · exact ⟨hb, hk⟩
      · exact absurd (if_neg hb) z
    · obtain ⟨rfl, rfl⟩ := at_a b u z
      exact ⟨scr, by rw [List.length_map]; exact short, its, _, rv, scr⟩
theorem walk_hc {l : PySem.W.OpenLaw} {n k : Nat} {q : Program} {loose : List Str} {XP : (Str → Option Value) → Heap → Prop} {YP : World → Heap → Prop} {d : DefRec} {K : Params → PySem.W.Frag} {gx : World → GX} {m : FnS} {x : Str}
    (hn : l.most = some n) (hn2 : n ≤ sizeLine) (hdf : d.params.defaults = []) (hr : RG k callerA) (hg : ∀ w, (gx w).K = K w.params) (inY : ∀ (w : World) (h : Heap), YP w h → (K w.params).In h)
    (Fo : ∀ (w : World) (mg : Str → Option Value) (fa : Addr) (h : Heap), (K w.params).In h → h.Ns mainGlobals mg → mg d.name = some (.ref fa) → ∃ fd : FuncData, (∀ (s : Shared) (u : Value), BindsTo s fd ⟨[u], []⟩ [(x, u)]) ∧
        ∀ B : Heap, (K w.params).In B → B.Ns mainGlobals mg → FnG l.prog w (K w.params) mg B (L2.CX l.prog w) k fa fd [x] (fnSp (gx w) m))
    (say : ∀ ns : List Int, ns.length ≤ n → m [.rol (ns.map D.int)] = .ok (.bl true) false)
    (noX : ∀ (w : World) (H : Hp) (s : Shared) (e : Value) (s' : Shared), L2.CX l.prog w [] H s (fun _ _ _ => False) e s' → False) :
    PySem.W.WalkO q loose XP YP l.row.toRowW d [] (fun f vs => PySem.call f vs) := by
  refine Att.attach_call hn hdf fun w s₀ s₁ mg mb fa o pm cd doc a vs ns G Y ho hd hcd hmg hobj hints hlen nog => ?_
  have inK := inY w _ Y
  obtain ⟨fd, hb, hF⟩ := Fo w mg fa _ inK G.T.g hmg
  exact head_call hr inK G.T.g G.T.b G.T.builtins G.T.nolimit nog hobj hints (Nat.le_trans hlen hn2) hF hb (fun H o sq => law_sp o (by rw [hg]; exact sq) (Nat.le_trans hlen hn2) (say ns hlen)) fun H e s' => noX w H s₁ e s'
end HC
namespace HC
open PySem PySem.Spec L2
theorem no_cx {P : Program} {w : World} {H : Hp} {s : Shared} {e : Value} {s' : Shared} (h : L2.CX P w [] H s (fun _ _ _ => False) e s') : False := by
  obtain ⟨_, _, _, _, _, _, _, _, _, _, _, _, z⟩ := h
  exact z
end HC

namespace HC
open PySem PySem.Spec L2
open PyProof.Rows hiding St

/-! ## isinstance -/
inductive Tg where
  | non | int | bool | str | tup | lst | dct
def tgS : Tg → String
  | .non => "NoneType" | .int => "int" | .bool => "bool" | .str => "str" | .tup => "tuple" | .lst => "list" | .dct => "dict"
def isa : Tg → Tg → Bool
  | .non, .non => true | .int, .int => true | .bool, .bool => true | .bool, .int => true | .str, .str => true | .tup, .tup => true | .lst, .lst => true | .dct, .dct => true
  | _, _ => false
theorem isa_ok : ∀ a b : Tg, b ≠ .non → kitB (tgS a) (tgS b) = some (isa a b) := by
  intro a b h
  cases a <;> cases b <;> first | exact absurd rfl h | decide +kernel
def tgD (S : List SO) : D → Option Tg
  | .non => some .non | .bl _ => some .bool | .int _ => some .int | .str _ => some .str | .tup _ => some .tup | .lst _ => some .lst | .rol _ => some .lst | .dct _ _ => some .dct
  | .obj _ _ => none
  | .loc n => match gets S n with
    | some (.lst _) => some .lst
    | some (.dct _ _) => some .dct
    | _ => none
  | .err => none
/-- the class of a value: a locked dict of tuple keys too -/
def TyY (K : PySem.W.Frag) (H : Hp) (x : V) (t : Value) : Prop := TyX K H x t ∨ ∃ (a : Addr) (o : Obj) (kvs : List (List Key × V)), x = .ref a ∧ H a = some (.frz o (.dT kvs)) ∧ t = .type "dict"
theorem kit_ofY {X : Cx} {pins : List (Addr × Obj)} {σ : St} {H : Hp} {s : Shared} {x : V} {u t : Value} (I : Inv X pins σ H s) (rx : RelV x u) (ty : TyY X.K H x t) : ∃ P : Heap → Prop, PySem.W.KitX X.K u t P ∧ P s.heap ∧ u ≠ .builtin "__main__.__loader__#opaque" := by
  rcases ty with ty | ⟨a, ob, kvs, rfl, ea, rfl⟩
  · exact kit_of I rx ty
  · cases (show u = Value.ref a from rx)
    obtain ⟨_, _, _, vs, _, o, es, ep, h1, h2, _⟩ := (show ObjOk X.prog X.w H s.heap a (.frz ob (.dT kvs)) from I.hok a _ ea)
    exact ⟨_, PySem.W.kitx_dict, ⟨o, h1, h2.1⟩, fun z => nomatch z⟩
theorem Rel.ty {g : GX} {μ : List Addr} {F : FZ} {σ : Sl} {S : List SO} {σc : St} {H : Hp} (R : Rel g μ F σ S σc H) {d : D} {v : V} {t : Tg} (r : RepV g H F μ d v) (h : tgD S d = some t) : TyY g.K H v (.type (tgS t)) := by
  cases d with
  | non => cases h; cases (show v = .non from r.pure rfl); exact .inl <| .base .non
  | bl b => cases h; cases (show v = .bl b from r.pure rfl); exact .inl <| .base (.bl _)
  | int b => cases h; cases (show v = .int b from r.pure rfl); exact .inl <| .base (.int _)
  | str b => cases h; cases (show v = .str b from r.pure rfl); exact .inl <| .base (.str _)
  | tup xs =>
    cases h
    obtain ⟨a, vs, rfl, ⟨h1, _⟩, _⟩ := (r.pure rfl : RepP g H F (.tup xs) v)
    rcases h1 with (h1 | ⟨ob, h1⟩) | ⟨o, its, n, h1, h2, _⟩
    · exact .inl <| .base (.tup h1)
    · exact .inl <| .fTuple h1
    · exact .inl <| .kTuple h1 h2
  | lst xs =>
    cases h
    obtain ⟨a, vs, rfl, ⟨_, h1, _⟩, _⟩ := (r.pure rfl : RepP g H F (.lst xs) v)
    exact .inl <| .base (.lst h1)
  | rol xs =>
    cases h
    obtain ⟨a, vs, rfl, ⟨h1, _⟩, _⟩ := (r.pure rfl : RepP g H F (.rol xs) v)
    rcases h1 with ⟨ob, h1⟩ | ⟨o, its, n, h1, h2, _⟩
    · exact .inl <| .base (.frz h1)
    · exact .inl <| .kList h1 h2
  | dct ks xs =>
    cases h
    obtain ⟨a, vs, rfl, _, _, h1⟩ := (r.pure rfl : RepP g H F (.dct ks xs) v)
    rcases h1 with ⟨kvs, (h1 | ⟨ob, h1⟩), _⟩ | ⟨kvs, h1, _⟩
    · exact .inl <| .base (.dK h1)
    · exact .inl <| .fDict h1
    · rcases h1 with h1 | ⟨ob, h1⟩
      · exact .inl <| .base (.dT h1)
      · exact .inr ⟨a, ob, kvs, rfl, h1, rfl⟩
  | obj c xs => cases h
  | err => cases h
  | loc n =>
    have h : (match gets S n with | some (.lst _) => some Tg.lst | some (.dct _ _) => some Tg.dct | _ => none) = some t := h
    rcases r with ⟨m, a, e, hm, rfl⟩ | r
    · cases e
      split at h
      · rename_i xs q
        cases h
        obtain ⟨b, h1, h2⟩ := R.st n _ ((gets_eq S n).symm.trans q)
        rw [hm] at h1
        cases h1
        obtain ⟨vs, h3, _⟩ := h2
        exact .inl <| .base (.lst h3)
      · rename_i ks xs q
        cases h
        obtain ⟨b, h1, h2⟩ := R.st n _ ((gets_eq S n).symm.trans q)
        rw [hm] at h1
        cases h1
        obtain ⟨vs, _, h3⟩ := h2
        rcases h3 with ⟨kvs, h3, _⟩ | ⟨kvs, h3, _⟩
        · exact .inl <| .base (.dK h3)
        · exact .inl <| .base (.dT h3)
      · cases h
    · exact r.elim
/-- isinstance(x, c), isinstance(x, (c1, ..)) -/
def fIsi (cs : List Tg) (S : List SO) (ds : List D) : Res := match ds with
  | [d] => match tgD S d with
    | some t => .ok (.bl (cs.any (isa t))) false
    | none => .bad
  | _ => .bad
def rIs1 (K : PySem.W.Frag) : List V → Hp → VK → Prop := fun xs H Q => ∃ (x c : V) (t u : Value) (b : Bool), xs = [x, c] ∧ ClsV c u ∧ TyY K H x t ∧ PySem.W.kitOne K t u = some b ∧ Q (.bl b) H
def rIsN (K : PySem.W.Frag) : List V → Hp → VK → Prop := fun xs H Q => ∃ (x : V) (tp : Addr) (cs : List V) (t : Value) (us : List Value) (b : Bool), xs = [x, .ref tp] ∧ H tp = some (.tup cs) ∧ Paired ClsV cs us ∧ TyY K H x t ∧ PySem.W.kitAny K t us = some b ∧ Q (.bl b) H
theorem call_is1 {X : Cx} : CallR X (.builtin "isinstance") (rIs1 X.K) := by
  intro pins s σ H xs us Q I r ⟨x, c, t, u, b, e1, k, ty, e, q⟩
  subst e1
  obtain ⟨u1, u2, rfl, r1, r2⟩ := vals2 r
  obtain rfl := k.eq r2
  obtain ⟨P, Z, p, hx⟩ := kit_ofY I r1 ty
  exact PySem.W.kia_one Z I.kIn p e hx fun tk => ⟨.bl b, H, I.tok tk, rfl, q⟩
theorem call_isN {X : Cx} : CallR X (.builtin "isinstance") (rIsN X.K) := by
  intro pins s σ H xs us Q I r ⟨x, tp, cs, t, ws, b, e1, hT, k, ty, e, q⟩
  subst e1
  obtain ⟨u1, u2, rfl, r1, r2⟩ := vals2 r
  obtain rfl : u2 = Value.ref tp := r2
  obtain ⟨P, Z, p, hx⟩ := kit_ofY I r1 ty
  obtain ⟨_, its, rv, o, h1, h2, n, h3⟩ := (show ObjOk X.prog X.w H s.heap tp (.tup cs) from I.hok tp _ hT)
  obtain rfl := ClsV.all k rv
  obtain ⟨oc, od, dt, sl⟩ := o
  simp only at h2 h3
  subst h2 h3
  exact PySem.W.kia_tup Z I.kIn p h1 e hx fun tk => ⟨.bl b, H, I.tok tk, rfl, q⟩
/-- a built-in class by its name -/
structure PCl (X : Cx) (e : Expr) (t : Tg) : Prop where
  pe : PE X e (tC (.ty (tgS t)))
  nn : t ≠ .non
section
variable {X : Cx} {g : GX} {W : WX} {e c : Expr} {es : List Expr} {f : CE} {pos p pc : Pos} {t : Tg} {ts : List Tg}
theorem pcl {x : Str} (hg : Gl X x) (hm : X.mg x = none) (hv : bootBuiltins x = some (.type (tgS t))) (nn : t ≠ .non := by intro z; cases z) (hn : x ≠ "__name__" := by decide) (hdb : (x == ("__debug__" : Str)) = false := by decide) : PCl X (.Name x p) t :=
  ⟨pe_bltn hg hm hv rfl hn hdb, nn⟩
inductive PCls (X : Cx) : List Expr → List Tg → Prop
  | nil : PCls X [] []
  | cons {e : Expr} {t : Tg} {es : List Expr} {ts : List Tg} (h : PCl X e t) (r : PCls X es ts) (hs : starEach (e :: es) X.env = (false, eval e X.env) :: starEach es X.env := by rfl) : PCls X (e :: es) (t :: ts)
theorem PCls.pa (h : PCls X es ts) : PA X es (fun _ H Q => Q (ts.map fun t => V.ty (tgS t)) H) := by
  induction h with
  | nil => exact pa_nil
  | cons h r hs ih => exact (pa_cons h.pe ih hs).hc fun _ _ _ q => q
theorem PCls.all (K : PySem.W.Frag) (a : Tg) (h : PCls X es ts) : PySem.W.kitAny K (.type (tgS a)) (ts.map fun t => Value.type (tgS t)) = some (ts.any (isa a)) := by
  induction h with
  | nil => rfl
  | @cons e t es ts h r hs ih =>
    rw [List.map_cons, List.any_cons]
    refine kitAny_cons (kit_ty (isa_ok a t h.nn)) (fun z => ?_) fun z => by rw [z]; rfl
    rw [z]
    exact ih
theorem cls_pairs : ∀ ts : List Tg, Paired ClsV (ts.map fun t => V.ty (tgS t)) (ts.map fun t => Value.type (tgS t))
  | [] => .nil
  | t :: ts => .cons (.ty _) (cls_pairs ts)
variable {x : Str}
theorem q_isi (hg : Gl X "isinstance") (hm : X.mg "isinstance" = none) (hK : X.K = g.K) (he : PE X e (T g W f)) (hc : PCl X c t)
    (hs1 : starEach [e, c] X.env = (false, eval e X.env) :: starEach [c] X.env := by rfl) (hs2 : starEach [c] X.env = (false, eval c X.env) :: starEach [] X.env := by rfl) (hpl : (backTo pos (starEach [c] X.env)).any (·.1) = false := by rfl) :
    PE X (.Call (.Name "isinstance" p) [e, c] [] pos) (T g W (cApp (fIsi [t]) (cCons f cNil))) :=
  (pe_callB call_is1 hg hm (by decide +kernel) (pa_cons he (pa_cons hc.pe pa_nil hs2) hs1) (by decide) (by decide) hs1 hpl).hc fun σc H Q ⟨μ, F, σ, S, R, q⟩ => by
    refine ⟨μ, F, σ, S, R, ?_⟩
    unfold cApp cCons cNil at q
    cases ea : f σ S with
    | bad => rw [ea] at q; exact q
    | ex c as => rw [ea] at q; exact q
    | ok d fl =>
      rw [ea] at q
      intro v H1 F1 s1 x1 r1
      obtain ⟨F2, x2, u2, rx⟩ := r1.frz x1
      have q : Ok g (wat W σc) H F μ (match tgD S d with | some a => .ok (.bl ([t].any (isa a))) false | none => .bad) Q := q
      cases et : tgD S d with
      | none => rw [et] at q; exact q.elim
      | some a =>
        rw [et] at q
        refine ⟨v, _, _, _, isa a t, rfl, .ty (tgS t), by rw [hK]; exact (R.mono s1 x2).ty rx et, kit_ty (isa_ok a t hc.nn), ?_⟩
        have q2 := (q.from s1 x2).here (R.mono s1 x2).dom (v := .bl (isa a t)) (.inr (by show _ = _; rw [List.any_cons, List.any_nil, Bool.or_false]))
        exact q2
theorem q_isN {n1} (hg : Gl X "isinstance") (hm : X.mg "isinstance" = none) (hK : X.K = g.K) (he : PE X e (T g W f)) (hc : PCls X es ts) (hz : ts.length ≤ 1000)
    (hs1 : starEach [e, .Tuple es n1 pc] X.env = (false, eval e X.env) :: starEach [.Tuple es n1 pc] X.env := by rfl) (hs2 : starEach [.Tuple es n1 pc] X.env = (false, eval (.Tuple es n1 pc) X.env) :: starEach [] X.env := by rfl) (hpl : (backTo pos (starEach [.Tuple es n1 pc] X.env)).any (·.1) = false := by rfl) :
    PE X (.Call (.Name "isinstance" p) [e, .Tuple es n1 pc] [] pos) (T g W (cApp (fIsi ts) (cCons f cNil))) :=
  (pe_callB call_isN hg hm (by decide +kernel) (pa_cons he (pa_cons (pe_tup hc.pa) pa_nil hs2) hs1) (by decide) (by decide) hs1 hpl).hc fun σc H Q ⟨μ, F, σ, S, R, q⟩ => by
    refine ⟨μ, F, σ, S, R, ?_⟩
    unfold cApp cCons cNil at q
    cases ea : f σ S with
    | bad => rw [ea] at q; exact q
    | ex c as => rw [ea] at q; exact q
    | ok d fl =>
      rw [ea] at q
      intro v H1 F1 s1 x1 r1
      obtain ⟨F2, x2, u2, rx⟩ := r1.frz x1
      have q : Ok g (wat W σc) H F μ (match tgD S d with | some a => .ok (.bl (ts.any (isa a))) false | none => .bad) Q := q
      cases et : tgD S d with
      | none => rw [et] at q; exact q.elim
      | some a =>
        rw [et] at q
        refine ⟨by rw [List.length_map]; exact Nat.le_trans hz (by decide), fun tp no => ?_⟩
        have sm : Same H1 (upd H1 tp (.tup (ts.map fun t => V.ty (tgS t)))) := same_new no
        have fx : FX F2 H1 F2 (upd H1 tp (.tup (ts.map fun t => V.ty (tgS t)))) := ⟨fun _ h => h, fun _ h => .inl h, fun a h => let ⟨o, e⟩ := (R.mono s1 x2).dom a h; ⟨o, sm _ _ e⟩⟩
        have R2 := (R.mono s1 x2).mono sm fx
        refine ⟨v, tp, _, _, _, _, rfl, upd_same, cls_pairs ts, by rw [hK]; exact R2.ty (rx.mono sm fun _ h => h) et, hc.all X.K a, ?_⟩
        exact ((q.from s1 x2).from sm fx).here R2.dom (.inr rfl)
end
end HC

namespace HC
open PySem PySem.Spec L2
open PyProof.Rows hiding St

/-! ## repr -/
def pyK : D → Option PyData
  | .int i => some (.int i)
  | .str x => some (.str x)
  | _ => none
def pyKs : List D → Option (List PyData)
  | [] => some []
  | d :: r => match pyK d, pyKs r with
    | some x, some xs => some (x :: xs)
    | _, _ => none
mutual
/-- what repr sees; lists (l) or dicts, not both -/
def pyD (l : Bool) : D → Option PyData
  | .non => some .none
  | .bl b => some (.bool b)
  | .int i => some (.int i)
  | .str x => some (.str x)
  | .tup ds => match pyDs l ds with
    | some xs => some (.tuple xs)
    | none => none
  | .lst ds => if l then (match pyDs l ds with
    | some xs => some (.list xs)
    | none => none) else none
  | .rol ds => if l then (match pyDs l ds with
    | some xs => some (.list xs)
    | none => none) else none
  | .dct ks ds => if l then none else (match pyKs ks, pyDs l ds with
    | some a, some xs => some (.dict (a.zip xs))
    | _, _ => none)
  | _ => none
def pyDs (l : Bool) : List D → Option (List PyData)
  | [] => some []
  | d :: r => match pyD l d, pyDs l r with
    | some x, some xs => some (x :: xs)
    | _, _ => none
end
section
variable {X : Cx} {pins : List (Addr × Obj)} {σ : St} {H : Hp} {s : Shared} {g : GX} {F : FZ} {l : Bool}
theorem pyKs_length : ∀ {ks : List D} {a : List PyData}, pyKs ks = some a → a.length = ks.length
  | [], _, h => by cases h; rfl
  | d :: r, a, h => by
    unfold pyKs at h
    split at h
    · rename_i x xs e1 e2
      cases h
      rw [List.length_cons, List.length_cons, pyKs_length e2]
    · cases h
theorem pyDs_length : ∀ {ks : List D} {a : List PyData}, pyDs l ks = some a → a.length = ks.length
  | [], _, h => by cases h; rfl
  | d :: r, a, h => by
    unfold pyDs at h
    split at h
    · rename_i x xs e1 e2
      cases h
      rw [List.length_cons, List.length_cons, pyDs_length e2]
    · cases h
theorem keys_read {P : Program} {w : World} {h : Heap} : ∀ {es : List DictEntry} {vs : List (Key × Value)} {kvs : List (Key × V)} {a : List PyData}, Pairs (mixKind P w) es vs → KV kvs vs → pyKs (kvs.map fun p => keyD p.1) = some a →
    ReadsAll h (es.map (·.key)) a [] ∧ Vals (kvs.map (·.2)) (es.map (·.val))
  | _, _, _, a, .nil, k, e => by
    cases k
    cases e
    exact ⟨.nil, .nil⟩
  | _, _, _, a, .cons (e := e0) (kv := y) hk hv t, k, e => by
    cases k with
    | @cons x _ xs _ r t2 =>
      obtain ⟨k1, v1⟩ := x
      obtain ⟨k2, v2⟩ := y
      obtain ⟨rfl, rv⟩ := r
      rw [List.map_cons] at e
      unfold pyKs at e
      split at e
      · rename_i z zs e1 e2
        cases e
        obtain ⟨h1, h2⟩ := keys_read (h := h) t t2 e2
        refine ⟨?_, .cons (by show L2.RelV v1 e0.val; rw [show e0.val = v2 from hv]; exact rv) h2⟩
        rw [List.map_cons]
        refine .cons (as := []) (bs := []) ?_ h1
        rcases keyIs_shape hk with ⟨i, t, rfl, ev⟩ | ⟨x, t, rfl, ev⟩
        · rw [ev]; cases e1; exact .int _ _
        · rw [ev]; cases e1; exact .str _ _
      · cases e
def Seen (l : Bool) (x : Bool) (as : List Addr) : Prop := (l = true → x = false) ∧ (l = false → ∀ b ∈ as, b ≠ sysModules)
theorem zip_fst {α β : Type} : ∀ {a : List α} {b : List β}, a.length = b.length → (a.zip b).map (·.1) = a
  | [], [], _ => rfl
  | x :: a, y :: b, h => by rw [List.zip_cons_cons, List.map_cons, zip_fst (Nat.succ.inj h)]
theorem zip_snd {α β : Type} : ∀ {a : List α} {b : List β}, a.length = b.length → (a.zip b).map (·.2) = b
  | [], [], _ => rfl
  | x :: a, y :: b, h => by rw [List.zip_cons_cons, List.map_cons, zip_snd (Nat.succ.inj h)]
mutual
theorem reads (I : Inv X pins σ H s) (hK : X.K = g.K) : ∀ (d : D) (v : V) (u : Value) (x : PyData), RepP g H F d v → RelV v u → pyD l d = some x → ∃ as, Reads s.heap u x as ∧ Seen l x.hasDict as
  | .non, v, u, x, r, rv, e => by
    cases e
    cases (show v = .non from r)
    cases (show u = Value.none from rv)
    exact ⟨_, .none, fun _ => rfl, fun _ b h => nomatch h⟩
  | .bl k, v, u, x, r, rv, e => by
    cases e
    cases (show v = .bl k from r)
    cases (show u = Value.bool k from rv)
    exact ⟨_, .bool _, fun _ => rfl, fun _ b h => nomatch h⟩
  | .int k, v, u, x, r, rv, e => by
    cases e
    cases (show v = .int k from r)
    obtain ⟨t, rfl⟩ := rv
    exact ⟨_, .int _ _, fun _ => rfl, fun _ b h => nomatch h⟩
  | .str k, v, u, x, r, rv, e => by
    cases e
    cases (show v = .str k from r)
    obtain ⟨t, rfl⟩ := rv
    exact ⟨_, .str _ _, fun _ => rfl, fun _ b h => nomatch h⟩
  | .tup ds, v, u, x, r, rv, e => by
    obtain ⟨a, vs, rfl, ⟨h1, _⟩, h2⟩ := r
    cases (show u = Value.ref a from rv)
    unfold pyD at e
    split at e
    · rename_i xs e2
      cases e
      rw [← hK] at h1
      obtain ⟨its, rvs, ⟨o, q1, q2, n, q3⟩, _⟩ := I.tuple h1
      obtain ⟨as, q4, q5⟩ := reads_all I hK ds vs its xs h2 rvs e2
      exact ⟨as, .tuple q1 q2 q3 (by simpa using q4), q5⟩
    · cases e
  | .lst ds, v, u, x, r, rv, e => by
    obtain ⟨a, vs, rfl, h1, h2⟩ := r
    cases (show u = Value.ref a from rv)
    unfold pyD at e
    split at e
    · rename_i hl
      split at e
      · rename_i xs e2
        cases e
        obtain ⟨its, rvs, ⟨o, n, q1, q2, _, q3⟩, _⟩ := I.list (.inl (.inl h1.2.1))
        obtain ⟨as, q4, q5⟩ := reads_all I hK ds vs its xs h2 rvs e2
        exact ⟨_, .list q1 q2 q3 (by simpa using q4), q5.1, fun z => by rw [hl] at z; cases z⟩
      · cases e
    · cases e
  | .rol ds, v, u, x, r, rv, e => by
    obtain ⟨a, vs, rfl, ⟨h1, _⟩, h2⟩ := r
    cases (show u = Value.ref a from rv)
    unfold pyD at e
    split at e
    · rename_i hl
      split at e
      · rename_i xs e2
        cases e
        rw [← hK] at h1
        obtain ⟨its, rvs, ⟨o, n, q1, q2, _, q3⟩, _⟩ := I.list h1.sq
        obtain ⟨as, q4, q5⟩ := reads_all I hK ds vs its xs h2 rvs e2
        exact ⟨_, .list q1 q2 q3 (by simpa using q4), q5.1, fun z => by rw [hl] at z; cases z⟩
      · cases e
    · cases e
  | .dct ks ds, v, u, x, r, rv, e => by
    obtain ⟨a, vs, rfl, _, h2, h3⟩ := r
    cases (show u = Value.ref a from rv)
    unfold pyD at e
    split at e
    · cases e
    · rename_i hl
      split at e
      · rename_i ka xs e1 e2
        cases e
        have hlen : ds.length = ks.length := by
          rw [h2.length]
          rcases h3 with ⟨kvs, _, rfl, rfl⟩ | ⟨kvs, _, rfl, rfl⟩ <;> rw [List.length_map, List.length_map]
        have hz : ka.length = xs.length := by rw [pyKs_length e1, pyDs_length e2, hlen]
        rcases h3 with ⟨kvs, q, rfl, rfl⟩ | ⟨kvs, q, rfl, rfl⟩
        · obtain ⟨_, ns, ws, kv, o, es, ep, q1, q2, q3, _, q4, _⟩ := dk_rd I.hok q
          obtain ⟨r1, r2⟩ := keys_read (h := s.heap) q4 kv e1
          obtain ⟨as, q5, q6⟩ := reads_all I hK ds _ _ xs h2 r2 e2
          refine ⟨_, .dict (as := []) (bs := as) q1 q2.1 q3 (by rw [zip_fst hz]; simpa using r1) (by rw [zip_snd hz]; simpa using q5), fun z => absurd z hl, fun z b hb => ?_⟩
          rcases List.mem_cons.mp hb with rfl | hb
          · exact beq_eq_false_iff_ne.mp ns
          · exact q6.2 z b (by simpa using hb)
        · cases kvs with
          | cons p kvs => cases e1
          | nil =>
            obtain ⟨_, ns, ws, kv, o, es, ep, q1, q2, q3, q4, _⟩ := dt_rd I.hok q
            cases kv
            have z1 : es.toList = [] := q4
            cases e1
            have z2 : xs = [] := List.length_eq_zero_iff.mp hz.symm
            subst z2
            refine ⟨_, .dict (as := []) (bs := []) q1 q2.1 q3 (by rw [z1]; exact .nil) (by rw [z1]; exact .nil), fun z => absurd z hl, fun z b hb => ?_⟩
            rcases List.mem_cons.mp hb with rfl | hb
            · exact beq_eq_false_iff_ne.mp ns
            · exact nomatch hb
      · cases e
  | .obj _ _, _, _, _, _, _, e => by cases e
  | .loc _, _, _, _, _, _, e => by cases e
  | .err, _, _, _, _, _, e => by cases e
theorem reads_all (I : Inv X pins σ H s) (hK : X.K = g.K) : ∀ (ds : List D) (vs : List V) (us : List Value) (xs : List PyData), RepL g H F ds vs → Vals vs us → pyDs l ds = some xs → ∃ as, ReadsAll s.heap us xs as ∧ Seen l (PyData.hasDictAll xs) as
  | [], vs, us, xs, r, rv, e => by
    cases (show vs = [] from r)
    cases rv
    cases e
    exact ⟨_, .nil, fun _ => rfl, fun _ b h => nomatch h⟩
  | d :: ds, vs, us, xs, r, rv, e => by
    obtain ⟨v, ws, rfl, h1, h2⟩ := r
    cases rv with
    | cons r1 r2 =>
      unfold pyDs at e
      split at e
      · rename_i y ys e1 e2
        cases e
        obtain ⟨as, q1, q2⟩ := reads I hK d v _ y h1 r1 e1
        obtain ⟨bs, q3, q4⟩ := reads_all I hK ds ws _ ys h2 r2 e2
        refine ⟨_, .cons q1 q3, fun z => ?_, fun z b hb => (List.mem_append.mp hb).elim (q2.2 z b) (q4.2 z b)⟩
        show (y.hasDict || PyData.hasDictAll ys) = false
        rw [q2.1 z, q4.1 z]
        rfl
      · cases e
end
end
/-- repr -/
def shw (x : PyData) : Res := if x.showable && decide (x.depth ≤ 60) && decide (x.shown.length ≤ lim) then .ok (.str x.shown) false else .bad
def fRepr (S : List SO) (ds : List D) : Res := match ds with
  | [d] => if lends S [d] then (match pyD true (look S d) with
    | some x => shw x
    | none => match pyD false (look S d) with
      | some x => shw x
      | none => .bad) else .bad
  | _ => .bad
def rRep (g : GX) : List V → Hp → VK → Prop := fun xs H Q => ∃ (F : FZ) (d : D) (v : V) (l : Bool) (x : PyData), xs = [v] ∧ RepP g H F d v ∧ pyD l d = some x ∧ x.showable = true ∧ x.depth ≤ 60 ∧ x.shown.length ≤ sizeLine ∧ Q (.str x.shown) H
theorem call_rep {X : Cx} {g : GX} {k : Nat} (hK : X.K = g.K) (hr : RG k X.A) : CallR X (.builtin "repr") (rRep g) := by
  intro pins s σ H xs us Q I rv ⟨F, d, v, l, x, e, r, ex, h1, h2, h3, q⟩
  subst e
  obtain ⟨u, rfl, ru⟩ := vals1 rv
  obtain ⟨as, rd, se⟩ := reads I hK d v u x r ru ex
  have go : ∀ (h' : Heap) (t tk : Tok), (∀ b o, s.heap.get? b = some o → h'.get? b = some o) → EP X pins σ Q (.str x.shown t) { s with heap := h', toks := tk } := fun h' t tk hk => ⟨.str x.shown, H, I.kept hk, ⟨t, rfl⟩, q⟩
  have hsm : x.hasDict = true → sysModules ∉ as := fun z m => by
    cases l with
    | true => rw [se.1 rfl] at z; cases z
    | false => exact se.2 rfl _ m rfl
  have hu : X.A.units + (x.depth + 1) < cLine := by have := hr.1.units; omega
  cases rd with
  | none => exact PySem.P.repr_of_none (go _ _ _ fun _ _ z => z)
  | bool b => exact PySem.P.repr_of_bool (go _ _ _ fun _ _ z => z)
  | int i t => exact PySem.P.repr_of_int (by simpa [PyData.showable] using h1) (go _ _ _ fun _ _ z => z)
  | str y t => exact PySem.P.repr_of_str (go _ _ _ fun _ _ z => z) h3
  | list a b c d => exact repr_of_reads' (h₀ := s.heap) (.list a b c d) h1 hsm hr.2 hu (fun _ _ e => e) go h3
  | tuple a b c d => exact repr_of_reads' (h₀ := s.heap) (.tuple a b c d) h1 hsm hr.2 hu (fun _ _ e => e) go h3
  | dict a b c d e => exact repr_of_reads' (h₀ := s.heap) (.dict a b c d e) h1 hsm hr.2 hu (fun _ _ e => e) go h3
theorem lk_repr {g : GX} : LkC g (rRep g) fRepr := by
  intro E μ F σ S σc H ds vs Q R r q
  unfold fRepr at q
  split at q
  · rename_i d
    split at q
    · rename_i hl
      obtain ⟨v, ws, rfl, h1, h2⟩ := R.lend r hl
      cases (show ws = [] from h2)
      have fin : ∀ {l : Bool} {x : PyData}, pyD l (look S d) = some x → Ok g E H F μ (shw x) Q → rRep g [v] H Q := fun {l x} ex q => by
        unfold shw at q
        split at q
        · rename_i hc
          simp only [Bool.and_eq_true, decide_eq_true_eq] at hc
          exact ⟨_, _, v, l, x, rfl, h1, ex, hc.1.1, hc.1.2, by rw [lim_eq]; exact hc.2, q.here R.dom (.inr rfl)⟩
        · exact q.elim
      split at q
      · rename_i x ex
        exact fin ex q
      · split at q
        · rename_i x ex
          exact fin ex q
        · exact q.elim
    · exact q.elim
  · exact q.elim
end HC

namespace HC
open PySem PySem.Spec L2
open PyProof.Rows hiding St

/-! ## sorted -/
def insI (x : Int) : List Int → List Int
  | [] => [x]
  | y :: r => if x ≤ y then x :: y :: r else y :: insI x r
def sortU : List Int → List Int
  | [] => []
  | x :: r => insI x (sortU r)
def sortI (b : Bool) (ns : List Int) : List Int := if b then (sortU ns).reverse else sortU ns
theorem insI_perm (x : Int) : ∀ l : List Int, (insI x l).Perm (x :: l)
  | [] => .refl _
  | y :: r => by
    unfold insI
    split
    · exact .refl _
    · exact ((insI_perm x r).cons y).trans (.swap x y r)
theorem sortU_perm : ∀ l : List Int, (sortU l).Perm l
  | [] => .refl _
  | x :: r => (insI_perm x _).trans ((sortU_perm r).cons x)
theorem insI_mem {x z : Int} {l : List Int} (h : z ∈ insI x l) : z = x ∨ z ∈ l := List.mem_cons.mp ((insI_perm x l).mem_iff.mp h)
theorem insI_ord (x : Int) : ∀ {l : List Int}, l.Pairwise (· ≤ ·) → (insI x l).Pairwise (· ≤ ·)
  | [], _ => List.pairwise_singleton _ _
  | y :: r, h => by
    have h2 := List.pairwise_cons.mp h
    unfold insI
    split
    · rename_i hx
      refine List.pairwise_cons.mpr ⟨fun z hz => ?_, h⟩
      rcases List.mem_cons.mp hz with rfl | hz
      · exact hx
      · exact Int.le_trans hx (h2.1 z hz)
    · rename_i hx
      refine List.pairwise_cons.mpr ⟨fun z hz => ?_, insI_ord x h2.2⟩
      rcases insI_mem hz with rfl | hz
      · omega
      · exact h2.1 z hz
theorem sortU_ord : ∀ l : List Int, (sortU l).Pairwise (· ≤ ·)
  | [] => .nil
  | x :: r => insI_ord x (sortU_ord r)
theorem sortU_of {a b : List Int} (p : a.Perm b) (o : a.Pairwise (· ≤ ·)) : a = sortU b := PySem.W.ksm_same (p.trans (sortU_perm b).symm) o (sortU_ord b)
theorem sortI_of {k : Bool} {a b : List Int} (p : a.Perm b) (o : OrdB k a) : a = sortI k b := by
  cases k with
  | false => exact sortU_of p o
  | true =>
    have o2 : a.reverse.Pairwise (· ≤ ·) := List.pairwise_reverse.mpr o
    have e := sortU_of ((List.reverse_perm a).trans p) o2
    show a = (sortU b).reverse
    rw [← e, List.reverse_reverse]
def fSorted (k : Bool) (S : List SO) (ds : List D) : Res := match ds with
  | [d] => match rdOf S d with
    | some xs => match intsOf xs with
      | some ns => .ok (.lst ((sortI k ns).map .int)) true
      | none => .bad
    | none => .bad
  | _ => .bad
theorem reps_int {g : GX} {H : Hp} {F : FZ} (ns : List Int) : RepL g H F (ns.map D.int) (ns.map V.int) := reps_ints ns
theorem fSorted_run {g : GX} {k : Bool} {E : XK} {μ : List Addr} {F : FZ} {σ : Sl} {S : List SO} {σc : St} {H : Hp} {ds : List D} {vs : List V} {Q : VK} (R : Rel g μ F σ S σc H) (r : RepVs g H F μ ds vs) (q : Ok g E H F μ (fSorted k S ds) Q) :
    ∃ (a : Addr) (ns : List Int), vs = [V.ref a] ∧ SqL g.K H a (ns.map V.int) ∧ ∀ (ns' : List Int) (p : Addr), ns'.Perm ns → OrdB k ns' → H p = none → Q (.ref p) (upd H p (.lst (ns'.map V.int))) := by
  unfold fSorted at q
  split at q
  · obtain ⟨v, rfl, rv⟩ := r.one
    split at q
    · rename_i xs ex
      split at q
      · rename_i ns en
        obtain ⟨a, ws, rfl, h1, h2, h3⟩ := R.rd rv ex
        have e := h3.ints en
        subst e
        refine ⟨a, ns, rfl, h1, fun ns' p hp ho hn => ?_⟩
        have e2 := sortI_of hp ho
        subst e2
        exact q.lst R.dom (fun a h => R.mu_there h) hn (by rw [List.length_map, hp.length_eq, ← List.length_map (f := V.int)]; exact h2) (reps_ints _)
      · exact q.elim
    · exact q.elim
  · exact q.elim
theorem lk_sorted {g : GX} : LkC g (rSortedI g.K) (fSorted false) := by
  intro E μ F σ S σc H ds vs Q R r q
  obtain ⟨a, ns, h1, h2, h3⟩ := fSorted_run R r q
  exact ⟨a, ns, h1, h2, fun ns' p hp ho => h3 ns' p hp ho⟩
section
variable {X : Cx} {g : GX} {W : WX} {e : Expr} {f : CA} {p pos kpos pp : Pos} {j : Nat}
theorem q_sortedRev {k : Bool} (hK : X.K = g.K) (hg : Gl X "sorted") (hm : X.mg "sorted" = none) (ha : PA X [e] (TL g W f))
    (he : backTo pos (starEach [e] X.env) = (false, eval e X.env) :: backTo pos (starEach [] X.env) := by rfl) (hpl : (backTo pos (starEach [e] X.env)).any (·.1) = false := by rfl)
    (hall : (backToKw pos (keywordEach [⟨some "reverse", .Constant (.bool k) j pp, kpos⟩] X.env)).all (·.1.isSome) = true := by rfl) (hnone : (backToKw pos (keywordEach [⟨some "reverse", .Constant (.bool k) j pp, kpos⟩] X.env)).any (·.1.isNone) = false := by rfl)
    (hks : (backToKw pos (keywordEach [⟨some "reverse", .Constant (.bool k) j pp, kpos⟩] X.env)).filterMap (·.1) = [Str.ofString "reverse"] := by rfl) :
    PE X (.Call (.Name "sorted" p) [e] [⟨some "reverse", .Constant (.bool k) j pp, kpos⟩] pos) (T g W (cApp (fSorted k) f)) :=
  (pe_callBK (cr_sortedRev (b := k)) hg hm (by decide +kernel) ha (pk_cons pe_bl pk_nil) (by decide) (by decide) he hpl hall hnone hks).hc fun σc H Q h => TL.app h fun μ F σ S H1 ds vs R r q => by
    obtain ⟨a, ns, h1, h2, h3⟩ := fSorted_run R r q
    exact ⟨a, ns, h1, rfl, by rw [hK]; exact h2, h3⟩
end

/-! ## displays of dicts, keys written in the text -/
theorem TL.cons {g : GX} {W : WX} {f : CE} {fr : CA} {σc : St} {H : Hp} {Q : List V → Hp → Prop} (h : TL g W (cCons f fr) σc H Q) : T g W f σc H fun v H1 => TL g W fr σc H1 fun vs H2 => Q (v :: vs) H2 := by
  obtain ⟨μ, F, σ, S, R, q⟩ := h
  refine ⟨μ, F, σ, S, R, ?_⟩
  unfold cCons at q
  cases ea : f σ S with
  | bad => rw [ea] at q; exact q
  | ex c as => rw [ea] at q; exact q
  | ok d fl =>
    rw [ea] at q
    intro v H1 F1 s1 x1 r1
    obtain ⟨F2, x2, u2, rx⟩ := r1.frz x1
    refine ⟨μ, F2, σ, S, R.mono s1 x2, ?_⟩
    have q : OkL g (wat W σc) H F μ (match fr σ S with | .ok ds => .ok (d :: ds) | .ex c as => .ex c as | .bad => .bad) Q := q
    cases eb : fr σ S with
    | bad => rw [eb] at q; exact q
    | ex c as =>
      rw [eb] at q
      exact fun cls dx H' F' s' x' rr => q cls dx H' F' (s1.trans s') (x2.trans s1 x') rr
    | ok ds =>
      rw [eb] at q
      exact fun vs H3 F3 s3 x3 r3 => q (v :: vs) H3 F3 (s1.trans s3) (x2.trans s1 x3) (.cons (rx.mono s3 x3.up) r3)
inductive DP (g : GX) (W : WX) : List (TE × TE) → List Key → CA → Prop
  | nil : DP g W [] [] cNil
  | cons {trs : List (TE × TE)} {ks : List Key} {f : CE} {fr : CA} (k : Key) (h : DP g W trs ks fr) : DP g W ((tC (kV k), T g W f) :: trs) (k :: ks) (cCons f fr)
theorem T.imp {g : GX} {W : WX} {f : CE} {σc : St} {H : Hp} {Q Q' : VK} (h : T g W f σc H Q) (w : ∀ v H1, Q v H1 → Q' v H1) : T g W f σc H Q' := by
  obtain ⟨μ, F, σ, S, R, q⟩ := h
  refine ⟨μ, F, σ, S, R, ?_⟩
  cases e : f σ S with
  | ok d fr => rw [e] at q; exact fun v H' F' s x r => w _ _ (q v H' F' s x r)
  | ex c as => rw [e] at q; exact q
  | bad => rw [e] at q; exact q
theorem DP.run {g : GX} {W : WX} {trs : List (TE × TE)} {ks : List Key} {f : CA} (h : DP g W trs ks f) {σc : St} : ∀ {H : Hp} {Q : List V → Hp → Prop} {Q' : List (V × V) → Hp → Prop}, TL g W f σc H Q → (∀ vs H2, vs.length = ks.length → Q vs H2 → Q' ((ks.zip vs).map (fun p => (kV p.1, p.2))) H2) → tPairs trs σc H Q' := by
  induction h with
  | nil =>
    rintro H Q Q' ⟨μ, F, σ, S, R, q⟩ w
    exact w [] H rfl (q [] H F (Same.refl H) R.fx .nil)
  | @cons trs ks f fr k h ih =>
    intro H Q Q' q w
    exact T.imp q.cons fun v H1 z => ih z fun vs H2 hl q2 => w (v :: vs) H2 (by rw [List.length_cons, List.length_cons, hl]) q2
/-- {k: e, ..} -/
def cDct (ks : List Key) (f : CA) : CE := fun σ S => match f σ S with
  | .ok ds => if decide ks.Nodup && pureL ds && decide (ds.length = ks.length) then .ok (.dct (ks.map keyD) ds) true else .bad
  | .ex c as => .ex c as
  | .bad => .bad
theorem merge_new : ∀ (more acc : List (Key × V)), ((acc ++ more).map (·.1)).Nodup → mergeK acc more = acc ++ more
  | [], acc, _ => (List.append_nil acc).symm
  | p :: r, acc, h => by
    have hn : valV acc p.1 = none := by
      cases e : valV acc p.1 with
      | none => rfl
      | some v =>
        have h1 : (acc.any fun kv => decide (kv.1 = p.1)) = true := by rw [valV_any, e]; rfl
        obtain ⟨q, hq, eq⟩ := List.any_eq_true.mp h1
        rw [List.map_append, List.map_cons] at h
        have h2 := (List.nodup_append.mp h).2.2 _ (List.mem_map_of_mem hq) p.1 (List.mem_cons_self ..)
        exact absurd (of_decide_eq_true eq) h2
    show mergeK (putK acc p.1 p.2) r = _
    rw [putK_new _ hn, merge_new r (acc ++ [p]) (by rw [List.append_assoc]; exact h), List.append_assoc]
    rfl
theorem q_dnil {X : Cx} {g : GX} {W : WX} {pos : Pos} : PE X (.Dict [] [] pos) (T g W (fun _ _ => .ok (.dct [] []) true)) :=
  pe_dnewK.hc fun σc H Q ⟨μ, F, σ, S, R, q⟩ p hp => by
    have s : Same H (upd H p (.dK [])) := same_new hp
    refine q _ _ F s ⟨fun _ h => h, fun _ h => .inl h, fun a h => let ⟨o, e⟩ := R.dom a h; ⟨o, s _ _ e⟩⟩ (.inr ⟨rfl, p, rfl, hp, fun h => ?_, fun h => ?_, [], rfl, .inl ⟨[], upd_same, rfl, rfl⟩⟩)
    · obtain ⟨o, e⟩ := R.dom p h; rw [hp] at e; cases e
    · obtain ⟨o, e⟩ := R.mu_there h; rw [hp] at e; cases e
theorem q_dct {X : Cx} {g : GX} {W : WX} {pos : Pos} {keys : List (Option Expr)} {values : List Expr} {trs : List (TE × TE)} {ks : List Key} {f : CA} (h : PPs X pos keys values trs) (dp : DP g W trs ks f)
    (hall : keys.all (·.isSome) = true := by rfl) (hl : keys.length = values.length := by rfl) (h0 : keys ≠ [] := by exact fun z => nomatch z) (h15 : keys.length ≤ 15 := by decide) (hk : ks.length ≤ 15 := by decide) : PE X (.Dict keys values pos) (T g W (cDct ks f)) :=
  (pe_disp h hall hl h0 h15).hc fun σc H Q ⟨μ, F, σ, S, R, q⟩ p hp => by
    have s : Same H (upd H p (.dK [])) := same_new hp
    have fx : FX F H F (upd H p (.dK [])) := ⟨fun _ h => h, fun _ h => .inl h, fun a h => let ⟨o, e⟩ := R.dom a h; ⟨o, s _ _ e⟩⟩
    have nF : ¬ F p := fun h => by obtain ⟨o, e⟩ := R.dom p h; rw [hp] at e; cases e
    have nM : p ∉ μ := fun h => by obtain ⟨o, e⟩ := R.mu_there h; rw [hp] at e; cases e
    refine dp.run (Q := fun vs H2 => H2 p = some (.dK []) ∧ (vs.length = ks.length → ∃ kvs : List (Key × V), (ks.zip vs).map (fun p => (kV p.1, p.2)) = kvs.map (fun kv => (kV kv.1, kv.2)) ∧ kvs.length ≤ 15 ∧ Q (.ref p) (upd H2 p (.dK (mergeK [] kvs))))) ⟨μ, F, σ, S, R.mono s fx, ?_⟩ fun vs H2 hl z => ⟨z.1, z.2 hl⟩
    unfold cDct at q
    cases e : f σ S with
    | bad => rw [e] at q; exact q
    | ex c as => rw [e] at q; exact fun cls dx H' F' s' x' rr => q cls dx H' F' (s.trans s') (fx.trans s x') rr
    | ok ds =>
      rw [e] at q
      have q : Ok g (wat W σc) H F μ (if decide ks.Nodup && pureL ds && decide (ds.length = ks.length) then .ok (.dct (ks.map keyD) ds) true else .bad) Q := q
      split at q
      · rename_i hc
        simp only [Bool.and_eq_true, decide_eq_true_eq] at hc
        intro vs H' F' s' x' rr
        have hpp : H' p = some (.dK []) := s' _ _ upd_same
        have nF' : ¬ F' p := fun h => (x'.nw p h).elim nF fun z => by rw [upd_same] at z; cases z
        refine ⟨hpp, fun hlen => ⟨ks.zip vs, rfl, by rw [List.length_zip]; omega, ?_⟩⟩
        have nd : ((([] : List (Key × V)) ++ ks.zip vs).map (·.1)).Nodup := by
          rw [List.nil_append, zip_fst hlen.symm]
          exact hc.1.1
        rw [merge_new _ _ nd, List.nil_append]
        have sm : Same H (upd H' p (.dK (ks.zip vs))) := fun a o ha => by
          have na : a ≠ p := fun z => by rw [z, hp] at ha; cases ha
          rw [upd_ne na]
          exact s' _ _ (s _ _ ha)
        refine q _ _ F' sm ⟨fun a h => x'.up a h, fun a h => (x'.nw a h).imp (fun h => h) fun z => same_none s z, fun a h => ?_⟩ (.inr ⟨rfl, p, rfl, hp, nF', nM, vs, ?_, .inl ⟨ks.zip vs, upd_same, ?_, ?_⟩⟩)
        · obtain ⟨o, e⟩ := x'.dom a h
          have na : a ≠ p := fun z => nF' (z ▸ h)
          exact ⟨o, (upd_ne na).trans e⟩
        · exact RepL.writeG (fun xs z => by rw [hpp] at z; cases z) (fun ob u z => by rw [hpp] at z; cases z) nF' _ _ (rr.pure hc.1.2)
        · show ks.map keyD = (ks.zip vs).map (keyD ∘ fun p : Key × V => p.1)
          rw [← List.map_map, zip_fst hlen.symm]
        · exact (zip_snd hlen.symm).symm
      · exact q.elim
theorem qp_nil {X : Cx} {pos : Pos} : PPs X pos [] [] [] := pps_nil
theorem qp_int {X : Cx} {g : GX} {W : WX} {pos : Pos} {i : Int} {j : Nat} {p2 : Pos} {v : Expr} {ks : List (Option Expr)} {vs : List Expr} {f : CE} {trs : List (TE × TE)} (hv : PE X v (T g W f)) (hr : PPs X pos ks vs trs) : PPs X pos (some (.Constant (.int i) j p2) :: ks) (v :: vs) ((tC (kV (.inl i)), T g W f) :: trs) := pps_cons pe_int hv hr
theorem qp_str {X : Cx} {g : GX} {W : WX} {pos : Pos} {i : Str} {j : Nat} {p2 : Pos} {v : Expr} {ks : List (Option Expr)} {vs : List Expr} {f : CE} {trs : List (TE × TE)} (hv : PE X v (T g W f)) (hr : PPs X pos ks vs trs) : PPs X pos (some (.Constant (.str i) j p2) :: ks) (v :: vs) ((tC (kV (.inr i)), T g W f) :: trs) := pps_cons pe_str hv hr
end HC

namespace HC
open PySem PySem.Spec L2
open PyProof.Rows hiding St

def cNeg (f : CE) : CE := fun σ S => match f σ S with
  | .ok d _ => match d with
    | .int i => .ok (.int (-i)) false
    | _ => .bad
  | .ex c as => .ex c as
  | .bad => .bad
def cBad : CE := fun _ _ => .bad
def aBad : CA := fun _ _ => .bad
def iBad : CI := fun _ _ => .bad
def sBad : SC := fun _ _ => .bad
section
variable {X : Cx} {g : GX} {W : WX} {a e : Expr} {fa : CE} {pos : Pos} {st : Stmt} {sts : List Stmt}
theorem q_neg (ha : PE X a (T g W fa)) : PE X (.UnaryOp .USub a pos) (T g W (cNeg fa)) :=
  (pe_un un_neg ha).hc fun σc H Q h => T.one h fun μ F σ S H1 d v R r q => by
    split at q
    · cases r.int
      exact ⟨_, rfl, q.here R.dom (.inr rfl)⟩
    · exact q.elim
/-- what is not read: nothing is told of it -/
theorem q_bad : PE X e (T g W cBad) := ⟨fun _ _ _ _ _ _ ⟨_, _, _, _, _, q⟩ => q.elim⟩
theorem s_bad : PS X st (TSt g W sBad) := ⟨fun _ _ _ _ _ _ ⟨_, _, _, _, _, q⟩ => q.elim⟩
theorem s_asgLc {i : Nat} {y : Str} {py : Pos} {elt tg iter : Expr} {ifs : List Expr} {scope : Scope} {own : List (Str × Nat)} {spos : Pos} {fi : CI} {A : TgF} {ss : List Nat} {ft fe : CE} (hc : X.calm = true) (hN : X.N.Nodup) (hy : X.N[i]? = some y) (hyl : X.env.scope.names.lookup y = some .local)
    (hsw : swapsWith (.ListComp elt [⟨tg, iter, ifs, 0⟩] scope pos) (some (.Name y py)) spos.line X.env = pure true) (hi : PI X tg iter (TIt g W fi)) (ok : BlkOk X.N X.env.scope scope own) (hss : ∀ j ∈ ss, j ∈ own.map (·.2))
    (hg : ∀ s H C cl fp, PG (blkX X scope s H C cl fp) tg (TGt g ss A)) (ht : ∀ s H C cl fp, PTs (blkX X scope s H C cl fp) ifs (TB g W0 ft)) (he : ∀ s H C cl fp, PE (blkX X scope s H C cl fp) elt (T g W0 fe)) (hs : ∀ x, foldedSetIterable iter X.env x = pure x := by intro _; rfl) :
    PS X (.Assign [.Name y py] (.ListComp elt [⟨tg, iter, ifs, 0⟩] scope pos) spos) (TSt g W (sAsg i (cComp fi A (own.map (·.2)) ft fe))) :=
  (ps_setLc hc hN hy hyl hsw hi ok hg ht he hs).hc fun Dn σ H h => tLc_of hss (asg_of h)
theorem s_newLc {i : Nat} {y : Str} {py : Pos} {elt tg iter : Expr} {ifs : List Expr} {scope : Scope} {own : List (Str × Nat)} {spos : Pos} {fi : CI} {A : TgF} {ss : List Nat} {ft fe : CE} (hc : X.calm = true) (hN : X.N.Nodup) (hy : X.N[i]? = some y) (hyl : X.env.scope.names.lookup y = some .local)
    (hsw : swapsWith (.ListComp elt [⟨tg, iter, ifs, 0⟩] scope pos) (some (.Name y py)) spos.line X.env = pure true) (hi : PI X tg iter (TIt g W fi)) (ok : BlkOk X.N X.env.scope scope own) (hss : ∀ j ∈ ss, j ∈ own.map (·.2))
    (hg : ∀ s H C cl fp, PG (blkX X scope s H C cl fp) tg (TGt g ss A)) (ht : ∀ s H C cl fp, PTs (blkX X scope s H C cl fp) ifs (TB g W0 ft)) (he : ∀ s H C cl fp, PE (blkX X scope s H C cl fp) elt (T g W0 fe)) (hs : ∀ x, foldedSetIterable iter X.env x = pure x := by intro _; rfl) :
    PS X (.Assign [.Name y py] (.ListComp elt [⟨tg, iter, ifs, 0⟩] scope pos) spos) (TSt g W (sNew i (cComp fi A (own.map (·.2)) ft fe))) :=
  (ps_setLc hc hN hy hyl hsw hi ok hg ht he hs).hc fun Dn σ H h => tLc_of hss (new_of h)
end
end HC
namespace HC
open PySem PySem.Spec L2
theorem it_bad {X : Cx} {g : GX} {W : WX} {tg e : Expr} : PI X tg e (TIt g W iBad) := ⟨fun _ _ _ _ _ _ ⟨_, _, _, _, _, q⟩ => q.elim⟩
end HC

namespace HC

/-! ## to reckon with defs as functions of data -/
abbrev its (ns : List Int) : List D := ns.map .int
theorem pure_its : ∀ ns : List Int, pureL (its ns) = true
  | [] => rfl
  | n :: ns => pure_its ns
theorem ints_its : ∀ ns : List Int, intsOf (its ns) = some ns
  | [] => rfl
  | n :: ns => by
    show (match intsOf (its ns) with | some ms => some (n :: ms) | none => none) = _
    rw [ints_its ns]
theorem gets_its (ns : List Int) (k : Nat) : gets (its ns) k = (ns[k]?).map D.int := by rw [gets_eq, List.getElem?_map]
theorem at_its {ns : List Int} {k : Nat} {i : Int} (h : ns[k]? = some i) : atD (its ns) (k : Int) = some (.int i) := by
  show gets (its ns) k = _
  rw [gets_its, h]
  rfl
section
variable {f r c a b : SC} {e e1 e2 : CE} {σ σ1 : Sl} {S S1 : List SO} {d x y : D} {fr fx fy : Bool} {i n np : Nat} {xs ds : List D} {m : FnS} {fn : List SO → List D → Res} {op : List SO → D → D → Res} {t : CE}
theorem seq_nx (h : f σ S = .nx σ1 S1) : sSeq f r σ S = r σ1 S1 := by unfold sSeq; rw [h]
theorem seq_rt (h : f σ S = .rt d fr) : sSeq f r σ S = .rt d fr := by unfold sSeq; rw [h]
theorem if_t (h : t σ S = .ok (.bl true) fr) : sIf t a b σ S = a σ S := by unfold sIf; rw [h]
theorem if_f (h : t σ S = .ok (.bl false) fr) : sIf t a b σ S = b σ S := by unfold sIf; rw [h]
theorem asg_ok (h : e σ S = .ok d fr) : sAsg i e σ S = .nx (setD σ i d) S := by unfold sAsg sVal; rw [h]
theorem new_l (h : e σ S = .ok (.lst xs) true) : sNew i e σ S = .nx (setD σ i (.loc S.length)) (S ++ [.lst xs]) := by unfold sNew sVal; rw [h]
theorem expr_ok (h : e σ S = .ok d fr) : sExpr e σ S = .nx σ S := by unfold sExpr sVal; rw [h]
theorem ret_is (h : e σ S = .ok d fr) : sRet e σ S = retD S d fr := by unfold sRet sVal; rw [h]
theorem ret_v (h : e σ S = .ok d fr) (hd : retD S d fr = .rt d fr := by rfl) : sRet e σ S = .rt d fr := (ret_is h).trans hd
theorem bin_to {q : Res} (ha : e1 σ S = .ok x fx) (hb : e2 σ S = .ok y fy) (h : op S x y = q) : cBin op e1 e2 σ S = q := (by unfold cBin; rw [ha, hb] : cBin op e1 e2 σ S = op S x y).trans h
theorem app_to {q : Res} (hx : e σ S = .ok x fx) (h : fn S [x] = q) : cApp fn (cCons e cNil) σ S = q := (by unfold cApp cCons cNil; rw [hx] : cApp fn (cCons e cNil) σ S = fn S [x]).trans h
theorem ret_loc (h : e σ S = .ok (.loc n) fr) (g : gets S n = some (.lst xs)) (p : pureL xs = true) : sRet e σ S = .rt (.lst xs) true := by
  rw [ret_is h]
  unfold retD
  simp only [g, p, if_true]
theorem run_rt (hl : ds.length = np) (h : f (startD n ds) [] = .rt d fr) : runF np n f ds = .ok d fr := by unfold runF; rw [if_pos hl, h]
theorem run_nx (hl : ds.length = np) (h : f (startD n ds) [] = .nx σ1 S1) : runF np n f ds = .ok .non false := by unfold runF; rw [if_pos hl, h]
theorem bin_ok (ha : e1 σ S = .ok x fx) (hb : e2 σ S = .ok y fy) : cBin op e1 e2 σ S = op S x y := by unfold cBin; rw [ha, hb]
theorem app1 (h : e σ S = .ok x fx) : cApp fn (cCons e cNil) σ S = fn S [x] := by unfold cApp cCons cNil; rw [h]
theorem app2 (h1 : e1 σ S = .ok x fx) (h2 : e2 σ S = .ok y fy) : cApp fn (cCons e1 (cCons e2 cNil)) σ S = fn S [x, y] := by unfold cApp cCons cNil; rw [h1]; dsimp only; rw [h2]
theorem app3 {e3 : CE} {z : D} {fz : Bool} (h1 : e1 σ S = .ok x fx) (h2 : e2 σ S = .ok y fy) (h3 : e3 σ S = .ok z fz) : cApp fn (cCons e1 (cCons e2 (cCons e3 cNil))) σ S = fn S [x, y, z] := by unfold cApp cCons cNil; rw [h1]; dsimp only; rw [h2]; dsimp only; rw [h3]
theorem call_p (hp : pureL ds = true) : callD m S ds = m ds := by unfold callD; rw [if_pos hp]
theorem mul_r {i j : Int} (h : small j = true) : bMul S (.int i) (.int j) = .ok (.int (i * j)) false := by
  show (if small i || small j || _ then _ else _) = _
  rw [h, Bool.or_true, Bool.true_or, if_pos rfl]
theorem mul_l {i j : Int} (h : small i = true) : bMul S (.int i) (.int j) = .ok (.int (i * j)) false := by
  show (if small i || small j || _ then _ else _) = _
  rw [h, Bool.true_or, Bool.true_or, if_pos rfl]
theorem small_of {i : Int} (h1 : -18446744073709551616 < i) (h2 : i < 18446744073709551616) : small i = true := decide_eq_true (by omega)
theorem mod_p {i j : Int} (h : 0 < j) : bMod S (.int i) (.int j) = .ok (.int (i % j)) false := by
  show (if 0 < j then _ else _) = _
  rw [if_pos h]
theorem div_p {i j : Int} (h : 0 < j) (h2 : j < 1073741824) : bFdiv S (.int i) (.int j) = .ok (.int (i / j)) false := by
  show (if (decide (0 < j) && decide (j < 1073741824)) = true then _ else _) = _
  rw [decide_eq_true h, decide_eq_true h2]
  rfl
theorem ixS {i : Int} {k : Nat} {ns : List Int} (h : ns[k]? = some i) : bIx S (.rol (its ns)) (.int k) = .ok (.int i) false := by
  show (match atD (its ns) k with | some d => Res.ok d false | none => Res.bad) = _
  rw [at_its h]
theorem ixT {i : Int} {k : Nat} {ns : List Int} (h : ns[k]? = some i) : bIx S (.tup (its ns)) (.int k) = .ok (.int i) false := by
  show (match atD (its ns) k with | some d => Res.ok d false | none => Res.bad) = _
  rw [at_its h]
theorem ixL {i : Int} {k : Nat} {ns : List Int} (h : ns[k]? = some i) : bIx S (.lst (its ns)) (.int k) = .ok (.int i) false := by
  show (match atD (its ns) k with | some d => Res.ok d false | none => Res.bad) = _
  rw [at_its h]
end
/-- a loop by an invariant, nothing breaks out of it -/
theorem for_inv {A : TgF} {body : SC} (I : Nat → Sl → List SO → Prop) : ∀ (ds : List D) (i : Nat) (σ : Sl) (S : List SO), I i σ S →
    (∀ j d σ S, ds[j]? = some d → I (i + j) σ S → ∃ σ1 σ2 S2, A d σ = some σ1 ∧ (body σ1 S = .nx σ2 S2 ∨ body σ1 S = .ct σ2 S2) ∧ I (i + j + 1) σ2 S2) → ∃ σ' S', forL A body ds σ S = .nx σ' S' ∧ I (i + ds.length) σ' S'
  | [], i, σ, S, h, _ => ⟨σ, S, rfl, h⟩
  | d :: ds, i, σ, S, h, w => by
    obtain ⟨σ1, σ2, S2, h1, h2, h3⟩ := w 0 d σ S rfl h
    obtain ⟨σ', S', h4, h5⟩ := for_inv I ds (i + 1) σ2 S2 h3 fun j d σ S hj hi => by
      have := w (j + 1) d σ S hj (by rw [← Nat.add_assoc, Nat.add_right_comm]; exact hi)
      rw [show i + (j + 1) + 1 = i + 1 + j + 1 by omega] at this
      exact this
    refine ⟨σ', S', ?_, by rw [List.length_cons, show i + (ds.length + 1) = i + 1 + ds.length by omega]; exact h5⟩
    unfold forL
    simp only [h1]
    rcases h2 with h2 | h2 <;> simp only [h2] <;> exact h4
/-- a comprehension, each turn told -/
theorem comp_is {A : TgF} {t f : CE} {σ : Sl} {S : List SO} (p : D → Bool) (g : D → D) : ∀ ds : List D, (∀ d ∈ ds, ∃ σ1 fr, A d σ = some σ1 ∧ t σ1 S = .ok (.bl (p d)) fr ∧ (p d = true → (g d).pure = true ∧ ∃ f2, f σ1 S = .ok (g d) f2)) → compL A t f σ S ds = some ((ds.filter p).map g)
  | [], _ => rfl
  | d :: ds, w => by
    obtain ⟨σ1, fr, h1, h2, h3⟩ := w d (List.mem_cons_self ..)
    have ih := comp_is p g ds fun d hd => w d (List.mem_cons_of_mem _ hd)
    unfold compL
    simp only [h1, h2]
    cases e : p d with
    | false =>
      simp only [e]
      rw [List.filter_cons_of_neg (by rw [e]; exact Bool.false_ne_true)]
      exact ih
    | true =>
      obtain ⟨h4, f2, h5⟩ := h3 e
      simp only [h5, h4, if_true, ih]
      rw [List.filter_cons_of_pos e]
      rfl
theorem range_get : ∀ (n : Nat) (lo : Int) (j : Nat), j < n → (rangeD lo n)[j]? = some (.int (lo + j))
  | 0, _, _, h => absurd h (Nat.not_lt_zero _)
  | n + 1, lo, 0, _ => by
    show some (D.int lo) = _
    rw [show lo + ((0 : Nat) : Int) = lo by omega]
  | n + 1, lo, j + 1, h => by
    show (rangeD (lo + 1) n)[j]? = _
    rw [range_get n (lo + 1) j (by omega)]
    congr 2
    omega
theorem rg1_n {S : List SO} {n : Int} (h0 : 0 ≤ n) (h : n ≤ 1000000) : rg1 S [.int n] = .st (rangeD 0 n.toNat) := by
  show (if (inRg n && decide (n.toNat ≤ lim)) = true then _ else _) = _
  have h1 : inRg n = true := by
    unfold inRg
    rw [decide_eq_true (by omega : n < 4611686018427387904), decide_eq_true (by omega : -4611686018427387904 ≤ n)]
    rfl
  rw [h1, decide_eq_true (show n.toNat ≤ lim by unfold lim; omega)]
  rfl
theorem for_st {it : CI} {A : TgF} {body : SC} {σ : Sl} {S : List SO} {ds : List D} (h : it σ S = .st ds) : sFor it A body σ S = forL A body ds σ S := by unfold sFor; rw [h]
theorem iapp1 {fn : List SO → List D → ResI} {e : CE} {σ : Sl} {S : List SO} {x : D} {fx : Bool} (h : e σ S = .ok x fx) : iApp fn (cCons e cNil) σ S = fn S [x] := by unfold iApp cCons cNil; rw [h]
end HC
namespace HC
section
variable {fo e : CE} {σ : Sl} {S : List SO} {d : D} {fr fx : Bool} {n : Nat} {xs : List D}
theorem append_ok (ho : fo σ S = .ok (.loc n) fr) (he : e σ S = .ok d fx) (hg : gets S n = some (.lst xs)) (hl : xs.length < lim) : sMethE mAppend fo (cCons e cNil) σ S = .nx σ (S.set n (.lst (xs ++ [d]))) := by
  unfold sMethE sMeth sVal locL sArgs kMeth mAppend cCons cNil putL
  simp only [ho, hg, he, hl, if_true]
theorem call_d {m : FnS} {f : CA} {ds : List D} {q : Res} (hf : f σ S = .ok ds) (hp : pureL ds = true) (h : m ds = q) : cApp (callD m) f σ S = q := by
  unfold cApp
  simp only [hf]
  rw [call_p hp, h]
theorem call_k {m : FnS} {f : CA} {ds : List D} {q : Res} {ix : List Nat} (hf : f σ S = .ok ds) (hl : ds.length = n) (hp : pureL (pick .non ix ds) = true) (h : m (pick .non ix ds) = q) : cApp (callKw ix n m) f σ S = q := by
  unfold cApp callKw
  simp only [hf, hl, if_true]
  rw [call_p hp, h]
theorem tup_of {f : CA} {ds : List D} (hf : f σ S = .ok ds) (hp : pureL ds = true) (hl : ds.length ≤ lim) : cApp fTup f σ S = .ok (.tup ds) false := by
  unfold cApp fTup
  simp only [hf, hp, Bool.true_and, decide_eq_true hl, if_true]
theorem tuple_l {f : CA} {xs : List D} (hf : f σ S = .ok [.lst xs]) (hp : pureL xs = true) : cApp fTuple f σ S = .ok (.tup xs) false := by
  unfold cApp fTuple
  simp only [hf, rdOf, lstOf, hp, if_true]
theorem comp_st {it : CI} {A : TgF} {ws : List Nat} {t f : CE} {ds r : List D} (hi : it σ S = .st ds) (h : compL A t f (wipeD σ ws) S ds = some r) : cComp it A ws t f σ S = .ok (.lst r) true := by
  unfold cComp kComp
  simp only [hi, h]
theorem cons1 (he : e σ S = .ok d fx) : cCons e cNil σ S = .ok [d] := by unfold cCons cNil; simp only [he]
theorem cons_ok {fr : CA} {ds : List D} (he : e σ S = .ok d fx) (hr : fr σ S = .ok ds) : cCons e fr σ S = .ok (d :: ds) := by unfold cCons; simp only [he, hr]
end
theorem its_snoc (ds : List Int) (d : Int) : its ds ++ [.int d] = its (ds ++ [d]) := by
  show _ = (ds ++ [d]).map D.int
  rw [List.map_append]
  rfl
theorem rev_mem {k : Bool} {x : Int} {ns : List Int} (h : x ∈ sortI k ns) : x ∈ ns := by
  cases k with
  | false => exact (sortU_perm ns).mem_iff.mp h
  | true => exact (sortU_perm ns).mem_iff.mp (List.mem_reverse.mp h)
theorem sortI_len (k : Bool) (ns : List Int) : (sortI k ns).length = ns.length := by
  cases k with
  | false => exact (sortU_perm ns).length_eq
  | true =>
    show (sortU ns).reverse.length = _
    rw [List.length_reverse]
    exact (sortU_perm ns).length_eq
theorem sort_down (ns : List Int) : (sortI true ns).Pairwise (· ≥ ·) := by
  show (sortU ns).reverse.Pairwise (· ≥ ·)
  rw [List.pairwise_reverse]
  exact sortU_ord ns
theorem filter_its (p : Int → Bool) (q : D → Bool) (h : ∀ i, q (.int i) = p i) : ∀ ns : List Int, (its ns).filter q = its (ns.filter p)
  | [] => rfl
  | n :: ns => by
    show (D.int n :: its ns).filter q = _
    cases e : p n with
    | true => rw [List.filter_cons_of_pos (by rw [h, e]), filter_its p q h ns, List.filter_cons_of_pos e]; rfl
    | false => rw [List.filter_cons_of_neg (by rw [h, e]; exact Bool.false_ne_true), filter_its p q h ns, List.filter_cons_of_neg (by rw [e]; exact Bool.false_ne_true)]
def intD : D → Int
  | .int i => i
  | _ => 0
end HC
namespace HC
theorem iapp_to {fn : List SO → List D → ResI} {e : CE} {σ : Sl} {S : List SO} {x : D} {fx : Bool} {r : ResI} (h : e σ S = .ok x fx) (h2 : fn S [x] = r) : iApp fn (cCons e cNil) σ S = r := (iapp1 h).trans h2
theorem ival_l {e : CE} {σ : Sl} {S : List SO} {xs : List D} {fx : Bool} (h : e σ S = .ok (.lst xs) fx) : iVal e σ S = .st xs := by unfold iVal; rw [h]
theorem ival_t {e : CE} {σ : Sl} {S : List SO} {xs : List D} {fx : Bool} (h : e σ S = .ok (.tup xs) fx) : iVal e σ S = .st xs := by unfold iVal; rw [h]
theorem ival_d {e : CE} {σ : Sl} {S : List SO} {n : Nat} {xs : List D} {fx : Bool} (h : e σ S = .ok (.loc n) fx) (hg : gets S n = some (.lst xs)) : iVal e σ S = .dy fun S => lstOf S (.loc n) := by
  unfold iVal
  rw [h]
  simp only [lstOf, hg]
end HC
namespace HC
theorem cut_h (xs : List D) (k : Nat) : cutD xs none (some (k : Int)) = xs.take k := by
  show (xs.drop 0).take ((if k ≤ xs.length then k else xs.length) - 0) = _
  rw [List.drop_zero, Nat.sub_zero]
  split
  · rfl
  · rw [List.take_of_length_le (Nat.le_refl _), List.take_of_length_le (by omega)]
theorem cut_l (xs : List D) (k : Nat) : cutD xs (some (k : Int)) none = xs.drop k := by
  show (xs.drop (if k ≤ xs.length then k else xs.length)).take (xs.length - (if k ≤ xs.length then k else xs.length)) = _
  split
  · rw [List.take_of_length_le (by rw [List.length_drop]; exact Nat.le_refl _)]
  · rw [List.drop_of_length_le (Nat.le_refl _), List.drop_of_length_le (by omega), List.take_nil]
theorem cut_lh (xs : List D) (a b : Nat) : cutD xs (some (a : Int)) (some (b : Int)) = (xs.drop a).take (b - a) := by
  show (xs.drop (if a ≤ xs.length then a else xs.length)).take ((if b ≤ xs.length then b else xs.length) - (if a ≤ xs.length then a else xs.length)) = _
  by_cases h : a ≤ xs.length
  · rw [if_pos h]
    split
    · rfl
    · rw [List.take_of_length_le (by rw [List.length_drop]; omega), List.take_of_length_le (by rw [List.length_drop]; omega)]
  · rw [if_neg h, List.drop_of_length_le (Nat.le_refl _), List.drop_of_length_le (by omega), List.take_nil, List.take_nil]
section
variable {f l h : CE} {σ : Sl} {S : List SO} {xs : List D} {fx fl fh : Bool} {a b n : Nat}
theorem cutH_t (hf : f σ S = .ok (.tup xs) fx) (hh : h σ S = .ok (.int b) fh) : cCutH f h σ S = .ok (.tup (xs.take b)) false := by
  unfold cCutH cTwo kInt
  simp only [hf, hh]
  show Res.ok (.tup (cutD xs none (some (b : Int)))) false = _
  rw [cut_h]
theorem cutL_t (hf : f σ S = .ok (.tup xs) fx) (hl : l σ S = .ok (.int a) fl) : cCutL f l σ S = .ok (.tup (xs.drop a)) false := by
  unfold cCutL cTwo kInt
  simp only [hf, hl]
  show Res.ok (.tup (cutD xs (some (a : Int)) none)) false = _
  rw [cut_l]
theorem cutLH_t (hf : f σ S = .ok (.tup xs) fx) (hl : l σ S = .ok (.int a) fl) (hh : h σ S = .ok (.int b) fh) : cCutLH f l h σ S = .ok (.tup ((xs.drop a).take (b - a))) false := by
  unfold cCutLH cTwo kInt
  simp only [hf, hl, hh]
  show Res.ok (.tup (cutD xs (some (a : Int)) (some (b : Int)))) false = _
  rw [cut_lh]
theorem cutL_d (hf : f σ S = .ok (.loc n) fx) (hg : gets S n = some (.lst xs)) (hp : pureL xs = true) (hl : l σ S = .ok (.int a) fl) : cCutL f l σ S = .ok (.lst (xs.drop a)) true := by
  unfold cCutL cTwo kInt
  simp only [hf, hl]
  show (match (match gets S n with | some (.lst xs) => some xs | _ => none) with | some xs => if pureL xs = true then Res.ok (.lst (cutD xs (some (a : Int)) none)) true else Res.bad | none => Res.bad) = _
  simp only [hg, hp, if_true]
  rw [cut_l]
theorem comp_dy {it : CI} {A : TgF} {ws : List Nat} {t f : CE} {i : List SO → Option (List D)} {ds r : List D} (hi : it σ S = .dy i) (hd : i S = some ds) (h : compL A t f (wipeD σ ws) S ds = some r) : cComp it A ws t f σ S = .ok (.lst r) true := by
  unfold cComp kComp
  simp only [hi, hd, h]
theorem sub_ok {fe fo fi : CE} {y : D} {k : Nat} (he : fe σ S = .ok y fx) (ho : fo σ S = .ok (.loc n) fl) (hi : fi σ S = .ok (.int k) fh) (hg : gets S n = some (.lst xs)) (hk : k < xs.length) : sSub fe fo fi σ S = .nx σ (S.set n (.lst (xs.set k y))) := by
  unfold sSub sTwo sVal kSub locL putL
  simp only [he, ho, hi, hg]
  show (match (if k < xs.length then some (xs.set k y) else none) with | some ys => RS.nx σ (S.set n (.lst ys)) | none => RS.bad) = _
  rw [if_pos hk]
theorem len_t (hf : f σ S = .ok (.tup xs) fx) : cApp fLen (cCons f cNil) σ S = .ok (.int xs.length) false := app_to hf rfl
theorem len_d (hf : f σ S = .ok (.loc n) fx) (hg : gets S n = some (.lst xs)) : cApp fLen (cCons f cNil) σ S = .ok (.int xs.length) false := app_to hf (by
  unfold fLen seqOf rdOf lstOf
  simp only [hg])
end
theorem take_its (ns : List Int) (k : Nat) : (its ns).take k = its (ns.take k) := (List.map_take ..).symm
theorem drop_its (ns : List Int) (k : Nat) : (its ns).drop k = its (ns.drop k) := (List.map_drop ..).symm
theorem sum_t {S : List SO} (ns : List Int) : fSum S [.tup (its ns)] = .ok (.int (sumI ns)) false := by
  show (match intsOf (its ns) with | some ns => Res.ok (.int (sumI ns)) false | none => Res.bad) = _
  rw [ints_its]
theorem sum_l {S : List SO} (ns : List Int) : fSum S [.lst (its ns)] = .ok (.int (sumI ns)) false := by
  show (match intsOf (its ns) with | some ns => Res.ok (.int (sumI ns)) false | none => Res.bad) = _
  rw [ints_its]
end HC

namespace HC
open PySem

/-! ## what repr shows is short enough -/
def Itm (d : D) (dp w : Nat) : Prop := ∃ x, pyD true d = some x ∧ x.showable = true ∧ x.depth ≤ dp ∧ x.leavesShort 700 = true ∧ x.weight ≤ w
def Itms (ds : List D) (dp w : Nat) : Prop := ∃ xs, pyDs true ds = some xs ∧ PyData.showableAll xs = true ∧ PyData.depthAll xs ≤ dp ∧ PyData.leavesShortAll 700 xs = true ∧ PyData.weightAll xs ≤ w
theorem itm_non {dp w : Nat} : Itm .non dp w := ⟨_, rfl, by simp [PyData.showable], by simp [PyData.depth], by simp [PyData.leavesShort], by simp [PyData.weight]⟩
theorem itm_bl {b : Bool} {dp w : Nat} : Itm (.bl b) dp w := ⟨_, rfl, by simp [PyData.showable], by simp [PyData.depth], by simp [PyData.leavesShort], by simp [PyData.weight]⟩
theorem itm_int {i : Int} {dp : Nat} (h : i.natAbs.log2 < 600) : Itm (.int i) dp 601 := by
  refine ⟨_, rfl, ?_, ?_, ?_, ?_⟩
  · simp only [PyData.showable, decide_eq_true_eq]
    omega
  · simp [PyData.depth]
  · simp only [PyData.leavesShort, decide_eq_true_eq]
    have h1 := int_text_length_le (a := i) (k := 600) (by decide) h
    have e : (PyData.shown (.int i)).length = (toString i).length := by
      simp only [PyData.shown]
      exact ofString_length _
    omega
  · simp only [PyData.weight]
    split <;> omega
theorem itm_str {x : Str} {dp w : Nat} (h : (x.cps.toList.all fun c => decide (c < 16 ^ 8)) = true) (hw : x.cps.size ≤ w) : Itm (.str x) dp w :=
  ⟨_, rfl, by simp [PyData.showable], by simp [PyData.depth], by simpa only [PyData.leavesShort] using h, by simpa only [PyData.weight] using hw⟩
theorem itms_nil {dp : Nat} : Itms [] dp 0 := ⟨[], rfl, by simp [PyData.showableAll], by simp [PyData.depthAll], by simp [PyData.leavesShortAll], by simp [PyData.weightAll]⟩
theorem itms_cons {d : D} {ds : List D} {dp w w2 : Nat} (h : Itm d dp w) (r : Itms ds dp w2) : Itms (d :: ds) dp (w + 1 + w2) := by
  obtain ⟨x, a1, a2, a3, a4, a5⟩ := h
  obtain ⟨xs, b1, b2, b3, b4, b5⟩ := r
  refine ⟨x :: xs, by unfold pyDs; simp only [a1, b1], ?_, ?_, ?_, ?_⟩
  · simp only [PyData.showableAll, a2, b2]; rfl
  · simp only [PyData.depthAll]; omega
  · simp only [PyData.leavesShortAll, a4, b4]; rfl
  · simp only [PyData.weightAll]; omega
theorem itms_of {dp w : Nat} : ∀ {ds : List D}, (∀ d ∈ ds, Itm d dp w) → Itms ds dp (ds.length * (w + 1))
  | [], _ => by simpa using itms_nil
  | d :: ds, h => by
    have := itms_cons (h d (List.mem_cons_self ..)) (itms_of fun e he => h e (List.mem_cons_of_mem _ he))
    rw [List.length_cons, Nat.add_mul, Nat.one_mul, Nat.add_comm]
    exact this
theorem Itm.le {d : D} {dp w dp2 w2 : Nat} (h : Itm d dp w) (h1 : dp ≤ dp2) (h2 : w ≤ w2) : Itm d dp2 w2 := by
  obtain ⟨x, a1, a2, a3, a4, a5⟩ := h
  exact ⟨x, a1, a2, by omega, a4, by omega⟩
theorem itm_tup {ds : List D} {dp w : Nat} (h : Itms ds dp w) : Itm (.tup ds) (dp + 1) w := by
  obtain ⟨xs, b1, b2, b3, b4, b5⟩ := h
  refine ⟨.tuple xs, by unfold pyD; simp only [b1], ?_, ?_, ?_, ?_⟩
  · simpa only [PyData.showable] using b2
  · simp only [PyData.depth]; omega
  · simpa only [PyData.leavesShort] using b4
  · simpa only [PyData.weight] using b5
theorem itm_lst {ds : List D} {dp w : Nat} (h : Itms ds dp w) : Itm (.lst ds) (dp + 1) w := by
  obtain ⟨xs, b1, b2, b3, b4, b5⟩ := h
  refine ⟨.list xs, by unfold pyD; simp only [b1, if_true], ?_, ?_, ?_, ?_⟩
  · simpa only [PyData.showable] using b2
  · simp only [PyData.depth]; omega
  · simpa only [PyData.leavesShort] using b4
  · simpa only [PyData.weight] using b5
theorem shw_of {x : PyData} (a2 : x.showable = true) (a3 : x.depth ≤ 60) (a4 : x.leavesShort 700 = true) (a5 : x.weight ≤ 20000) : shw x = .ok (.str x.shown) false := by
  have h1 := PyData.shown_le 700 (by decide) x a4
  unfold shw
  rw [a2, decide_eq_true a3, decide_eq_true (show x.shown.length ≤ lim by
    have : (700 + 2) * x.weight ≤ 702 * 20000 := Nat.mul_le_mul (by decide) a5
    unfold lim
    omega)]
  rfl
theorem rep_of {d : D} (h : Itm d 60 20000) : ∃ s, ∀ S, fRepr S [d] = .ok (.str s) false := by
  obtain ⟨x, a1, a2, a3, a4, a5⟩ := h
  refine ⟨x.shown, fun S => ?_⟩
  have hp : lends S [d] = true := by cases d <;> first | rfl | exact nomatch a1
  have hl : look S d = d := by cases d <;> first | rfl | exact nomatch a1
  show (if lends S [d] = true then (match pyD true (look S d) with | some x => shw x | none => _) else _) = _
  rw [hp, if_pos rfl, hl, a1]
  exact shw_of a2 a3 a4 a5
theorem rep_dct {ks ds : List D} {x : PyData} (h : pyD false (.dct ks ds) = some x) (a2 : x.showable = true) (a3 : x.depth ≤ 60) (a4 : x.leavesShort 700 = true) (a5 : x.weight ≤ 20000) : ∃ s, ∀ S, fRepr S [.dct ks ds] = .ok (.str s) false := by
  refine ⟨x.shown, fun S => ?_⟩
  show (match pyD true (.dct ks ds) with | some x => shw x | none => match pyD false (.dct ks ds) with | some x => shw x | none => Res.bad) = _
  rw [show pyD true (.dct ks ds) = none from rfl, h]
  exact shw_of a2 a3 a4 a5
end HC

namespace K01
open PySem PySem.Spec L2 HC
open PyProof.Rows hiding St
/-! the defs of k01_stair_judged_by_boxes -/
abbrev topS (i : Nat) : Stmt := PySem.Challenge.pw_hornstairs_k01_stair_judged_by_boxes.main.body.getD i (.Pass ⟨0, 0, 0, 0⟩)
def gx (K : PySem.W.Frag) : GX := ⟨K, fun _ => 0, fun _ => [], none⟩
def b_is_integer : SC := (sRet (cAnd (cApp (fIsi [.int]) (cCons (cVar 0) cNil)) (cNot (cApp (fIsi [.bool]) (cCons (cVar 0) cNil)))))
def m_is_integer : FnS := runF 1 1 b_is_integer
def b_is_positive : SC := (sRet (cAnd (cApp (callD m_is_integer) (cCons (cVar 0) cNil)) (cBin bGe (cVar 0) (cD (.int 1)))))
def m_is_positive : FnS := runF 1 1 b_is_positive
def b_row_of : SC := (sSeq (sIf (cBin bLt (cVar 1) (cApp fLen (cCons (cVar 0) cNil))) (sRet (cBin bIx (cVar 0) (cVar 1))) sSkip)
    (sRet (cD (.int 0))))
def m_row_of : FnS := runF 2 2 b_row_of
def b_is_stair : SC := (sSeq (sIf (cNotB (cTru (cApp (fIsi [.tup]) (cCons (cVar 0) cNil)))) (sRet (cD (.bl false))) sSkip)
    (sSeq (sFor (iApp enI (cCons (cVar 0) cNil)) (tgTup 2 (tgCons (tgName 1) (tgCons (tgName 2) tgNil))) (sSeq (sIf (cNotB (cTru (cApp (callD m_is_positive) (cCons (cVar 2) cNil)))) (sRet (cD (.bl false))) sSkip)
    (sIf (cAndB (cBin bGt (cVar 1) (cD (.int 0))) (cBin bGt (cVar 2) (cBin bIx (cVar 0) (cBin bSub (cVar 1) (cD (.int 1)))))) (sRet (cD (.bl false))) sSkip)))
    (sRet (cD (.bl true)))))
def m_is_stair : FnS := runF 1 3 b_is_stair
def b_need_stair : SC := (sIf (cNotB (cTru (cApp (callD m_is_stair) (cCons (cVar 0) cNil)))) sBad sSkip)
def m_need_stair : FnS := runF 1 1 b_need_stair
def b_size : SC := (sSeq (sExpr (cApp (callD m_need_stair) (cCons (cVar 0) cNil)))
    (sRet (cApp fSum (cCons (cVar 0) cNil))))
def m_size : FnS := runF 1 1 b_size
def b_contains : SC := (sSeq (sExpr (cApp (callD m_need_stair) (cCons (cVar 0) cNil)))
    (sSeq (sExpr (cApp (callD m_need_stair) (cCons (cVar 1) cNil)))
    (sRet (cApp fAll (cCons (cComp (iApp enI (cCons (cVar 1) cNil)) (tgTup 2 (tgCons (tgName 2) (tgCons (tgName 3) tgNil))) [2, 3] cTrue (cBin bGe (cApp (callD m_row_of) (cCons (cVar 0) (cCons (cVar 2) cNil))) (cVar 3))) cNil)))))
def m_contains : FnS := runF 2 4 b_contains
def b__law_cell : SC := (sSeq (sIf (cBin bLt (cVar 1) (cApp fLen (cCons (cVar 0) cNil))) (sRet (cApp fInt (cCons (cBin bIx (cVar 0) (cVar 1)) cNil))) sSkip)
    (sSeq (sIf (cBin bEq (cApp fLen (cCons (cVar 0) cNil)) (cD (.int 0))) (sRet (cVar 1)) sSkip)
    (sRet (cBin bAdd (cBin bFdiv (cApp fInt (cCons (cBin bIx (cVar 0) (cBin bMod (cVar 1) (cApp fLen (cCons (cVar 0) cNil)))) cNil)) (cBin bAdd (cVar 1) (cD (.int 2)))) (cVar 1)))))
def m__law_cell : FnS := runF 2 2 b__law_cell
def b__law_draw : SC := (sSeq (sAsg 3 (cBin bMod (cApp fInt (cCons (cBin bAdd (cBin bAdd (cBin bMul (cVar 0) (cD (.int 48271))) (cBin bMul (cBin bAdd (cVar 1) (cD (.int 1))) (cD (.int 69621)))) (cD (.int 7))) cNil)) (cD (.int 2147483647))))
    (sSeq (sAsg 3 (cBin bMod (cApp fInt (cCons (cBin bAdd (cBin bAdd (cBin bMul (cVar 3) (cVar 3)) (cBin bMul (cD (.int 7919)) (cVar 1))) (cD (.int 104729))) cNil)) (cD (.int 2147483629))))
    (sSeq (sAsg 3 (cBin bMod (cApp fInt (cCons (cBin bAdd (cBin bMul (cVar 3) (cBin bAdd (cBin bMod (cApp fInt (cCons (cVar 3) cNil)) (cD (.int 65521))) (cD (.int 3)))) (cD (.int 40692))) cNil)) (cD (.int 2147483587))))
    (sRet (cBin bMod (cBin bFdiv (cApp fInt (cCons (cVar 3) cNil)) (cD (.int 7))) (cVar 2))))))
def m__law_draw : FnS := runF 3 4 b__law_draw
def b__law_digits : SC := (sSeq (sNew 3 (cApp fLst cNil))
    (sSeq (sAsg 4 (cBin bSub (cVar 0) (cBin bPow (cD (.int 10)) (cD (.int 18)))))
    (sSeq (sFor (iApp rg1 (cCons (cVar 1) cNil)) (tgName 5) (sIf (cBin bGe (cVar 0) (cBin bPow (cD (.int 10)) (cD (.int 18)))) (sSeq (sMethE mAppend (cVar 3) (cCons (cBin bMod (cApp fInt (cCons (cVar 4) cNil)) (cVar 2)) cNil))
    (sAsg 4 (cBin bFdiv (cVar 4) (cVar 2)))) (sMethE mAppend (cVar 3) (cCons (cApp (callD m__law_draw) (cCons (cVar 0) (cCons (cVar 5) (cCons (cVar 2) cNil)))) cNil))))
    (sRet (cVar 3)))))
def m__law_digits : FnS := runF 3 6 b__law_digits
def b__law_stair : SC := (sRet (cApp fTuple (cCons (cComp (iVal (cApp (fSorted true) (cCons (cApp (callD m__law_digits) (cCons (cVar 0) (cCons (cVar 1) (cCons (cBin bAdd (cVar 2) (cD (.int 1))) cNil)))) cNil))) (tgName 3) [3] (cBin bGt (cVar 3) (cD (.int 0))) (cVar 3)) cNil)))
def m__law_stair : FnS := runF 3 4 b__law_stair
def b__law_strange : SC := (sSeq (sAsg 1 (cApp fLst (cCons (cD .non) (cCons (cD (.int 0)) (cCons (cD (.int 5)) (cCons (cD (.bl true)) (cCons (cD (.str (Str.ofString ""))) (cCons (cD (.str (Str.ofString "321"))) (cCons (cApp fLst cNil) (cCons (cApp fLst (cCons (cD (.int 1)) cNil)) (cCons (fun _ _ => .ok (.dct [] []) true) (cCons (cDct [.inl 2] (cCons (cD (.int 1)) cNil)) (cCons (cApp fTup (cCons (cApp fTup (cCons (cD (.int 2)) cNil)) (cCons (cApp fTup (cCons (cD (.int 1)) cNil)) cNil))) (cCons (cApp fTup (cCons (cD (.str (Str.ofString "2"))) (cCons (cD (.str (Str.ofString "1"))) cNil))) (cCons (cNeg (cD (.int 1))) (cCons (cApp fTup (cCons (cD (.str (Str.ofString ""))) cNil)) (cCons (cApp fTup (cCons (cD .non) cNil)) (cCons (cApp fTup (cCons (cApp fTup cNil) cNil)) cNil))))))))))))))))))
    (sRet (cBin bIx (cVar 1) (cBin bMod (cVar 0) (cApp fLen (cCons (cVar 1) cNil))))))
def m__law_strange : FnS := runF 1 2 b__law_strange
def b__law_spoilt : SC := (sSeq (sAsg 3 (cBin bMod (cVar 2) (cApp fMax2 (cCons (cD (.int 1)) (cCons (cApp fLen (cCons (cVar 0) cNil)) cNil)))))
    (sSeq (sAsg 4 (cBin bAdd (cD (.int 1)) (cBin bMod (cBin bFdiv (cVar 2) (cD (.int 64))) (cD (.int 50)))))
    (sSeq (sIf (cBin bEq (cVar 1) (cD (.int 0))) (sRet (cBin bAdd (cVar 0) (cApp fTup (cCons (cBin bIx (cApp fLst (cCons (cD (.int 0)) (cCons (cBin bSub (cD (.int 0)) (cVar 4)) cNil))) (cBin bMod (cBin bFdiv (cVar 2) (cD (.int 8))) (cD (.int 2)))) cNil)))) sSkip)
    (sSeq (sIf (cBin bEq (cVar 1) (cD (.int 1))) (sRet (cBin bAdd (cBin bAdd (cCutH (cVar 0) (cVar 3)) (cApp fTup (cCons (cD (.bl true)) cNil))) (cCutL (cVar 0) (cBin bAdd (cVar 3) (cD (.int 1)))))) sSkip)
    (sSeq (sIf (cBin bEq (cVar 1) (cD (.int 2))) (sSeq (sAsg 5 (cBin bIx (cApp fLst (cCons (cD (.str (Str.ofString "1"))) (cCons (cD .non) (cCons (cApp fTup (cCons (cD (.int 1)) cNil)) (cCons (cApp fLst (cCons (cD (.int 1)) cNil)) (cCons (cD (.str (Str.ofString ""))) (cCons (cD (.bl false)) cNil))))))) (cBin bMod (cBin bFdiv (cVar 2) (cD (.int 8))) (cD (.int 6)))))
    (sRet (cBin bAdd (cBin bAdd (cCutH (cVar 0) (cVar 3)) (cApp fTup (cCons (cVar 5) cNil))) (cCutL (cVar 0) (cBin bAdd (cVar 3) (cD (.int 1))))))) sSkip)
    (sSeq (sIf (cBin bEq (cVar 1) (cD (.int 3))) (sRet (cApp fList (cCons (cVar 0) cNil))) sSkip)
    (sSeq (sIf (cAndB (cBin bEq (cVar 1) (cD (.int 4))) (cBin bGt (cApp fLen (cCons (cVar 0) cNil)) (cD (.int 0)))) (sRet (cBin bAdd (cBin bAdd (cCutH (cVar 0) (cBin bAdd (cVar 3) (cD (.int 1)))) (cApp fTup (cCons (cBin bAdd (cBin bIx (cVar 0) (cVar 3)) (cVar 4)) cNil))) (cCutL (cVar 0) (cBin bAdd (cVar 3) (cD (.int 1)))))) sSkip)
    (sRet (cApp (callD m__law_strange) (cCons (cVar 2) cNil))))))))))
def m__law_spoilt : FnS := runF 3 6 b__law_spoilt
def b__law_within : SC := (sSeq (sNew 3 (cApp fLst cNil))
    (sSeq (sAsg 4 (cApp fSum (cCons (cCutH (cVar 0) (cD (.int 1))) cNil)))
    (sSeq (sAsg 5 (cApp (callD m__law_digits) (cCons (cVar 1) (cCons (cApp fLen (cCons (cVar 0) cNil)) (cCons (cD (.int 31)) cNil)))))
    (sSeq (sFor (iApp rg1 (cCons (cApp fLen (cCons (cVar 0) cNil)) cNil)) (tgName 6) (sSeq (sAsg 4 (cApp fMin2 (cCons (cVar 4) (cCons (cApp fMax2 (cCons (cD (.int 0)) (cCons (cBin bSub (cBin bIx (cVar 0) (cVar 6)) (cBin bFdiv (cBin bIx (cVar 5) (cVar 6)) (cD (.int 3)))) cNil))) cNil))))
    (sMethE mAppend (cVar 3) (cCons (cVar 4) cNil))))
    (sSeq (sIf (cTru (cVar 2)) (sSeq (sAsg 7 (cBin bMod (cVar 1) (cBin bAdd (cApp fLen (cCons (cVar 0) cNil)) (cD (.int 1)))))
    (sSeq (sMethE mAppend (cVar 3) (cCons (cD (.int 0)) cNil))
    (sSeq (sSub (cBin bAdd (cApp fSum (cCons (cCutLH (cVar 0) (cVar 7) (cBin bAdd (cVar 7) (cD (.int 1)))) cNil)) (cD (.int 1))) (cVar 3) (cVar 7))
    (sNew 3 (cComp (iApp rg1 (cCons (cApp fLen (cCons (cVar 3) cNil)) cNil)) (tgName 6) [6] cTrue (cApp fMaxL (cCons (cCutL (cVar 3) (cVar 6)) cNil))))))) sSkip)
    (sRet (cApp fTuple (cCons (cComp (iVal (cVar 3)) (tgName 8) [8] (cBin bGt (cVar 8) (cD (.int 0))) (cVar 8)) cNil))))))))
def m__law_within : FnS := runF 3 9 b__law_within
def b__law_all_boxes_in : SC := (sSeq (sFor (iApp rg1 (cCons (cApp fLen (cCons (cVar 1) cNil)) cNil)) (tgName 2) (sFor (iApp rg1 (cCons (cBin bIx (cVar 1) (cVar 2)) cNil)) (tgName 3) (sIf (cOrB (cBin bGe (cVar 2) (cApp fLen (cCons (cVar 0) cNil))) (cBin bGe (cVar 3) (cBin bIx (cVar 0) (cVar 2)))) (sRet (cD (.bl false))) sSkip)))
    (sRet (cD (.bl true))))
def m__law_all_boxes_in : FnS := runF 2 4 b__law_all_boxes_in
def b__law_judged : SC := (sSeq (sAsg 2 (cApp fRepr (cCons (cVar 0) cNil)))
    (sSeq (sAsg 3 (cApp (callKw [0] 1 m_is_stair) (cCons (cVar 0) cNil)))
    (sRet (cAnd (cApp (fIsi [.bool]) (cCons (cVar 3) cNil)) (cAnd (cBin bEq (cVar 3) (cVar 1)) (cBin bEq (cApp fRepr (cCons (cVar 0) cNil)) (cVar 2)))))))
def m__law_judged : FnS := runF 2 4 b__law_judged
def b_law : SC := (sSeq (sAsg 1 (cD (.int 1)))
    (sSeq (sIf (cBin bEq (cBin bMod (cApp (callD m__law_cell) (cCons (cVar 0) (cCons (cD (.int 0)) cNil))) (cD (.int 3))) (cD (.int 1))) (sAsg 1 (cBin bAdd (cD (.int 1)) (cBin bMod (cApp (callD m__law_cell) (cCons (cVar 0) (cCons (cD (.int 1)) cNil))) (cBin bPow (cD (.int 10)) (cD (.int 28)))))) sSkip)
    (sSeq (sAsg 2 (cApp (callD m__law_stair) (cCons (cApp (callD m__law_cell) (cCons (cVar 0) (cCons (cD (.int 2)) cNil))) (cCons (cBin bMod (cBin bFdiv (cApp (callD m__law_cell) (cCons (cVar 0) (cCons (cD (.int 0)) cNil))) (cD (.int 3))) (cD (.int 13))) (cCons (cD (.int 30)) cNil)))))
    (sSeq (sAsg 3 (cApp fTuple (cCons (cComp (iVal (cVar 2)) (tgName 8) [8] cTrue (cBin bMul (cVar 8) (cVar 1))) cNil)))
    (sSeq (sAsg 4 (cApp (callD m__law_within) (cCons (cVar 2) (cCons (cApp (callD m__law_cell) (cCons (cVar 0) (cCons (cD (.int 3)) cNil))) (cCons (cBin bEq (cBin bMod (cApp (callD m__law_cell) (cCons (cVar 0) (cCons (cD (.int 4)) cNil))) (cD (.int 2))) (cD (.int 1))) cNil)))))
    (sSeq (sAsg 5 (cApp fTuple (cCons (cComp (iVal (cVar 2)) (tgName 8) [8] cTrue (cBin bMul (cVar 8) (cVar 1))) cNil)))
    (sSeq (sAsg 6 (cApp fTuple (cCons (cComp (iVal (cVar 4)) (tgName 8) [8] cTrue (cBin bMul (cVar 8) (cVar 1))) cNil)))
    (sSeq (sIf (cOrB (cNotB (cTru (cApp (callD m__law_judged) (cCons (cVar 3) (cCons (cD (.bl true)) cNil))))) (cNotB (cTru (cApp (callD m__law_judged) (cCons (cApp fTup cNil) (cCons (cD (.bl true)) cNil)))))) (sRet (cD (.bl false))) sSkip)
    (sSeq (sIf (cNotB (cTru (cApp (callD m__law_judged) (cCons (cApp (callD m__law_spoilt) (cCons (cVar 3) (cCons (cBin bMod (cApp (callD m__law_cell) (cCons (cVar 0) (cCons (cD (.int 5)) cNil))) (cD (.int 6))) (cCons (cBin bFdiv (cApp (callD m__law_cell) (cCons (cVar 0) (cCons (cD (.int 5)) cNil))) (cD (.int 6))) cNil)))) (cCons (cD (.bl false)) cNil))))) (sRet (cD (.bl false))) sSkip)
    (sSeq (sIf (cNotB (cTru (cApp (callD m__law_judged) (cCons (cApp (callD m__law_strange) (cCons (cApp (callD m__law_cell) (cCons (cVar 0) (cCons (cD (.int 6)) cNil))) cNil)) (cCons (cD (.bl false)) cNil))))) (sRet (cD (.bl false))) sSkip)
    (sSeq (sAsg 7 (cD (.int 0)))
    (sSeq (sFor (iVal (cVar 2)) (tgName 8) (sAsg 7 (cBin bAdd (cVar 7) (cApp fLen (cCons (cComp (iApp rg1 (cCons (cVar 8) cNil)) (tgName 10) [10] cTrue (cVar 10)) cNil)))))
    (sSeq (sAsg 9 (cApp (callKw [0] 1 m_size) (cCons (cVar 3) cNil)))
    (sSeq (sIf (cOrB (cNotB (cTru (cApp (fIsi [.int]) (cCons (cVar 9) cNil)))) (cOrB (cTru (cApp (fIsi [.bool]) (cCons (cVar 9) cNil))) (cBin bNe (cVar 9) (cBin bMul (cVar 7) (cVar 1))))) (sRet (cD (.bl false))) sSkip)
    (sSeq (sAsg 9 (cApp (callD m_contains) (cCons (cVar 5) (cCons (cVar 6) cNil))))
    (sSeq (sIf (cOrB (cNotB (cTru (cApp (fIsi [.bool]) (cCons (cVar 9) cNil)))) (cBin bNe (cVar 9) (cApp (callD m__law_all_boxes_in) (cCons (cVar 2) (cCons (cVar 4) cNil))))) (sRet (cD (.bl false))) sSkip)
    (sSeq (sAsg 9 (cApp (callKw [1, 0] 2 m_contains) (cCons (cVar 5) (cCons (cVar 6) cNil))))
    (sRet (cAnd (cApp (fIsi [.bool]) (cCons (cVar 9) cNil)) (cBin bEq (cVar 9) (cApp (callD m__law_all_boxes_in) (cCons (cVar 4) (cCons (cVar 2) cNil)))))))))))))))))))))))
def m_law : FnS := runF 1 11 b_law
structure Txt (K : PySem.W.Frag) (mg : Str → Option Value) where
  a_is_integer : Addr
  d_is_integer : FuncData
  F_is_integer : L2.Fun K "is_integer" "is_integer" (topS 1) a_is_integer d_is_integer
  g_is_integer : mg "is_integer" = some (.ref a_is_integer)
  b_is_integer : Binds K d_is_integer ["value"] []
  a_is_positive : Addr
  d_is_positive : FuncData
  F_is_positive : L2.Fun K "is_positive" "is_positive" (topS 2) a_is_positive d_is_positive
  g_is_positive : mg "is_positive" = some (.ref a_is_positive)
  b_is_positive : Binds K d_is_positive ["value"] []
  a_row_of : Addr
  d_row_of : FuncData
  F_row_of : L2.Fun K "row_of" "row_of" (topS 3) a_row_of d_row_of
  g_row_of : mg "row_of" = some (.ref a_row_of)
  b_row_of : Binds K d_row_of ["stair", "i"] []
  a_is_stair : Addr
  d_is_stair : FuncData
  F_is_stair : L2.Fun K "is_stair" "is_stair" (topS 8) a_is_stair d_is_stair
  g_is_stair : mg "is_stair" = some (.ref a_is_stair)
  b_is_stair : Binds K d_is_stair ["value"] []
  a_need_stair : Addr
  d_need_stair : FuncData
  F_need_stair : L2.Fun K "need_stair" "need_stair" (topS 9) a_need_stair d_need_stair
  g_need_stair : mg "need_stair" = some (.ref a_need_stair)
  b_need_stair : Binds K d_need_stair ["value"] []
  a_size : Addr
  d_size : FuncData
  F_size : L2.Fun K "size" "size" (topS 10) a_size d_size
  g_size : mg "size" = some (.ref a_size)
  b_size : Binds K d_size ["stair"] []
  a_contains : Addr
  d_contains : FuncData
  F_contains : L2.Fun K "contains" "contains" (topS 11) a_contains d_contains
  g_contains : mg "contains" = some (.ref a_contains)
  b_contains : Binds K d_contains ["one", "other"] []
  a__law_cell : Addr
  d__law_cell : FuncData
  F__law_cell : L2.Fun K "_law_cell" "_law_cell" (topS 13) a__law_cell d__law_cell
  g__law_cell : mg "_law_cell" = some (.ref a__law_cell)
  b__law_cell : Binds K d__law_cell ["script", "k"] []
  a__law_draw : Addr
  d__law_draw : FuncData
  F__law_draw : L2.Fun K "_law_draw" "_law_draw" (topS 14) a__law_draw d__law_draw
  g__law_draw : mg "_law_draw" = some (.ref a__law_draw)
  b__law_draw : Binds K d__law_draw ["cell", "k", "limit"] []
  a__law_digits : Addr
  d__law_digits : FuncData
  F__law_digits : L2.Fun K "_law_digits" "_law_digits" (topS 15) a__law_digits d__law_digits
  g__law_digits : mg "_law_digits" = some (.ref a__law_digits)
  b__law_digits : Binds K d__law_digits ["cell", "count", "limit"] []
  a__law_stair : Addr
  d__law_stair : FuncData
  F__law_stair : L2.Fun K "_law_stair" "_law_stair" (topS 16) a__law_stair d__law_stair
  g__law_stair : mg "_law_stair" = some (.ref a__law_stair)
  b__law_stair : Binds K d__law_stair ["cell", "count", "most"] []
  a__law_strange : Addr
  d__law_strange : FuncData
  F__law_strange : L2.Fun K "_law_strange" "_law_strange" (topS 17) a__law_strange d__law_strange
  g__law_strange : mg "_law_strange" = some (.ref a__law_strange)
  b__law_strange : Binds K d__law_strange ["cell"] []
  a__law_spoilt : Addr
  d__law_spoilt : FuncData
  F__law_spoilt : L2.Fun K "_law_spoilt" "_law_spoilt" (topS 18) a__law_spoilt d__law_spoilt
  g__law_spoilt : mg "_law_spoilt" = some (.ref a__law_spoilt)
  b__law_spoilt : Binds K d__law_spoilt ["stair", "way", "cell"] []
  a__law_within : Addr
  d__law_within : FuncData
  F__law_within : L2.Fun K "_law_within" "_law_within" (topS 19) a__law_within d__law_within
  g__law_within : mg "_law_within" = some (.ref a__law_within)
  b__law_within : Binds K d__law_within ["outer", "cell", "more"] []
  a__law_all_boxes_in : Addr
  d__law_all_boxes_in : FuncData
  F__law_all_boxes_in : L2.Fun K "_law_all_boxes_in" "_law_all_boxes_in" (topS 20) a__law_all_boxes_in d__law_all_boxes_in
  g__law_all_boxes_in : mg "_law_all_boxes_in" = some (.ref a__law_all_boxes_in)
  b__law_all_boxes_in : Binds K d__law_all_boxes_in ["outer", "inner"] []
  a__law_judged : Addr
  d__law_judged : FuncData
  F__law_judged : L2.Fun K "_law_judged" "_law_judged" (topS 21) a__law_judged d__law_judged
  g__law_judged : mg "_law_judged" = some (.ref a__law_judged)
  b__law_judged : Binds K d__law_judged ["value", "due"] []
  a_law : Addr
  d_law : FuncData
  F_law : L2.Fun K "law" "law" (topS 22) a_law d_law
  g_law : mg "law" = some (.ref a_law)
  b_law : Binds K d_law ["script"] []
  z_all : mg "all" = none
  z_bool : mg "bool" = none
  z_enumerate : mg "enumerate" = none
  z_int : mg "int" = none
  z_isinstance : mg "isinstance" = none
  z_len : mg "len" = none
  z_list : mg "list" = none
  z_max : mg "max" = none
  z_min : mg "min" = none
  z_range : mg "range" = none
  z_repr : mg "repr" = none
  z_sorted : mg "sorted" = none
  z_sum : mg "sum" = none
  z_tuple : mg "tuple" = none
theorem sc_is_integer : FnScope ["value"] ["value"] (defScope (topS 1)) := ⟨rfl, rfl, rfl, by decide +kernel, rfl, by decide +kernel, by decide +kernel⟩
theorem ok_is_integer {P : Program} {w : World} {K : PySem.W.Frag} {mg : Str → Option Value} {base : Heap} (T : Txt K mg) : FnG P w K mg base (L2.CX P w) 1 T.a_is_integer T.d_is_integer ["value"] (fnSp (gx K) m_is_integer) := by
  refine fn_okG (N := ["value"]) T.F_is_integer sc_is_integer rfl fun cdv A outer s H E hr => ?_
  have hu := hr.1.units
  exact (s_one (s_ret (q_and (q_isi (by rfl) T.z_isinstance (by rfl) (q_var 0) (pcl (by rfl) T.z_int (by decide +kernel))) (q_one (q_not (q_isi (by rfl) T.z_isinstance (by rfl) (q_var 0) (pcl (by rfl) T.z_bool (by decide +kernel))) (by rfl))) (by rfl))))
theorem sc_is_positive : FnScope ["value"] ["value"] (defScope (topS 2)) := ⟨rfl, rfl, rfl, by decide +kernel, rfl, by decide +kernel, by decide +kernel⟩
theorem ok_is_positive {P : Program} {w : World} {K : PySem.W.Frag} {mg : Str → Option Value} {base : Heap} (T : Txt K mg) : FnG P w K mg base (L2.CX P w) 2 T.a_is_positive T.d_is_positive ["value"] (fnSp (gx K) m_is_positive) := by
  have C_is_integer := ok_is_integer (P := P) (w := w) (base := base) T
  refine fn_okG (N := ["value"]) T.F_is_positive sc_is_positive rfl fun cdv A outer s H E hr => ?_
  have hu := hr.1.units
  exact (s_one (s_ret (q_and (q_call (C_is_integer) (by exact hr.mono (by decide)) (by rfl) T.g_is_integer T.F_is_integer.kp T.b_is_integer (by exact takes_of rfl rfl rfl rfl) (qa_cons (q_var 0) qa_nil)) (q_one (q_cmp op_ge lk_cmp (q_var 0) q_int)) (by rfl))))
theorem sc_row_of : FnScope ["stair", "i"] ["stair", "i"] (defScope (topS 3)) := ⟨rfl, rfl, rfl, by decide +kernel, rfl, by decide +kernel, by decide +kernel⟩
theorem ok_row_of {P : Program} {w : World} {K : PySem.W.Frag} {mg : Str → Option Value} {base : Heap} (T : Txt K mg) : FnG P w K mg base (L2.CX P w) 1 T.a_row_of T.d_row_of ["stair", "i"] (fnSp (gx K) m_row_of) := by
  refine fn_okG (N := ["stair", "i"]) T.F_row_of sc_row_of rfl fun cdv A outer s H E hr => ?_
  have hu := hr.1.units
  exact (s_cons (s_if (q_cmpT op_lt lk_cmp (q_var 1) (q_callB call_len lk_len (by rfl) T.z_len (by decide +kernel) (qa_cons (q_var 0) qa_nil))) (s_one (s_ret (q_ix (q_var 0) (q_var 1) (by rfl)))) s_nil)
    (s_one (s_ret q_int)))
theorem sc_is_stair : FnScope ["value", "i", "row"] ["value"] (defScope (topS 8)) := ⟨rfl, rfl, rfl, by decide +kernel, rfl, by decide +kernel, by decide +kernel⟩
theorem ok_is_stair {P : Program} {w : World} {K : PySem.W.Frag} {mg : Str → Option Value} {base : Heap} (T : Txt K mg) : FnG P w K mg base (L2.CX P w) 3 T.a_is_stair T.d_is_stair ["value"] (fnSp (gx K) m_is_stair) := by
  have C_is_positive := ok_is_positive (P := P) (w := w) (base := base) T
  refine fn_okG (N := ["value", "i", "row"]) T.F_is_stair sc_is_stair rfl fun cdv A outer s H E hr => ?_
  have hu := hr.1.units
  exact (s_cons (s_if (q_notT (q_tru (q_isi (by rfl) T.z_isinstance (by rfl) (q_var 0) (pcl (by rfl) T.z_tuple (by decide +kernel))) (by rfl))) (s_one (s_ret q_bl)) s_nil)
    (s_cons (s_for (by exact L2.passes_of rfl) (by rfl) (it_enum (by rfl) T.z_enumerate (qa_cons (q_var 0) qa_nil) (by rfl)) (tg_tup (by rfl) (tgs_cons (tg_name (i := 1) sc_is_stair.nd (by rfl) (by first | exact Or.inl rfl | exact Or.inr rfl)) (tgs_cons (tg_name (i := 2) sc_is_stair.nd (by rfl) (by first | exact Or.inl rfl | exact Or.inr rfl)) tgs_nil)) (by rfl)) (s_cons (s_if (q_notT (q_tru (q_call (C_is_positive) (by exact hr.mono (by decide)) (by rfl) T.g_is_positive T.F_is_positive.kp T.b_is_positive (by exact takes_of rfl rfl rfl rfl) (qa_cons (q_var 2) qa_nil)) (by rfl))) (s_one (s_ret q_bl)) s_nil)
    (s_one (s_if (w_and (q_cmpT op_gt lk_cmp (q_var 1) q_int) (w_and1 (q_cmpT op_gt lk_cmp (q_var 2) (q_ix (q_var 0) (q_op op_sub lk_sub (q_var 1) q_int) (by rfl))))).pt (s_one (s_ret q_bl)) s_nil))))
    (s_one (s_ret q_bl))))
theorem sc_need_stair : FnScope ["value"] ["value"] (defScope (topS 9)) := ⟨rfl, rfl, rfl, by decide +kernel, rfl, by decide +kernel, by decide +kernel⟩
theorem ok_need_stair {P : Program} {w : World} {K : PySem.W.Frag} {mg : Str → Option Value} {base : Heap} (T : Txt K mg) : FnG P w K mg base (L2.CX P w) 4 T.a_need_stair T.d_need_stair ["value"] (fnSp (gx K) m_need_stair) := by
  have C_is_stair := ok_is_stair (P := P) (w := w) (base := base) T
  refine fn_okG (N := ["value"]) T.F_need_stair sc_need_stair rfl fun cdv A outer s H E hr => ?_
  have hu := hr.1.units
  exact (s_one (s_if (q_notT (q_tru (q_call (C_is_stair) (by exact hr.mono (by decide)) (by rfl) T.g_is_stair T.F_is_stair.kp T.b_is_stair (by exact takes_of rfl rfl rfl rfl) (qa_cons (q_var 0) qa_nil)) (by rfl))) (s_one s_bad) s_nil))
theorem sc_size : FnScope ["stair"] ["stair"] (defScope (topS 10)) := ⟨rfl, rfl, rfl, by decide +kernel, rfl, by decide +kernel, by decide +kernel⟩
theorem ok_size {P : Program} {w : World} {K : PySem.W.Frag} {mg : Str → Option Value} {base : Heap} (T : Txt K mg) : FnG P w K mg base (L2.CX P w) 5 T.a_size T.d_size ["stair"] (fnSp (gx K) m_size) := by
  have C_need_stair := ok_need_stair (P := P) (w := w) (base := base) T
  refine fn_okG (N := ["stair"]) T.F_size sc_size rfl fun cdv A outer s H E hr => ?_
  have hu := hr.1.units
  exact (s_cons (s_expr (q_call (C_need_stair) (by exact hr.mono (by decide)) (by rfl) T.g_need_stair T.F_need_stair.kp T.b_need_stair (by exact takes_of rfl rfl rfl rfl) (qa_cons (q_var 0) qa_nil)))
    (s_one (s_ret (q_callB (cr_sumA (by rfl)) lk_sum (by rfl) T.z_sum (by decide +kernel) (qa_cons (q_var 0) qa_nil)))))
theorem sc_contains : FnScope ["one", "other", "i", "row"] ["one", "other"] (defScope (topS 11)) := ⟨rfl, rfl, rfl, by decide +kernel, rfl, by decide +kernel, by decide +kernel⟩
theorem ok_contains {P : Program} {w : World} {K : PySem.W.Frag} {mg : Str → Option Value} {base : Heap} (T : Txt K mg) : FnG P w K mg base (L2.CX P w) 5 T.a_contains T.d_contains ["one", "other"] (fnSp (gx K) m_contains) := by
  have C_need_stair := ok_need_stair (P := P) (w := w) (base := base) T
  have C_row_of := ok_row_of (P := P) (w := w) (base := base) T
  refine fn_okG (N := ["one", "other", "i", "row"]) T.F_contains sc_contains rfl fun cdv A outer s H E hr => ?_
  have hu := hr.1.units
  exact (s_cons (s_expr (q_call (C_need_stair) (by exact hr.mono (by decide)) (by rfl) T.g_need_stair T.F_need_stair.kp T.b_need_stair (by exact takes_of rfl rfl rfl rfl) (qa_cons (q_var 0) qa_nil)))
    (s_cons (s_expr (q_call (C_need_stair) (by exact hr.mono (by decide)) (by rfl) T.g_need_stair T.F_need_stair.kp T.b_need_stair (by exact takes_of rfl rfl rfl rfl) (qa_cons (q_var 1) qa_nil)))
    (s_one (s_ret (q_callB (cr_all (by rfl)) lk_all (by rfl) T.z_all (by decide +kernel) (qa_cons (q_comp (by rfl) sc_contains.nd (it_enum (by rfl) T.z_enumerate (qa_cons (q_var 1) qa_nil) (by rfl)) (blkOk_by (own := [("i", 2), ("row", 3)]) (by kernel_rfl)) (by decide) (fun _ _ _ _ _ => (tg_tup (by rfl) (tgs_cons (tg_name (i := 2) sc_contains.nd (by rfl) (by first | exact Or.inl rfl | exact Or.inr rfl)) (tgs_cons (tg_name (i := 3) sc_contains.nd (by rfl) (by first | exact Or.inl rfl | exact Or.inr rfl)) tgs_nil)) (by rfl))) (fun _ _ _ _ _ => qt_nil) (fun _ _ _ _ _ => (q_cmp op_ge lk_cmp (q_call (C_row_of) (by exact hr.mono (by decide)) (by rfl) T.g_row_of T.F_row_of.kp T.b_row_of takes_none5 (qa_cons (q_var 0) (qa_cons (q_var 2) qa_nil))) (q_var 3)))) qa_nil))))))
theorem sc__law_cell : FnScope ["script", "k"] ["script", "k"] (defScope (topS 13)) := ⟨rfl, rfl, rfl, by decide +kernel, rfl, by decide +kernel, by decide +kernel⟩
theorem ok__law_cell {P : Program} {w : World} {K : PySem.W.Frag} {mg : Str → Option Value} {base : Heap} (T : Txt K mg) : FnG P w K mg base (L2.CX P w) 1 T.a__law_cell T.d__law_cell ["script", "k"] (fnSp (gx K) m__law_cell) := by
  refine fn_okG (N := ["script", "k"]) T.F__law_cell sc__law_cell rfl fun cdv A outer s H E hr => ?_
  have hu := hr.1.units
  exact (s_cons (s_if (q_cmpT op_lt lk_cmp (q_var 1) (q_callB call_len lk_len (by rfl) T.z_len (by decide +kernel) (qa_cons (q_var 0) qa_nil))) (s_one (s_ret (q_callTy call_int1 lk_int (by rfl) T.z_int (by decide +kernel) (qa_cons (q_ix (q_var 0) (q_var 1) (by rfl)) qa_nil)))) s_nil)
    (s_cons (s_if (q_cmpT (op_eq.or (op_eqD hu)) lk_eq (q_callB call_len lk_len (by rfl) T.z_len (by decide +kernel) (qa_cons (q_var 0) qa_nil)) q_int) (s_one (s_ret (q_var 1))) s_nil)
    (s_one (s_ret (q_op op_addA lk_add (q_op op_fdivA lk_fdiv (q_callTy call_int1 lk_int (by rfl) T.z_int (by decide +kernel) (qa_cons (q_ix (q_var 0) (q_op op_mod lk_mod (q_var 1) (q_callB call_len lk_len (by rfl) T.z_len (by decide +kernel) (qa_cons (q_var 0) qa_nil))) (by rfl)) qa_nil)) (q_op op_addA lk_add (q_var 1) q_int)) (q_var 1))))))
theorem sc__law_draw : FnScope ["cell", "k", "limit", "mixed"] ["cell", "k", "limit"] (defScope (topS 14)) := ⟨rfl, rfl, rfl, by decide +kernel, rfl, by decide +kernel, by decide +kernel⟩
theorem ok__law_draw {P : Program} {w : World} {K : PySem.W.Frag} {mg : Str → Option Value} {base : Heap} (T : Txt K mg) : FnG P w K mg base (L2.CX P w) 1 T.a__law_draw T.d__law_draw ["cell", "k", "limit"] (fnSp (gx K) m__law_draw) := by
  refine fn_okG (N := ["cell", "k", "limit", "mixed"]) T.F__law_draw sc__law_draw rfl fun cdv A outer s H E hr => ?_
  have hu := hr.1.units
  exact (s_cons (s_asg (i := 3) sc__law_draw.nd (by rfl) (by first | exact Or.inl rfl | exact Or.inr rfl) (q_op op_mod lk_mod (q_callTy call_int1 lk_int (by rfl) T.z_int (by decide +kernel) (qa_cons (q_op op_addA lk_add (q_op op_addA lk_add (q_op op_mulA lk_mul (q_var 0) q_int) (q_op op_mulA lk_mul (q_op op_addA lk_add (q_var 1) q_int) q_int)) q_int) qa_nil)) q_int))
    (s_cons (s_asg (i := 3) sc__law_draw.nd (by rfl) (by first | exact Or.inl rfl | exact Or.inr rfl) (q_op op_mod lk_mod (q_callTy call_int1 lk_int (by rfl) T.z_int (by decide +kernel) (qa_cons (q_op op_addA lk_add (q_op op_addA lk_add (q_op op_mulA lk_mul (q_var 3) (q_var 3)) (q_op op_mulA lk_mul q_int (q_var 1))) q_int) qa_nil)) q_int))
    (s_cons (s_asg (i := 3) sc__law_draw.nd (by rfl) (by first | exact Or.inl rfl | exact Or.inr rfl) (q_op op_mod lk_mod (q_callTy call_int1 lk_int (by rfl) T.z_int (by decide +kernel) (qa_cons (q_op op_addA lk_add (q_op op_mulA lk_mul (q_var 3) (q_op op_addA lk_add (q_op op_mod lk_mod (q_callTy call_int1 lk_int (by rfl) T.z_int (by decide +kernel) (qa_cons (q_var 3) qa_nil)) q_int) q_int)) q_int) qa_nil)) q_int))
    (s_one (s_ret (q_op op_mod lk_mod (q_op op_fdivA lk_fdiv (q_callTy call_int1 lk_int (by rfl) T.z_int (by decide +kernel) (qa_cons (q_var 3) qa_nil)) q_int) (q_var 2)))))))
theorem sc__law_digits : FnScope ["cell", "count", "limit", "numbers", "rest", "k"] ["cell", "count", "limit"] (defScope (topS 15)) := ⟨rfl, rfl, rfl, by decide +kernel, rfl, by decide +kernel, by decide +kernel⟩
theorem ok__law_digits {P : Program} {w : World} {K : PySem.W.Frag} {mg : Str → Option Value} {base : Heap} (T : Txt K mg) : FnG P w K mg base (L2.CX P w) 2 T.a__law_digits T.d__law_digits ["cell", "count", "limit"] (fnSp (gx K) m__law_digits) := by
  have C__law_draw := ok__law_draw (P := P) (w := w) (base := base) T
  refine fn_okG (N := ["cell", "count", "limit", "numbers", "rest", "k"]) T.F__law_digits sc__law_digits rfl fun cdv A outer s H E hr => ?_
  have hu := hr.1.units
  exact (s_cons (s_new (i := 3) sc__law_digits.nd (by rfl) (by first | exact Or.inl rfl | exact Or.inr rfl) (q_lst qa_nil))
    (s_cons (s_asg (i := 4) sc__law_digits.nd (by rfl) (by first | exact Or.inl rfl | exact Or.inr rfl) (q_op op_sub lk_sub (q_var 0) (q_op op_pow lk_pow q_int q_int)))
    (s_cons (s_for (by exact L2.passes_of rfl) (by rfl) (it_range1 (by rfl) T.z_range (qa_cons (q_var 1) qa_nil)) (tg_name (i := 5) sc__law_digits.nd (by rfl) (by first | exact Or.inl rfl | exact Or.inr rfl)) (s_one (s_if (q_cmpT op_ge lk_cmp (q_var 0) (q_op op_pow lk_pow q_int q_int)) (s_cons (s_methE PySem.F.slot_list_append PySem.F.type_list_append mt_append lm_append (q_var 3) (qa_cons (q_op op_mod lk_mod (q_callTy call_int1 lk_int (by rfl) T.z_int (by decide +kernel) (qa_cons (q_var 4) qa_nil)) (q_var 2)) qa_nil) (by rfl))
    (s_one (s_asg (i := 4) sc__law_digits.nd (by rfl) (by first | exact Or.inl rfl | exact Or.inr rfl) (q_op op_fdivA lk_fdiv (q_var 4) (q_var 2))))) (s_one (s_methE PySem.F.slot_list_append PySem.F.type_list_append mt_append lm_append (q_var 3) (qa_cons (q_call (C__law_draw) (by exact hr.mono (by decide)) (by rfl) T.g__law_draw T.F__law_draw.kp T.b__law_draw (by exact takes_of rfl rfl rfl rfl) (qa_cons (q_var 0) (qa_cons (q_var 5) (qa_cons (q_var 2) qa_nil)))) qa_nil) (by rfl))))))
    (s_one (s_ret (q_var 3))))))
theorem sc__law_stair : FnScope ["cell", "count", "most", "part"] ["cell", "count", "most"] (defScope (topS 16)) := ⟨rfl, rfl, rfl, by decide +kernel, rfl, by decide +kernel, by decide +kernel⟩
theorem ok__law_stair {P : Program} {w : World} {K : PySem.W.Frag} {mg : Str → Option Value} {base : Heap} (T : Txt K mg) : FnG P w K mg base (L2.CX P w) 3 T.a__law_stair T.d__law_stair ["cell", "count", "most"] (fnSp (gx K) m__law_stair) := by
  have C__law_digits := ok__law_digits (P := P) (w := w) (base := base) T
  refine fn_okG (N := ["cell", "count", "most", "part"]) T.F__law_stair sc__law_stair rfl fun cdv A outer s H E hr => ?_
  have hu := hr.1.units
  exact (s_one (s_ret (q_callTy call_tuple_of lk_tuple (by rfl) T.z_tuple (by decide +kernel) (qa_cons (q_comp (by rfl) sc__law_stair.nd (it_val (q_sortedRev (by rfl) (by rfl) T.z_sorted (qa_cons (q_call (C__law_digits) (by exact hr.mono (by decide)) (by rfl) T.g__law_digits T.F__law_digits.kp T.b__law_digits (by exact takes_of rfl rfl rfl rfl) (qa_cons (q_var 0) (qa_cons (q_var 1) (qa_cons (q_op op_addA lk_add (q_var 2) q_int) qa_nil)))) qa_nil)) (by rfl)) (blkOk_by (own := [("part", 3)]) (by kernel_rfl)) (by decide) (fun _ _ _ _ _ => (tg_name (i := 3) sc__law_stair.nd (by rfl) (by first | exact Or.inl rfl | exact Or.inr rfl))) (fun _ _ _ _ _ => (qt_one (q_cmpT op_gt lk_cmp (q_var 3) q_int))) (fun _ _ _ _ _ => (q_var 3))) qa_nil))))
theorem sc__law_strange : FnScope ["cell", "things"] ["cell"] (defScope (topS 17)) := ⟨rfl, rfl, rfl, by decide +kernel, rfl, by decide +kernel, by decide +kernel⟩
theorem ok__law_strange {P : Program} {w : World} {K : PySem.W.Frag} {mg : Str → Option Value} {base : Heap} (T : Txt K mg) : FnG P w K mg base (L2.CX P w) 1 T.a__law_strange T.d__law_strange ["cell"] (fnSp (gx K) m__law_strange) := by
  refine fn_okG (N := ["cell", "things"]) T.F__law_strange sc__law_strange rfl fun cdv A outer s H E hr => ?_
  have hu := hr.1.units
  exact (s_cons (s_asg (i := 1) sc__law_strange.nd (by rfl) (by first | exact Or.inl rfl | exact Or.inr rfl) (q_lst (qa_cons q_non (qa_cons q_int (qa_cons q_int (qa_cons q_bl (qa_cons q_str (qa_cons q_str (qa_cons (q_lst qa_nil) (qa_cons (q_lst (qa_cons q_int qa_nil)) (qa_cons q_dnil (qa_cons (q_dct (qp_int q_int qp_nil) (.cons (.inl 2) .nil)) (qa_cons (q_tup (qa_cons (q_tup (qa_cons q_int qa_nil)) (qa_cons (q_tup (qa_cons q_int qa_nil)) qa_nil))) (qa_cons (q_tup (qa_cons q_str (qa_cons q_str qa_nil))) (qa_cons (q_neg q_int) (qa_cons (q_tup (qa_cons q_str qa_nil)) (qa_cons (q_tup (qa_cons q_non qa_nil)) (qa_cons (q_tup (qa_cons (q_tup qa_nil) qa_nil)) qa_nil))))))))))))))))))
    (s_one (s_ret (q_ix (q_var 1) (q_op op_mod lk_mod (q_var 0) (q_callB call_len lk_len (by rfl) T.z_len (by decide +kernel) (qa_cons (q_var 1) qa_nil))) (by rfl)))))
theorem sc__law_spoilt : FnScope ["stair", "way", "cell", "place", "much", "odd"] ["stair", "way", "cell"] (defScope (topS 18)) := ⟨rfl, rfl, rfl, by decide +kernel, rfl, by decide +kernel, by decide +kernel⟩
theorem ok__law_spoilt {P : Program} {w : World} {K : PySem.W.Frag} {mg : Str → Option Value} {base : Heap} (T : Txt K mg) : FnG P w K mg base (L2.CX P w) 2 T.a__law_spoilt T.d__law_spoilt ["stair", "way", "cell"] (fnSp (gx K) m__law_spoilt) := by
  have C__law_strange := ok__law_strange (P := P) (w := w) (base := base) T
  refine fn_okG (N := ["stair", "way", "cell", "place", "much", "odd"]) T.F__law_spoilt sc__law_spoilt rfl fun cdv A outer s H E hr => ?_
  have hu := hr.1.units
  exact (s_cons (s_asg (i := 3) sc__law_spoilt.nd (by rfl) (by first | exact Or.inl rfl | exact Or.inr rfl) (q_op op_mod lk_mod (q_var 2) (q_callB (call_max2 (by rfl)) lk_max2 (by rfl) T.z_max (by decide +kernel) (qa_cons q_int (qa_cons (q_callB call_len lk_len (by rfl) T.z_len (by decide +kernel) (qa_cons (q_var 0) qa_nil)) qa_nil)))))
    (s_cons (s_asg (i := 4) sc__law_spoilt.nd (by rfl) (by first | exact Or.inl rfl | exact Or.inr rfl) (q_op op_addA lk_add q_int (q_op op_mod lk_mod (q_op op_fdivA lk_fdiv (q_var 2) q_int) q_int)))
    (s_cons (s_if (q_cmpT (op_eq.or (op_eqD hu)) lk_eq (q_var 1) q_int) (s_one (s_ret (q_op op_addA lk_add (q_var 0) (q_tup (qa_cons (q_ix (q_lst (qa_cons q_int (qa_cons (q_op op_sub lk_sub q_int (q_var 4)) qa_nil))) (q_op op_mod lk_mod (q_op op_fdivA lk_fdiv (q_var 2) q_int) q_int) (by rfl)) qa_nil))))) s_nil)
    (s_cons (s_if (q_cmpT (op_eq.or (op_eqD hu)) lk_eq (q_var 1) q_int) (s_one (s_ret (q_op op_addA lk_add (q_op op_addA lk_add (q_slH (q_var 0) (q_var 3) (by rfl)) (q_tup (qa_cons q_bl qa_nil))) (q_slL (q_var 0) (q_op op_addA lk_add (q_var 3) q_int) (by rfl))))) s_nil)
    (s_cons (s_if (q_cmpT (op_eq.or (op_eqD hu)) lk_eq (q_var 1) q_int) (s_cons (s_asg (i := 5) sc__law_spoilt.nd (by rfl) (by first | exact Or.inl rfl | exact Or.inr rfl) (q_ix (q_lst (qa_cons q_str (qa_cons q_non (qa_cons (q_tup (qa_cons q_int qa_nil)) (qa_cons (q_lst (qa_cons q_int qa_nil)) (qa_cons q_str (qa_cons q_bl qa_nil))))))) (q_op op_mod lk_mod (q_op op_fdivA lk_fdiv (q_var 2) q_int) q_int) (by rfl)))
    (s_one (s_ret (q_op op_addA lk_add (q_op op_addA lk_add (q_slH (q_var 0) (q_var 3) (by rfl)) (q_tup (qa_cons (q_var 5) qa_nil))) (q_slL (q_var 0) (q_op op_addA lk_add (q_var 3) q_int) (by rfl)))))) s_nil)
    (s_cons (s_if (q_cmpT (op_eq.or (op_eqD hu)) lk_eq (q_var 1) q_int) (s_one (s_ret (q_callTy call_list_of lk_list (by rfl) T.z_list (by decide +kernel) (qa_cons (q_var 0) qa_nil)))) s_nil)
    (s_cons (s_if (w_and (q_cmpT (op_eq.or (op_eqD hu)) lk_eq (q_var 1) q_int) (w_and1 (q_cmpT op_gt lk_cmp (q_callB call_len lk_len (by rfl) T.z_len (by decide +kernel) (qa_cons (q_var 0) qa_nil)) q_int))).pt (s_one (s_ret (q_op op_addA lk_add (q_op op_addA lk_add (q_slH (q_var 0) (q_op op_addA lk_add (q_var 3) q_int) (by rfl)) (q_tup (qa_cons (q_op op_addA lk_add (q_ix (q_var 0) (q_var 3) (by rfl)) (q_var 4)) qa_nil))) (q_slL (q_var 0) (q_op op_addA lk_add (q_var 3) q_int) (by rfl))))) s_nil)
    (s_one (s_ret (q_call (C__law_strange) (by exact hr.mono (by decide)) (by rfl) T.g__law_strange T.F__law_strange.kp T.b__law_strange (by exact takes_of rfl rfl rfl rfl) (qa_cons (q_var 2) qa_nil)))))))))))
theorem sc__law_within : FnScope ["outer", "cell", "more", "inner", "top", "drawn", "i", "place", "part"] ["outer", "cell", "more"] (defScope (topS 19)) := ⟨rfl, rfl, rfl, by decide +kernel, rfl, by decide +kernel, by decide +kernel⟩
theorem ok__law_within {P : Program} {w : World} {K : PySem.W.Frag} {mg : Str → Option Value} {base : Heap} (T : Txt K mg) : FnG P w K mg base (L2.CX P w) 3 T.a__law_within T.d__law_within ["outer", "cell", "more"] (fnSp (gx K) m__law_within) := by
  have C__law_digits := ok__law_digits (P := P) (w := w) (base := base) T
  refine fn_okG (N := ["outer", "cell", "more", "inner", "top", "drawn", "i", "place", "part"]) T.F__law_within sc__law_within rfl fun cdv A outer s H E hr => ?_
  have hu := hr.1.units
  exact (s_cons (s_new (i := 3) sc__law_within.nd (by rfl) (by first | exact Or.inl rfl | exact Or.inr rfl) (q_lst qa_nil))
    (s_cons (s_asg (i := 4) sc__law_within.nd (by rfl) (by first | exact Or.inl rfl | exact Or.inr rfl) (q_callB (cr_sumA (by rfl)) lk_sum (by rfl) T.z_sum (by decide +kernel) (qa_cons (q_slH (q_var 0) q_int (by rfl)) qa_nil)))
    (s_cons (s_asg (i := 5) sc__law_within.nd (by rfl) (by first | exact Or.inl rfl | exact Or.inr rfl) (q_call (C__law_digits) (by exact hr.mono (by decide)) (by rfl) T.g__law_digits T.F__law_digits.kp T.b__law_digits (by exact takes_of rfl rfl rfl rfl) (qa_cons (q_var 1) (qa_cons (q_callB call_len lk_len (by rfl) T.z_len (by decide +kernel) (qa_cons (q_var 0) qa_nil)) (qa_cons q_int qa_nil)))))
    (s_cons (s_for (by exact L2.passes_of rfl) (by rfl) (it_range1 (by rfl) T.z_range (qa_cons (q_callB call_len lk_len (by rfl) T.z_len (by decide +kernel) (qa_cons (q_var 0) qa_nil)) qa_nil)) (tg_name (i := 6) sc__law_within.nd (by rfl) (by first | exact Or.inl rfl | exact Or.inr rfl)) (s_cons (s_asg (i := 4) sc__law_within.nd (by rfl) (by first | exact Or.inl rfl | exact Or.inr rfl) (q_callB (call_min2 (by rfl)) lk_min2 (by rfl) T.z_min (by decide +kernel) (qa_cons (q_var 4) (qa_cons (q_callB (call_max2 (by rfl)) lk_max2 (by rfl) T.z_max (by decide +kernel) (qa_cons q_int (qa_cons (q_op op_sub lk_sub (q_ix (q_var 0) (q_var 6) (by rfl)) (q_op op_fdivA lk_fdiv (q_ix (q_var 5) (q_var 6) (by rfl)) q_int)) qa_nil))) qa_nil))))
    (s_one (s_methE PySem.F.slot_list_append PySem.F.type_list_append mt_append lm_append (q_var 3) (qa_cons (q_var 4) qa_nil) (by rfl)))))
    (s_cons (s_if (q_tru (q_var 2) (by rfl)) (s_cons (s_asg (i := 7) sc__law_within.nd (by rfl) (by first | exact Or.inl rfl | exact Or.inr rfl) (q_op op_mod lk_mod (q_var 1) (q_op op_addA lk_add (q_callB call_len lk_len (by rfl) T.z_len (by decide +kernel) (qa_cons (q_var 0) qa_nil)) q_int)))
    (s_cons (s_methE PySem.F.slot_list_append PySem.F.type_list_append mt_append lm_append (q_var 3) (qa_cons q_int qa_nil) (by rfl))
    (s_cons (s_sub (q_op op_addA lk_add (q_callB (cr_sumA (by rfl)) lk_sum (by rfl) T.z_sum (by decide +kernel) (qa_cons (q_slLH (q_var 0) (q_var 7) (q_op op_addA lk_add (q_var 7) q_int) (by rfl)) qa_nil)) q_int) (q_var 3) (q_var 7))
    (s_one (s_new (i := 3) sc__law_within.nd (by rfl) (by first | exact Or.inl rfl | exact Or.inr rfl) (q_comp (by rfl) sc__law_within.nd (it_range1 (by rfl) T.z_range (qa_cons (q_callB call_len lk_len (by rfl) T.z_len (by decide +kernel) (qa_cons (q_var 3) qa_nil)) qa_nil)) (blkOk_by (own := [("i", 6)]) (by kernel_rfl)) (by decide) (fun _ _ _ _ _ => (tg_name (i := 6) sc__law_within.nd (by rfl) (by first | exact Or.inl rfl | exact Or.inr rfl))) (fun _ _ _ _ _ => qt_nil) (fun _ _ _ _ _ => (q_callB (cr_max (by rfl)) lk_maxL (by rfl) T.z_max (by decide +kernel) (qa_cons (q_slL (q_var 3) (q_var 6) (by rfl)) qa_nil))))))))) s_nil)
    (s_one (s_ret (q_callTy call_tuple_of lk_tuple (by rfl) T.z_tuple (by decide +kernel) (qa_cons (q_comp (by rfl) sc__law_within.nd (it_val (q_var 3) (by rfl)) (blkOk_by (own := [("part", 8)]) (by kernel_rfl)) (by decide) (fun _ _ _ _ _ => (tg_name (i := 8) sc__law_within.nd (by rfl) (by first | exact Or.inl rfl | exact Or.inr rfl))) (fun _ _ _ _ _ => (qt_one (q_cmpT op_gt lk_cmp (q_var 8) q_int))) (fun _ _ _ _ _ => (q_var 8))) qa_nil)))))))))
theorem sc__law_all_boxes_in : FnScope ["outer", "inner", "i", "j"] ["outer", "inner"] (defScope (topS 20)) := ⟨rfl, rfl, rfl, by decide +kernel, rfl, by decide +kernel, by decide +kernel⟩
theorem ok__law_all_boxes_in {P : Program} {w : World} {K : PySem.W.Frag} {mg : Str → Option Value} {base : Heap} (T : Txt K mg) : FnG P w K mg base (L2.CX P w) 1 T.a__law_all_boxes_in T.d__law_all_boxes_in ["outer", "inner"] (fnSp (gx K) m__law_all_boxes_in) := by
  refine fn_okG (N := ["outer", "inner", "i", "j"]) T.F__law_all_boxes_in sc__law_all_boxes_in rfl fun cdv A outer s H E hr => ?_
  have hu := hr.1.units
  exact (s_cons (s_for (by exact L2.passes_of rfl) (by rfl) (it_range1 (by rfl) T.z_range (qa_cons (q_callB call_len lk_len (by rfl) T.z_len (by decide +kernel) (qa_cons (q_var 1) qa_nil)) qa_nil)) (tg_name (i := 2) sc__law_all_boxes_in.nd (by rfl) (by first | exact Or.inl rfl | exact Or.inr rfl)) (s_one (s_for (by exact L2.passes_of rfl) (by rfl) (it_range1 (by rfl) T.z_range (qa_cons (q_ix (q_var 1) (q_var 2) (by rfl)) qa_nil)) (tg_name (i := 3) sc__law_all_boxes_in.nd (by rfl) (by first | exact Or.inl rfl | exact Or.inr rfl)) (s_one (s_if (w_or (q_cmpT op_ge lk_cmp (q_var 2) (q_callB call_len lk_len (by rfl) T.z_len (by decide +kernel) (qa_cons (q_var 0) qa_nil))) (w_or1 (q_cmpT op_ge lk_cmp (q_var 3) (q_ix (q_var 0) (q_var 2) (by rfl))))).pt (s_one (s_ret q_bl)) s_nil)))))
    (s_one (s_ret q_bl)))
theorem sc__law_judged : FnScope ["value", "due", "shown", "told"] ["value", "due"] (defScope (topS 21)) := ⟨rfl, rfl, rfl, by decide +kernel, rfl, by decide +kernel, by decide +kernel⟩
theorem ok__law_judged {P : Program} {w : World} {K : PySem.W.Frag} {mg : Str → Option Value} {base : Heap} (T : Txt K mg) : FnG P w K mg base (L2.CX P w) 4 T.a__law_judged T.d__law_judged ["value", "due"] (fnSp (gx K) m__law_judged) := by
  have C_is_stair := ok_is_stair (P := P) (w := w) (base := base) T
  refine fn_okG (N := ["value", "due", "shown", "told"]) T.F__law_judged sc__law_judged rfl fun cdv A outer s H E hr => ?_
  have hu := hr.1.units
  exact (s_cons (s_asg (i := 2) sc__law_judged.nd (by rfl) (by first | exact Or.inl rfl | exact Or.inr rfl) (q_callB (call_rep (k := 0) (by rfl) (by exact hr.mono (Nat.zero_le _))) lk_repr (by rfl) T.z_repr (by decide +kernel) (qa_cons (q_var 0) qa_nil)))
    (s_cons (s_asg (i := 3) sc__law_judged.nd (by rfl) (by first | exact Or.inl rfl | exact Or.inr rfl) (q_callKw [0] (C_is_stair) (by exact hr.mono (by decide)) (by rfl) T.g_is_stair T.F_is_stair.kp (bindsKw (ps := ["value"]) (ks := ["value"]) (ix := [0]) T.F_is_stair fun _ _ _ _ _ _ us hl => match us, hl with | [_], _ => by first | rfl | kernel_rfl) (by exact takes_of rfl rfl rfl rfl) (qk_cons (q_var 0) qk_nil)))
    (s_one (s_ret (q_and (q_isi (by rfl) T.z_isinstance (by rfl) (q_var 3) (pcl (by rfl) T.z_bool (by decide +kernel))) (q_and (q_cmp (op_eq.or (op_eqD hu)) lk_eq (q_var 3) (q_var 1)) (q_one (q_cmp (op_eq.or (op_eqD hu)) lk_eq (q_callB (call_rep (k := 0) (by rfl) (by exact hr.mono (Nat.zero_le _))) lk_repr (by rfl) T.z_repr (by decide +kernel) (qa_cons (q_var 0) qa_nil)) (q_var 2))) (by rfl)) (by rfl))))))
theorem sc_law : FnScope ["script", "often", "stair", "value", "second", "outer", "inner", "boxes", "part", "told", "j"] ["script"] (defScope (topS 22)) := ⟨rfl, rfl, rfl, by decide +kernel, rfl, by decide +kernel, by decide +kernel⟩
theorem ok_law {P : Program} {w : World} {K : PySem.W.Frag} {mg : Str → Option Value} {base : Heap} (T : Txt K mg) : FnG P w K mg base (L2.CX P w) 6 T.a_law T.d_law ["script"] (fnSp (gx K) m_law) := by
  have C__law_all_boxes_in := ok__law_all_boxes_in (P := P) (w := w) (base := base) T
  have C__law_cell := ok__law_cell (P := P) (w := w) (base := base) T
  have C__law_judged := ok__law_judged (P := P) (w := w) (base := base) T
  have C__law_spoilt := ok__law_spoilt (P := P) (w := w) (base := base) T
  have C__law_stair := ok__law_stair (P := P) (w := w) (base := base) T
  have C__law_strange := ok__law_strange (P := P) (w := w) (base := base) T
  have C__law_within := ok__law_within (P := P) (w := w) (base := base) T
  have C_contains := ok_contains (P := P) (w := w) (base := base) T
  have C_size := ok_size (P := P) (w := w) (base := base) T
  refine fn_okG (N := ["script", "often", "stair", "value", "second", "outer", "inner", "boxes", "part", "told", "j"]) T.F_law sc_law rfl fun cdv A outer s H E hr => ?_
  have hu := hr.1.units
  exact (s_cons (s_asg (i := 1) sc_law.nd (by rfl) (by first | exact Or.inl rfl | exact Or.inr rfl) q_int)
    (s_cons (s_if (q_cmpT (op_eq.or (op_eqD hu)) lk_eq (q_op op_mod lk_mod (q_call (C__law_cell) (by exact hr.mono (by decide)) (by rfl) T.g__law_cell T.F__law_cell.kp T.b__law_cell (by exact takes_of rfl rfl rfl rfl) (qa_cons (q_var 0) (qa_cons q_int qa_nil))) q_int) q_int) (s_one (s_asg (i := 1) sc_law.nd (by rfl) (by first | exact Or.inl rfl | exact Or.inr rfl) (q_op op_addA lk_add q_int (q_op op_mod lk_mod (q_call (C__law_cell) (by exact hr.mono (by decide)) (by rfl) T.g__law_cell T.F__law_cell.kp T.b__law_cell (by exact takes_of rfl rfl rfl rfl) (qa_cons (q_var 0) (qa_cons q_int qa_nil))) (q_op op_pow lk_pow q_int q_int))))) s_nil)
    (s_cons (s_asg (i := 2) sc_law.nd (by rfl) (by first | exact Or.inl rfl | exact Or.inr rfl) (q_call (C__law_stair) (by exact hr.mono (by decide)) (by rfl) T.g__law_stair T.F__law_stair.kp T.b__law_stair (by exact takes_of rfl rfl rfl rfl) (qa_cons (q_call (C__law_cell) (by exact hr.mono (by decide)) (by rfl) T.g__law_cell T.F__law_cell.kp T.b__law_cell (by exact takes_of rfl rfl rfl rfl) (qa_cons (q_var 0) (qa_cons q_int qa_nil))) (qa_cons (q_op op_mod lk_mod (q_op op_fdivA lk_fdiv (q_call (C__law_cell) (by exact hr.mono (by decide)) (by rfl) T.g__law_cell T.F__law_cell.kp T.b__law_cell (by exact takes_of rfl rfl rfl rfl) (qa_cons (q_var 0) (qa_cons q_int qa_nil))) q_int) q_int) (qa_cons q_int qa_nil)))))
    (s_cons (s_asg (i := 3) sc_law.nd (by rfl) (by first | exact Or.inl rfl | exact Or.inr rfl) (q_callTy call_tuple_of lk_tuple (by rfl) T.z_tuple (by decide +kernel) (qa_cons (q_comp (by rfl) sc_law.nd (it_val (q_var 2) (by rfl)) (blkOk_by (own := [("part", 8)]) (by kernel_rfl)) (by decide) (fun _ _ _ _ _ => (tg_name (i := 8) sc_law.nd (by rfl) (by first | exact Or.inl rfl | exact Or.inr rfl))) (fun _ _ _ _ _ => qt_nil) (fun _ _ _ _ _ => (q_op op_mulA lk_mul (q_var 8) (q_var 1)))) qa_nil)))
    (s_cons (s_asg (i := 4) sc_law.nd (by rfl) (by first | exact Or.inl rfl | exact Or.inr rfl) (q_call (C__law_within) (by exact hr.mono (by decide)) (by rfl) T.g__law_within T.F__law_within.kp T.b__law_within (by exact takes_of rfl rfl rfl rfl) (qa_cons (q_var 2) (qa_cons (q_call (C__law_cell) (by exact hr.mono (by decide)) (by rfl) T.g__law_cell T.F__law_cell.kp T.b__law_cell (by exact takes_of rfl rfl rfl rfl) (qa_cons (q_var 0) (qa_cons q_int qa_nil))) (qa_cons (q_cmp (op_eq.or (op_eqD hu)) lk_eq (q_op op_mod lk_mod (q_call (C__law_cell) (by exact hr.mono (by decide)) (by rfl) T.g__law_cell T.F__law_cell.kp T.b__law_cell (by exact takes_of rfl rfl rfl rfl) (qa_cons (q_var 0) (qa_cons q_int qa_nil))) q_int) q_int) qa_nil)))))
    (s_cons (s_asg (i := 5) sc_law.nd (by rfl) (by first | exact Or.inl rfl | exact Or.inr rfl) (q_callTy call_tuple_of lk_tuple (by rfl) T.z_tuple (by decide +kernel) (qa_cons (q_comp (by rfl) sc_law.nd (it_val (q_var 2) (by rfl)) (blkOk_by (own := [("part", 8)]) (by kernel_rfl)) (by decide) (fun _ _ _ _ _ => (tg_name (i := 8) sc_law.nd (by rfl) (by first | exact Or.inl rfl | exact Or.inr rfl))) (fun _ _ _ _ _ => qt_nil) (fun _ _ _ _ _ => (q_op op_mulA lk_mul (q_var 8) (q_var 1)))) qa_nil)))
    (s_cons (s_asg (i := 6) sc_law.nd (by rfl) (by first | exact Or.inl rfl | exact Or.inr rfl) (q_callTy call_tuple_of lk_tuple (by rfl) T.z_tuple (by decide +kernel) (qa_cons (q_comp (by rfl) sc_law.nd (it_val (q_var 4) (by rfl)) (blkOk_by (own := [("part", 8)]) (by kernel_rfl)) (by decide) (fun _ _ _ _ _ => (tg_name (i := 8) sc_law.nd (by rfl) (by first | exact Or.inl rfl | exact Or.inr rfl))) (fun _ _ _ _ _ => qt_nil) (fun _ _ _ _ _ => (q_op op_mulA lk_mul (q_var 8) (q_var 1)))) qa_nil)))
    (s_cons (s_if (w_or (q_notT (q_tru (q_call (C__law_judged) (by exact hr.mono (by decide)) (by rfl) T.g__law_judged T.F__law_judged.kp T.b__law_judged (by exact takes_of rfl rfl rfl rfl) (qa_cons (q_var 3) (qa_cons q_bl qa_nil))) (by rfl))) (w_or1 (q_notT (q_tru (q_call (C__law_judged) (by exact hr.mono (by decide)) (by rfl) T.g__law_judged T.F__law_judged.kp T.b__law_judged (by exact takes_of rfl rfl rfl rfl) (qa_cons (q_tup qa_nil) (qa_cons q_bl qa_nil))) (by rfl))))).pt (s_one (s_ret q_bl)) s_nil)
    (s_cons (s_if (q_notT (q_tru (q_call (C__law_judged) (by exact hr.mono (by decide)) (by rfl) T.g__law_judged T.F__law_judged.kp T.b__law_judged (by exact takes_of rfl rfl rfl rfl) (qa_cons (q_call (C__law_spoilt) (by exact hr.mono (by decide)) (by rfl) T.g__law_spoilt T.F__law_spoilt.kp T.b__law_spoilt (by exact takes_of rfl rfl rfl rfl) (qa_cons (q_var 3) (qa_cons (q_op op_mod lk_mod (q_call (C__law_cell) (by exact hr.mono (by decide)) (by rfl) T.g__law_cell T.F__law_cell.kp T.b__law_cell (by exact takes_of rfl rfl rfl rfl) (qa_cons (q_var 0) (qa_cons q_int qa_nil))) q_int) (qa_cons (q_op op_fdivA lk_fdiv (q_call (C__law_cell) (by exact hr.mono (by decide)) (by rfl) T.g__law_cell T.F__law_cell.kp T.b__law_cell (by exact takes_of rfl rfl rfl rfl) (qa_cons (q_var 0) (qa_cons q_int qa_nil))) q_int) qa_nil)))) (qa_cons q_bl qa_nil))) (by rfl))) (s_one (s_ret q_bl)) s_nil)
    (s_cons (s_if (q_notT (q_tru (q_call (C__law_judged) (by exact hr.mono (by decide)) (by rfl) T.g__law_judged T.F__law_judged.kp T.b__law_judged (by exact takes_of rfl rfl rfl rfl) (qa_cons (q_call (C__law_strange) (by exact hr.mono (by decide)) (by rfl) T.g__law_strange T.F__law_strange.kp T.b__law_strange (by exact takes_of rfl rfl rfl rfl) (qa_cons (q_call (C__law_cell) (by exact hr.mono (by decide)) (by rfl) T.g__law_cell T.F__law_cell.kp T.b__law_cell (by exact takes_of rfl rfl rfl rfl) (qa_cons (q_var 0) (qa_cons q_int qa_nil))) qa_nil)) (qa_cons q_bl qa_nil))) (by rfl))) (s_one (s_ret q_bl)) s_nil)
    (s_cons (s_asg (i := 7) sc_law.nd (by rfl) (by first | exact Or.inl rfl | exact Or.inr rfl) q_int)
    (s_cons (s_for (by exact L2.passes_of rfl) (by rfl) (it_val (q_var 2) (by rfl)) (tg_name (i := 8) sc_law.nd (by rfl) (by first | exact Or.inl rfl | exact Or.inr rfl)) (s_one (s_asg (i := 7) sc_law.nd (by rfl) (by first | exact Or.inl rfl | exact Or.inr rfl) (q_op op_addA lk_add (q_var 7) (q_callB call_len lk_len (by rfl) T.z_len (by decide +kernel) (qa_cons (q_comp (by rfl) sc_law.nd (it_range1 (by rfl) T.z_range (qa_cons (q_var 8) qa_nil)) (blkOk_by (own := [("j", 10)]) (by kernel_rfl)) (by decide) (fun _ _ _ _ _ => (tg_name (i := 10) sc_law.nd (by rfl) (by first | exact Or.inl rfl | exact Or.inr rfl))) (fun _ _ _ _ _ => qt_nil) (fun _ _ _ _ _ => (q_var 10))) qa_nil))))))
    (s_cons (s_asg (i := 9) sc_law.nd (by rfl) (by first | exact Or.inl rfl | exact Or.inr rfl) (q_callKw [0] (C_size) (by exact hr.mono (by decide)) (by rfl) T.g_size T.F_size.kp (bindsKw (ps := ["stair"]) (ks := ["stair"]) (ix := [0]) T.F_size fun _ _ _ _ _ _ us hl => match us, hl with | [_], _ => by first | rfl | kernel_rfl) (by exact takes_of rfl rfl rfl rfl) (qk_cons (q_var 3) qk_nil)))
    (s_cons (s_if (w_or (q_notT (q_tru (q_isi (by rfl) T.z_isinstance (by rfl) (q_var 9) (pcl (by rfl) T.z_int (by decide +kernel))) (by rfl))) (w_or (q_tru (q_isi (by rfl) T.z_isinstance (by rfl) (q_var 9) (pcl (by rfl) T.z_bool (by decide +kernel))) (by rfl)) (w_or1 (q_cmpT (op_ne.or (op_neD hu)) lk_ne (q_var 9) (q_op op_mulA lk_mul (q_var 7) (q_var 1)))))).pt (s_one (s_ret q_bl)) s_nil)
    (s_cons (s_asg (i := 9) sc_law.nd (by rfl) (by first | exact Or.inl rfl | exact Or.inr rfl) (q_call (C_contains) (by exact hr.mono (by decide)) (by rfl) T.g_contains T.F_contains.kp T.b_contains (by exact takes_of rfl rfl rfl rfl) (qa_cons (q_var 5) (qa_cons (q_var 6) qa_nil))))
    (s_cons (s_if (w_or (q_notT (q_tru (q_isi (by rfl) T.z_isinstance (by rfl) (q_var 9) (pcl (by rfl) T.z_bool (by decide +kernel))) (by rfl))) (w_or1 (q_cmpT (op_ne.or (op_neD hu)) lk_ne (q_var 9) (q_call (C__law_all_boxes_in) (by exact hr.mono (by decide)) (by rfl) T.g__law_all_boxes_in T.F__law_all_boxes_in.kp T.b__law_all_boxes_in (by exact takes_of rfl rfl rfl rfl) (qa_cons (q_var 2) (qa_cons (q_var 4) qa_nil)))))).pt (s_one (s_ret q_bl)) s_nil)
    (s_cons (s_asg (i := 9) sc_law.nd (by rfl) (by first | exact Or.inl rfl | exact Or.inr rfl) (q_callKw [1, 0] (C_contains) (by exact hr.mono (by decide)) (by rfl) T.g_contains T.F_contains.kp (bindsKw (ps := ["one", "other"]) (ks := ["other", "one"]) (ix := [1, 0]) T.F_contains fun _ _ _ _ _ _ us hl => match us, hl with | [_, _], _ => by first | rfl | kernel_rfl) (by exact takes_of rfl rfl rfl rfl) (qk_cons (q_var 5) (qk_cons (q_var 6) qk_nil))))
    (s_one (s_ret (q_and (q_isi (by rfl) T.z_isinstance (by rfl) (q_var 9) (pcl (by rfl) T.z_bool (by decide +kernel))) (q_one (q_cmp (op_eq.or (op_eqD hu)) lk_eq (q_var 9) (q_call (C__law_all_boxes_in) (by exact hr.mono (by decide)) (by rfl) T.g__law_all_boxes_in T.F__law_all_boxes_in.kp T.b__law_all_boxes_in (by exact takes_of rfl rfl rfl rfl) (qa_cons (q_var 4) (qa_cons (q_var 2) qa_nil))))) (by rfl)))))))))))))))))))))
theorem all_mk {w : World} {K : PySem.W.Frag} {h : Heap} {mg : Str → Option Value} {fa : Addr} (X : K.In h) (G : h.Ns mainGlobals mg) (hfa : mg "law" = some (.ref fa))
    {f0 : Addr} {od0 an0 : Option Addr} {sl0 : Array (Option Value)} {oc0 kV0 dc0 pm0 cd0 ct0 : Value}
    (a0 : PySem.W.nsIn K mainGlobals "is_integer" = some (some (.ref f0))) (l0 : K.lookup f0 = some ⟨oc0, od0, .func (PySem.W.fnOf "is_integer" "is_integer" (defArgs (topS 1)) (defBody (topS 1)) (defScope (topS 1)) .none kV0 dc0 pm0 an0 cd0 ct0), sl0⟩) (c0 : PySem.W.codeIn K cd0 "is_integer" = true) (k0 : PySem.W.keepIn K (.ref f0) = true)
    {f1 : Addr} {od1 an1 : Option Addr} {sl1 : Array (Option Value)} {oc1 kV1 dc1 pm1 cd1 ct1 : Value}
    (a1 : PySem.W.nsIn K mainGlobals "is_positive" = some (some (.ref f1))) (l1 : K.lookup f1 = some ⟨oc1, od1, .func (PySem.W.fnOf "is_positive" "is_positive" (defArgs (topS 2)) (defBody (topS 2)) (defScope (topS 2)) .none kV1 dc1 pm1 an1 cd1 ct1), sl1⟩) (c1 : PySem.W.codeIn K cd1 "is_positive" = true) (k1 : PySem.W.keepIn K (.ref f1) = true)
    {f2 : Addr} {od2 an2 : Option Addr} {sl2 : Array (Option Value)} {oc2 kV2 dc2 pm2 cd2 ct2 : Value}
    (a2 : PySem.W.nsIn K mainGlobals "row_of" = some (some (.ref f2))) (l2 : K.lookup f2 = some ⟨oc2, od2, .func (PySem.W.fnOf "row_of" "row_of" (defArgs (topS 3)) (defBody (topS 3)) (defScope (topS 3)) .none kV2 dc2 pm2 an2 cd2 ct2), sl2⟩) (c2 : PySem.W.codeIn K cd2 "row_of" = true) (k2 : PySem.W.keepIn K (.ref f2) = true)
    {f3 : Addr} {od3 an3 : Option Addr} {sl3 : Array (Option Value)} {oc3 kV3 dc3 pm3 cd3 ct3 : Value}
    (a3 : PySem.W.nsIn K mainGlobals "is_stair" = some (some (.ref f3))) (l3 : K.lookup f3 = some ⟨oc3, od3, .func (PySem.W.fnOf "is_stair" "is_stair" (defArgs (topS 8)) (defBody (topS 8)) (defScope (topS 8)) .none kV3 dc3 pm3 an3 cd3 ct3), sl3⟩) (c3 : PySem.W.codeIn K cd3 "is_stair" = true) (k3 : PySem.W.keepIn K (.ref f3) = true)
    {f4 : Addr} {od4 an4 : Option Addr} {sl4 : Array (Option Value)} {oc4 kV4 dc4 pm4 cd4 ct4 : Value}
    (a4 : PySem.W.nsIn K mainGlobals "need_stair" = some (some (.ref f4))) (l4 : K.lookup f4 = some ⟨oc4, od4, .func (PySem.W.fnOf "need_stair" "need_stair" (defArgs (topS 9)) (defBody (topS 9)) (defScope (topS 9)) .none kV4 dc4 pm4 an4 cd4 ct4), sl4⟩) (c4 : PySem.W.codeIn K cd4 "need_stair" = true) (k4 : PySem.W.keepIn K (.ref f4) = true)
    {f5 : Addr} {od5 an5 : Option Addr} {sl5 : Array (Option Value)} {oc5 kV5 dc5 pm5 cd5 ct5 : Value}
    (a5 : PySem.W.nsIn K mainGlobals "size" = some (some (.ref f5))) (l5 : K.lookup f5 = some ⟨oc5, od5, .func (PySem.W.fnOf "size" "size" (defArgs (topS 10)) (defBody (topS 10)) (defScope (topS 10)) .none kV5 dc5 pm5 an5 cd5 ct5), sl5⟩) (c5 : PySem.W.codeIn K cd5 "size" = true) (k5 : PySem.W.keepIn K (.ref f5) = true)
    {f6 : Addr} {od6 an6 : Option Addr} {sl6 : Array (Option Value)} {oc6 kV6 dc6 pm6 cd6 ct6 : Value}
    (a6 : PySem.W.nsIn K mainGlobals "contains" = some (some (.ref f6))) (l6 : K.lookup f6 = some ⟨oc6, od6, .func (PySem.W.fnOf "contains" "contains" (defArgs (topS 11)) (defBody (topS 11)) (defScope (topS 11)) .none kV6 dc6 pm6 an6 cd6 ct6), sl6⟩) (c6 : PySem.W.codeIn K cd6 "contains" = true) (k6 : PySem.W.keepIn K (.ref f6) = true)
    {f7 : Addr} {od7 an7 : Option Addr} {sl7 : Array (Option Value)} {oc7 kV7 dc7 pm7 cd7 ct7 : Value}
    (a7 : PySem.W.nsIn K mainGlobals "_law_cell" = some (some (.ref f7))) (l7 : K.lookup f7 = some ⟨oc7, od7, .func (PySem.W.fnOf "_law_cell" "_law_cell" (defArgs (topS 13)) (defBody (topS 13)) (defScope (topS 13)) .none kV7 dc7 pm7 an7 cd7 ct7), sl7⟩) (c7 : PySem.W.codeIn K cd7 "_law_cell" = true) (k7 : PySem.W.keepIn K (.ref f7) = true)
    {f8 : Addr} {od8 an8 : Option Addr} {sl8 : Array (Option Value)} {oc8 kV8 dc8 pm8 cd8 ct8 : Value}
    (a8 : PySem.W.nsIn K mainGlobals "_law_draw" = some (some (.ref f8))) (l8 : K.lookup f8 = some ⟨oc8, od8, .func (PySem.W.fnOf "_law_draw" "_law_draw" (defArgs (topS 14)) (defBody (topS 14)) (defScope (topS 14)) .none kV8 dc8 pm8 an8 cd8 ct8), sl8⟩) (c8 : PySem.W.codeIn K cd8 "_law_draw" = true) (k8 : PySem.W.keepIn K (.ref f8) = true)
    {f9 : Addr} {od9 an9 : Option Addr} {sl9 : Array (Option Value)} {oc9 kV9 dc9 pm9 cd9 ct9 : Value}
    (a9 : PySem.W.nsIn K mainGlobals "_law_digits" = some (some (.ref f9))) (l9 : K.lookup f9 = some ⟨oc9, od9, .func (PySem.W.fnOf "_law_digits" "_law_digits" (defArgs (topS 15)) (defBody (topS 15)) (defScope (topS 15)) .none kV9 dc9 pm9 an9 cd9 ct9), sl9⟩) (c9 : PySem.W.codeIn K cd9 "_law_digits" = true) (k9 : PySem.W.keepIn K (.ref f9) = true)
    {f10 : Addr} {od10 an10 : Option Addr} {sl10 : Array (Option Value)} {oc10 kV10 dc10 pm10 cd10 ct10 : Value}
    (a10 : PySem.W.nsIn K mainGlobals "_law_stair" = some (some (.ref f10))) (l10 : K.lookup f10 = some ⟨oc10, od10, .func (PySem.W.fnOf "_law_stair" "_law_stair" (defArgs (topS 16)) (defBody (topS 16)) (defScope (topS 16)) .none kV10 dc10 pm10 an10 cd10 ct10), sl10⟩) (c10 : PySem.W.codeIn K cd10 "_law_stair" = true) (k10 : PySem.W.keepIn K (.ref f10) = true)
    {f11 : Addr} {od11 an11 : Option Addr} {sl11 : Array (Option Value)} {oc11 kV11 dc11 pm11 cd11 ct11 : Value}
    (a11 : PySem.W.nsIn K mainGlobals "_law_strange" = some (some (.ref f11))) (l11 : K.lookup f11 = some ⟨oc11, od11, .func (PySem.W.fnOf "_law_strange" "_law_strange" (defArgs (topS 17)) (defBody (topS 17)) (defScope (topS 17)) .none kV11 dc11 pm11 an11 cd11 ct11), sl11⟩) (c11 : PySem.W.codeIn K cd11 "_law_strange" = true) (k11 : PySem.W.keepIn K (.ref f11) = true)
    {f12 : Addr} {od12 an12 : Option Addr} {sl12 : Array (Option Value)} {oc12 kV12 dc12 pm12 cd12 ct12 : Value}
    (a12 : PySem.W.nsIn K mainGlobals "_law_spoilt" = some (some (.ref f12))) (l12 : K.lookup f12 = some ⟨oc12, od12, .func (PySem.W.fnOf "_law_spoilt" "_law_spoilt" (defArgs (topS 18)) (defBody (topS 18)) (defScope (topS 18)) .none kV12 dc12 pm12 an12 cd12 ct12), sl12⟩) (c12 : PySem.W.codeIn K cd12 "_law_spoilt" = true) (k12 : PySem.W.keepIn K (.ref f12) = true)
    {f13 : Addr} {od13 an13 : Option Addr} {sl13 : Array (Option Value)} {oc13 kV13 dc13 pm13 cd13 ct13 : Value}
    (a13 : PySem.W.nsIn K mainGlobals "_law_within" = some (some (.ref f13))) (l13 : K.lookup f13 = some ⟨oc13, od13, .func (PySem.W.fnOf "_law_within" "_law_within" (defArgs (topS 19)) (defBody (topS 19)) (defScope (topS 19)) .none kV13 dc13 pm13 an13 cd13 ct13), sl13⟩) (c13 : PySem.W.codeIn K cd13 "_law_within" = true) (k13 : PySem.W.keepIn K (.ref f13) = true)
    {f14 : Addr} {od14 an14 : Option Addr} {sl14 : Array (Option Value)} {oc14 kV14 dc14 pm14 cd14 ct14 : Value}
    (a14 : PySem.W.nsIn K mainGlobals "_law_all_boxes_in" = some (some (.ref f14))) (l14 : K.lookup f14 = some ⟨oc14, od14, .func (PySem.W.fnOf "_law_all_boxes_in" "_law_all_boxes_in" (defArgs (topS 20)) (defBody (topS 20)) (defScope (topS 20)) .none kV14 dc14 pm14 an14 cd14 ct14), sl14⟩) (c14 : PySem.W.codeIn K cd14 "_law_all_boxes_in" = true) (k14 : PySem.W.keepIn K (.ref f14) = true)
    {f15 : Addr} {od15 an15 : Option Addr} {sl15 : Array (Option Value)} {oc15 kV15 dc15 pm15 cd15 ct15 : Value}
    (a15 : PySem.W.nsIn K mainGlobals "_law_judged" = some (some (.ref f15))) (l15 : K.lookup f15 = some ⟨oc15, od15, .func (PySem.W.fnOf "_law_judged" "_law_judged" (defArgs (topS 21)) (defBody (topS 21)) (defScope (topS 21)) .none kV15 dc15 pm15 an15 cd15 ct15), sl15⟩) (c15 : PySem.W.codeIn K cd15 "_law_judged" = true) (k15 : PySem.W.keepIn K (.ref f15) = true)
    {f16 : Addr} {od16 an16 : Option Addr} {sl16 : Array (Option Value)} {oc16 kV16 dc16 pm16 cd16 ct16 : Value}
    (a16 : PySem.W.nsIn K mainGlobals "law" = some (some (.ref f16))) (l16 : K.lookup f16 = some ⟨oc16, od16, .func (PySem.W.fnOf "law" "law" (defArgs (topS 22)) (defBody (topS 22)) (defScope (topS 22)) .none kV16 dc16 pm16 an16 cd16 ct16), sl16⟩) (c16 : PySem.W.codeIn K cd16 "law" = true) (k16 : PySem.W.keepIn K (.ref f16) = true)
    (z_all : PySem.W.nsIn K mainGlobals "all" = some none)
    (z_bool : PySem.W.nsIn K mainGlobals "bool" = some none)
    (z_enumerate : PySem.W.nsIn K mainGlobals "enumerate" = some none)
    (z_int : PySem.W.nsIn K mainGlobals "int" = some none)
    (z_isinstance : PySem.W.nsIn K mainGlobals "isinstance" = some none)
    (z_len : PySem.W.nsIn K mainGlobals "len" = some none)
    (z_list : PySem.W.nsIn K mainGlobals "list" = some none)
    (z_max : PySem.W.nsIn K mainGlobals "max" = some none)
    (z_min : PySem.W.nsIn K mainGlobals "min" = some none)
    (z_range : PySem.W.nsIn K mainGlobals "range" = some none)
    (z_repr : PySem.W.nsIn K mainGlobals "repr" = some none)
    (z_sorted : PySem.W.nsIn K mainGlobals "sorted" = some none)
    (z_sum : PySem.W.nsIn K mainGlobals "sum" = some none)
    (z_tuple : PySem.W.nsIn K mainGlobals "tuple" = some none)
    : ∃ fd : FuncData, (∀ (s : Shared) (v : Value), BindsTo s fd ⟨[v], []⟩ [("script", v)]) ∧ ∀ base : Heap, K.In base → base.Ns mainGlobals mg → FnG PySem.Challenge.rw_hornstairs_k01_stair_judged_by_boxes.prog w K mg base (L2.CX PySem.Challenge.rw_hornstairs_k01_stair_judged_by_boxes.prog w) 6 fa fd ["script"] (fnSp (gx K) m_law) := by
  have e := hfa.symm.trans (PySem.W.mg_of X G a16)
  cases e
  have F0 := fun_mk (st := topS 1) l0 c0 k0
  have F1 := fun_mk (st := topS 2) l1 c1 k1
  have F2 := fun_mk (st := topS 3) l2 c2 k2
  have F3 := fun_mk (st := topS 8) l3 c3 k3
  have F4 := fun_mk (st := topS 9) l4 c4 k4
  have F5 := fun_mk (st := topS 10) l5 c5 k5
  have F6 := fun_mk (st := topS 11) l6 c6 k6
  have F7 := fun_mk (st := topS 13) l7 c7 k7
  have F8 := fun_mk (st := topS 14) l8 c8 k8
  have F9 := fun_mk (st := topS 15) l9 c9 k9
  have F10 := fun_mk (st := topS 16) l10 c10 k10
  have F11 := fun_mk (st := topS 17) l11 c11 k11
  have F12 := fun_mk (st := topS 18) l12 c12 k12
  have F13 := fun_mk (st := topS 19) l13 c13 k13
  have F14 := fun_mk (st := topS 20) l14 c14 k14
  have F15 := fun_mk (st := topS 21) l15 c15 k15
  have F16 := fun_mk (st := topS 22) l16 c16 k16
  let T : Txt K mg := {
    a_is_integer := _, d_is_integer := _, F_is_integer := F0, g_is_integer := PySem.W.mg_of X G a0, b_is_integer := F0.binds (ps := ["value"]) fun _ _ _ _ _ _ us hl => (match us, hl with | [_], _ => rfl),
    a_is_positive := _, d_is_positive := _, F_is_positive := F1, g_is_positive := PySem.W.mg_of X G a1, b_is_positive := F1.binds (ps := ["value"]) fun _ _ _ _ _ _ us hl => (match us, hl with | [_], _ => rfl),
    a_row_of := _, d_row_of := _, F_row_of := F2, g_row_of := PySem.W.mg_of X G a2, b_row_of := F2.binds (ps := ["stair", "i"]) fun _ _ _ _ _ _ us hl => (match us, hl with | [_, _], _ => rfl),
    a_is_stair := _, d_is_stair := _, F_is_stair := F3, g_is_stair := PySem.W.mg_of X G a3, b_is_stair := F3.binds (ps := ["value"]) fun _ _ _ _ _ _ us hl => (match us, hl with | [_], _ => rfl),
    a_need_stair := _, d_need_stair := _, F_need_stair := F4, g_need_stair := PySem.W.mg_of X G a4, b_need_stair := F4.binds (ps := ["value"]) fun _ _ _ _ _ _ us hl => (match us, hl with | [_], _ => rfl),
    a_size := _, d_size := _, F_size := F5, g_size := PySem.W.mg_of X G a5, b_size := F5.binds (ps := ["stair"]) fun _ _ _ _ _ _ us hl => (match us, hl with | [_], _ => rfl),
    a_contains := _, d_contains := _, F_contains := F6, g_contains := PySem.W.mg_of X G a6, b_contains := F6.binds (ps := ["one", "other"]) fun _ _ _ _ _ _ us hl => (match us, hl with | [_, _], _ => rfl),
    a__law_cell := _, d__law_cell := _, F__law_cell := F7, g__law_cell := PySem.W.mg_of X G a7, b__law_cell := F7.binds (ps := ["script", "k"]) fun _ _ _ _ _ _ us hl => (match us, hl with | [_, _], _ => rfl),
    a__law_draw := _, d__law_draw := _, F__law_draw := F8, g__law_draw := PySem.W.mg_of X G a8, b__law_draw := F8.binds (ps := ["cell", "k", "limit"]) fun _ _ _ _ _ _ us hl => (match us, hl with | [_, _, _], _ => rfl),
    a__law_digits := _, d__law_digits := _, F__law_digits := F9, g__law_digits := PySem.W.mg_of X G a9, b__law_digits := F9.binds (ps := ["cell", "count", "limit"]) fun _ _ _ _ _ _ us hl => (match us, hl with | [_, _, _], _ => rfl),
    a__law_stair := _, d__law_stair := _, F__law_stair := F10, g__law_stair := PySem.W.mg_of X G a10, b__law_stair := F10.binds (ps := ["cell", "count", "most"]) fun _ _ _ _ _ _ us hl => (match us, hl with | [_, _, _], _ => rfl),
    a__law_strange := _, d__law_strange := _, F__law_strange := F11, g__law_strange := PySem.W.mg_of X G a11, b__law_strange := F11.binds (ps := ["cell"]) fun _ _ _ _ _ _ us hl => (match us, hl with | [_], _ => rfl),
    a__law_spoilt := _, d__law_spoilt := _, F__law_spoilt := F12, g__law_spoilt := PySem.W.mg_of X G a12, b__law_spoilt := F12.binds (ps := ["stair", "way", "cell"]) fun _ _ _ _ _ _ us hl => (match us, hl with | [_, _, _], _ => rfl),
    a__law_within := _, d__law_within := _, F__law_within := F13, g__law_within := PySem.W.mg_of X G a13, b__law_within := F13.binds (ps := ["outer", "cell", "more"]) fun _ _ _ _ _ _ us hl => (match us, hl with | [_, _, _], _ => rfl),
    a__law_all_boxes_in := _, d__law_all_boxes_in := _, F__law_all_boxes_in := F14, g__law_all_boxes_in := PySem.W.mg_of X G a14, b__law_all_boxes_in := F14.binds (ps := ["outer", "inner"]) fun _ _ _ _ _ _ us hl => (match us, hl with | [_, _], _ => rfl),
    a__law_judged := _, d__law_judged := _, F__law_judged := F15, g__law_judged := PySem.W.mg_of X G a15, b__law_judged := F15.binds (ps := ["value", "due"]) fun _ _ _ _ _ _ us hl => (match us, hl with | [_, _], _ => rfl),
    a_law := _, d_law := _, F_law := F16, g_law := PySem.W.mg_of X G a16, b_law := F16.binds (ps := ["script"]) fun _ _ _ _ _ _ us hl => (match us, hl with | [_], _ => rfl),
    z_all := PySem.W.mg_none_of X G z_all,
    z_bool := PySem.W.mg_none_of X G z_bool,
    z_enumerate := PySem.W.mg_none_of X G z_enumerate,
    z_int := PySem.W.mg_none_of X G z_int,
    z_isinstance := PySem.W.mg_none_of X G z_isinstance,
    z_len := PySem.W.mg_none_of X G z_len,
    z_list := PySem.W.mg_none_of X G z_list,
    z_max := PySem.W.mg_none_of X G z_max,
    z_min := PySem.W.mg_none_of X G z_min,
    z_range := PySem.W.mg_none_of X G z_range,
    z_repr := PySem.W.mg_none_of X G z_repr,
    z_sorted := PySem.W.mg_none_of X G z_sorted,
    z_sum := PySem.W.mg_none_of X G z_sum,
    z_tuple := PySem.W.mg_none_of X G z_tuple }
  exact ⟨T.d_law, fun s v => .of_eq rfl, fun base _ _ => ok_law (P := PySem.Challenge.rw_hornstairs_k01_stair_judged_by_boxes.prog) (w := w) (base := base) T⟩
end K01

namespace K01
open HC

/-! ## the drawing of inputs -/
theorem cell_is (ns : List Int) (k : Nat) (hk : k ≤ 1000) : ∃ c, m__law_cell [.rol (its ns), .int k] = .ok (.int c) false := by
  have hl : (its ns).length = ns.length := List.length_map ..
  have t : (cBin bLt (cVar 1) (cApp fLen (cCons (cVar 0) cNil))) [some (.rol (its ns)), some (.int k)] [] = .ok (.bl (decide ((k : Int) < ((its ns).length : Nat)))) false := rfl
  by_cases h : k < ns.length
  · obtain ⟨i, hi⟩ : ∃ i, ns[k]? = some i := ⟨_, List.getElem?_eq_getElem h⟩
    rw [decide_eq_true (by rw [hl]; omega)] at t
    exact ⟨i, run_rt rfl ((seq_rt ((if_t t).trans (ret_v (app_to (bin_to rfl rfl (ixS hi)) rfl)))))⟩
  · rw [decide_eq_false (by rw [hl]; omega)] at t
    have t2 : (cBin bEq (cApp fLen (cCons (cVar 0) cNil)) (cD (.int 0))) [some (.rol (its ns)), some (.int k)] [] = .ok (.bl (decide (((its ns).length : Int) = 0))) false := rfl
    by_cases h0 : ns.length = 0
    · rw [decide_eq_true (by rw [hl]; omega)] at t2
      exact ⟨k, run_rt rfl ((seq_nx (if_f t)).trans (seq_rt (if_t t2)))⟩
    · rw [decide_eq_false (by rw [hl]; omega)] at t2
      have hm : k % ns.length < ns.length := Nat.mod_lt _ (by omega)
      obtain ⟨i, hi⟩ : ∃ i, ns[k % ns.length]? = some i := ⟨_, List.getElem?_eq_getElem hm⟩
      have e1 : (cBin bMod (cVar 1) (cApp fLen (cCons (cVar 0) cNil))) [some (.rol (its ns)), some (.int k)] [] = .ok (.int ((k % ns.length : Nat) : Int)) false := by
        refine (bin_ok (x := .int k) (y := .int ((its ns).length : Nat)) rfl rfl).trans ?_
        rw [mod_p (by rw [hl]; omega), hl]
        rfl
      refine ⟨i / ((k : Int) + 2) + k, run_rt rfl ((seq_nx (if_f t)).trans ((seq_nx (if_f t2)).trans ?_))⟩
      exact ret_v (bin_to (bin_to (app_to (bin_to rfl e1 (ixS hi)) rfl) rfl (div_p (by omega) (by omega))) rfl rfl)
theorem draw_is (c : Int) (k : Nat) (l : Int) (hk : k ≤ 1000) (h0 : 0 < l) : ∃ d, m__law_draw [.int c, .int k, .int l] = .ok (.int d) false ∧ 0 ≤ d ∧ d < l := by
  have b1 : ∃ z : Int, z = (c * 48271 + ((k : Int) + 1) * 69621 + 7) % 2147483647 := ⟨_, rfl⟩
  obtain ⟨z1, e1⟩ := b1
  have r1 : 0 ≤ z1 ∧ z1 < 2147483647 := by omega
  obtain ⟨z2, e2⟩ : ∃ z : Int, z = (z1 * z1 + 7919 * (k : Int) + 104729) % 2147483629 := ⟨_, rfl⟩
  have r2 : 0 ≤ z2 ∧ z2 < 2147483629 := by omega
  obtain ⟨z3, e3⟩ : ∃ z : Int, z = (z2 * (z2 % 65521 + 3) + 40692) % 2147483587 := ⟨_, rfl⟩
  have r3 : 0 ≤ z3 ∧ z3 < 2147483587 := by omega
  have s1 : small z1 = true := small_of (by omega) (by omega)
  have s2 : small z2 = true := small_of (by omega) (by omega)
  refine ⟨z3 / 7 % l, run_rt rfl ((seq_nx (σ1 := [some (.int c), some (.int k), some (.int l), some (.int z1)]) (S1 := []) (asg_ok (d := .int z1) (fr := false) ?_)).trans
    ((seq_nx (σ1 := [some (.int c), some (.int k), some (.int l), some (.int z2)]) (S1 := []) (asg_ok (d := .int z2) (fr := false) ?_)).trans
    ((seq_nx (σ1 := [some (.int c), some (.int k), some (.int l), some (.int z3)]) (S1 := []) (asg_ok (d := .int z3) (fr := false) ?_)).trans (ret_v ?_)))), Int.emod_nonneg _ (by omega), Int.emod_lt_of_pos _ h0⟩
  · rw [e1]
    exact bin_to (app_to (bin_to (bin_to (bin_to rfl rfl (mul_r rfl)) (bin_to (bin_to rfl rfl rfl) rfl (mul_r rfl)) rfl) rfl rfl) rfl) rfl (mod_p (by omega))
  · rw [e2]
    exact bin_to (app_to (bin_to (bin_to (bin_to rfl rfl (mul_r s1)) (bin_to rfl rfl (mul_l rfl)) rfl) rfl rfl) rfl) rfl (mod_p (by omega))
  · rw [e3]
    exact bin_to (app_to (bin_to (bin_to rfl (bin_to (bin_to (app_to rfl rfl) rfl (mod_p (by omega))) rfl rfl) (mul_l s2)) rfl rfl) rfl) rfl (mod_p (by omega))
  · exact bin_to (bin_to (app_to rfl rfl) rfl (div_p (by omega) (by omega))) rfl (mod_p h0)
theorem digits_is (c : Int) (n : Nat) (l : Int) (hn : n ≤ 1000) (h0 : 0 < l) (h1 : l < 1073741824) : ∃ ds : List Int, m__law_digits [.int c, .int n, .int l] = .ok (.lst (its ds)) true ∧ ds.length = n ∧ ∀ d ∈ ds, 0 ≤ d ∧ d < l := by
  let I : Nat → Sl → List SO → Prop := fun i σ S => ∃ (ds : List Int) (rest : Int) (k : Option D), σ = [some (.int c), some (.int n), some (.int l), some (.loc 0), some (.int rest), k] ∧ S = [.lst (its ds)] ∧ ds.length = i ∧ ∀ d ∈ ds, 0 ≤ d ∧ d < l
  obtain ⟨σ', S', hf, ds, rest, k, rfl, rfl, hl, hd⟩ := for_inv (A := tgName 5) (body := sIf (cBin bGe (cVar 0) (cBin bPow (cD (.int 10)) (cD (.int 18)))) (sSeq (sMethE mAppend (cVar 3) (cCons (cBin bMod (cApp fInt (cCons (cVar 4) cNil)) (cVar 2)) cNil)) (sAsg 4 (cBin bFdiv (cVar 4) (cVar 2)))) (sMethE mAppend (cVar 3) (cCons (cApp (callD m__law_draw) (cCons (cVar 0) (cCons (cVar 5) (cCons (cVar 2) cNil)))) cNil)))
    I (rangeD 0 n) 0 [some (.int c), some (.int n), some (.int l), some (.loc 0), some (.int (c - 1000000000000000000)), none] [.lst []] ⟨[], _, _, rfl, rfl, rfl, fun d h => nomatch h⟩ (fun j d σ S hj hi => by
      obtain ⟨ds, rest, k, rfl, rfl, hl, hd⟩ := hi
      have hjn : j < n := by
        have := (List.getElem?_eq_some_iff.mp hj).1
        rw [rangeD_len] at this
        exact this
      have ed : d = .int j := by
        rw [range_get n 0 j hjn] at hj
        rw [← Option.some.inj hj]
        congr 1
        omega
      subst ed
      have hlen : (its ds).length < lim := by
        rw [List.length_map]
        unfold lim
        omega
      have hz : ∀ z : Int, 0 ≤ z → z < l → I (0 + j + 1) [some (.int c), some (.int n), some (.int l), some (.loc 0), some (.int rest), some (.int j)] [.lst (its ds ++ [.int z])] := fun z z0 z1 =>
        ⟨ds ++ [z], rest, _, rfl, by rw [its_snoc], by rw [List.length_append, hl]; rfl, fun y hy => (List.mem_append.mp hy).elim (hd y) fun h => by rw [List.mem_singleton.mp h]; exact ⟨z0, z1⟩⟩
      refine ⟨[some (.int c), some (.int n), some (.int l), some (.loc 0), some (.int rest), some (.int j)], ?_⟩
      by_cases hc : 1000000000000000000 ≤ c
      · have t : (cBin bGe (cVar 0) (cBin bPow (cD (.int 10)) (cD (.int 18)))) [some (.int c), some (.int n), some (.int l), some (.loc 0), some (.int rest), some (.int j)] [.lst (its ds)] = .ok (.bl (decide ((1000000000000000000 : Int) ≤ c))) false := rfl
        rw [decide_eq_true hc] at t
        obtain ⟨ds2, _, k2, e1, e2, e3, e4⟩ := hz (rest % l) (Int.emod_nonneg _ (by omega)) (Int.emod_lt_of_pos _ h0)
        refine ⟨_, _, rfl, .inl ((if_t t).trans ((seq_nx (append_ok rfl (bin_to (app_to rfl rfl) rfl (mod_p h0)) rfl hlen)).trans (asg_ok (bin_to rfl rfl (div_p h0 h1))))), ds2, rest / l, some (.int j), rfl, e2, e3, e4⟩
      · have t : (cBin bGe (cVar 0) (cBin bPow (cD (.int 10)) (cD (.int 18)))) [some (.int c), some (.int n), some (.int l), some (.loc 0), some (.int rest), some (.int j)] [.lst (its ds)] = .ok (.bl (decide ((1000000000000000000 : Int) ≤ c))) false := rfl
        rw [decide_eq_false hc] at t
        obtain ⟨z, q1, q2, q3⟩ := draw_is c j l (by omega) h0
        exact ⟨_, _, rfl, .inl ((if_f t).trans (append_ok rfl (call_d rfl rfl q1) rfl hlen)), hz z q2 q3⟩)
  refine ⟨ds, run_rt rfl ((seq_nx (σ1 := [some (.int c), some (.int n), some (.int l), some (.loc 0), none, none]) (S1 := [.lst []]) (new_l rfl)).trans ((seq_nx (σ1 := [some (.int c), some (.int n), some (.int l), some (.loc 0), some (.int (c - 1000000000000000000)), none]) (S1 := [.lst []]) (asg_ok rfl)).trans
    ((seq_nx ((for_st (iapp_to rfl (rg1_n (by omega) (by omega)))).trans hf)).trans (ret_loc rfl rfl (pure_its ds))))), ?_, hd⟩
  rw [hl, rangeD_len, Nat.zero_add]
theorem stair_is (c : Int) (n : Nat) (m : Int) (hn : n ≤ 1000) (h0 : 0 ≤ m) (h1 : m < 1000000000) : ∃ ds : List Int, m__law_stair [.int c, .int n, .int m] = .ok (.tup (its ds)) false ∧ ds.length ≤ n ∧ ds.Pairwise (· ≥ ·) ∧ ∀ d ∈ ds, 0 < d ∧ d ≤ m := by
  obtain ⟨ds, q1, q2, q3⟩ := digits_is c n (m + 1) hn (by omega) (by omega)
  have hs : (cApp (fSorted true) (cCons (cApp (callD m__law_digits) (cCons (cVar 0) (cCons (cVar 1) (cCons (cBin bAdd (cVar 2) (cD (.int 1))) cNil)))) cNil)) [some (.int c), some (.int n), some (.int m), none] [] = .ok (.lst (its (sortI true ds))) true := by
    refine app_to (call_d rfl rfl q1) ?_
    show (match intsOf (its ds) with | some ns => Res.ok (.lst (its (sortI true ns))) true | none => Res.bad) = _
    rw [ints_its]
  have hc := comp_is (A := tgName 3) (t := cBin bGt (cVar 3) (cD (.int 0))) (f := cVar 3) (σ := [some (.int c), some (.int n), some (.int m), none]) (S := []) (fun d => decide (0 < intD d)) (fun d => d) (its (sortI true ds)) fun d hd => by
    obtain ⟨i, _, rfl⟩ := List.mem_map.mp hd
    exact ⟨_, false, rfl, rfl, fun _ => ⟨rfl, _, rfl⟩⟩
  rw [filter_its (fun i => decide (0 < i)) _ (fun i => rfl), List.map_id'] at hc
  refine ⟨(sortI true ds).filter fun i => decide (0 < i), run_rt rfl (ret_v (tuple_l (cons1 (comp_st (ws := [3]) (ival_l hs) hc)) (pure_its _))), ?_, ?_, fun d hd => ?_⟩
  · exact Nat.le_trans (List.length_filter_le ..) (by rw [sortI_len, q2]; exact Nat.le_refl _)
  · exact (sort_down ds).filter _
  · obtain ⟨h1, h2⟩ := List.mem_filter.mp hd
    have := q3 d (rev_mem h1)
    have := of_decide_eq_true h2
    omega
end K01

namespace K01
open HC

/-! ## what is a stair -/
def goodD : D → Bool
  | .int i => decide (1 ≤ i)
  | _ => false
def typD (d : D) : Prop := ∃ t, tgD [] d = some t
theorem pos_is {d : D} (h : typD d) : m_is_positive [d] = .ok (.bl (goodD d)) false := by
  obtain ⟨t, ht⟩ := h
  cases d with
  | int i => rfl
  | bl b => cases b <;> rfl
  | non => rfl
  | str x => rfl
  | tup xs => rfl
  | lst xs => rfl
  | rol xs => rfl
  | dct ks vs => rfl
  | obj c vs => exact nomatch ht
  | loc n => exact nomatch ht
  | err => exact nomatch ht
def leP : Option Int → Int → Bool
  | none, _ => true
  | some p, z => decide (z ≤ p)
def stairB : Option Int → List D → Bool
  | _, [] => true
  | p, d :: r => goodD d && (leP p (intD d) && stairB (some (intD d)) r)
abbrev stBody : SC := sSeq (sIf (cNotB (cTru (cApp (callD m_is_positive) (cCons (cVar 2) cNil)))) (sRet (cD (.bl false))) sSkip)
    (sIf (cAndB (cBin bGt (cVar 1) (cD (.int 0))) (cBin bGt (cVar 2) (cBin bIx (cVar 0) (cBin bSub (cVar 1) (cD (.int 1)))))) (sRet (cD (.bl false))) sSkip)
abbrev stTg : TgF := tgTup 2 (tgCons (tgName 1) (tgCons (tgName 2) tgNil))
theorem typ_pure {d : D} (h : typD d) : d.pure = true := by
  obtain ⟨t, ht⟩ := h
  cases d <;> first | rfl | exact nomatch ht
theorem stair_loop (xs : List D) (hx : ∀ d ∈ xs, typD d) : ∀ (rest : List D) (i : Nat) (p : Option Int) (a b : Option D), xs.drop i = rest → (match p with | none => i = 0 | some q => ∃ j, i = j + 1 ∧ gets xs j = some (.int q)) →
    (stairB p rest = true → ∃ σ', forL stTg stBody (enumD i rest) [some (.tup xs), a, b] [] = .nx σ' []) ∧ (stairB p rest = false → forL stTg stBody (enumD i rest) [some (.tup xs), a, b] [] = .rt (.bl false) false)
  | [], i, p, a, b, _, _ => ⟨fun _ => ⟨_, rfl⟩, fun h => nomatch h⟩
  | d :: rest, i, p, a, b, hd, hp => by
    have hg : gets xs i = some d := by
      rw [gets_eq, ← List.head?_drop, hd]
      rfl
    have td : typD d := hx d (List.mem_of_mem_drop (hd ▸ List.mem_cons_self ..))
    have hr : xs.drop (i + 1) = rest := by rw [← List.tail_drop, hd]; rfl
    have t1 : (cNotB (cTru (cApp (callD m_is_positive) (cCons (cVar 2) cNil)))) [some (.tup xs), some (.int i), some d] [] = .ok (.bl (!goodD d)) false := by
      have e : cApp (callD m_is_positive) (cCons (cVar 2) cNil) [some (.tup xs), some (.int i), some d] [] = .ok (.bl (goodD d)) false := call_d (ds := [d]) rfl (by show (d.pure && true) = true; rw [typ_pure td]; rfl) (pos_is td)
      unfold cNotB cTru
      simp only [e, truth]
    cases g : goodD d with
    | false =>
      refine ⟨fun h => ?_, fun _ => ?_⟩
      · unfold stairB at h
        rw [g] at h
        exact nomatch h
      · rw [g] at t1
        show (match stBody [some (.tup xs), some (.int i), some d] [] with | .nx σ2 S2 => forL stTg stBody (enumD (i + 1) rest) σ2 S2 | .ct σ2 S2 => forL stTg stBody (enumD (i + 1) rest) σ2 S2 | .bk σ2 S2 => .nx σ2 S2 | r => r) = _
        rw [show stBody [some (.tup xs), some (.int i), some d] [] = .rt (.bl false) false from seq_rt ((if_t t1).trans (ret_v rfl))]
    | true =>
      obtain ⟨z, rfl⟩ : ∃ z, d = .int z := by
        cases d with
        | int z => exact ⟨z, rfl⟩
        | _ => exact nomatch g
      rw [g] at t1
      have t2 : (cAndB (cBin bGt (cVar 1) (cD (.int 0))) (cBin bGt (cVar 2) (cBin bIx (cVar 0) (cBin bSub (cVar 1) (cD (.int 1)))))) [some (.tup xs), some (.int i), some (.int z)] [] = .ok (.bl (!(leP p z))) false := by
        cases p with
        | none =>
          obtain rfl : i = 0 := hp
          rfl
        | some q =>
          obtain ⟨j, rfl, hj⟩ := hp
          have e1 : cBin bIx (cVar 0) (cBin bSub (cVar 1) (cD (.int 1))) [some (.tup xs), some (.int (j + 1 : Nat)), some (.int z)] [] = .ok (.int q) false := by
            refine bin_to (x := .tup xs) (y := .int j) (fy := false) rfl ?_ ?_
            · refine (bin_to rfl rfl rfl : _ = Res.ok (.int (((j + 1 : Nat) : Int) - 1)) false).trans ?_
              rw [show ((j + 1 : Nat) : Int) - 1 = j by omega]
            · show (match gets xs j with | some d => Res.ok d false | none => Res.bad) = _
              rw [hj]
          have e2 : cBin bGt (cVar 1) (cD (.int 0)) [some (.tup xs), some (.int (j + 1 : Nat)), some (.int z)] [] = .ok (.bl true) false := by
            refine (bin_to rfl rfl rfl : _ = Res.ok (.bl (decide ((0 : Int) < ((j + 1 : Nat) : Int)))) false).trans ?_
            rw [decide_eq_true (by omega)]
          have e3 : cBin bGt (cVar 2) (cBin bIx (cVar 0) (cBin bSub (cVar 1) (cD (.int 1)))) [some (.tup xs), some (.int (j + 1 : Nat)), some (.int z)] [] = .ok (.bl (decide (q < z))) false := bin_to rfl e1 rfl
          unfold cAndB
          simp only [e2, e3]
          show Res.ok (.bl (decide (q < z))) false = Res.ok (.bl (!decide (z ≤ q))) false
          rw [← decide_not]
          congr 2
          exact decide_eq_decide.mpr (by omega)
      have step : ∀ c : Bool, (leP p z) = c → stBody [some (.tup xs), some (.int i), some (.int z)] [] = if c then .nx [some (.tup xs), some (.int i), some (.int z)] [] else .rt (.bl false) false := fun c hc => by
        rw [hc] at t2
        cases c with
        | true => exact (seq_nx (if_f t1)).trans (if_f t2)
        | false => exact (seq_nx (if_f t1)).trans ((if_t t2).trans (ret_v rfl))
      have nxt := stair_loop xs hx rest (i + 1) (some z) (some (.int i)) (some (.int z)) hr ⟨i, rfl, hg⟩
      have unf : forL stTg stBody (enumD i (.int z :: rest)) [some (.tup xs), a, b] [] = (match stBody [some (.tup xs), some (.int i), some (.int z)] [] with | .nx σ2 S2 => forL stTg stBody (enumD (i + 1) rest) σ2 S2 | .ct σ2 S2 => forL stTg stBody (enumD (i + 1) rest) σ2 S2 | .bk σ2 S2 => .nx σ2 S2 | r => r) := rfl
      cases c : (leP p z) with
      | true =>
        rw [unf, step true c]
        have e : stairB p (.int z :: rest) = stairB (some z) rest := by
          unfold stairB
          rw [g]
          show (true && ((leP p z) && stairB (some z) rest)) = _
          rw [c]
          cases rest <;> rfl
        rw [e]
        exact nxt
      | false =>
        rw [unf, step false c]
        have e : stairB p (.int z :: rest) = false := by
          unfold stairB
          rw [g]
          show (true && ((leP p z) && stairB (some z) rest)) = _
          rw [c]
          rfl
        rw [e]
        exact ⟨(fun h => nomatch h), fun _ => rfl⟩
theorem isStair_is (xs : List D) (hx : ∀ d ∈ xs, typD d) : m_is_stair [.tup xs] = .ok (.bl (stairB none xs)) false := by
  have t : (cNotB (cTru (cApp (fIsi [.tup]) (cCons (cVar 0) cNil)))) [some (.tup xs), none, none] [] = .ok (.bl false) false := rfl
  obtain ⟨h1, h2⟩ := stair_loop xs hx xs 0 none none none rfl rfl
  cases e : stairB none xs with
  | true =>
    obtain ⟨σ', h⟩ := h1 e
    exact run_rt rfl ((seq_nx (if_f t)).trans ((seq_nx ((for_st rfl).trans h)).trans (ret_v rfl)))
  | false => exact run_rt rfl ((seq_nx (if_f t)).trans (seq_rt ((for_st rfl).trans (h2 e))))
theorem notTup_is {d : D} {t : Tg} (h : tgD [] d = some t) (ht : isa t .tup = false) : m_is_stair [d] = .ok (.bl false) false := by
  have t1 : (cNotB (cTru (cApp (fIsi [.tup]) (cCons (cVar 0) cNil)))) [some d, none, none] [] = .ok (.bl true) false := by
    have e : cApp (fIsi [.tup]) (cCons (cVar 0) cNil) [some d, none, none] [] = .ok (.bl false) false := by
      refine app_to rfl ?_
      unfold fIsi
      simp only [h, List.any_cons, List.any_nil, ht, Bool.or_false]
    unfold cNotB cTru
    simp only [e, truth, Bool.not_false]
  exact run_rt rfl (seq_rt ((if_t t1).trans (ret_v rfl)))
/-- the law's own judge -/
theorem judged_is {d : D} {b : Bool} {s : PySem.Str} (hp : d.pure = true) (h1 : ∀ S, fRepr S [d] = .ok (.str s) false) (h2 : m_is_stair [d] = .ok (.bl b) false) : m__law_judged [d, .bl b] = .ok (.bl true) false := by
  have e3 : cAnd (cApp (fIsi [.bool]) (cCons (cVar 3) cNil)) (cAnd (cBin bEq (cVar 3) (cVar 1)) (cBin bEq (cApp fRepr (cCons (cVar 0) cNil)) (cVar 2))) [some d, some (.bl b), some (.str s), some (.bl b)] [] = .ok (.bl true) false := by
    have a1 : cApp (fIsi [.bool]) (cCons (cVar 3) cNil) [some d, some (.bl b), some (.str s), some (.bl b)] [] = .ok (.bl true) false := rfl
    have a2 : cBin bEq (cVar 3) (cVar 1) [some d, some (.bl b), some (.str s), some (.bl b)] [] = .ok (.bl true) false := bin_to rfl rfl (by
      show Res.ok (.bl (decide (b = b))) false = _
      rw [decide_eq_true rfl])
    have a3 : cBin bEq (cApp fRepr (cCons (cVar 0) cNil)) (cVar 2) [some d, some (.bl b), some (.str s), some (.bl b)] [] = .ok (.bl true) false := bin_to (app_to rfl (h1 _)) rfl (by
      show Res.ok (.bl (decide (s = s))) false = _
      rw [decide_eq_true rfl])
    unfold cAnd
    simp only [a1, a2, a3, truth]
  exact run_rt rfl ((seq_nx (asg_ok (app_to rfl (h1 _)))).trans ((seq_nx (asg_ok (call_k (ds := [d]) rfl rfl (by show (d.pure && true) = true; rw [hp]; rfl) h2))).trans (ret_v e3)))
end K01

namespace K01
open HC

/-! ## stairs and what is none -/
theorem stair_bad : ∀ (xs ys : List D) (p : Option Int) (d : D), goodD d = false → stairB p (xs ++ d :: ys) = false
  | [], ys, p, d, h => by
    show (goodD d && _) = false
    rw [h]
    rfl
  | x :: xs, ys, p, d, h => by
    show (goodD x && (leP p (intD x) && stairB (some (intD x)) (xs ++ d :: ys))) = false
    rw [stair_bad xs ys _ d h, Bool.and_false, Bool.and_false]
theorem stair_up : ∀ (xs ys : List D) (p : Option Int) (a b : Int), a < b → stairB p (xs ++ .int a :: .int b :: ys) = false
  | [], ys, p, a, b, h => by
    show (goodD (.int a) && (leP p a && (goodD (.int b) && (decide (b ≤ a) && _)))) = false
    rw [decide_eq_false (by omega), Bool.false_and, Bool.and_false, Bool.and_false, Bool.and_false]
  | x :: xs, ys, p, a, b, h => by
    show (goodD x && (leP p (intD x) && stairB (some (intD x)) (xs ++ .int a :: .int b :: ys))) = false
    rw [stair_up xs ys _ a b h, Bool.and_false, Bool.and_false]
theorem stair_good : ∀ (ns : List Int) (p : Option Int), ns.Pairwise (· ≥ ·) → (∀ n ∈ ns, 1 ≤ n) → (∀ n ∈ ns, leP p n = true) → stairB p (its ns) = true
  | [], _, _, _, _ => rfl
  | n :: ns, p, h1, h2, h3 => by
    have h4 := List.pairwise_cons.mp h1
    show (decide (1 ≤ n) && (leP p n && stairB (some n) (its ns))) = true
    rw [decide_eq_true (h2 n (List.mem_cons_self ..)), h3 n (List.mem_cons_self ..), stair_good ns (some n) h4.2 (fun m hm => h2 m (List.mem_cons_of_mem _ hm)) fun m hm => decide_eq_true (h4.1 m hm)]
    rfl
theorem typ_its {ns : List Int} : ∀ d ∈ its ns, typD d := fun d hd => by
  obtain ⟨i, _, rfl⟩ := List.mem_map.mp hd
  exact ⟨_, rfl⟩
def Stairy (ns : List Int) : Prop := ns.Pairwise (· ≥ ·) ∧ ∀ n ∈ ns, 1 ≤ n
theorem isStair_its {ns : List Int} (h : Stairy ns) : m_is_stair [.tup (its ns)] = .ok (.bl true) false := by
  rw [isStair_is _ typ_its, stair_good ns none h.1 h.2 fun _ _ => rfl]
theorem need_is {ns : List Int} (h : Stairy ns) : m_need_stair [.tup (its ns)] = .ok .non false := by
  have t : (cNotB (cTru (cApp (callD m_is_stair) (cCons (cVar 0) cNil)))) [some (.tup (its ns))] [] = .ok (.bl false) false := by
    have e : cApp (callD m_is_stair) (cCons (cVar 0) cNil) [some (.tup (its ns))] [] = .ok (.bl true) false := call_d rfl rfl (isStair_its h)
    unfold cNotB cTru
    simp only [e, truth, Bool.not_true]
  exact run_nx rfl (if_f t)
theorem size_is {ns : List Int} (h : Stairy ns) : m_size [.tup (its ns)] = .ok (.int (sumI ns)) false := by
  refine run_rt rfl ((seq_nx (expr_ok (call_d rfl rfl (need_is h)))).trans (ret_v (app_to rfl ?_)))
  show (match intsOf (its ns) with | some ns => Res.ok (.int (sumI ns)) false | none => Res.bad) = _
  rw [ints_its]
def rowI (a : List Int) (i : Nat) : Int := (a[i]?).getD 0
theorem row_is (a : List Int) (i : Nat) : m_row_of [.tup (its a), .int i] = .ok (.int (rowI a i)) false := by
  have hl : (its a).length = a.length := List.length_map ..
  have t : (cBin bLt (cVar 1) (cApp fLen (cCons (cVar 0) cNil))) [some (.tup (its a)), some (.int i)] [] = .ok (.bl (decide ((i : Int) < ((its a).length : Nat)))) false := rfl
  by_cases h : i < a.length
  · rw [decide_eq_true (by rw [hl]; omega)] at t
    have e : a[i]? = some a[i] := List.getElem?_eq_getElem h
    unfold rowI
    rw [e]
    exact run_rt rfl (seq_rt ((if_t t).trans (ret_v (bin_to rfl rfl (ixT e)))))
  · rw [decide_eq_false (by rw [hl]; omega)] at t
    unfold rowI
    rw [List.getElem?_eq_none (by omega)]
    exact run_rt rfl ((seq_nx (if_f t)).trans (ret_v rfl))
def inclK (a : List Int) : Nat → List Int → Bool
  | _, [] => true
  | k, r :: rs => decide (r ≤ rowI a k) && inclK a (k + 1) rs
def rowsK (a : List Int) : Nat → List Int → List Bool
  | _, [] => []
  | k, r :: rs => decide (r ≤ rowI a k) :: rowsK a (k + 1) rs
def rowG (a : List Int) : D → D
  | .tup [.int i, .int r] => .bl (decide (r ≤ rowI a i.toNat))
  | _ => .non
theorem rows_g (a : List Int) : ∀ (b : List Int) (k : Nat), blsOf ((enumD k (its b)).map (rowG a)) = some (rowsK a k b)
  | [], _ => rfl
  | r :: rs, k => by
    show (match blsOf ((enumD ((k : Int) + 1) (its rs)).map (rowG a)) with | some ns => some (decide (r ≤ rowI a (k : Int).toNat) :: ns) | none => none) = _
    rw [show (k : Int) + 1 = ((k + 1 : Nat) : Int) by omega, rows_g a rs (k + 1)]
    rfl
theorem rows_all (a : List Int) : ∀ (b : List Int) (k : Nat), allB (rowsK a k b) = inclK a k b
  | [], _ => rfl
  | r :: rs, k => by
    show (decide (r ≤ rowI a k) && allB (rowsK a (k + 1) rs)) = _
    rw [rows_all a rs]
    rfl
theorem enum_its : ∀ (b : List Int) (k : Nat) (d : D), d ∈ enumD k (its b) → ∃ (i : Nat) (r : Int), d = .tup [.int i, .int r]
  | [], _, _, h => nomatch h
  | r :: rs, k, d, h => by
    rcases List.mem_cons.mp h with rfl | h
    · exact ⟨k, r, rfl⟩
    · exact enum_its rs (k + 1) d (by rw [show ((k + 1 : Nat) : Int) = (k : Int) + 1 by omega]; exact h)
theorem contains_is {a b : List Int} (ha : Stairy a) (hb : Stairy b) : m_contains [.tup (its a), .tup (its b)] = .ok (.bl (inclK a 0 b)) false := by
  have hc := comp_is (A := tgTup 2 (tgCons (tgName 2) (tgCons (tgName 3) tgNil))) (t := cTrue) (f := cBin bGe (cApp (callD m_row_of) (cCons (cVar 0) (cCons (cVar 2) cNil))) (cVar 3)) (σ := [some (.tup (its a)), some (.tup (its b)), none, none]) (S := []) (fun _ => true) (rowG a) (enumD 0 (its b)) fun d hd => by
    obtain ⟨i, r, rfl⟩ := enum_its b 0 d hd
    refine ⟨[some (.tup (its a)), some (.tup (its b)), some (.int i), some (.int r)], false, rfl, rfl, fun _ => ⟨rfl, false, ?_⟩⟩
    refine (bin_to (call_d rfl rfl (row_is a i)) rfl rfl : _ = Res.ok (.bl (decide (r ≤ rowI a i))) false).trans ?_
    rfl
  rw [List.filter_eq_self.mpr fun _ _ => rfl] at hc
  refine run_rt rfl ((seq_nx (expr_ok (call_d rfl rfl (need_is ha)))).trans ((seq_nx (expr_ok (call_d rfl rfl (need_is hb)))).trans (ret_v (app_to (comp_st (ws := [2, 3]) rfl hc) ?_))))
  show (match blsOf ((enumD 0 (its b)).map (rowG a)) with | some ns => Res.ok (.bl (allB ns)) false | none => Res.bad) = _
  rw [show (0 : Int) = ((0 : Nat) : Int) from rfl, rows_g a b 0]
  show Res.ok (.bl (allB (rowsK a 0 b))) false = _
  rw [rows_all]
/-! ## all boxes, one by one -/
abbrev bxIn : SC := sIf (cOrB (cBin bGe (cVar 2) (cApp fLen (cCons (cVar 0) cNil))) (cBin bGe (cVar 3) (cBin bIx (cVar 0) (cVar 2)))) (sRet (cD (.bl false))) sSkip
theorem box_turn (a b : List Int) (i j : Nat) (z : Option D) : bxIn [some (.tup (its a)), some (.tup (its b)), some (.int i), some (.int j)] [] = if (j : Int) < rowI a i ∧ i < a.length then .nx [some (.tup (its a)), some (.tup (its b)), some (.int i), some (.int j)] [] else .rt (.bl false) false := by
  have hl : (its a).length = a.length := List.length_map ..
  have t : (cBin bGe (cVar 2) (cApp fLen (cCons (cVar 0) cNil))) [some (.tup (its a)), some (.tup (its b)), some (.int i), some (.int j)] [] = .ok (.bl (decide (((its a).length : Nat) ≤ (i : Int)))) false := rfl
  by_cases h : i < a.length
  · rw [decide_eq_false (by rw [hl]; omega)] at t
    have e : a[i]? = some a[i] := List.getElem?_eq_getElem h
    have hr : rowI a i = a[i] := by unfold rowI; rw [e]; rfl
    have t2 : (cBin bGe (cVar 3) (cBin bIx (cVar 0) (cVar 2))) [some (.tup (its a)), some (.tup (its b)), some (.int i), some (.int j)] [] = .ok (.bl (decide (a[i] ≤ (j : Int)))) false := bin_to rfl (bin_to rfl rfl (ixT e)) rfl
    have t3 : (cOrB (cBin bGe (cVar 2) (cApp fLen (cCons (cVar 0) cNil))) (cBin bGe (cVar 3) (cBin bIx (cVar 0) (cVar 2)))) [some (.tup (its a)), some (.tup (its b)), some (.int i), some (.int j)] [] = .ok (.bl (decide (a[i] ≤ (j : Int)))) false := by
      unfold cOrB
      simp only [t, t2]
    by_cases h2 : a[i] ≤ (j : Int)
    · rw [decide_eq_true h2] at t3
      rw [if_neg (by rw [hr]; omega)]
      exact (if_t t3).trans (ret_v rfl)
    · rw [decide_eq_false h2] at t3
      rw [if_pos ⟨by rw [hr]; omega, h⟩]
      exact if_f t3
  · rw [decide_eq_true (by rw [hl]; omega)] at t
    have t3 : (cOrB (cBin bGe (cVar 2) (cApp fLen (cCons (cVar 0) cNil))) (cBin bGe (cVar 3) (cBin bIx (cVar 0) (cVar 2)))) [some (.tup (its a)), some (.tup (its b)), some (.int i), some (.int j)] [] = .ok (.bl true) false := by
      unfold cOrB
      simp only [t]
    rw [if_neg (fun z => h z.2)]
    exact (if_t t3).trans (ret_v rfl)
theorem box_row (a b : List Int) (i : Nat) : ∀ (m : Nat) (lo : Nat) (z : Option D), ∃ z', forL (tgName 3) bxIn (rangeD lo m) [some (.tup (its a)), some (.tup (its b)), some (.int i), z] [] =
    if m = 0 ∨ ((lo + m : Nat) : Int) ≤ rowI a i ∧ i < a.length then .nx [some (.tup (its a)), some (.tup (its b)), some (.int i), z'] [] else .rt (.bl false) false
  | 0, lo, z => ⟨z, by rw [if_pos (.inl rfl)]; rfl⟩
  | m + 1, lo, z => by
    obtain ⟨z', ih⟩ := box_row a b i m (lo + 1) (some (.int lo))
    refine ⟨z', ?_⟩
    show (match bxIn [some (.tup (its a)), some (.tup (its b)), some (.int i), some (.int lo)] [] with | .nx σ2 S2 => forL (tgName 3) bxIn (rangeD ((lo : Int) + 1) m) σ2 S2 | .ct σ2 S2 => forL (tgName 3) bxIn (rangeD ((lo : Int) + 1) m) σ2 S2 | .bk σ2 S2 => .nx σ2 S2 | r => r) = _
    rw [box_turn a b i lo z]
    by_cases h : (lo : Int) < rowI a i ∧ i < a.length
    · rw [if_pos h]
      show forL (tgName 3) bxIn (rangeD ((lo : Int) + 1) m) _ _ = _
      rw [show (lo : Int) + 1 = ((lo + 1 : Nat) : Int) by omega, ih]
      by_cases h2 : m = 0 ∨ ((lo + 1 + m : Nat) : Int) ≤ rowI a i ∧ i < a.length
      · rw [if_pos h2, if_pos (.inr ⟨by rcases h2 with rfl | h2 <;> omega, h.2⟩)]
      · rw [if_neg h2, if_neg (fun z => h2 (.inr ⟨by rcases z with z | z <;> omega, h.2⟩))]
    · rw [if_neg h, if_neg (fun z => h ⟨by rcases z with z | z <;> omega, by rcases z with z | z; omega; exact z.2⟩)]
end K01

namespace K01
open HC

theorem rg1_any {S : List SO} {n : Int} (h : n ≤ 1000000) (h1 : -1000000 ≤ n) : rg1 S [.int n] = .st (rangeD 0 n.toNat) := by
  show (if (inRg n && decide (n.toNat ≤ lim)) = true then _ else _) = _
  have h1 : inRg n = true := by
    unfold inRg
    rw [decide_eq_true (by omega : n < 4611686018427387904), decide_eq_true (by omega : -4611686018427387904 ≤ n)]
    rfl
  rw [h1, decide_eq_true (show n.toNat ≤ lim by unfold lim; omega)]
  rfl
theorem box_all (a b : List Int) (hb : ∀ n ∈ b, 1 ≤ n ∧ n ≤ 1000) : ∀ (rs : List Int) (k : Nat) (y z : Option D), b.drop k = rs → ∃ σ', forL (tgName 2) (sFor (iApp rg1 (cCons (cBin bIx (cVar 1) (cVar 2)) cNil)) (tgName 3) bxIn) (rangeD k rs.length) [some (.tup (its a)), some (.tup (its b)), y, z] [] =
    if inclK a k rs then .nx σ' [] else .rt (.bl false) false
  | [], k, y, z, _ => ⟨_, rfl⟩
  | r :: rs, k, y, z, hd => by
    have hg : b[k]? = some r := by rw [← List.head?_drop, hd]; rfl
    have hr : b.drop (k + 1) = rs := by rw [← List.tail_drop, hd]; rfl
    have hm := hb r (List.mem_of_getElem? hg)
    obtain ⟨z', hi⟩ := box_row a b k r.toNat 0 z
    obtain ⟨σ', ih⟩ := box_all a b hb rs (k + 1) (some (.int k)) z' hr
    have hrow : (sFor (iApp rg1 (cCons (cBin bIx (cVar 1) (cVar 2)) cNil)) (tgName 3) bxIn) [some (.tup (its a)), some (.tup (its b)), some (.int k), z] [] = if r ≤ rowI a k then .nx [some (.tup (its a)), some (.tup (its b)), some (.int k), z'] [] else .rt (.bl false) false := by
      refine ((for_st (iapp_to (bin_to rfl rfl (ixT hg)) (rg1_any (by omega) (by omega)))).trans hi).trans ?_
      by_cases h : r ≤ rowI a k
      · have hk : k < a.length := by
          by_cases hk : k < a.length
          · exact hk
          · unfold rowI at h
            rw [List.getElem?_eq_none (by omega)] at h
            have : r ≤ 0 := h
            omega
        rw [if_pos h, if_pos (.inr ⟨by omega, hk⟩)]
      · rw [if_neg h, if_neg (fun z => by rcases z with z | z <;> omega)]
    by_cases h : r ≤ rowI a k
    · refine ⟨σ', ?_⟩
      show (match (sFor (iApp rg1 (cCons (cBin bIx (cVar 1) (cVar 2)) cNil)) (tgName 3) bxIn) [some (.tup (its a)), some (.tup (its b)), some (.int k), z] [] with | .nx σ2 S2 => forL (tgName 2) (sFor (iApp rg1 (cCons (cBin bIx (cVar 1) (cVar 2)) cNil)) (tgName 3) bxIn) (rangeD ((k : Int) + 1) rs.length) σ2 S2 | .ct σ2 S2 => forL (tgName 2) (sFor (iApp rg1 (cCons (cBin bIx (cVar 1) (cVar 2)) cNil)) (tgName 3) bxIn) (rangeD ((k : Int) + 1) rs.length) σ2 S2 | .bk σ2 S2 => .nx σ2 S2 | r => r) = _
      rw [hrow, if_pos h]
      show forL (tgName 2) (sFor (iApp rg1 (cCons (cBin bIx (cVar 1) (cVar 2)) cNil)) (tgName 3) bxIn) (rangeD ((k : Int) + 1) rs.length) _ _ = _
      rw [show (k : Int) + 1 = ((k + 1 : Nat) : Int) by omega, ih]
      show _ = if (decide (r ≤ rowI a k) && inclK a (k + 1) rs) = true then _ else _
      rw [decide_eq_true h, Bool.true_and]
    · refine ⟨σ', ?_⟩
      show (match (sFor (iApp rg1 (cCons (cBin bIx (cVar 1) (cVar 2)) cNil)) (tgName 3) bxIn) [some (.tup (its a)), some (.tup (its b)), some (.int k), z] [] with | .nx σ2 S2 => forL (tgName 2) (sFor (iApp rg1 (cCons (cBin bIx (cVar 1) (cVar 2)) cNil)) (tgName 3) bxIn) (rangeD ((k : Int) + 1) rs.length) σ2 S2 | .ct σ2 S2 => forL (tgName 2) (sFor (iApp rg1 (cCons (cBin bIx (cVar 1) (cVar 2)) cNil)) (tgName 3) bxIn) (rangeD ((k : Int) + 1) rs.length) σ2 S2 | .bk σ2 S2 => .nx σ2 S2 | r => r) = _
      rw [hrow, if_neg h]
      show RS.rt (.bl false) false = if (decide (r ≤ rowI a k) && inclK a (k + 1) rs) = true then _ else _
      rw [decide_eq_false h, Bool.false_and]
      rfl
theorem boxes_is {a b : List Int} (hb : ∀ n ∈ b, 1 ≤ n ∧ n ≤ 1000) (hl : b.length ≤ 1000) : m__law_all_boxes_in [.tup (its a), .tup (its b)] = .ok (.bl (inclK a 0 b)) false := by
  obtain ⟨σ', h⟩ := box_all a b hb b 0 none none rfl
  have hlb : (its b).length = b.length := List.length_map ..
  have e : (sFor (iApp rg1 (cCons (cApp fLen (cCons (cVar 1) cNil)) cNil)) (tgName 2) (sFor (iApp rg1 (cCons (cBin bIx (cVar 1) (cVar 2)) cNil)) (tgName 3) bxIn)) [some (.tup (its a)), some (.tup (its b)), none, none] [] = if inclK a 0 b then .nx σ' [] else .rt (.bl false) false := by
    refine (for_st (iapp_to (x := .int ((its b).length : Nat)) (fx := false) rfl (rg1_any (by rw [hlb]; omega) (by omega)))).trans ?_
    rw [Int.toNat_natCast, hlb]
    exact h
  cases c : inclK a 0 b with
  | true =>
    rw [c] at e
    exact run_rt rfl ((seq_nx e).trans (ret_v rfl))
  | false =>
    rw [c] at e
    exact run_rt rfl (seq_rt e)
theorem incl_scale (o : Int) (ho : 1 ≤ o) (a : List Int) : ∀ (b : List Int) (k : Nat), inclK (a.map (· * o)) k (b.map (· * o)) = inclK a k b
  | [], _ => rfl
  | r :: rs, k => by
    have e : rowI (a.map (· * o)) k = rowI a k * o := by
      unfold rowI
      rw [List.getElem?_map]
      cases a[k]? with
      | none => show (0 : Int) = 0 * o; omega
      | some z => rfl
    show (decide (r * o ≤ rowI (a.map (· * o)) k) && inclK (a.map (· * o)) (k + 1) (rs.map (· * o))) = (decide (r ≤ rowI a k) && inclK a (k + 1) rs)
    rw [e, incl_scale o ho a rs]
    congr 1
    exact decide_eq_decide.mpr ⟨fun h => Int.le_of_mul_le_mul_right h (by omega), fun h => Int.mul_le_mul_of_nonneg_right h (by omega)⟩
end K01

namespace K01
open HC

/-! ## the inner stair -/
def sufM : List Int → List Int
  | [] => []
  | x :: r => maxI x r :: sufM r
theorem sufM_mem : ∀ (r : List Int) (y : Int), y ∈ sufM r → y ∈ r
  | [], _, h => nomatch h
  | x :: r, y, h => by
    rcases List.mem_cons.mp h with rfl | h
    · rcases (maxI_spec r x).1 with e | e
      · rw [e]; exact List.mem_cons_self ..
      · exact List.mem_cons_of_mem _ e
    · exact List.mem_cons_of_mem _ (sufM_mem r y h)
theorem sufM_down : ∀ r : List Int, (sufM r).Pairwise (· ≥ ·)
  | [] => .nil
  | x :: r => List.pairwise_cons.mpr ⟨fun y hy => (maxI_spec r x).2.2 y (sufM_mem r y hy), sufM_down r⟩
theorem sufM_len : ∀ r : List Int, (sufM r).length = r.length
  | [] => rfl
  | x :: r => congrArg (· + 1) (sufM_len r)
def gM (xs : List Int) : D → D
  | .int i => match xs.drop i.toNat with
    | [] => .non
    | x :: r => .int (maxI x r)
  | _ => .non
theorem sufM_map (xs : List Int) : ∀ (rs : List Int) (k : Nat), xs.drop k = rs → (rangeD k rs.length).map (gM xs) = its (sufM rs)
  | [], _, _ => rfl
  | x :: r, k, hd => by
    have hr : xs.drop (k + 1) = r := by rw [← List.tail_drop, hd]; rfl
    show gM xs (.int k) :: (rangeD ((k : Int) + 1) r.length).map (gM xs) = .int (maxI x r) :: its (sufM r)
    rw [show (k : Int) + 1 = ((k + 1 : Nat) : Int) by omega, sufM_map xs r (k + 1) hr]
    congr 1
    show (match xs.drop ((k : Int).toNat) with | [] => D.non | x :: r => .int (maxI x r)) = _
    rw [Int.toNat_natCast, hd]
theorem range_mem {n : Nat} {d : D} (h : d ∈ rangeD 0 n) : ∃ i : Nat, i < n ∧ d = .int i := by
  obtain ⟨i, hi⟩ := List.getElem?_of_mem h
  have hl := (List.getElem?_eq_some_iff.mp hi).1
  rw [rangeD_len] at hl
  have := rangeD_get n 0 i d hi
  exact ⟨i, hl, by rw [this]; congr 1; omega⟩
theorem max_l {S : List SO} (x : Int) (r : List Int) : fMaxL S [.lst (its (x :: r))] = .ok (.int (maxI x r)) false := by
  show (match intsOf (its (x :: r)) with | some (i :: ns) => Res.ok (.int (maxI i ns)) false | _ => Res.bad) = _
  rw [ints_its]
abbrev wiEnd : SC := sRet (cApp fTuple (cCons (cComp (iVal (cVar 3)) (tgName 8) [8] (cBin bGt (cVar 8) (cD (.int 0))) (cVar 8)) cNil))
theorem within_end {x0 x1 x2 x4 x5 x6 x7 : Option D} {S : List SO} {n : Nat} {ds : List Int} (hg : gets S n = some (.lst (its ds))) : wiEnd [x0, x1, x2, some (.loc n), x4, x5, x6, x7, none] S = .rt (.tup (its (ds.filter fun i => decide (0 < i)))) false := by
  have hc := comp_is (A := tgName 8) (t := cBin bGt (cVar 8) (cD (.int 0))) (f := cVar 8) (σ := [x0, x1, x2, some (.loc n), x4, x5, x6, x7, none]) (S := S) (fun d => decide (0 < intD d)) (fun d => d) (its ds) fun d hd => by
    obtain ⟨i, _, rfl⟩ := List.mem_map.mp hd
    exact ⟨_, false, rfl, rfl, fun _ => ⟨rfl, _, rfl⟩⟩
  rw [filter_its (fun i => decide (0 < i)) _ (fun i => rfl), List.map_id'] at hc
  have hv : lstOf S (.loc n) = some (its ds) := by
    unfold lstOf
    simp only [hg]
  exact ret_v (tuple_l (cons1 (comp_dy (ws := [8]) (ival_d rfl hg) hv hc)) (pure_its _))
abbrev wiTurn : SC := sSeq (sAsg 4 (cApp fMin2 (cCons (cVar 4) (cCons (cApp fMax2 (cCons (cD (.int 0)) (cCons (cBin bSub (cBin bIx (cVar 0) (cVar 6)) (cBin bFdiv (cBin bIx (cVar 5) (cVar 6)) (cD (.int 3)))) cNil))) cNil))))
    (sMethE mAppend (cVar 3) (cCons (cVar 4) cNil))
abbrev wiMore : SC := sIf (cTru (cVar 2)) (sSeq (sAsg 7 (cBin bMod (cVar 1) (cBin bAdd (cApp fLen (cCons (cVar 0) cNil)) (cD (.int 1)))))
    (sSeq (sMethE mAppend (cVar 3) (cCons (cD (.int 0)) cNil))
    (sSeq (sSub (cBin bAdd (cApp fSum (cCons (cCutLH (cVar 0) (cVar 7) (cBin bAdd (cVar 7) (cD (.int 1)))) cNil)) (cD (.int 1))) (cVar 3) (cVar 7))
    (sNew 3 (cComp (iApp rg1 (cCons (cApp fLen (cCons (cVar 3) cNil)) cNil)) (tgName 6) [6] cTrue (cApp fMaxL (cCons (cCutL (cVar 3) (cVar 6)) cNil))))))) sSkip
/-- what is made: not rising, from 0 to 31 -/
def Made (l : Nat) (ds : List Int) : Prop := ds.Pairwise (· ≥ ·) ∧ (∀ d ∈ ds, 0 ≤ d ∧ d ≤ 31) ∧ ds.length ≤ l
theorem made_end {l : Nat} {ds : List Int} (h : Made l ds) : Stairy (ds.filter fun i => decide (0 < i)) ∧ (∀ n ∈ ds.filter fun i => decide (0 < i), n ≤ 31) ∧ (ds.filter fun i => decide (0 < i)).length ≤ l :=
  ⟨⟨h.1.filter _, fun n hn => by have := of_decide_eq_true (List.mem_filter.mp hn).2; omega⟩, fun n hn => (h.2.1 n (List.mem_filter.mp hn).1).2, Nat.le_trans (List.length_filter_le ..) h.2.2⟩
theorem within_is {a : List Int} (c : Int) (m : Bool) (ha : ∀ n ∈ a, 1 ≤ n ∧ n ≤ 30) (hl : a.length ≤ 12) :
    ∃ s : List Int, m__law_within [.tup (its a), .int c, .bl m] = .ok (.tup (its s)) false ∧ Stairy s ∧ (∀ n ∈ s, n ≤ 31) ∧ s.length ≤ 13 := by
  have hla : (its a).length = a.length := List.length_map ..
  obtain ⟨dr, q1, q2, q3⟩ := digits_is c a.length 31 (by omega) (by omega) (by omega)
  -- the first top
  obtain ⟨t0, ht, h0⟩ : ∃ t0 : Int, sumI (a.take 1) = t0 ∧ 0 ≤ t0 ∧ t0 ≤ 30 := by
    cases a with
    | nil => exact ⟨0, rfl, by omega, by omega⟩
    | cons x r =>
      have := ha x (List.mem_cons_self ..)
      exact ⟨x, (by show x + 0 = x; omega), by omega, by omega⟩
  let I : Nat → Sl → List SO → Prop := fun i σ S => ∃ (ds : List Int) (top : Int) (d6 : Option D), σ = [some (.tup (its a)), some (.int c), some (.bl m), some (.loc 0), some (.int top), some (.lst (its dr)), d6, none, none] ∧ S = [.lst (its ds)] ∧ ds.length = i ∧ ds.Pairwise (· ≥ ·) ∧ (∀ d ∈ ds, top ≤ d ∧ d ≤ 30) ∧ 0 ≤ top ∧ top ≤ 30
  obtain ⟨σ', S', hf, ds, top, d6, rfl, rfl, hn, hp, hb, hz⟩ := for_inv (A := tgName 6) (body := wiTurn) I (rangeD 0 a.length) 0 [some (.tup (its a)), some (.int c), some (.bl m), some (.loc 0), some (.int t0), some (.lst (its dr)), none, none, none] [.lst []]
    ⟨[], t0, none, rfl, rfl, rfl, .nil, (fun d h => nomatch h), h0⟩ (fun j d σ S hj hi => by
      obtain ⟨ds, top, d6, rfl, rfl, hn, hp, hb, hz⟩ := hi
      obtain ⟨i, hi, rfl⟩ := range_mem (List.mem_of_getElem? hj)
      have eij : j = i := by
        have := rangeD_get _ _ _ _ hj
        have := D.int.inj this
        omega
      subst eij
      have e1 : a[j]? = some a[j] := List.getElem?_eq_getElem hi
      have e2 : dr[j]? = some (dr[j]'(by omega)) := List.getElem?_eq_getElem _
      obtain ⟨y, ey⟩ : ∃ y : Int, (if a[j] - (dr[j]'(by omega)) / 3 > 0 then a[j] - (dr[j]'(by omega)) / 3 else 0) = y := ⟨_, rfl⟩
      have hy : 0 ≤ y := by rw [← ey]; split <;> omega
      obtain ⟨z, ez⟩ : ∃ z : Int, (if y < top then y else top) = z := ⟨_, rfl⟩
      have hz2 : 0 ≤ z ∧ z ≤ top := by rw [← ez]; split <;> omega
      have st1 : (sAsg 4 (cApp fMin2 (cCons (cVar 4) (cCons (cApp fMax2 (cCons (cD (.int 0)) (cCons (cBin bSub (cBin bIx (cVar 0) (cVar 6)) (cBin bFdiv (cBin bIx (cVar 5) (cVar 6)) (cD (.int 3)))) cNil))) cNil))))
          [some (.tup (its a)), some (.int c), some (.bl m), some (.loc 0), some (.int top), some (.lst (its dr)), some (.int j), none, none] [.lst (its ds)] = .nx [some (.tup (its a)), some (.int c), some (.bl m), some (.loc 0), some (.int z), some (.lst (its dr)), some (.int j), none, none] [.lst (its ds)] := by
        refine asg_ok (d := .int z) (fr := false) ((app2 (x := .int top) (fx := false) (y := .int y) (fy := false) rfl ?_).trans ?_)
        · refine (app2 (x := .int 0) (fx := false) (y := .int (a[j] - (dr[j]'(by omega)) / 3)) (fy := false) rfl (bin_to (bin_to rfl rfl (ixT e1)) (bin_to (bin_to rfl rfl (ixL e2)) rfl (div_p (by omega) (by omega))) rfl)).trans ?_
          show Res.ok (.int (if a[j] - (dr[j]'(by omega)) / 3 > 0 then a[j] - (dr[j]'(by omega)) / 3 else 0)) false = _
          rw [ey]
        · show Res.ok (.int (if y < top then y else top)) false = _
          rw [ez]
      have hlen : (its ds).length < lim := by rw [List.length_map]; unfold lim; omega
      refine ⟨_, _, _, rfl, .inl ((seq_nx st1).trans (append_ok rfl rfl rfl hlen)), ds ++ [z], z, some (.int j), rfl, by rw [← its_snoc]; rfl, by rw [List.length_append, hn]; rfl, ?_, ?_, by omega, by omega⟩
      · refine List.pairwise_append.mpr ⟨hp, List.pairwise_singleton .., fun x hx y hy => ?_⟩
        rw [List.mem_singleton.mp hy]
        have := hb x hx
        omega
      · intro d hd
        rcases List.mem_append.mp hd with hd | hd
        · have := hb d hd
          omega
        · rw [List.mem_singleton.mp hd]
          omega)
  have hn : ds.length = a.length := by rw [hn, rangeD_len, Nat.zero_add]
  have head : ∀ {r : Res}, (∀ d6, (match (sSeq wiMore wiEnd) [some (.tup (its a)), some (.int c), some (.bl m), some (.loc 0), some (.int top), some (.lst (its dr)), d6, none, none] [.lst (its ds)] with | .rt d fr => Res.ok d fr | .nx _ _ => .ok .non false | .ex c as _ _ => if pureL as then .ex c as else .bad | _ => .bad) = r) → m__law_within [.tup (its a), .int c, .bl m] = r := fun {r} h => by
    have e1 : (sNew 3 (cApp fLst cNil)) [some (.tup (its a)), some (.int c), some (.bl m), none, none, none, none, none, none] [] = .nx [some (.tup (its a)), some (.int c), some (.bl m), some (.loc 0), none, none, none, none, none] [.lst []] := new_l rfl
    have e2 : (sAsg 4 (cApp fSum (cCons (cCutH (cVar 0) (cD (.int 1))) cNil))) [some (.tup (its a)), some (.int c), some (.bl m), some (.loc 0), none, none, none, none, none] [.lst []] = .nx [some (.tup (its a)), some (.int c), some (.bl m), some (.loc 0), some (.int t0), none, none, none, none] [.lst []] := by
      refine asg_ok (d := .int t0) (fr := false) (app_to (cutH_t (b := 1) rfl rfl) ?_)
      rw [take_its, sum_t, ht]
    have e3 : (sAsg 5 (cApp (callD m__law_digits) (cCons (cVar 1) (cCons (cApp fLen (cCons (cVar 0) cNil)) (cCons (cD (.int 31)) cNil))))) [some (.tup (its a)), some (.int c), some (.bl m), some (.loc 0), some (.int t0), none, none, none, none] [.lst []] = .nx [some (.tup (its a)), some (.int c), some (.bl m), some (.loc 0), some (.int t0), some (.lst (its dr)), none, none, none] [.lst []] :=
      asg_ok (d := .lst (its dr)) (fr := true) (call_d (ds := [.int c, .int a.length, .int 31]) (cons_ok rfl (cons_ok ((len_t rfl).trans (by rw [hla])) (cons1 rfl))) rfl q1)
    have e4 : (sFor (iApp rg1 (cCons (cApp fLen (cCons (cVar 0) cNil)) cNil)) (tgName 6) wiTurn) [some (.tup (its a)), some (.int c), some (.bl m), some (.loc 0), some (.int t0), some (.lst (its dr)), none, none, none] [.lst []] = .nx [some (.tup (its a)), some (.int c), some (.bl m), some (.loc 0), some (.int top), some (.lst (its dr)), d6, none, none] [.lst (its ds)] :=
      (for_st (iapp_to (x := .int a.length) (fx := false) ((len_t rfl).trans (by rw [hla])) (rg1_n (by omega) (by omega)))).trans hf
    rw [← h d6]
    unfold m__law_within runF
    rw [if_pos (show [D.tup (its a), D.int c, D.bl m].length = 3 from rfl)]
    rw [show b__law_within (startD 9 [.tup (its a), .int c, .bl m]) [] = (sSeq wiMore wiEnd) [some (.tup (its a)), some (.int c), some (.bl m), some (.loc 0), some (.int top), some (.lst (its dr)), d6, none, none] [.lst (its ds)] from (seq_nx e1).trans ((seq_nx e2).trans ((seq_nx e3).trans (seq_nx e4)))]
    try rfl
  cases m with
  | false =>
    obtain ⟨k1, k2, k3⟩ := made_end (l := 13) (ds := ds) ⟨hp, fun d hd => by have := hb d hd; omega, by omega⟩
    refine ⟨_, head fun d6 => ?_, k1, k2, k3⟩
    rw [show (sSeq wiMore wiEnd) [some (.tup (its a)), some (.int c), some (.bl false), some (.loc 0), some (.int top), some (.lst (its dr)), d6, none, none] [.lst (its ds)] = _ from (seq_nx (if_f rfl)).trans (within_end rfl)]
  | true =>
    obtain ⟨pl, epl⟩ : ∃ pl : Nat, c % ((a.length : Int) + 1) = pl := ⟨(c % ((a.length : Int) + 1)).toNat, by have := Int.emod_nonneg c (show (a.length : Int) + 1 ≠ 0 by omega); omega⟩
    have hpl : pl < a.length + 1 := by have := Int.emod_lt_of_pos c (show (0 : Int) < (a.length : Int) + 1 by omega); omega
    obtain ⟨v, ev⟩ : ∃ v : Int, sumI ((a.drop pl).take (pl + 1 - pl)) + 1 = v := ⟨_, rfl⟩
    have hv : 0 ≤ v ∧ v ≤ 31 := by
      rw [show pl + 1 - pl = 1 by omega] at ev
      cases e : a.drop pl with
      | nil =>
        rw [e] at ev
        have ev : (0 : Int) + 1 = v := ev
        omega
      | cons x r =>
        rw [e] at ev
        have hx := ha x (List.mem_of_mem_drop (e ▸ List.mem_cons_self ..))
        have ev : x + 0 + 1 = v := ev
        omega
    have hxs : its (ds ++ [0]) = its ds ++ [.int 0] := (its_snoc ds 0).symm
    have hset : (its ds ++ [D.int 0]).set pl (.int v) = its ((ds ++ [0]).set pl v) := by rw [← hxs]; exact (List.map_set ..).symm
    obtain ⟨xs, exs⟩ : ∃ xs, (ds ++ [0]).set pl v = xs := ⟨_, rfl⟩
    have hxl : xs.length = a.length + 1 := by rw [← exs, List.length_set, List.length_append, hn]; rfl
    have hxb : ∀ x ∈ xs, 0 ≤ x ∧ x ≤ 31 := fun x hx => by
      rw [← exs] at hx
      rcases List.mem_or_eq_of_mem_set hx with h | rfl
      · rcases List.mem_append.mp h with h | h
        · have := hb x h
          omega
        · rw [List.mem_singleton.mp h]
          omega
      · exact hv
    obtain ⟨k1, k2, k3⟩ := made_end (l := 13) (ds := sufM xs) ⟨sufM_down xs, fun d hd => hxb d (sufM_mem xs d hd), by rw [sufM_len, hxl]; omega⟩
    refine ⟨_, head fun d6 => ?_, k1, k2, k3⟩
    have e1 : (sAsg 7 (cBin bMod (cVar 1) (cBin bAdd (cApp fLen (cCons (cVar 0) cNil)) (cD (.int 1))))) [some (.tup (its a)), some (.int c), some (.bl true), some (.loc 0), some (.int top), some (.lst (its dr)), d6, none, none] [.lst (its ds)] = .nx [some (.tup (its a)), some (.int c), some (.bl true), some (.loc 0), some (.int top), some (.lst (its dr)), d6, some (.int pl), none] [.lst (its ds)] := by
      refine asg_ok (d := .int pl) (fr := false) (bin_to (y := .int ((a.length : Int) + 1)) (fy := false) rfl (bin_to (len_t rfl) rfl (by rw [hla]; rfl)) ?_)
      rw [mod_p (by omega), epl]
    have e2 : (sMethE mAppend (cVar 3) (cCons (cD (.int 0)) cNil)) [some (.tup (its a)), some (.int c), some (.bl true), some (.loc 0), some (.int top), some (.lst (its dr)), d6, some (.int pl), none] [.lst (its ds)] = .nx [some (.tup (its a)), some (.int c), some (.bl true), some (.loc 0), some (.int top), some (.lst (its dr)), d6, some (.int pl), none] [.lst (its ds ++ [.int 0])] :=
      append_ok (n := 0) (xs := its ds) rfl rfl rfl (by rw [List.length_map]; unfold lim; omega)
    have e3 : (sSub (cBin bAdd (cApp fSum (cCons (cCutLH (cVar 0) (cVar 7) (cBin bAdd (cVar 7) (cD (.int 1)))) cNil)) (cD (.int 1))) (cVar 3) (cVar 7)) [some (.tup (its a)), some (.int c), some (.bl true), some (.loc 0), some (.int top), some (.lst (its dr)), d6, some (.int pl), none] [.lst (its ds ++ [.int 0])] = .nx [some (.tup (its a)), some (.int c), some (.bl true), some (.loc 0), some (.int top), some (.lst (its dr)), d6, some (.int pl), none] [.lst (its xs)] := by
      refine (sub_ok (y := .int v) (k := pl) (n := 0) (xs := its ds ++ [.int 0]) (fx := false) ?_ rfl rfl rfl ?_).trans ?_
      · refine bin_to (x := .int (sumI ((a.drop pl).take (pl + 1 - pl)))) (fx := false) (app_to (cutLH_t (a := pl) (b := pl + 1) rfl rfl rfl) ?_) rfl ?_
        · rw [drop_its, take_its, sum_t]
        · show Res.ok (.int (sumI ((a.drop pl).take (pl + 1 - pl)) + 1)) false = _
          rw [ev]
      · rw [List.length_append, List.length_map]
        show pl < ds.length + 1
        omega
      · rw [hset, exs]
        rfl
    have hcm := comp_is (A := tgName 6) (t := cTrue) (f := cApp fMaxL (cCons (cCutL (cVar 3) (cVar 6)) cNil)) (σ := [some (.tup (its a)), some (.int c), some (.bl true), some (.loc 0), some (.int top), some (.lst (its dr)), none, some (.int pl), none]) (S := [.lst (its xs)]) (fun _ => true) (gM xs) (rangeD 0 xs.length) fun d hd => by
      obtain ⟨i, hi, rfl⟩ := range_mem hd
      have hx : ∃ x r, xs.drop i = x :: r := by
        cases e : xs.drop i with
        | nil =>
          have := congrArg List.length e
          rw [List.length_drop] at this
          have this : xs.length - i = 0 := this
          omega
        | cons x r => exact ⟨x, r, rfl⟩
      obtain ⟨x, r, er⟩ := hx
      have eg : gM xs (.int i) = .int (maxI x r) := by
        show (match xs.drop ((i : Int).toNat) with | [] => D.non | x :: r => .int (maxI x r)) = _
        rw [Int.toNat_natCast, er]
      refine ⟨_, false, rfl, rfl, fun _ => ?_⟩
      rw [eg]
      exact ⟨rfl, false, app_to (cutL_d (a := i) (n := 0) (xs := its xs) rfl rfl (pure_its xs) rfl) (by rw [drop_its, er]; exact max_l x r)⟩
    rw [List.filter_eq_self.mpr fun _ _ => rfl, show (0 : Int) = ((0 : Nat) : Int) from rfl, sufM_map xs xs 0 rfl] at hcm
    have e4 : (sNew 3 (cComp (iApp rg1 (cCons (cApp fLen (cCons (cVar 3) cNil)) cNil)) (tgName 6) [6] cTrue (cApp fMaxL (cCons (cCutL (cVar 3) (cVar 6)) cNil)))) [some (.tup (its a)), some (.int c), some (.bl true), some (.loc 0), some (.int top), some (.lst (its dr)), d6, some (.int pl), none] [.lst (its xs)] = .nx [some (.tup (its a)), some (.int c), some (.bl true), some (.loc 1), some (.int top), some (.lst (its dr)), d6, some (.int pl), none] [.lst (its xs), .lst (its (sufM xs))] :=
      new_l (comp_st (ws := [6]) (iapp_to (x := .int ((its xs).length : Nat)) (fx := false) (len_d (n := 0) rfl rfl) ((rg1_n (by omega) (by rw [List.length_map]; omega)).trans (by rw [List.length_map]; rfl))) hcm)
    rw [show (sSeq wiMore wiEnd) [some (.tup (its a)), some (.int c), some (.bl true), some (.loc 0), some (.int top), some (.lst (its dr)), d6, none, none] [.lst (its ds)] = _ from (seq_nx ((if_t rfl).trans ((seq_nx e1).trans ((seq_nx e2).trans ((seq_nx e3).trans e4))))).trans (within_end (n := 1) rfl)]
end K01

namespace K01
open HC PySem

/-! ## what is no stair -/
def Bad (d : D) : Prop := d.pure = true ∧ (∃ s, ∀ S, fRepr S [d] = .ok (.str s) false) ∧ m_is_stair [d] = .ok (.bl false) false
theorem Bad.judged {d : D} (h : Bad d) : m__law_judged [d, .bl false] = .ok (.bl true) false := by
  obtain ⟨h1, ⟨s, h2⟩, h3⟩ := h
  exact judged_is h1 h2 h3
theorem bad_tup {xs : List D} {w : Nat} (h1 : ∀ d ∈ xs, typD d) (h2 : Itms xs 59 w) (hw : w ≤ 20000) (h3 : stairB none xs = false) : Bad (.tup xs) :=
  ⟨rfl, rep_of ((itm_tup h2).le (Nat.le_refl _) hw), by rw [isStair_is xs h1, h3]⟩
theorem bad_other {d : D} {t : Tg} (h1 : d.pure = true) (h2 : Itm d 60 20000) (h : tgD [] d = some t) (ht : isa t .tup = false) : Bad d := ⟨h1, rep_of h2, notTup_is h ht⟩
theorem typ_cons {d : D} {xs : List D} (h : typD d) (r : ∀ d ∈ xs, typD d) : ∀ e ∈ d :: xs, typD e := fun e he => by
  rcases List.mem_cons.mp he with rfl | he
  · exact h
  · exact r e he
theorem typ_nil : ∀ e ∈ ([] : List D), typD e := fun e h => nomatch h
def things : List D := [.non, .int 0, .int 5, .bl true, .str (Str.ofString ""), .str (Str.ofString "321"), .lst [], .lst [.int 1], .dct [] [], .dct [.int 2] [.int 1], .tup [.tup [.int 2], .tup [.int 1]], .tup [.str (Str.ofString "2"), .str (Str.ofString "1")], .int (-1), .tup [.str (Str.ofString "")], .tup [.non], .tup [.tup []]]
theorem small_int {i : Int} {dp : Nat} (h : -1000000 ≤ i) (h2 : i ≤ 1000000) : Itm (.int i) dp 601 := itm_int (by
  by_cases h0 : i.natAbs = 0
  · rw [h0]; decide
  · exact (Nat.log2_lt h0).mpr (Nat.lt_of_le_of_lt (show i.natAbs ≤ 2 ^ 20 by omega) (Nat.pow_lt_pow_right (by decide) (by decide))))
theorem things_bad : ∀ d ∈ things, Bad d := by
  intro d hd
  have i1 : ∀ {i : Int} {dp : Nat}, -1000000 ≤ i → i ≤ 1000000 → Itm (.int i) dp 601 := small_int
  have tup1 : ∀ i : Int, typD (.int i) := fun _ => ⟨_, rfl⟩
  simp only [things, List.mem_cons, List.not_mem_nil, or_false] at hd
  rcases hd with rfl | rfl | rfl | rfl | rfl | rfl | rfl | rfl | rfl | rfl | rfl | rfl | rfl | rfl | rfl | rfl
  · exact bad_other rfl itm_non rfl rfl
  · exact bad_other rfl ((i1 (by omega) (by omega)).le (Nat.le_refl _) (by decide)) rfl rfl
  · exact bad_other rfl ((i1 (by omega) (by omega)).le (Nat.le_refl _) (by decide)) rfl rfl
  · exact bad_other rfl itm_bl rfl rfl
  · exact bad_other rfl (itm_str (by decide +kernel) (by decide +kernel)) rfl rfl
  · exact bad_other rfl (itm_str (by decide +kernel) (by decide +kernel)) rfl rfl
  · exact bad_other rfl ((itm_lst (itms_nil (dp := 59))).le (Nat.le_refl _) (by decide)) rfl rfl
  · exact bad_other rfl ((itm_lst (itms_cons (dp := 59) (i1 (by omega) (by omega)) itms_nil)).le (Nat.le_refl _) (by decide)) rfl rfl
  · exact ⟨rfl, rep_dct (x := .dict []) rfl (by decide +kernel) (by decide +kernel) (by decide +kernel) (by decide +kernel), notTup_is rfl rfl⟩
  · exact ⟨rfl, rep_dct (x := .dict [(.int 2, .int 1)]) rfl (by decide +kernel) (by decide +kernel) (by decide +kernel) (by decide +kernel), notTup_is rfl rfl⟩
  · exact bad_tup (typ_cons ⟨_, rfl⟩ (typ_cons ⟨_, rfl⟩ typ_nil)) (itms_cons (itm_tup (itms_cons (dp := 58) (i1 (by omega) (by omega)) itms_nil)) (itms_cons (itm_tup (itms_cons (i1 (by omega) (by omega)) itms_nil)) itms_nil)) (by decide) rfl
  · exact bad_tup (typ_cons ⟨_, rfl⟩ (typ_cons ⟨_, rfl⟩ typ_nil)) (itms_cons (itm_str (w := 10) (by decide +kernel) (by decide +kernel)) (itms_cons (itm_str (w := 10) (by decide +kernel) (by decide +kernel)) itms_nil)) (by decide) rfl
  · exact bad_other rfl ((i1 (by omega) (by omega)).le (Nat.le_refl _) (by decide)) rfl rfl
  · exact bad_tup (typ_cons ⟨_, rfl⟩ typ_nil) (itms_cons (itm_str (w := 10) (by decide +kernel) (by decide +kernel)) itms_nil) (by decide) rfl
  · exact bad_tup (typ_cons ⟨_, rfl⟩ typ_nil) (itms_cons (itm_non (w := 0)) itms_nil) (by decide) rfl
  · exact bad_tup (typ_cons ⟨_, rfl⟩ typ_nil) (itms_cons (itm_tup (itms_nil (dp := 58))) itms_nil) (by decide) rfl
theorem strange_is (c : Int) : ∃ d, m__law_strange [.int c] = .ok d false ∧ Bad d := by
  obtain ⟨r, er⟩ : ∃ r : Nat, c % 16 = r := ⟨(c % 16).toNat, by omega⟩
  have hr : r < things.length := by show r < 16; omega
  obtain ⟨d, hd⟩ : ∃ d, things[r]? = some d := ⟨_, List.getElem?_eq_getElem hr⟩
  have hb := things_bad d (List.mem_of_getElem? hd)
  refine ⟨d, run_rt rfl ((seq_nx (asg_ok (d := .lst things) (fr := true) rfl)).trans ((ret_is (d := d) (fr := false) ?_).trans ?_)), hb⟩
  · refine bin_to (x := .lst things) (y := .int r) (fx := false) (fy := false) rfl (bin_to (y := .int 16) (fx := false) (fy := false) rfl rfl ?_) ?_
    · rw [mod_p (by omega), er]
    · show (match gets things r with | some d => Res.ok d false | none => Res.bad) = _
      rw [gets_eq, hd]
  · have := hb.1
    obtain ⟨_, _, h3⟩ := hb
    cases d with
    | loc n => exact nomatch this
    | err => exact absurd h3 (by
        intro z
        exact nomatch z)
    | _ => rfl
end K01

namespace K01
open HC PySem

theorem itm_big {i : Int} {dp : Nat} (h : -10000000000000000000000000000000 ≤ i) (h2 : i ≤ 10000000000000000000000000000000) : Itm (.int i) dp 700 := (itm_int (dp := dp) (by
  by_cases h0 : i.natAbs = 0
  · rw [h0]; decide
  · exact (Nat.log2_lt h0).mpr (Nat.lt_of_le_of_lt (show i.natAbs ≤ 2 ^ 104 by omega) (Nat.pow_lt_pow_right (by decide) (by decide))))).le (Nat.le_refl _) (by decide)
theorem add_t {S : List SO} {xs ys : List D} (h : xs.length + ys.length ≤ lim) : bAdd S (.tup xs) (.tup ys) = .ok (.tup (xs ++ ys)) false := by
  show (if xs.length + ys.length ≤ lim then _ else _) = _
  rw [if_pos h]
theorem bad_mid {w : List Int} {odd : D} {pl : Nat} (hw : ∀ n ∈ w, 1 ≤ n ∧ n ≤ 1000000000000000000000000000000) (hl : w.length ≤ 12) (h1 : typD odd) (h2 : Itm odd 59 700) (h3 : goodD odd = false) : Bad (.tup ((its w).take pl ++ [odd] ++ (its w).drop (pl + 1))) := by
  have hm : ∀ d ∈ (its w).take pl ++ [odd] ++ (its w).drop (pl + 1), d = odd ∨ d ∈ its w := fun d hd => by
    rcases List.mem_append.mp hd with hd | hd
    · rcases List.mem_append.mp hd with hd | hd
      · exact .inr (List.mem_of_mem_take hd)
      · exact .inl (List.mem_singleton.mp hd)
    · exact .inr (List.mem_of_mem_drop hd)
  refine bad_tup (w := ((its w).take pl ++ [odd] ++ (its w).drop (pl + 1)).length * 701) (fun d hd => ?_) (itms_of fun d hd => ?_) ?_ ?_
  · rcases hm d hd with rfl | hd
    · exact h1
    · exact typ_its d hd
  · rcases hm d hd with rfl | hd
    · exact h2
    · obtain ⟨i, hi, rfl⟩ := List.mem_map.mp hd
      have := hw i hi
      exact itm_big (by omega) (by omega)
  · rw [List.length_append, List.length_append, List.length_take, List.length_drop, List.length_map]
    have : ([odd] : List D).length = 1 := rfl
    have : min pl w.length + 1 + (w.length - (pl + 1)) ≤ 13 := by omega
    calc _ ≤ 13 * 701 := Nat.mul_le_mul_right _ (by omega)
      _ ≤ 20000 := by decide
  · rw [List.append_assoc]
    exact stair_bad _ _ _ _ h3
def odds : List D := [.str (Str.ofString "1"), .non, .tup [.int 1], .lst [.int 1], .str (Str.ofString ""), .bl false]
theorem odds_ok : ∀ d ∈ odds, typD d ∧ Itm d 59 700 ∧ goodD d = false := by
  intro d hd
  simp only [odds, List.mem_cons, List.not_mem_nil, or_false] at hd
  rcases hd with rfl | rfl | rfl | rfl | rfl | rfl
  · exact ⟨⟨_, rfl⟩, itm_str (by decide +kernel) (by decide +kernel), rfl⟩
  · exact ⟨⟨_, rfl⟩, itm_non, rfl⟩
  · exact ⟨⟨_, rfl⟩, (itm_tup (itms_cons (dp := 58) (small_int (by omega) (by omega)) itms_nil)).le (Nat.le_refl _) (by decide), rfl⟩
  · exact ⟨⟨_, rfl⟩, (itm_lst (itms_cons (dp := 58) (small_int (by omega) (by omega)) itms_nil)).le (Nat.le_refl _) (by decide), rfl⟩
  · exact ⟨⟨_, rfl⟩, itm_str (by decide +kernel) (by decide +kernel), rfl⟩
  · exact ⟨⟨_, rfl⟩, itm_bl, rfl⟩
theorem spoilt_is {w : List Int} (hs : Stairy w) (hb : ∀ n ∈ w, n ≤ 1000000000000000000000000000000) (hl : w.length ≤ 12) (way c : Int) : ∃ d fr, m__law_spoilt [.tup (its w), .int way, .int c] = .ok d fr ∧ Bad d := by
  have hw : ∀ n ∈ w, 1 ≤ n ∧ n ≤ 1000000000000000000000000000000 := fun n hn => ⟨hs.2 n hn, hb n hn⟩
  have hlw : (its w).length = w.length := List.length_map ..
  obtain ⟨mx, emx⟩ : ∃ mx : Int, (if (w.length : Int) > 1 then (w.length : Int) else 1) = mx := ⟨_, rfl⟩
  have hmx : 1 ≤ mx ∧ (mx = w.length ∨ mx = 1) := by rw [← emx]; split <;> omega
  obtain ⟨pl, epl⟩ : ∃ pl : Nat, c % mx = pl := ⟨(c % mx).toNat, by have := Int.emod_nonneg c (show mx ≠ 0 by omega); omega⟩
  have hpl : (pl : Int) < mx := by have := Int.emod_lt_of_pos c (show 0 < mx by omega); omega
  obtain ⟨mu, emu⟩ : ∃ mu : Int, 1 + c / 64 % 50 = mu := ⟨_, rfl⟩
  have hmu : 1 ≤ mu ∧ mu ≤ 50 := by omega
  let σ4 : Sl := [some (.tup (its w)), some (.int way), some (.int c), some (.int pl), some (.int mu), none]
  have s1 : (sAsg 3 (cBin bMod (cVar 2) (cApp fMax2 (cCons (cD (.int 1)) (cCons (cApp fLen (cCons (cVar 0) cNil)) cNil))))) [some (.tup (its w)), some (.int way), some (.int c), none, none, none] [] = .nx [some (.tup (its w)), some (.int way), some (.int c), some (.int pl), none, none] [] := by
    refine asg_ok (d := .int pl) (fr := false) (bin_to (y := .int mx) (fy := false) rfl ?_ ?_)
    · refine (app2 (x := .int 1) (fx := false) (y := .int w.length) (fy := false) rfl ((len_t rfl).trans (by rw [hlw]))).trans ?_
      show Res.ok (.int (if (w.length : Int) > 1 then (w.length : Int) else 1)) false = _
      rw [emx]
    · rw [mod_p (by omega), epl]
  have s2 : (sAsg 4 (cBin bAdd (cD (.int 1)) (cBin bMod (cBin bFdiv (cVar 2) (cD (.int 64))) (cD (.int 50))))) [some (.tup (its w)), some (.int way), some (.int c), some (.int pl), none, none] [] = .nx σ4 [] := by
    refine asg_ok (d := .int mu) (fr := false) (bin_to rfl (bin_to (bin_to rfl rfl (div_p (by omega) (by omega))) rfl (mod_p (by omega))) ?_)
    show Res.ok (.int (1 + c / 64 % 50)) false = _
    rw [emu]
  have tw : ∀ k : Int, cBin bEq (cVar 1) (cD (.int k)) σ4 [] = .ok (.bl (decide (way = k))) false := fun k => rfl
  have fin : ∀ {d : D} {fr : Bool}, Bad d → (∀ r, (sSeq r sSkip = r) → True) → True := fun _ _ => trivial
  by_cases w0 : way = 0
  · obtain ⟨x, ex, hx⟩ : ∃ x : Int, cBin bIx (cApp fLst (cCons (cD (.int 0)) (cCons (cBin bSub (cD (.int 0)) (cVar 4)) cNil))) (cBin bMod (cBin bFdiv (cVar 2) (cD (.int 8))) (cD (.int 2))) σ4 [] = .ok (.int x) false ∧ x < 1 ∧ -50 ≤ x := by
      obtain ⟨j, ej⟩ : ∃ j : Nat, c / 8 % 2 = j := ⟨(c / 8 % 2).toNat, by omega⟩
      have e1 : cBin bMod (cBin bFdiv (cVar 2) (cD (.int 8))) (cD (.int 2)) σ4 [] = .ok (.int j) false := bin_to (bin_to rfl rfl (div_p (by omega) (by omega))) rfl (by rw [mod_p (by omega), ej])
      have hj : j = 0 ∨ j = 1 := by omega
      rcases hj with rfl | rfl
      · exact ⟨0, bin_to (x := .lst [.int 0, .int (0 - mu)]) (fx := true) rfl e1 rfl, by omega, by omega⟩
      · exact ⟨0 - mu, bin_to (x := .lst [.int 0, .int (0 - mu)]) (fx := true) rfl e1 rfl, by omega, by omega⟩
    have t := tw 0
    rw [decide_eq_true w0] at t
    refine ⟨.tup (its w ++ [.int x]), false, run_rt rfl ((seq_nx s1).trans ((seq_nx s2).trans (seq_rt ((if_t t).trans (ret_v (bin_to (x := .tup (its w)) (fx := false) (y := .tup [.int x]) (fy := false) rfl (tup_of (cons1 ex) rfl (show 1 ≤ lim by decide)) (add_t (by rw [hlw]; show w.length + 1 ≤ lim; unfold lim; omega)))))))), ?_⟩
    have hm : ∀ d ∈ its w ++ [D.int x], ∃ i : Int, d = D.int i ∧ -50 ≤ i ∧ i ≤ 1000000000000000000000000000000 := fun d hd => by
      rcases List.mem_append.mp hd with hd | hd
      · obtain ⟨i, hi, rfl⟩ := List.mem_map.mp hd
        have := hw i hi
        exact ⟨i, rfl, by omega, by omega⟩
      · exact ⟨x, List.mem_singleton.mp hd, by omega, by omega⟩
    refine bad_tup (w := (its w ++ [D.int x]).length * 701) (fun d hd => ?_) (itms_of fun d hd => ?_) ?_ (stair_bad _ _ _ _ (decide_eq_false (by omega)))
    · obtain ⟨i, rfl, _⟩ := hm d hd
      exact ⟨_, rfl⟩
    · obtain ⟨i, rfl, h1, h2⟩ := hm d hd
      exact itm_big (by omega) (by omega)
    · rw [List.length_append, hlw]
      calc _ ≤ 13 * 701 := Nat.mul_le_mul_right _ (show w.length + 1 ≤ 13 by omega)
        _ ≤ 20000 := by decide
  have t0 := tw 0
  rw [decide_eq_false w0] at t0
  have cut : ∀ (odd : D) (σ : Sl), gets σ 0 = some (some (.tup (its w))) → gets σ 3 = some (some (.int pl)) → ∀ (f : CE) (fx : Bool), f σ [] = .ok odd fx → odd.pure = true →
      cBin bAdd (cBin bAdd (cCutH (cVar 0) (cVar 3)) (cApp fTup (cCons f cNil))) (cCutL (cVar 0) (cBin bAdd (cVar 3) (cD (.int 1)))) σ [] = .ok (.tup ((its w).take pl ++ [odd] ++ (its w).drop (pl + 1))) false := fun odd σ g0 g3 f fx hf hp => by
    have v0 : cVar 0 σ [] = .ok (.tup (its w)) false := by unfold cVar; rw [g0]
    have v3 : cVar 3 σ [] = .ok (.int pl) false := by unfold cVar; rw [g3]
    refine bin_to (bin_to (cutH_t v0 v3) (tup_of (cons1 hf) (by show (odd.pure && true) = true; rw [hp]; rfl) (show 1 ≤ lim by decide)) (add_t ?_)) (cutL_t (a := pl + 1) v0 (bin_to v3 rfl rfl)) (add_t ?_)
    · rw [List.length_take, hlw]
      show min pl w.length + 1 ≤ lim
      unfold lim
      omega
    · rw [List.length_append, List.length_take, List.length_drop, hlw]
      show min pl w.length + 1 + (w.length - (pl + 1)) ≤ lim
      unfold lim
      omega
  by_cases w1 : way = 1
  · have t := tw 1
    rw [decide_eq_true w1] at t
    exact ⟨_, false, run_rt rfl ((seq_nx s1).trans ((seq_nx s2).trans ((seq_nx (if_f t0)).trans (seq_rt ((if_t t).trans (ret_v (cut (.bl true) σ4 rfl rfl _ false rfl rfl))))))), bad_mid hw hl ⟨_, rfl⟩ itm_bl rfl⟩
  have t1 := tw 1
  rw [decide_eq_false w1] at t1
  by_cases w2 : way = 2
  · have t := tw 2
    rw [decide_eq_true w2] at t
    obtain ⟨j, ej⟩ : ∃ j : Nat, c / 8 % 6 = j := ⟨(c / 8 % 6).toNat, by omega⟩
    have hj : j < odds.length := by show j < 6; omega
    obtain ⟨odd, ho⟩ : ∃ d, odds[j]? = some d := ⟨_, List.getElem?_eq_getElem hj⟩
    obtain ⟨o1, o2, o3⟩ := odds_ok odd (List.mem_of_getElem? ho)
    have e1 : cBin bMod (cBin bFdiv (cVar 2) (cD (.int 8))) (cD (.int 6)) σ4 [] = .ok (.int j) false := bin_to (bin_to rfl rfl (div_p (by omega) (by omega))) rfl (by rw [mod_p (by omega), ej])
    have e2 : (sAsg 5 (cBin bIx (cApp fLst (cCons (cD (.str (Str.ofString "1"))) (cCons (cD .non) (cCons (cApp fTup (cCons (cD (.int 1)) cNil)) (cCons (cApp fLst (cCons (cD (.int 1)) cNil)) (cCons (cD (.str (Str.ofString ""))) (cCons (cD (.bl false)) cNil))))))) (cBin bMod (cBin bFdiv (cVar 2) (cD (.int 8))) (cD (.int 6))))) σ4 [] =
        .nx [some (.tup (its w)), some (.int way), some (.int c), some (.int pl), some (.int mu), some odd] [] := by
      refine asg_ok (d := odd) (fr := false) (bin_to (x := .lst odds) (fx := true) rfl e1 ?_)
      show (match gets odds j with | some d => Res.ok d false | none => Res.bad) = _
      rw [gets_eq, ho]
    exact ⟨_, false, run_rt rfl ((seq_nx s1).trans ((seq_nx s2).trans ((seq_nx (if_f t0)).trans ((seq_nx (if_f t1)).trans (seq_rt ((if_t t).trans ((seq_nx e2).trans (ret_v (cut odd _ rfl rfl (cVar 5) false rfl (typ_pure o1)))))))))), bad_mid hw hl o1 o2 o3⟩
  have t2 := tw 2
  rw [decide_eq_false w2] at t2
  by_cases w3 : way = 3
  · have t := tw 3
    rw [decide_eq_true w3] at t
    refine ⟨.lst (its w), true, run_rt rfl ((seq_nx s1).trans ((seq_nx s2).trans ((seq_nx (if_f t0)).trans ((seq_nx (if_f t1)).trans ((seq_nx (if_f t2)).trans (seq_rt ((if_t t).trans (ret_v (app_to rfl ?_))))))))), ?_⟩
    · show (if pureL (its w) = true then Res.ok (.lst (its w)) true else Res.bad) = _
      rw [pure_its, if_pos rfl]
    · refine bad_other rfl ((itm_lst (itms_of (dp := 59) (w := 700) fun d hd => ?_)).le (Nat.le_refl _) ?_) rfl rfl
      · obtain ⟨i, hi, rfl⟩ := List.mem_map.mp hd
        have := hw i hi
        exact itm_big (by omega) (by omega)
      · rw [hlw]
        calc _ ≤ 13 * 701 := Nat.mul_le_mul_right _ (show w.length ≤ 13 by omega)
          _ ≤ 20000 := by decide
  have t3 := tw 3
  rw [decide_eq_false w3] at t3
  obtain ⟨ds, hst, hbad⟩ := strange_is c
  have e5 : (cBin bGt (cApp fLen (cCons (cVar 0) cNil)) (cD (.int 0))) σ4 [] = .ok (.bl (decide ((0 : Int) < ((its w).length : Nat)))) false := rfl
  have last : ∀ {b : Bool}, (cAndB (cBin bEq (cVar 1) (cD (.int 4))) (cBin bGt (cApp fLen (cCons (cVar 0) cNil)) (cD (.int 0)))) σ4 [] = .ok (.bl false) b → ∃ d fr, m__law_spoilt [.tup (its w), .int way, .int c] = .ok d fr ∧ Bad d := fun t => by
    refine ⟨ds, false, run_rt rfl ((seq_nx s1).trans ((seq_nx s2).trans ((seq_nx (if_f t0)).trans ((seq_nx (if_f t1)).trans ((seq_nx (if_f t2)).trans ((seq_nx (if_f t3)).trans ((seq_nx (if_f t)).trans ((ret_is (call_d (ds := [.int c]) rfl rfl hst)).trans ?_)))))))), hbad⟩
    have h1 := hbad.1
    obtain ⟨_, _, h3⟩ := hbad
    cases ds with
    | loc n => exact nomatch h1
    | err => exact absurd h3 (fun z => nomatch z)
    | _ => rfl
  by_cases w4 : way = 4
  · by_cases hz : 0 < w.length
    · have t : (cAndB (cBin bEq (cVar 1) (cD (.int 4))) (cBin bGt (cApp fLen (cCons (cVar 0) cNil)) (cD (.int 0)))) σ4 [] = .ok (.bl true) false := by
        have t4 := tw 4
        rw [decide_eq_true w4] at t4
        rw [decide_eq_true (by rw [hlw]; omega)] at e5
        unfold cAndB
        simp only [t4, e5]
      have hpw : pl < w.length := by omega
      have e6 : w[pl]? = some w[pl] := List.getElem?_eq_getElem hpw
      have hwp := hw w[pl] (List.getElem_mem hpw)
      refine ⟨.tup ((its w).take (pl + 1) ++ [.int (w[pl] + mu)] ++ (its w).drop (pl + 1)), false, run_rt rfl ((seq_nx s1).trans ((seq_nx s2).trans ((seq_nx (if_f t0)).trans ((seq_nx (if_f t1)).trans ((seq_nx (if_f t2)).trans ((seq_nx (if_f t3)).trans (seq_rt ((if_t t).trans (ret_v
        (bin_to (bin_to (cutH_t (b := pl + 1) rfl (bin_to rfl rfl rfl)) (tup_of (cons1 (bin_to (bin_to rfl rfl (ixT e6)) rfl rfl)) rfl (show 1 ≤ lim by decide)) (add_t ?_)) (cutL_t (a := pl + 1) rfl (bin_to rfl rfl rfl)) (add_t ?_))))))))))), ?_⟩
      · rw [List.length_take, hlw]
        show min (pl + 1) w.length + 1 ≤ lim
        unfold lim
        omega
      · rw [List.length_append, List.length_take, List.length_drop, hlw]
        show min (pl + 1) w.length + 1 + (w.length - (pl + 1)) ≤ lim
        unfold lim
        omega
      · have hm : ∀ d ∈ (its w).take (pl + 1) ++ [D.int (w[pl] + mu)] ++ (its w).drop (pl + 1), ∃ i : Int, d = D.int i ∧ 1 ≤ i ∧ i ≤ 1000000000000000000000000000050 := fun d hd => by
          have old : d ∈ its w → ∃ i : Int, d = D.int i ∧ 1 ≤ i ∧ i ≤ 1000000000000000000000000000050 := fun h => by
            obtain ⟨i, hi, rfl⟩ := List.mem_map.mp h
            have := hw i hi
            exact ⟨i, rfl, by omega, by omega⟩
          rcases List.mem_append.mp hd with hd | hd
          · rcases List.mem_append.mp hd with hd | hd
            · exact old (List.mem_of_mem_take hd)
            · exact ⟨_, List.mem_singleton.mp hd, by omega, by omega⟩
          · exact old (List.mem_of_mem_drop hd)
        refine bad_tup (w := ((its w).take (pl + 1) ++ [D.int (w[pl] + mu)] ++ (its w).drop (pl + 1)).length * 701) (fun d hd => ?_) (itms_of fun d hd => ?_) ?_ ?_
        · obtain ⟨i, rfl, _⟩ := hm d hd
          exact ⟨_, rfl⟩
        · obtain ⟨i, rfl, h1, h2⟩ := hm d hd
          exact itm_big (by omega) (by omega)
        · rw [List.length_append, List.length_append, List.length_take, List.length_drop, hlw]
          have : ([D.int (w[pl] + mu)] : List D).length = 1 := rfl
          calc _ ≤ 13 * 701 := Nat.mul_le_mul_right _ (by omega)
            _ ≤ 20000 := by decide
        · have e7 : (its w).take (pl + 1) = (its w).take pl ++ [.int w[pl]] := by
            rw [List.take_add_one, List.getElem?_map, e6]
            rfl
          rw [e7, List.append_assoc, List.append_assoc]
          exact stair_up _ _ _ _ _ (by omega)
    · refine last (b := false) ?_
      have t4 := tw 4
      rw [decide_eq_true w4] at t4
      rw [decide_eq_false (by rw [hlw]; omega)] at e5
      unfold cAndB
      simp only [t4, e5]
  · refine last (b := false) ?_
    have t4 := tw 4
    rw [decide_eq_false w4] at t4
    unfold cAndB
    simp only [t4]
end K01

namespace K01
open HC PySem

/-! ## the law -/
abbrev often (ns : List Int) (o : Int) : List Int := ns.map (· * o)
theorem often_is {σ : Sl} {i : Nat} {ns : List Int} {o : Int} (h1 : cVar i σ [] = .ok (.tup (its ns)) false) (h2 : ∀ z : Int, cVar 1 (setD (wipeD σ [8]) 8 (.int z)) [] = .ok (.int o) false) (h8 : ∀ z : Int, cVar 8 (setD (wipeD σ [8]) 8 (.int z)) [] = .ok (.int z) false) (hb : ∀ n ∈ ns, -1000 ≤ n ∧ n ≤ 1000) :
    cApp fTuple (cCons (cComp (iVal (cVar i)) (tgName 8) [8] cTrue (cBin bMul (cVar 8) (cVar 1))) cNil) σ [] = .ok (.tup (its (often ns o))) false := by
  have hc := comp_is (A := tgName 8) (t := cTrue) (f := cBin bMul (cVar 8) (cVar 1)) (σ := wipeD σ [8]) (S := []) (fun _ => true) (fun d => .int (intD d * o)) (its ns) fun d hd => by
    obtain ⟨z, hz, rfl⟩ := List.mem_map.mp hd
    have := hb z hz
    exact ⟨_, false, rfl, rfl, fun _ => ⟨rfl, false, bin_to (h8 z) (h2 z) (mul_l (small_of (by omega) (by omega)))⟩⟩
  rw [List.filter_eq_self.mpr fun _ _ => rfl] at hc
  have e : (its ns).map (fun d => D.int (intD d * o)) = its (often ns o) := by
    show (ns.map D.int).map _ = (ns.map (· * o)).map D.int
    rw [List.map_map, List.map_map]
    rfl
  rw [e] at hc
  exact tuple_l (cons1 (comp_st (ival_t h1) hc)) (pure_its _)
theorem often_stairy {ns : List Int} {o : Int} (h : Stairy ns) (ho : 1 ≤ o) : Stairy (often ns o) := by
  refine ⟨List.pairwise_map.mpr (h.1.imp fun h => Int.mul_le_mul_of_nonneg_right h (by omega)), fun n hn => ?_⟩
  obtain ⟨z, hz, rfl⟩ := List.mem_map.mp hn
  have h1 := h.2 z hz
  have h2 : 1 * 1 ≤ z * o := Int.mul_le_mul h1 ho (by omega) (by omega)
  show 1 ≤ z * o
  omega
theorem often_le {ns : List Int} {o m : Int} (h : ∀ n ∈ ns, 0 ≤ n ∧ n ≤ m) (ho : 0 ≤ o) (hm : o ≤ 10000000000000000000000000001) : ∀ n ∈ often ns o, n ≤ m * 10000000000000000000000000001 := fun n hn => by
  obtain ⟨z, hz, rfl⟩ := List.mem_map.mp hn
  have h1 := h z hz
  show z * o ≤ _
  exact Int.mul_le_mul h1.2 hm ho (by omega)
theorem often_sum (o : Int) : ∀ ns : List Int, sumI (often ns o) = sumI ns * o
  | [] => (Int.zero_mul o).symm
  | n :: ns => by
    show n * o + sumI (often ns o) = (n + sumI ns) * o
    rw [often_sum o ns, Int.add_mul]
theorem judged_good {ns : List Int} (h : Stairy ns) (hb : ∀ n ∈ ns, n ≤ 1000000000000000000000000000000) (hl : ns.length ≤ 12) : m__law_judged [.tup (its ns), .bl true] = .ok (.bl true) false := by
  obtain ⟨s, hs⟩ := rep_of (d := .tup (its ns)) ((itm_tup (itms_of (dp := 59) (w := 700) fun d hd => by
    obtain ⟨i, hi, rfl⟩ := List.mem_map.mp hd
    have h1 := h.2 i hi
    have h2 := hb i hi
    exact itm_big (by omega) (by omega))).le (Nat.le_refl _) (by
      rw [List.length_map]
      calc _ ≤ 12 * 701 := Nat.mul_le_mul_right _ hl
        _ ≤ 20000 := by decide))
  exact judged_is rfl hs (isStair_its h)
theorem notB_t {f : CE} {σ : Sl} {S : List SO} {b fr : Bool} (h : f σ S = .ok (.bl b) fr) : cNotB (cTru f) σ S = .ok (.bl (!b)) false := by
  unfold cNotB cTru
  simp only [h, truth]
theorem tru_t {f : CE} {σ : Sl} {S : List SO} {b fr : Bool} (h : f σ S = .ok (.bl b) fr) : cTru f σ S = .ok (.bl b) false := by
  unfold cTru
  simp only [h, truth]
theorem orB_ff {a b : CE} {σ : Sl} {S : List SO} {fa fb : Bool} (h1 : a σ S = .ok (.bl false) fa) (h2 : b σ S = .ok (.bl false) fb) : cOrB a b σ S = .ok (.bl false) fb := by
  unfold cOrB
  simp only [h1, h2]
theorem sum_bound {m : Int} : ∀ {ns : List Int}, (∀ n ∈ ns, 0 ≤ n ∧ n ≤ m) → 0 ≤ sumI ns ∧ sumI ns ≤ m * ns.length
  | [], _ => ⟨Int.le_refl _, by show (0 : Int) ≤ m * ((0 : Nat) : Int); rw [show ((0 : Nat) : Int) = 0 from rfl, Int.mul_zero]; omega⟩
  | n :: ns, h => by
    obtain ⟨h1, h2⟩ := sum_bound fun k hk => h k (List.mem_cons_of_mem _ hk)
    have h3 := h n (List.mem_cons_self ..)
    show 0 ≤ n + sumI ns ∧ n + sumI ns ≤ m * (((ns.length + 1 : Nat)) : Int)
    rw [Int.natCast_add, Int.mul_add]
    constructor
    · omega
    · have : m * ((1 : Nat) : Int) = m := Int.mul_one m
      omega
theorem law_true (ns : List Int) (_ : ns.length ≤ 63) : m_law [.rol (its ns)] = .ok (.bl true) false := by
  obtain ⟨c0, h0⟩ := cell_is ns 0 (by decide)
  obtain ⟨c1, h1⟩ := cell_is ns 1 (by decide)
  obtain ⟨c2, h2⟩ := cell_is ns 2 (by decide)
  obtain ⟨c3, h3⟩ := cell_is ns 3 (by decide)
  obtain ⟨c4, h4⟩ := cell_is ns 4 (by decide)
  obtain ⟨c5, h5⟩ := cell_is ns 5 (by decide)
  obtain ⟨c6, h6⟩ := cell_is ns 6 (by decide)
  -- how often
  obtain ⟨o, ho, hoe⟩ : ∃ o : Int, (1 ≤ o ∧ o ≤ 10000000000000000000000000001) ∧ (sSeq (sAsg 1 (cD (.int 1))) (sIf (cBin bEq (cBin bMod (cApp (callD m__law_cell) (cCons (cVar 0) (cCons (cD (.int 0)) cNil))) (cD (.int 3))) (cD (.int 1))) (sAsg 1 (cBin bAdd (cD (.int 1)) (cBin bMod (cApp (callD m__law_cell) (cCons (cVar 0) (cCons (cD (.int 1)) cNil))) (cBin bPow (cD (.int 10)) (cD (.int 28)))))) sSkip)) (startD 11 [.rol (its ns)]) [] =
      .nx [some (.rol (its ns)), some (.int o), none, none, none, none, none, none, none, none, none] [] := by
    have t : cBin bEq (cBin bMod (cApp (callD m__law_cell) (cCons (cVar 0) (cCons (cD (.int 0)) cNil))) (cD (.int 3))) (cD (.int 1)) [some (.rol (its ns)), some (.int 1), none, none, none, none, none, none, none, none, none] [] = .ok (.bl (decide (c0 % 3 = 1))) false :=
      bin_to (bin_to (call_d rfl rfl h0) rfl (mod_p (by omega))) rfl rfl
    by_cases h : c0 % 3 = 1
    · rw [decide_eq_true h] at t
      refine ⟨1 + c1 % 10000000000000000000000000000, by omega, (seq_nx (asg_ok rfl)).trans ((if_t t).trans (asg_ok (d := .int (1 + c1 % 10000000000000000000000000000)) (fr := false) (bin_to rfl (bin_to (y := .int 10000000000000000000000000000) (fy := false) (call_d rfl rfl h1) rfl (mod_p (by omega))) rfl)))⟩
    · rw [decide_eq_false h] at t
      exact ⟨1, by omega, (seq_nx (asg_ok rfl)).trans (if_f t)⟩
  obtain ⟨st, q1, q2, q3, q4⟩ := stair_is c2 (c0 / 3 % 13).toNat 30 (by omega) (by omega) (by omega)
  have hst : Stairy st := ⟨q3, fun n hn => by have := q4 n hn; omega⟩
  have hcnt : (((c0 / 3 % 13).toNat : Nat) : Int) = c0 / 3 % 13 := by omega
  rw [hcnt] at q1
  obtain ⟨se, r1, r2, r3, r4⟩ := within_is (a := st) c3 (decide (c4 % 2 = 1)) (fun n hn => by have := q4 n hn; omega) (by omega)
  have hv : Stairy (often st o) := often_stairy hst ho.1
  have hvb : ∀ n ∈ often st o, n ≤ 1000000000000000000000000000000 := fun n hn => by
    have := often_le (m := 30) (fun n hn => by have := q4 n hn; omega) (by omega) ho.2 n hn
    omega
  have hvl : (often st o).length ≤ 12 := by rw [List.length_map]; omega
  have hse : Stairy (often se o) := often_stairy r2 ho.1
  obtain ⟨sp, spf, w1, w2⟩ := spoilt_is hv hvb hvl (c5 % 6) (c5 / 6)
  obtain ⟨sg, v1, v2⟩ := strange_is c6
  have hsb := sum_bound (m := 30) (ns := st) fun n hn => by have := q4 n hn; omega
  have hsb2 : (st.length : Int) ≤ 12 := by omega
  -- the boxes, counted
  let σ9 : Int → Option D → Sl := fun b z => [some (.rol (its ns)), some (.int o), some (.tup (its st)), some (.tup (its (often st o))), some (.tup (its se)), some (.tup (its (often st o))), some (.tup (its (often se o))), some (.int b), z, none, none]
  have count : ∀ (rs : List Int) (b : Int) (z : Option D), (∀ n ∈ rs, 0 ≤ n ∧ n ≤ 1000) → ∃ z', forL (tgName 8) (sAsg 7 (cBin bAdd (cVar 7) (cApp fLen (cCons (cComp (iApp rg1 (cCons (cVar 8) cNil)) (tgName 10) [10] cTrue (cVar 10)) cNil)))) (its rs) (σ9 b z) [] = .nx (σ9 (b + sumI rs) z') [] := by
    intro rs
    induction rs with
    | nil =>
      intro b z _
      exact ⟨z, by show RS.nx (σ9 b z) [] = _; rw [show b + sumI [] = b from Int.add_zero b]⟩
    | cons n rs ih =>
      intro b z hb
      obtain ⟨z', e⟩ := ih (b + n) (some (.int n)) fun m hm => hb m (List.mem_cons_of_mem _ hm)
      have hn := hb n (List.mem_cons_self ..)
      have hc := comp_is (A := tgName 10) (t := cTrue) (f := cVar 10) (σ := σ9 b (some (.int n))) (S := []) (fun _ => true) (fun d => d) (rangeD 0 n.toNat) fun d hd => by
        obtain ⟨i, _, rfl⟩ := range_mem hd
        exact ⟨_, false, rfl, rfl, fun _ => ⟨rfl, false, rfl⟩⟩
      rw [List.filter_eq_self.mpr fun _ _ => rfl, List.map_id'] at hc
      refine ⟨z', ?_⟩
      show (match (sAsg 7 (cBin bAdd (cVar 7) (cApp fLen (cCons (cComp (iApp rg1 (cCons (cVar 8) cNil)) (tgName 10) [10] cTrue (cVar 10)) cNil)))) (σ9 b (some (.int n))) [] with | .nx σ2 S2 => forL _ _ (its rs) σ2 S2 | .ct σ2 S2 => forL _ _ (its rs) σ2 S2 | .bk σ2 S2 => .nx σ2 S2 | r => r) = _
      rw [show (sAsg 7 (cBin bAdd (cVar 7) (cApp fLen (cCons (cComp (iApp rg1 (cCons (cVar 8) cNil)) (tgName 10) [10] cTrue (cVar 10)) cNil)))) (σ9 b (some (.int n))) [] = .nx (σ9 (b + n) (some (.int n))) [] from by
        refine asg_ok (d := .int (b + n)) (fr := false) (bin_to (y := .int n) (fy := false) rfl (app_to (comp_st (ws := [10]) (iapp_to rfl (rg1_any (by omega) (by omega))) hc) ?_) rfl)
        show Res.ok (.int ((rangeD 0 n.toNat).length : Nat)) false = _
        rw [rangeD_len]
        congr 2
        omega]
      show forL _ _ (its rs) (σ9 (b + n) (some (.int n))) [] = _
      rw [e]
      show RS.nx (σ9 (b + n + sumI rs) z') [] = RS.nx (σ9 (b + (n + sumI rs)) z') []
      rw [Int.add_assoc]
  obtain ⟨z', cnt⟩ := count st 0 none fun n hn => by have := q4 n hn; omega
  rw [Int.zero_add] at cnt
  refine run_rt rfl ?_
  have hoe2 := hoe
  -- the first two rows
  have two : ∀ {r : SC} {a b : SC} {σ σ1 : Sl} {x : RS}, (sSeq a b) σ [] = .nx σ1 [] → r σ1 [] = x → sSeq a (sSeq b r) σ [] = x := fun {r a b σ σ1 x} h hr => by
    unfold sSeq at h ⊢
    cases ea : a σ [] with
    | nx s1 S1 =>
      rw [ea] at h
      have h : b s1 S1 = .nx σ1 [] := h
      show (match b s1 S1 with | .nx σ1 S1 => r σ1 S1 | x => x) = x
      rw [h]
      exact hr
    | _ => rw [ea] at h; exact nomatch h
  refine two hoe2 ?_
  have incl1 : inclK (often st o) 0 (often se o) = inclK st 0 se := incl_scale o ho.1 st se 0
  have incl2 : inclK (often se o) 0 (often st o) = inclK se 0 st := incl_scale o ho.1 se st 0
  refine (seq_nx (asg_ok (d := .tup (its st)) (fr := false) (call_d (ds := [.int c2, .int (c0 / 3 % 13), .int 30]) (cons_ok (call_d rfl rfl h2) (cons_ok (bin_to (bin_to (call_d rfl rfl h0) rfl (div_p (by omega) (by omega))) rfl (mod_p (by omega))) (cons1 rfl))) rfl q1))).trans ?_
  refine (seq_nx (asg_ok (d := .tup (its (often st o))) (fr := false) (often_is rfl (fun z => rfl) (fun z => rfl) fun n hn => by have := q4 n hn; omega))).trans ?_
  refine (seq_nx (asg_ok (d := .tup (its se)) (fr := false) (call_d (ds := [.tup (its st), .int c3, .bl (decide (c4 % 2 = 1))]) (cons_ok rfl (cons_ok (call_d rfl rfl h3) (cons1 (bin_to (bin_to (call_d rfl rfl h4) rfl (mod_p (by omega))) rfl rfl)))) rfl r1))).trans ?_
  refine (seq_nx (asg_ok (d := .tup (its (often st o))) (fr := false) (often_is rfl (fun z => rfl) (fun z => rfl) fun n hn => by have := q4 n hn; omega))).trans ?_
  refine (seq_nx (asg_ok (d := .tup (its (often se o))) (fr := false) (often_is rfl (fun z => rfl) (fun z => rfl) fun n hn => by have h1 := r3 n hn; have h2 := r2.2 n hn; omega))).trans ?_
  refine (seq_nx (if_f (orB_ff (notB_t (b := true) (call_d (ds := [.tup (its (often st o)), .bl true]) rfl rfl (judged_good hv hvb hvl))) (notB_t (b := true) (call_d (ds := [.tup [], .bl true]) rfl rfl (judged_good (ns := []) ⟨.nil, fun n h => nomatch h⟩ (fun n h => nomatch h) (by decide))))))).trans ?_
  refine (seq_nx (if_f (notB_t (b := true) (call_d (ds := [sp, .bl false]) (cons_ok (call_d (ds := [.tup (its (often st o)), .int (c5 % 6), .int (c5 / 6)]) (cons_ok rfl (cons_ok (bin_to (call_d rfl rfl h5) rfl (mod_p (by omega))) (cons1 (bin_to (call_d rfl rfl h5) rfl (div_p (by omega) (by omega)))))) rfl w1) (cons1 rfl)) (by show (sp.pure && true) = true; rw [w2.1]; rfl) w2.judged)))).trans ?_
  refine (seq_nx (if_f (notB_t (b := true) (call_d (ds := [sg, .bl false]) (cons_ok (call_d (ds := [.int c6]) (cons1 (call_d rfl rfl h6)) rfl v1) (cons1 rfl)) (by show (sg.pure && true) = true; rw [v2.1]; rfl) v2.judged)))).trans ?_
  refine (seq_nx (σ1 := σ9 0 none) (S1 := []) (asg_ok rfl)).trans ?_
  refine (seq_nx ((for_st (ival_t rfl)).trans cnt)).trans ?_
  refine (seq_nx (asg_ok (d := .int (sumI (often st o))) (fr := false) (call_k (ds := [.tup (its (often st o))]) rfl rfl rfl (size_is hv)))).trans ?_
  refine (seq_nx (if_f (fr := false) (orB_ff (notB_t (b := true) (fr := false) rfl) (orB_ff (tru_t (b := false) (fr := false) rfl) (bin_to (y := .int (sumI st * o)) (fy := false) (fx := false) rfl (bin_to rfl rfl ?_) ?_))))).trans ?_
  · exact mul_l (small_of (by omega) (by omega))
  · show Res.ok (.bl (!decide (sumI (often st o) = sumI st * o))) false = Res.ok (.bl false) false
    rw [often_sum, decide_eq_true rfl]
    rfl
  refine (seq_nx (asg_ok (d := .bl (inclK (often st o) 0 (often se o))) (fr := false) (call_d (ds := [.tup (its (often st o)), .tup (its (often se o))]) rfl rfl (contains_is hv hse)))).trans ?_
  refine (seq_nx (if_f (fr := false) (orB_ff (notB_t (b := true) (fr := false) rfl) (bin_to (y := .bl (inclK st 0 se)) (fy := false) (fx := false) rfl (call_d (ds := [.tup (its st), .tup (its se)]) rfl rfl (boxes_is (fun n hn => by have h1 := r3 n hn; have h2 := r2.2 n hn; omega) (by omega))) ?_)))).trans ?_
  · show Res.ok (.bl (!decide (inclK (often st o) 0 (often se o) = inclK st 0 se))) false = Res.ok (.bl false) false
    rw [incl1, decide_eq_true rfl]
    rfl
  refine (seq_nx (asg_ok (d := .bl (inclK (often se o) 0 (often st o))) (fr := false) (call_k (ds := [.tup (its (often st o)), .tup (its (often se o))]) rfl rfl rfl (contains_is hse hv)))).trans ?_
  refine ret_v ?_
  have a1 : ∀ σ, cVar 9 σ [] = .ok (.bl (inclK (often se o) 0 (often st o))) false → cApp (fIsi [.bool]) (cCons (cVar 9) cNil) σ [] = .ok (.bl true) false := fun σ h => app_to h rfl
  unfold cAnd
  rw [a1 _ rfl]
  show cBin bEq (cVar 9) (cApp (callD m__law_all_boxes_in) (cCons (cVar 4) (cCons (cVar 2) cNil))) _ [] = _
  refine bin_to (y := .bl (inclK se 0 st)) (fy := false) (fx := false) rfl (call_d (ds := [.tup (its se), .tup (its st)]) rfl rfl (boxes_is (fun n hn => by have := q4 n hn; omega) (by omega))) ?_
  show Res.ok (.bl (decide (inclK (often se o) 0 (often st o) = inclK se 0 st))) false = _
  rw [incl2, decide_eq_true rfl]
end K01

open PySem PySem.W PyProof.Rows
set_option maxHeartbeats 0 in
theorem PySem.Challenge.cw_hornstairs_k01_stair_judged_by_boxes_holds : PySem.Challenge.rw_hornstairs_k01_stair_judged_by_boxes.Holds := by
  w_on; o_law; k_head; (case hw => w_witness2)
  k_fill
  refine HC.walk_hc (l := PySem.Challenge.rw_hornstairs_k01_stair_judged_by_boxes) (n := 63) (k := 6) (x := "script") (m := K01.m_law) (gx := fun w => K01.gx _) rfl (by decide) rfl ⟨⟨rfl, by decide, by decide⟩, rfl⟩ (fun w => rfl) (fun w h Y => PySem.W.kIn_of Y) ?F K01.law_true (fun _ _ _ _ _ h => HC.no_cx h)
  case F =>
    intro w mg fa h KX G hmg
    refine' K01.all_mk KX G hmg ?a0 ?l0 ?c0 ?k0 ?a1 ?l1 ?c1 ?k1 ?a2 ?l2 ?c2 ?k2 ?a3 ?l3 ?c3 ?k3 ?a4 ?l4 ?c4 ?k4 ?a5 ?l5 ?c5 ?k5 ?a6 ?l6 ?c6 ?k6 ?a7 ?l7 ?c7 ?k7 ?a8 ?l8 ?c8 ?k8 ?a9 ?l9 ?c9 ?k9 ?a10 ?l10 ?c10 ?k10 ?a11 ?l11 ?c11 ?k11 ?a12 ?l12 ?c12 ?k12 ?a13 ?l13 ?c13 ?k13 ?a14 ?l14 ?c14 ?k14 ?a15 ?l15 ?c15 ?k15 ?a16 ?l16 ?c16 ?k16 ?z_all ?z_bool ?z_enumerate ?z_int ?z_isinstance ?z_len ?z_list ?z_max ?z_min ?z_range ?z_repr ?z_sorted ?z_sum ?z_tuple
    (case a0 => k_is); (case l0 => k_is); (case c0 => k_is); (case k0 => k_is)
    (case a1 => k_is); (case l1 => k_is); (case c1 => k_is); (case k1 => k_is)
    (case a2 => k_is); (case l2 => k_is); (case c2 => k_is); (case k2 => k_is)
    (case a3 => k_is); (case l3 => k_is); (case c3 => k_is); (case k3 => k_is)
    (case a4 => k_is); (case l4 => k_is); (case c4 => k_is); (case k4 => k_is)
    (case a5 => k_is); (case l5 => k_is); (case c5 => k_is); (case k5 => k_is)
    (case a6 => k_is); (case l6 => k_is); (case c6 => k_is); (case k6 => k_is)
    (case a7 => k_is); (case l7 => k_is); (case c7 => k_is); (case k7 => k_is)
    (case a8 => k_is); (case l8 => k_is); (case c8 => k_is); (case k8 => k_is)
    (case a9 => k_is); (case l9 => k_is); (case c9 => k_is); (case k9 => k_is)
    (case a10 => k_is); (case l10 => k_is); (case c10 => k_is); (case k10 => k_is)
    (case a11 => k_is); (case l11 => k_is); (case c11 => k_is); (case k11 => k_is)
    (case a12 => k_is); (case l12 => k_is); (case c12 => k_is); (case k12 => k_is)
    (case a13 => k_is); (case l13 => k_is); (case c13 => k_is); (case k13 => k_is)
    (case a14 => k_is); (case l14 => k_is); (case c14 => k_is); (case k14 => k_is)
    (case a15 => k_is); (case l15 => k_is); (case c15 => k_is); (case k15 => k_is)
    (case a16 => k_is); (case l16 => k_is); (case c16 => k_is); (case k16 => k_is)
    (case z_all => k_is); (case z_bool => k_is); (case z_enumerate => k_is); (case z_int => k_is)
    (case z_isinstance => k_is); (case z_len => k_is); (case z_list => k_is); (case z_max => k_is)
    (case z_min => k_is); (case z_range => k_is); (case z_repr => k_is); (case z_sorted => k_is)
    (case z_sum => k_is); (case z_tuple => k_is)
