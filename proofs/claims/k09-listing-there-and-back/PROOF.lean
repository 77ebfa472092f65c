import PyProof.Rows.All
import Wide.All
import OpenK.AllK
import Wide.FinOn
import HandS.ForMost
import HandS.Exc
import HandS.ExcOwn
import HandS.TryOnly
import HandS.TryMany
import HandS.ExcInit
import HandS.ExcField
import HandS.ExcIs
import HandS.WordsExc
import HandS.IsInst
import HandS.TupAny
import HandS.Rev
import HandS.Wide
import HandS.TupLe
import HandS.NoneIn
import HandS.Flow
import HandS.Deep
import HandS.SortInts
import KE.KTupSum
import HandS.SortKw
import KE.KSortedM
import KE.GoesMore
import PyProof.EnumMake
import HandS.CallSlots
import PyProof.ReprLen
import PyProof.FitsInt
import KE.KExcSuper
import KE.KExcIs
import HandS.More
import HandS.Style
import PyProof.StrLaws
import HandS.SortRule
import KE.SortData
import KE.DatumOrd
import PySem.Challenge.RW_hornstairs_k09_listing_there_and_back
set_option Elab.async false
set_option linter.all false
set_option maxRecDepth 100000
set_option maxRecDepth 100000
namespace HC
open PySem PySem.Spec L2
open PyProof.Rows hiding St

/-! ## data -/
inductive D where
  | non | bl (b : Bool) | int (i : Int) | str (x : Str)
  | tup (xs : List D) | lst (xs : List D) | rol (xs : List D) | dct (ks vs : List D) | obj (c : Nat) (vs : List D) | loc (n : Nat) | err
instance : Inhabited D := ⟨.non⟩
inductive SO where
  | lst (xs : List D) | dct (ks vs : List D) | ins (c : Nat) (vs : List D)
/-- what an expression comes to: a value (fresh: an object that nobody else holds), an exception of the class c with its attributes, or nothing told -/
inductive Res where
  | ok (d : D) (fr : Bool) | ex (c : Nat) (as : List D) | bad
abbrev Sl := List (Option D)
abbrev CE := Sl → List SO → Res

/-- what is known of the text: the written part, the classes' places and the names of their attributes -/
structure GX where
  K : PySem.W.Frag
  cl : Nat → Addr
  fn : Nat → List Str
  xc : Option (Addr × Nat × List D × Value × Option Addr) := none

abbrev FZ := Addr → Prop
/-- a list that is never written: the script -/
def Rol (K : PySem.W.Frag) (H : Hp) (a : Addr) (xs : List V) : Prop := (∃ o, H a = some (.frz o (.lst xs))) ∨
    ∃ (o : Obj) (its : Array Value) (n : Nat), K.lookup a = some o ∧ o.cls = .type "list" ∧ o.dict = none ∧ o.data = .seq its n ∧ its.size ≤ sizeLine ∧ Vals xs its.toList
theorem Rol.sq {K : PySem.W.Frag} {H : Hp} {a : Addr} {xs : List V} (h : Rol K H a xs) : SqL K H a xs := h.imp .inr fun h => h
def SqF (H : Hp) (F : FZ) (a : Addr) (xs : List V) : Prop := F a ∧ H a = some (.lst xs) ∧ xs.length ≤ sizeLine
def keyD : Key → D
  | .inl i => .int i
  | .inr x => .str x
def keysD : List Key → D := fun ks => .tup (ks.map keyD)

mutual
/-- the value v is the data d; F: the frozen objects -/
def RepP (g : GX) (H : Hp) (F : FZ) : D → V → Prop
  | .non, v => v = .non
  | .bl b, v => v = .bl b
  | .int i, v => v = .int i
  | .str x, v => v = .str x
  | .tup ds, v => ∃ a vs, v = .ref a ∧ (SqT g.K H a vs ∧ vs.length ≤ sizeLine) ∧ RepL g H F ds vs
  | .lst ds, v => ∃ a vs, v = .ref a ∧ SqF H F a vs ∧ RepL g H F ds vs
  | .rol ds, v => ∃ a vs, v = .ref a ∧ (Rol g.K H a vs ∧ vs.length ≤ sizeLine) ∧ RepL g H F ds vs
  | .dct ks ds, v => ∃ a vs, v = .ref a ∧ F a ∧ RepL g H F ds vs ∧
      ((∃ kvs, Rd H a (.dK kvs) ∧ ks = kvs.map (fun p => keyD p.1) ∧ vs = kvs.map (·.2)) ∨
       (∃ kvs, Rd H a (.dT kvs) ∧ ks = kvs.map (fun p => keysD p.1) ∧ vs = kvs.map (·.2)))
  | .obj c ds, v => ∃ a dx fs vs, v = .ref a ∧ F a ∧ H a = some (.ins (g.cl c) dx fs) ∧ fs.map (·.1) = g.fn c ∧ vs = fs.map (·.2) ∧ RepL g H F ds vs
  | .loc _, _ => False
  | .err, v => ∃ p, g.xc = some p ∧ v = .ref p.1
def RepL (g : GX) (H : Hp) (F : FZ) : List D → List V → Prop
  | [], vs => vs = []
  | d :: ds, vs => ∃ v ws, vs = v :: ws ∧ RepP g H F d v ∧ RepL g H F ds ws
end

/-- a value that may be one of the store -/
def RepV (g : GX) (H : Hp) (F : FZ) (μ : List Addr) (d : D) (v : V) : Prop :=
  (∃ n a, d = .loc n ∧ μ[n]? = some a ∧ v = .ref a) ∨ RepP g H F d v
def RepVs (g : GX) (H : Hp) (F : FZ) (μ : List Addr) (ds : List D) (vs : List V) : Prop := Paired (RepV g H F μ) ds vs
def RepO (g : GX) (H : Hp) (F : FZ) (μ : List Addr) : SO → Addr → Prop
  | .lst xs, a => ∃ vs, H a = some (.lst vs) ∧ vs.length ≤ sizeLine ∧ RepVs g H F μ xs vs
  | .dct ks ws, a => ∃ vs, RepVs g H F μ ws vs ∧
      ((∃ kvs, H a = some (.dK kvs) ∧ ks = kvs.map (fun p => keyD p.1) ∧ vs = kvs.map (·.2)) ∨
       (∃ kvs, H a = some (.dT kvs) ∧ ks = kvs.map (fun p => keysD p.1) ∧ vs = kvs.map (·.2)))
  | .ins c ws, a => ∃ dx fs vs, H a = some (.ins (g.cl c) dx fs) ∧ (∃ m, fs.map (·.1) = (g.fn c).take m) ∧ vs = fs.map (·.2) ∧ RepVs g H F μ ws vs
/-- a fresh object -/
def RepN (g : GX) (H : Hp) (F : FZ) : D → Addr → Prop
  | .lst xs, a => ∃ vs, H a = some (.lst vs) ∧ vs.length ≤ sizeLine ∧ RepL g H F xs vs
  | .dct ks ws, a => ∃ vs, RepL g H F ws vs ∧
      ((∃ kvs, H a = some (.dK kvs) ∧ ks = kvs.map (fun p => keyD p.1) ∧ vs = kvs.map (·.2)) ∨
       (∃ kvs, H a = some (.dT kvs) ∧ ks = kvs.map (fun p => keysD p.1) ∧ vs = kvs.map (·.2)))
  | .obj c ws, a => ∃ dx fs vs, H a = some (.ins (g.cl c) dx fs) ∧ fs.map (·.1) = g.fn c ∧ vs = fs.map (·.2) ∧ RepL g H F ws vs
  | _, _ => False

/-- an exception's class and attributes -/
def RepX (g : GX) (H : Hp) (F : FZ) (μ : List Addr) (c : Nat) (as : List D) (cls : Value) (dx : Option Addr) : Prop :=
  cls = .ref (g.cl c) ∧ ∃ (x : Addr) (vs : List V), dx = some x ∧ RepVs g H F μ as vs ∧ ∃ fs : List (Str × V), H x = some (.xd fs) ∧ ∀ (i : Nat) (f : Str) (v : V), (g.fn c)[i]? = some f → vs[i]? = some v → fs.lookup f = some v

structure Rel (g : GX) (μ : List Addr) (F : FZ) (σ : Sl) (S : List SO) (σc : St) (H : Hp) : Prop where
  env : ∀ (i : Nat) d, σ[i]? = some (some d) → ∃ v, σc[i]? = some (some v) ∧ RepV g H F μ d v
  len : σ.length = σc.length
  st : ∀ (n : Nat) o, S[n]? = some o → ∃ a, μ[n]? = some a ∧ RepO g H F μ o a
  ml : μ.length = S.length
  nd : μ.Nodup
  ap : ∀ a, a ∈ μ → ¬ F a
  dom : ∀ a, F a → ∃ o, H a = some o
  xc : ∀ p, g.xc = some p → RepX g H F μ p.2.1 p.2.2.1 p.2.2.2.1 p.2.2.2.2

/-- the frozen ones grow by what was free -/
structure FX (F : FZ) (H : Hp) (F' : FZ) (H' : Hp) : Prop where
  up : ∀ a, F a → F' a
  nw : ∀ a, F' a → F a ∨ H a = none
  dom : ∀ a, F' a → ∃ o, H' a = some o

def RepR (g : GX) (H0 H : Hp) (F : FZ) (μ : List Addr) (d : D) (fr : Bool) (v : V) : Prop :=
  (fr = false ∧ RepV g H F μ d v) ∨ (fr = true ∧ ∃ a, v = .ref a ∧ H0 a = none ∧ ¬ F a ∧ a ∉ μ ∧ RepN g H F d a)
def Ok (g : GX) (E : XK) (H : Hp) (F : FZ) (μ : List Addr) (r : Res) (Q : VK) : Prop := match r with
  | .ok d fr => ∀ v H' F', Same H H' → FX F H F' H' → RepR g H H' F' μ d fr v → Q v H'
  | .ex c as => ∀ cls dx H' F', Same H H' → FX F H F' H' → RepX g H' F' μ c as cls dx → E cls dx H'
  | .bad => False
/-- a wish about exceptions at the slots as they are -/
abbrev wat (W : WX) (σ : St) : XK := fun c d H => W c d σ H
/-- the reading of an expression, from the function that tells what it comes to -/
def T (g : GX) (W : WX) (f : CE) : TE := fun σc H Q => ∃ μ F σ S, Rel g μ F σ S σc H ∧ Ok g (wat W σc) H F μ (f σ S) Q
/-- .. of a test -/
abbrev TB (g : GX) (E : WX) (f : CE) : TT := tTest (T g E f)

theorem _root_.L2.PE.hc {X : Cx} {e : Expr} {t t' : TE} (h : PE X e t) (w : ∀ σ H Q, t' σ H Q → t σ H Q) : PE X e t' := ⟨fun pins s σ H Q I q => h.run pins s σ H Q I (w _ _ _ q)⟩
theorem _root_.L2.PT.hc {X : Cx} {e : Expr} {t t' : TT} (h : PT X e t) (w : ∀ σ H Q, t' σ H Q → t σ H Q) : PT X e t' := ⟨fun pins s σ H Q I q => h.run pins s σ H Q I (w _ _ _ q)⟩
theorem _root_.L2.PW.hc {X : Cx} {e : Expr} {t t' : TT} (h : PW X e t) (w : ∀ σ H Q, t' σ H Q → t σ H Q) : PW X e t' := ⟨fun wh pins s σ H Q I q => h.run wh pins s σ H Q I (w _ _ _ q)⟩
theorem _root_.L2.PA.hc {X : Cx} {es : List Expr} {t t' : TA} (h : PA X es t) (w : ∀ σ H Q, t' σ H Q → t σ H Q) : PA X es t' := ⟨fun pos pins s σ H Q I q => h.run pos pins s σ H Q I (w _ _ _ q)⟩
theorem _root_.L2.PS.hc {X : Cx} {st : Stmt} {t t' : TS} (h : PS X st t) (w : ∀ D σ H, t' D σ H → t D σ H) : PS X st t' := ⟨fun pins s σ H D I q => h.run pins s σ H D I (w _ _ _ q)⟩
theorem _root_.L2.PSs.hc {X : Cx} {st : List Stmt} {t t' : TS} (h : PSs X st t) (w : ∀ D σ H, t' D σ H → t D σ H) : PSs X st t' := ⟨fun pins s σ H D I q => h.run pins s σ H D I (w _ _ _ q)⟩
theorem _root_.L2.PI.hc {X : Cx} {tg it : Expr} {t t' : TI} (h : PI X tg it t) (w : ∀ σ H Q, t' σ H Q → t σ H Q) : PI X tg it t' := ⟨fun pins s σ H Q I q => h.run pins s σ H Q I (w _ _ _ q)⟩
theorem _root_.L2.PG.hc {X : Cx} {tg : Expr} {t t' : TG} (h : PG X tg t) (w : ∀ v σ H Q, t' v σ H Q → t v σ H Q) : PG X tg t' := ⟨fun pins s σ H v u Q I r q => h.run pins s σ H v u Q I r (w _ _ _ _ q)⟩

/-! ## how the relations are carried on -/
theorem Rd.same {H H' : Hp} (s : Same H H') {a : Addr} {o : HO} (h : Rd H a o) : Rd H' a o := h.elim (fun h => .inl (s _ _ h)) fun ⟨ob, h⟩ => .inr ⟨ob, s _ _ h⟩
theorem SqT.same {K : PySem.W.Frag} {H H' : Hp} {a : Addr} {xs : List V} (s : Same H H') (h : SqT K H a xs) : SqT K H' a xs := h.elim (fun h => .inl (Rd.same s h)) .inr
theorem SqF.mono {H H' : Hp} {F F' : FZ} {a : Addr} {xs : List V} (s : Same H H') (u : ∀ a, F a → F' a) (h : SqF H F a xs) : SqF H' F' a xs := ⟨u _ h.1, s _ _ h.2.1, h.2.2⟩
section
variable {g : GX} {H H' : Hp} {F F' : FZ}
mutual
theorem RepP.mono (s : Same H H') (u : ∀ a, F a → F' a) : ∀ (d : D) (v : V), RepP g H F d v → RepP g H' F' d v
  | .non, _, h => h
  | .bl _, _, h => h
  | .int _, _, h => h
  | .str _, _, h => h
  | .tup ds, v, h => by
    obtain ⟨a, vs, e, h1, h2⟩ := h
    exact ⟨a, vs, e, ⟨SqT.same s h1.1, h1.2⟩, RepL.mono s u ds vs h2⟩
  | .lst ds, v, h => by
    obtain ⟨a, vs, e, h1, h2⟩ := h
    exact ⟨a, vs, e, SqF.mono s u h1, RepL.mono s u ds vs h2⟩
  | .rol ds, v, h => by
    obtain ⟨a, vs, e, h1, h2⟩ := h
    exact ⟨a, vs, e, ⟨h1.1.imp (fun ⟨o, h⟩ => ⟨o, s _ _ h⟩) fun h => h, h1.2⟩, RepL.mono s u ds vs h2⟩
  | .dct ks ds, v, h => by
    obtain ⟨a, vs, e, h1, h2, h3⟩ := h
    refine ⟨a, vs, e, u _ h1, RepL.mono s u ds vs h2, ?_⟩
    rcases h3 with ⟨kvs, q1, q2⟩ | ⟨kvs, q1, q2⟩
    · exact .inl ⟨kvs, Rd.same s q1, q2⟩
    · exact .inr ⟨kvs, Rd.same s q1, q2⟩
  | .obj c ds, v, h => by
    obtain ⟨a, dx, fs, vs, e, h1, h2, h3, h4, h5⟩ := h
    exact ⟨a, dx, fs, vs, e, u _ h1, s _ _ h2, h3, h4, RepL.mono s u ds vs h5⟩
  | .loc _, _, h => h
  | .err, _, h => h
theorem RepL.mono (s : Same H H') (u : ∀ a, F a → F' a) : ∀ (ds : List D) (vs : List V), RepL g H F ds vs → RepL g H' F' ds vs
  | [], _, h => h
  | d :: ds, vs, h => by
    obtain ⟨v, ws, e, h1, h2⟩ := h
    exact ⟨v, ws, e, RepP.mono s u d v h1, RepL.mono s u ds ws h2⟩
end
theorem RepV.mono {μ : List Addr} {d : D} {v : V} (s : Same H H') (u : ∀ a, F a → F' a) (h : RepV g H F μ d v) : RepV g H' F' μ d v := h.imp (fun h => h) (RepP.mono s u _ _)
theorem RepVs.mono {μ : List Addr} {ds : List D} {vs : List V} (s : Same H H') (u : ∀ a, F a → F' a) (h : RepVs g H F μ ds vs) : RepVs g H' F' μ ds vs := Paired.mapP h fun _ _ => RepV.mono s u
theorem RepO.mono {μ : List Addr} (s : Same H H') (u : ∀ a, F a → F' a) : ∀ {o : SO} {a : Addr}, RepO g H F μ o a → RepO g H' F' μ o a
  | .lst xs, a, ⟨vs, h1, h2, h3⟩ => ⟨vs, s _ _ h1, h2, h3.mono s u⟩
  | .dct ks ws, a, ⟨vs, h1, h2⟩ => ⟨vs, h1.mono s u, h2.imp (fun ⟨kvs, q1, q2⟩ => ⟨kvs, s _ _ q1, q2⟩) fun ⟨kvs, q1, q2⟩ => ⟨kvs, s _ _ q1, q2⟩⟩
  | .ins c ws, a, ⟨dx, fs, vs, h1, h2, h3, h4⟩ => ⟨dx, fs, vs, s _ _ h1, h2, h3, h4.mono s u⟩
theorem RepN.mono (s : Same H H') (u : ∀ a, F a → F' a) : ∀ {d : D} {a : Addr}, RepN g H F d a → RepN g H' F' d a
  | .lst xs, a, ⟨vs, h1, h2, h3⟩ => ⟨vs, s _ _ h1, h2, RepL.mono s u _ _ h3⟩
  | .dct ks ws, a, ⟨vs, h1, h2⟩ => ⟨vs, RepL.mono s u _ _ h1, h2.imp (fun ⟨kvs, q1, q2⟩ => ⟨kvs, s _ _ q1, q2⟩) fun ⟨kvs, q1, q2⟩ => ⟨kvs, s _ _ q1, q2⟩⟩
  | .obj c ws, a, ⟨dx, fs, vs, h1, h2, h3, h4⟩ => ⟨dx, fs, vs, s _ _ h1, h2, h3, RepL.mono s u _ _ h4⟩
  | .non, _, h => h.elim | .bl _, _, h => h.elim | .int _, _, h => h.elim | .str _, _, h => h.elim | .tup _, _, h => h.elim | .rol _, _, h => h.elim | .loc _, _, h => h.elim | .err, _, h => h.elim
theorem RepX.mono {μ : List Addr} {c : Nat} {as : List D} {cls : Value} {dx : Option Addr} (s : Same H H') (u : ∀ a, F a → F' a) : RepX g H F μ c as cls dx → RepX g H' F' μ c as cls dx :=
  fun ⟨h1, x, vs, h2, h3, fs, h4, h5⟩ => ⟨h1, x, vs, h2, h3.mono s u, fs, s _ _ h4, h5⟩
theorem RepO.there {μ : List Addr} : ∀ {o : SO} {a : Addr}, RepO g H F μ o a → ∃ u, H a = some u
  | .lst xs, a, ⟨vs, h1, _⟩ => ⟨_, h1⟩
  | .dct ks ws, a, ⟨vs, h1, h2⟩ => h2.elim (fun ⟨_, q, _⟩ => ⟨_, q⟩) fun ⟨_, q, _⟩ => ⟨_, q⟩
  | .ins c ws, a, ⟨dx, fs, vs, h1, _⟩ => ⟨_, h1⟩
theorem RepN.there : ∀ {d : D} {a : Addr}, RepN g H F d a → ∃ u, H a = some u
  | .lst xs, a, ⟨vs, h1, _⟩ => ⟨_, h1⟩
  | .dct ks ws, a, ⟨vs, h1, h2⟩ => h2.elim (fun ⟨_, q, _⟩ => ⟨_, q⟩) fun ⟨_, q, _⟩ => ⟨_, q⟩
  | .obj c ws, a, ⟨dx, fs, vs, h1, _⟩ => ⟨_, h1⟩
  | .non, _, h => h.elim | .bl _, _, h => h.elim | .int _, _, h => h.elim | .str _, _, h => h.elim | .tup _, _, h => h.elim | .rol _, _, h => h.elim | .loc _, _, h => h.elim | .err, _, h => h.elim
end

theorem FX.refl {F : FZ} {H : Hp} (d : ∀ a, F a → ∃ o, H a = some o) : FX F H F H := ⟨fun _ h => h, fun _ h => .inl h, d⟩
theorem same_none {H H' : Hp} (s : Same H H') {a : Addr} (h : H' a = none) : H a = none := by
  cases e : H a with
  | none => rfl
  | some o => rw [s _ _ e] at h; cases h
theorem FX.trans {F F1 F2 : FZ} {H H1 H2 : Hp} (s : Same H H1) (a : FX F H F1 H1) (b : FX F1 H1 F2 H2) : FX F H F2 H2 :=
  ⟨fun x h => b.up _ (a.up _ h), fun x h => (b.nw _ h).elim (fun h => a.nw _ h) fun h => .inr (same_none s h), b.dom⟩
theorem same_new {H : Hp} {p : Addr} {o : HO} (h : H p = none) : Same H (upd H p o) := fun b x e => by
  rw [upd_ne (ne_of_none e h)]; exact e

section
variable {g : GX} {μ : List Addr} {F F' : FZ} {σ : Sl} {S : List SO} {σc : St} {H H' : Hp}
theorem Rel.at_mu (R : Rel g μ F σ S σc H) {a : Addr} (h : a ∈ μ) : ∃ (n : Nat) (o : SO), S[n]? = some o ∧ μ[n]? = some a ∧ RepO g H F μ o a := by
  obtain ⟨n, hn, e⟩ := List.getElem_of_mem h
  have hs : n < S.length := by rw [← R.ml]; exact hn
  obtain ⟨b, h1, h2⟩ := R.st n _ (List.getElem?_eq_getElem hs)
  rw [List.getElem?_eq_getElem hn, e] at h1
  cases h1
  exact ⟨n, _, List.getElem?_eq_getElem hs, by rw [List.getElem?_eq_getElem hn, e], h2⟩
theorem Rel.mu_there (R : Rel g μ F σ S σc H) {a : Addr} (h : a ∈ μ) : ∃ u, H a = some u := let ⟨_, _, _, _, q⟩ := R.at_mu h; q.there
theorem Rel.mono (R : Rel g μ F σ S σc H) (s : Same H H') (x : FX F H F' H') : Rel g μ F' σ S σc H' :=
  ⟨fun i d h => let ⟨v, h1, h2⟩ := R.env i d h; ⟨v, h1, h2.mono s x.up⟩, R.len, fun n o h => let ⟨a, h1, h2⟩ := R.st n o h; ⟨a, h1, h2.mono s x.up⟩, R.ml, R.nd,
    fun a h f => (x.nw a f).elim (R.ap a h) fun z => by
      obtain ⟨u, e⟩ := R.mu_there h
      rw [z] at e
      exact (nomatch e), x.dom, fun p h => (R.xc p h).mono s x.up⟩
theorem Rel.fx (R : Rel g μ F σ S σc H) : FX F H F H := FX.refl R.dom
theorem RepR.val {d : D} {v : V} {H0 : Hp} (h : RepV g H F μ d v) : RepR g H0 H F μ d false v := .inl ⟨rfl, h⟩
/-- a fresh object is frozen -/
theorem RepR.frz {d : D} {fr : Bool} {v : V} (x : FX F H F' H') (r : RepR g H H' F' μ d fr v) : ∃ F2 : FZ, FX F H F2 H' ∧ (∀ a, F' a → F2 a) ∧ RepV g H' F2 μ d v := by
  rcases r with ⟨_, r⟩ | ⟨_, a, rfl, h0, nf, nm, r⟩
  · exact ⟨F', x, fun _ h => h, r⟩
  · have hd : ∀ b, (F' b ∨ b = a) → ∃ o, H' b = some o := fun b h => h.elim (x.dom b) fun e => by subst e; exact r.there
    refine ⟨fun b => F' b ∨ b = a, ⟨fun b h => .inl (x.up b h), fun b h => h.elim (x.nw b) fun e => .inr (by rw [e]; exact h0), hd⟩, fun b h => .inl h, .inr ?_⟩
    · have r2 := r.mono (F' := fun b => F' b ∨ b = a) (fun _ _ e => e) fun b h => .inl h
      cases d with
      | lst xs =>
        obtain ⟨vs, q1, q2, q3⟩ := r2
        exact ⟨a, vs, rfl, ⟨.inr rfl, q1, q2⟩, q3⟩
      | dct ks ws =>
        obtain ⟨vs, q1, q2⟩ := r2
        exact ⟨a, vs, rfl, .inr rfl, q1, q2.imp (fun ⟨kvs, z, y⟩ => ⟨kvs, .inl z, y⟩) fun ⟨kvs, z, y⟩ => ⟨kvs, .inl z, y⟩⟩
      | obj c ws =>
        obtain ⟨dx, fs, vs, q1, q2, q3, q4⟩ := r2
        exact ⟨a, dx, fs, vs, rfl, .inr rfl, q1, q2, q3, q4⟩
      | _ => exact r2.elim
end
end HC

set_option maxRecDepth 100000
namespace HC
open PySem PySem.Spec L2
open PyProof.Rows hiding St

/-! ## functions of data -/
def lim : Nat := 16777216
theorem lim_eq : sizeLine = lim := sizeLine_eq
def gets {α : Type} : List α → Nat → Option α
  | [], _ => none
  | d :: _, 0 => some d
  | _ :: r, n + 1 => gets r n
theorem gets_eq {α : Type} : ∀ (l : List α) (n : Nat), gets l n = l[n]?
  | [], _ => by simp [gets]
  | _ :: _, 0 => rfl
  | _ :: r, n + 1 => by simp [gets, gets_eq r n]
def D.pure : D → Bool
  | .loc _ => false
  | _ => true
def pureL : List D → Bool
  | [] => true
  | d :: r => d.pure && pureL r
/-- the items of a list (a frozen one, one of the store) -/
def lstOf (S : List SO) : D → Option (List D)
  | .lst xs => some xs
  | .loc n => match gets S n with
    | some (.lst xs) => some xs
    | _ => none
  | _ => none
def tupOf : D → Option (List D)
  | .tup xs => some xs
  | _ => none
/-- .. of a list that is read -/
def rdOf (S : List SO) : D → Option (List D)
  | .rol xs => some xs
  | d => lstOf S d
/-- .. of a list or a tuple -/
def seqOf (S : List SO) : D → Option (List D)
  | .tup xs => some xs
  | d => rdOf S d

section
variable {g : GX} {μ : List Addr} {F F' : FZ} {σ : Sl} {S : List SO} {σc : St} {H H' : Hp}
theorem RepV.pure {d : D} {v : V} (r : RepV g H F μ d v) (p : d.pure = true) : RepP g H F d v := by
  rcases r with ⟨n, a, rfl, _, _⟩ | r
  · exact (nomatch p)
  · exact r
theorem RepP.v {d : D} {v : V} (r : RepP g H F d v) : RepV g H F μ d v := .inr r
theorem RepL.vs : ∀ {ds : List D} {vs : List V}, RepL g H F ds vs → RepVs g H F μ ds vs
  | [], _, h => by
    cases (show _ = [] from h)
    exact .nil
  | d :: ds, vs, h => by
    obtain ⟨v, ws, rfl, h1, h2⟩ := h
    exact .cons h1.v h2.vs
theorem RepVs.pure : ∀ {ds : List D} {vs : List V}, RepVs g H F μ ds vs → pureL ds = true → RepL g H F ds vs
  | _, _, .nil, _ => rfl
  | _, _, .cons (a := d) r t, p => by
    have p2 : (d.pure && pureL _) = true := p
    rw [Bool.and_eq_true] at p2
    exact ⟨_, _, rfl, r.pure p2.1, RepVs.pure t p2.2⟩
theorem RepVs.length {ds : List D} {vs : List V} (r : RepVs g H F μ ds vs) : ds.length = vs.length := Paired.length r
theorem RepL.length {ds : List D} {vs : List V} (r : RepL g H F ds vs) : ds.length = vs.length := (r.vs (μ := [])).length
theorem RepVs.get {ds : List D} {vs : List V} (r : RepVs g H F μ ds vs) : ∀ {i : Nat} {d : D}, ds[i]? = some d → ∃ v, vs[i]? = some v ∧ RepV g H F μ d v := by
  induction r with
  | nil =>
    intro i d h
    simp at h
  | cons r t ih =>
    intro i d h
    cases i with
    | zero =>
      simp at h
      subst h
      exact ⟨_, rfl, r⟩
    | succ i =>
      simp at h
      obtain ⟨v, h1, h2⟩ := ih h
      exact ⟨v, by simpa using h1, h2⟩
theorem Rel.get (R : Rel g μ F σ S σc H) {i : Nat} {d : D} (h : gets σ i = some (some d)) : ∃ v, σc[i]? = some (some v) ∧ RepV g H F μ d v := R.env i d (by rw [← gets_eq]; exact h)
/-- a list of the data is a list of the heap -/
theorem Rel.lst (R : Rel g μ F σ S σc H) {d : D} {v : V} {xs : List D} (r : RepV g H F μ d v) (h : lstOf S d = some xs) : ∃ a vs, v = .ref a ∧ H a = some (.lst vs) ∧ vs.length ≤ sizeLine ∧ RepVs g H F μ xs vs := by
  rcases r with ⟨n, a, rfl, e, rfl⟩ | r
  · have h : (match gets S n with | some (.lst xs) => some xs | _ => none) = some xs := h
    cases q : gets S n with
    | none => rw [q] at h; cases h
    | some o =>
      rw [q] at h
      cases o with
      | lst ys =>
        have e2 : ys = xs := Option.some.inj h
        subst e2
        obtain ⟨b, e3, vs, h1, h2, h3⟩ := R.st n _ (by rw [← gets_eq]; exact q)
        rw [e] at e3
        cases e3
        exact ⟨a, vs, rfl, h1, h2, h3⟩
      | _ => cases h
  · cases d with
    | lst ys =>
      have e2 : ys = xs := Option.some.inj h
      subst e2
      obtain ⟨a, vs, rfl, h1, h2⟩ := r
      exact ⟨a, vs, rfl, h1.2.1, h1.2.2, h2.vs⟩
    | loc n => exact r.elim
    | _ => cases h
theorem Rel.rd (R : Rel g μ F σ S σc H) {d : D} {v : V} {xs : List D} (r : RepV g H F μ d v) (h : rdOf S d = some xs) : ∃ a vs, v = .ref a ∧ SqL g.K H a vs ∧ vs.length ≤ sizeLine ∧ RepVs g H F μ xs vs := by
  cases d with
  | rol ys =>
    have e2 : ys = xs := Option.some.inj h
    subst e2
    rcases r with ⟨n, a, e, _⟩ | ⟨a, vs, rfl, h1, h2⟩
    · cases e
    · exact ⟨a, vs, rfl, h1.1.sq, h1.2, h2.vs⟩
  | _ =>
    obtain ⟨a, vs, e, h1, h2⟩ := R.lst r h
    exact ⟨a, vs, e, SqL.of h1, h2⟩
theorem RepV.tup {d : D} {v : V} {xs : List D} (r : RepV g H F μ d v) (h : tupOf d = some xs) : ∃ a vs, v = .ref a ∧ SqT g.K H a vs ∧ vs.length ≤ sizeLine ∧ RepL g H F xs vs := by
  cases d with
  | tup ys =>
    have e2 : ys = xs := Option.some.inj h
    subst e2
    rcases r with ⟨n, a, e, _⟩ | ⟨a, vs, rfl, h1, h2⟩
    · cases e
    · exact ⟨a, vs, rfl, h1.1, h1.2, h2⟩
  | _ => cases h
theorem seqOf_cases {d : D} {xs : List D} (h : seqOf S d = some xs) : tupOf d = some xs ∨ rdOf S d = some xs := by
  cases d with
  | tup ys => exact .inl h
  | _ => exact .inr h
theorem RepV.int {i : Int} {v : V} (r : RepV g H F μ (.int i) v) : v = .int i := by
  rcases r with ⟨n, a, e, _⟩ | r
  · cases e
  · exact r
theorem RepV.bl {b : Bool} {v : V} (r : RepV g H F μ (.bl b) v) : v = .bl b := by
  rcases r with ⟨n, a, e, _⟩ | r
  · cases e
  · exact r
theorem RepV.str {x : Str} {v : V} (r : RepV g H F μ (.str x) v) : v = .str x := by
  rcases r with ⟨n, a, e, _⟩ | r
  · cases e
  · exact r
theorem RepV.non {v : V} (r : RepV g H F μ .non v) : v = .non := by
  rcases r with ⟨n, a, e, _⟩ | r
  · cases e
  · exact r
end

/-! ## names and constants -/
def cVar (i : Nat) : CE := fun σ _ => match gets σ i with
  | some (some d) => .ok d false
  | _ => .bad
def cD (d : D) : CE := fun _ _ => .ok d false
section
variable {X : Cx} {g : GX} {E : WX}
theorem q_var (i : Nat) {x : Str} {pos : Pos} (hN : X.N[i]? = some x := by rfl) (hv : Vis X.env.scope x := by first | exact Or.inl rfl | exact Or.inr (Or.inl rfl) | exact Or.inr (Or.inr rfl)) (hd : (x == ("__debug__" : Str)) = false := by decide)
    (hcd : (x == ("__classdict__" : Str)) = false := by decide) : PE X (.Name x pos) (T g E (cVar i)) := (pe_var hN hv hd hcd).hc fun σc H Q ⟨μ, F, σ, S, R, q⟩ => by
  unfold cVar at q
  split at q
  · rename_i d e
    obtain ⟨v, h1, h2⟩ := R.get e
    exact ⟨v, h1, q v H F (Same.refl H) R.fx (.val h2)⟩
  · exact q.elim
theorem q_int {i j pos} : PE X (.Constant (.int i) j pos) (T g E (cD (.int i))) := pe_int.hc fun σc H Q ⟨μ, F, σ, S, R, q⟩ => q _ H F (Same.refl H) R.fx (.val (.inr rfl))
theorem q_bl {b j pos} : PE X (.Constant (.bool b) j pos) (T g E (cD (.bl b))) := pe_bl.hc fun σc H Q ⟨μ, F, σ, S, R, q⟩ => q _ H F (Same.refl H) R.fx (.val (.inr rfl))
theorem q_non {j pos} : PE X (.Constant .none j pos) (T g E (cD .non)) := pe_non.hc fun σc H Q ⟨μ, F, σ, S, R, q⟩ => q _ H F (Same.refl H) R.fx (.val (.inr rfl))
theorem q_str {x j pos} : PE X (.Constant (.str x) j pos) (T g E (cD (.str x))) := pe_str.hc fun σc H Q ⟨μ, F, σ, S, R, q⟩ => q _ H F (Same.refl H) R.fx (.val (.inr rfl))
end

/-! ## two values in a row; operators -/
def cBin (fn : List SO → D → D → Res) (a b : CE) : CE := fun σ S => match a σ S with
  | .ok x _ => match b σ S with
    | .ok y _ => fn S x y
    | .ex c as => .ex c as
    | .bad => .bad
  | .ex c as => .ex c as
  | .bad => .bad
/-- what an operator's reading asks follows from what is told of the data -/
def Lk2 (g : GX) (r : R2) (fn : List SO → D → D → Res) : Prop :=
  ∀ (E : XK) (μ : List Addr) (F : FZ) (σ : Sl) (S : List SO) (σc : St) (H : Hp) (x y : D) (vx vy : V) (Q : VK), Rel g μ F σ S σc H → RepV g H F μ x vx → RepV g H F μ y vy → Ok g E H F μ (fn S x y) Q → r vx vy H Q
theorem Ok.from {g : GX} {E : XK} {H H1 : Hp} {F F1 : FZ} {μ : List Addr} {r : Res} {Q : VK} (h : Ok g E H F μ r Q) (s : Same H H1) (x : FX F H F1 H1) : Ok g E H1 F1 μ r Q := by
  cases r with
  | ok d fr =>
    intro v H' F' s' x' rr
    refine h v H' F' (s.trans s') (x.trans s x') ?_
    rcases rr with ⟨e, rr⟩ | ⟨e, a, ev, h0, r2⟩
    · exact .inl ⟨e, rr⟩
    · exact .inr ⟨e, a, ev, same_none s h0, r2⟩
  | ex c as => exact fun cls dx H' F' s' x' rr => h cls dx H' F' (s.trans s') (x.trans s x') rr
  | bad => exact h
theorem Ok.x {g : GX} {E : XK} {H : Hp} {F : FZ} {μ : List Addr} {c : Nat} {as : List D} {Q Q' : VK} (h : Ok g E H F μ (.ex c as) Q) : Ok g E H F μ (.ex c as) Q' := h
/-- both operands -/
theorem T.two {g : GX} {E : WX} {a b : CE} {fn : List SO → D → D → Res} {σc : St} {H : Hp} {Q : VK} {R2' : V → V → Hp → Prop}
    (h : T g E (cBin fn a b) σc H Q)
    (w : ∀ (μ : List Addr) (F : FZ) (σ : Sl) (S : List SO) (H2 : Hp) (x y : D) (vx vy : V), Rel g μ F σ S σc H2 → RepV g H2 F μ x vx → RepV g H2 F μ y vy → Ok g (wat E σc) H2 F μ (fn S x y) Q → R2' vx vy H2) :
    T g E a σc H fun x H1 => T g E b σc H1 fun y H2 => R2' x y H2 := by
  obtain ⟨μ, F, σ, S, R, q⟩ := h
  refine ⟨μ, F, σ, S, R, ?_⟩
  unfold cBin at q
  cases ea : a σ S with
  | bad => rw [ea] at q; exact q
  | ex c as => rw [ea] at q; exact q
  | ok x fx =>
    rw [ea] at q
    intro vx H1 F1 s1 x1 r1
    obtain ⟨F2, x2, u2, rx⟩ := r1.frz x1
    have R2 := R.mono s1 x2
    refine ⟨μ, F2, σ, S, R2, ?_⟩
    have q : Ok g (wat E σc) H F μ (match b σ S with | .ok y _ => fn S x y | .ex c as => .ex c as | .bad => .bad) Q := q
    cases eb : b σ S with
    | bad => rw [eb] at q; exact q
    | ex c as => rw [eb] at q; exact (q.from s1 x2).x
    | ok y fy =>
      rw [eb] at q
      intro vy H3 F3 s3 x3 r3
      obtain ⟨F4, x4, u4, ry⟩ := r3.frz x3
      exact w μ F4 σ S H3 x y vx vy (R2.mono s3 x4) (rx.mono s3 x4.up) ry ((q.from s1 x2).from s3 x4)
section
variable {X : Cx} {g : GX} {E : WX} {a b : Expr} {fa fb : CE} {pos : Pos} {r : R2} {fn : List SO → D → D → Res}
theorem q_op {op : Operator} (ho : OpR X (binaryOp op) r) (l : Lk2 g r fn) (ha : PE X a (T g E fa)) (hb : PE X b (T g E fb)) : PE X (.BinOp a op b pos) (T g E (cBin fn fa fb)) :=
  (pe_op ho ha hb).hc fun σc H Q h => T.two h fun μ F σ S H2 x y vx vy R rx ry q => l (wat E σc) μ F σ S σc H2 x y vx vy Q R rx ry q
theorem q_cmp {op : CmpOp} (ho : OpR X (compareOp op) r) (l : Lk2 g r fn) (ha : PE X a (T g E fa)) (hb : PE X b (T g E fb)) (hm : behindInMarks op b = false := by first | exact nomark _ | rfl) : PE X (.Compare a [op] [b] pos) (T g E (cBin fn fa fb)) :=
  (pe_cmpR ho ha hb hm).hc fun σc H Q h => T.two h fun μ F σ S H2 x y vx vy R rx ry q => l (wat E σc) μ F σ S σc H2 x y vx vy Q R rx ry q
/-- a comparison as a test -/
theorem q_cmpT {op : CmpOp} (ho : OpR X (compareOp op) r) (l : Lk2 g r fn) (ha : PE X a (T g E fa)) (hb : PE X b (T g E fb)) (hm : behindInMarks op b = false := by first | exact nomark _ | rfl) : PT X (.Compare a [op] [b] pos) (TB g E (cBin fn fa fb)) :=
  (pt_cmpR ho ha hb hm).hc fun σc H Q h => T.two h fun μ F σ S H2 x y vx vy R rx ry q => l (wat E σc) μ F σ S σc H2 x y vx vy _ R rx ry q
end

/-! ### arithmetic -/
def bAdd (S : List SO) (x y : D) : Res := match x, y with
  | .int i, .int j => .ok (.int (i + j)) false
  | .tup xs, .tup ys => if xs.length + ys.length ≤ lim then .ok (.tup (xs ++ ys)) false else .bad
  | .str i, .str j => if i.length + j.length ≤ lim then .ok (.str (i ++ j)) false else .bad
  | x, y => match lstOf S x, lstOf S y with
    | some xs, some ys => if xs.length + ys.length ≤ lim then (if pureL xs && pureL ys then .ok (.lst (xs ++ ys)) true else .bad) else .bad
    | _, _ => .bad
def bSub (_ : List SO) (x y : D) : Res := match x, y with
  | .int i, .int j => .ok (.int (i - j)) false
  | _, _ => .bad
/-- a size that the machine takes -/
def small (i : Int) : Bool := i.natAbs < 18446744073709551616
def repL (n : Nat) (xs : List D) : List D := match n with
  | 0 => []
  | n + 1 => xs ++ repL n xs
def bMul (S : List SO) (x y : D) : Res := match x, y with
  | .int i, .int j => if small i || small j || (i.natAbs.log2 + j.natAbs.log2 < 100000) then .ok (.int (i * j)) false else .bad
  | x, .int k => match lstOf S x with
    | some xs => if 0 ≤ k && xs.length * k.toNat ≤ lim && k.toNat ≤ lim && pureL xs then .ok (.lst (repL k.toNat xs)) true else .bad
    | none => .bad
  | _, _ => .bad
def bFdiv (_ : List SO) (x y : D) : Res := match x, y with
  | .int i, .int j => if 0 < j && j < 1073741824 then .ok (.int (i / j)) false else (if 0 < j && j.natAbs.log2 < 8000 then .ok (.int (i / j)) false else .bad)
  | _, _ => .bad
def bMod (_ : List SO) (x y : D) : Res := match x, y with
  | .int i, .int j => if 0 < j then .ok (.int (i % j)) false else .bad
  | _, _ => .bad
def bPow (_ : List SO) (x y : D) : Res := match x, y with
  | .int i, .int j => if 0 ≤ j && j ≤ 1000000 && i.natAbs < 18446744073709551616 then .ok (.int (i ^ j.toNat)) false else .bad
  | _, _ => .bad
end HC

set_option maxRecDepth 100000
namespace HC
open PySem PySem.Spec L2
open PyProof.Rows hiding St

section
variable {g : GX} {E : XK} {H : Hp} {F : FZ} {μ : List Addr} {Q : VK} {d : D}
/-- a value that stands already -/
theorem Ok.here (dom : ∀ a, F a → ∃ o, H a = some o) (q : Ok g E H F μ (.ok d false) Q) {v : V} (r : RepV g H F μ d v) : Q v H := q v H F (Same.refl H) (FX.refl dom) (.inl ⟨rfl, r⟩)
/-- a new tuple -/
theorem Ok.tup {p : Addr} {ds : List D} {vs : List V} (dom : ∀ a, F a → ∃ o, H a = some o) (q : Ok g E H F μ (.ok (.tup ds) false) Q) (hp : H p = none) (hl : vs.length ≤ sizeLine) (r : RepL g H F ds vs) : Q (.ref p) (upd H p (.tup vs)) := by
  have s : Same H (upd H p (.tup vs)) := same_new hp
  refine q _ _ F s ⟨fun _ h => h, fun _ h => .inl h, fun a h => ?_⟩ (.inl ⟨rfl, .inr ⟨p, vs, rfl, ⟨.inl (.inl upd_same), hl⟩, RepL.mono s (fun _ h => h) _ _ r⟩⟩)
  obtain ⟨o, e⟩ := dom a h
  exact ⟨o, s _ _ e⟩
/-- a new list -/
theorem Ok.lst {p : Addr} {ds : List D} {vs : List V} (dom : ∀ a, F a → ∃ o, H a = some o) (mu : ∀ a, a ∈ μ → ∃ o, H a = some o) (q : Ok g E H F μ (.ok (.lst ds) true) Q) (hp : H p = none) (hl : vs.length ≤ sizeLine) (r : RepL g H F ds vs) : Q (.ref p) (upd H p (.lst vs)) := by
  have s : Same H (upd H p (.lst vs)) := same_new hp
  refine q _ _ F s ⟨fun _ h => h, fun _ h => .inl h, fun a h => ?_⟩ (.inr ⟨rfl, p, rfl, hp, fun h => ?_, fun h => ?_, vs, upd_same, hl, RepL.mono s (fun _ h => h) _ _ r⟩)
  · obtain ⟨o, e⟩ := dom a h
    exact ⟨o, s _ _ e⟩
  · obtain ⟨o, e⟩ := dom p h
    rw [hp] at e; cases e
  · obtain ⟨o, e⟩ := mu p h
    rw [hp] at e; cases e
end
theorem RepL.append {g : GX} {H : Hp} {F : FZ} : ∀ {xs ys : List D} {vs ws : List V}, RepL g H F xs vs → RepL g H F ys ws → RepL g H F (xs ++ ys) (vs ++ ws)
  | [], _, _, _, h, k => by
    cases (show _ = [] from h)
    exact k
  | _ :: _, _, _, _, h, k => by
    obtain ⟨v, us, rfl, h1, h2⟩ := h
    exact ⟨v, _, rfl, h1, h2.append k⟩
theorem RepL.drop {g : GX} {H : Hp} {F : FZ} : ∀ (n : Nat) {xs : List D} {vs : List V}, RepL g H F xs vs → RepL g H F (xs.drop n) (vs.drop n)
  | 0, _, _, h => h
  | n + 1, [], _, h => by
    cases (show _ = [] from h)
    exact rfl
  | n + 1, _ :: _, _, h => by
    obtain ⟨v, us, rfl, h1, h2⟩ := h
    exact h2.drop n
theorem RepL.take {g : GX} {H : Hp} {F : FZ} : ∀ (n : Nat) {xs : List D} {vs : List V}, RepL g H F xs vs → RepL g H F (xs.take n) (vs.take n)
  | 0, _, _, h => rfl
  | n + 1, [], _, h => by
    cases (show _ = [] from h)
    exact rfl
  | n + 1, _ :: _, _, h => by
    obtain ⟨v, us, rfl, h1, h2⟩ := h
    exact ⟨v, _, rfl, h1, h2.take n⟩
theorem RepL.rep {g : GX} {H : Hp} {F : FZ} {xs : List D} {vs : List V} (h : RepL g H F xs vs) : ∀ n, RepL g H F (repL n xs) (List.replicate n vs).flatten
  | 0 => rfl
  | n + 1 => by
    show RepL g H F (xs ++ repL n xs) (vs ++ (List.replicate n vs).flatten)
    exact h.append (h.rep n)

section
variable {X : Cx} {g : GX}
theorem lk_add : Lk2 g (fun x y H Q => rI0 (fun i j => .int (i + j)) x y H Q ∨ (rCatA g.K x y H Q ∨ ((∃ i j, x = .str i ∧ y = .str j ∧ i.length + j.length ≤ sizeLine ∧ Q (.str (i ++ j)) H) ∨ rCat x y H Q))) bAdd := by
  intro E μ F σ S σc H x y vx vy Q R rx ry q
  unfold bAdd at q
  split at q
  · exact .inl ⟨_, _, rx.int, ry.int, q.here R.dom (.inr rfl)⟩
  · rename_i xs ys
    split at q
    · rename_i hl
      obtain ⟨a, vs, rfl, h1, h2, h3⟩ := rx.tup (xs := xs) rfl
      obtain ⟨b, ws, rfl, k1, k2, k3⟩ := ry.tup (xs := ys) rfl
      have l1 := h3.length
      have l2 := k3.length
      have hl2 : vs.length + ws.length ≤ sizeLine := by rw [lim_eq, ← l1, ← l2]; exact hl
      refine .inr (.inl ⟨a, b, vs, ws, rfl, rfl, h1, k1, hl2, fun e => ?_, fun _ e => ?_, fun n1 n2 p hp => ?_⟩)
      · subst e
        have e2 : xs = [] := List.length_eq_zero_iff.mp l1
        subst e2
        exact q.here R.dom ry
      · subst e
        have e2 : ys = [] := List.length_eq_zero_iff.mp l2
        subst e2
        rw [List.append_nil] at q
        exact q.here R.dom rx
      · exact q.tup R.dom hp (by rw [List.length_append]; exact hl2) (h3.append k3)
    · exact q.elim
  · split at q
    · rename_i hl
      exact .inr (.inr (.inl ⟨_, _, rx.str, ry.str, by rw [lim_eq]; exact hl, q.here R.dom (.inr rfl)⟩))
    · exact q.elim
  · split at q
    · rename_i xs ys ex ey
      split at q
      · rename_i hl
        split at q
        · rename_i hp
          rw [Bool.and_eq_true] at hp
          obtain ⟨a, vs, rfl, h1, h2, h3⟩ := R.lst rx ex
          obtain ⟨b, ws, rfl, k1, k2, k3⟩ := R.lst ry ey
          have l1 := h3.length
          have l2 := k3.length
          have hl2 : vs.length + ws.length ≤ sizeLine := by rw [lim_eq, ← l1, ← l2]; exact hl
          refine .inr (.inr (.inr ⟨a, b, vs, ws, rfl, rfl, h1, k1, hl2, fun p hn => ?_⟩))
          exact q.lst R.dom (fun a h => R.mu_there h) hn (by rw [List.length_append]; exact hl2) ((h3.pure hp.1).append (k3.pure hp.2))
        · exact q.elim
      · exact q.elim
    · exact q.elim
theorem op_addA : OpR X (binaryOp .Add) (fun x y H Q => rI0 (fun i j => .int (i + j)) x y H Q ∨ (rCatA X.K x y H Q ∨ ((∃ i j, x = .str i ∧ y = .str j ∧ i.length + j.length ≤ sizeLine ∧ Q (.str (i ++ j)) H) ∨ rCat x y H Q))) := op_add.or (op_catA.or (op_add_str.or op_cat))
theorem lk_sub : Lk2 g (rI0 fun i j => .int (i - j)) bSub := by
  intro E μ F σ S σc H x y vx vy Q R rx ry q
  unfold bSub at q
  split at q
  · exact ⟨_, _, rx.int, ry.int, q.here R.dom (.inr rfl)⟩
  · exact q.elim
theorem small_ok {i : Int} (h : small i = true) : -(2 ^ 64) < i ∧ i < 2 ^ 64 := by
  have h2 : i.natAbs < 18446744073709551616 := of_decide_eq_true h
  omega
theorem lk_mul : Lk2 g (fun x y H Q => rI CMul (fun i j => .int (i * j)) x y H Q ∨ (rI CMulW (fun i j => .int (i * j)) x y H Q ∨ rRep x y H Q)) bMul := by
  intro E μ F σ S σc H x y vx vy Q R rx ry q
  unfold bMul at q
  split at q
  · rename_i i j
    split at q
    · rename_i h
      rw [Bool.or_eq_true, Bool.or_eq_true] at h
      have q2 := q.here R.dom (v := .int (i * j)) (.inr rfl)
      rcases h with (h | h) | h
      · exact .inl ⟨_, _, rx.int, ry.int, .inl (small_ok h), q2⟩
      · exact .inl ⟨_, _, rx.int, ry.int, .inr (small_ok h), q2⟩
      · exact .inr (.inl ⟨_, _, rx.int, ry.int, Nat.lt_trans (of_decide_eq_true h) (by decide), q2⟩)
    · exact q.elim
  · rename_i k _
    split at q
    · rename_i xs ex
      split at q
      · rename_i h
        simp only [Bool.and_eq_true, decide_eq_true_eq] at h
        obtain ⟨⟨⟨h1, h2⟩, h3⟩, h4⟩ := h
        obtain ⟨a, vs, rfl, k1, k2, k3⟩ := R.lst rx ex
        have l1 := k3.length
        have hk : k.toNat ≤ 16777216 := h3
        have hl : vs.length * k.toNat ≤ sizeLine := by rw [lim_eq, ← l1]; exact h2
        refine .inr (.inr ⟨a, k, vs, rfl, ry.int, k1, by omega, by omega, hl, fun p hp => ?_⟩)
        refine q.lst R.dom (fun a h => R.mu_there h) hp ?_ ((k3.pure h4).rep _)
        rw [List.length_flatten, List.map_replicate, List.sum_replicate_nat, Nat.mul_comm]
        exact hl
      · exact q.elim
    · exact q.elim
  · exact q.elim
theorem op_mulA : OpR X (binaryOp .Mult) (fun x y H Q => rI CMul (fun i j => .int (i * j)) x y H Q ∨ (rI CMulW (fun i j => .int (i * j)) x y H Q ∨ rRep x y H Q)) := op_mul.or (op_mulW.or op_rep)
theorem lk_fdiv : Lk2 g (fun x y H Q => rI CDiv (fun i j => .int (i / j)) x y H Q ∨ rI CDivW (fun i j => .int (i / j)) x y H Q) bFdiv := by
  intro E μ F σ S σc H x y vx vy Q R rx ry q
  unfold bFdiv at q
  split at q
  · rename_i i j
    split at q
    · rename_i h
      simp only [Bool.and_eq_true, decide_eq_true_eq] at h
      exact .inl ⟨_, _, rx.int, ry.int, h, q.here R.dom (.inr rfl)⟩
    · split at q
      · rename_i h
        simp only [Bool.and_eq_true, decide_eq_true_eq] at h
        exact .inr ⟨_, _, rx.int, ry.int, ⟨h.1, by omega⟩, q.here R.dom (.inr rfl)⟩
      · exact q.elim
  · exact q.elim
theorem op_fdivA : OpR X (binaryOp .FloorDiv) (fun x y H Q => rI CDiv (fun i j => .int (i / j)) x y H Q ∨ rI CDivW (fun i j => .int (i / j)) x y H Q) := op_fdiv.or op_fdivW
theorem lk_mod : Lk2 g (rI (fun _ j => 0 < j) fun i j => .int (i % j)) bMod := by
  intro E μ F σ S σc H x y vx vy Q R rx ry q
  unfold bMod at q
  split at q
  · split at q
    · rename_i h
      exact ⟨_, _, rx.int, ry.int, h, q.here R.dom (.inr rfl)⟩
    · exact q.elim
  · exact q.elim
theorem lk_pow : Lk2 g (rI CPow fun i j => .int (i ^ j.toNat)) bPow := by
  intro E μ F σ S σc H x y vx vy Q R rx ry q
  unfold bPow at q
  split at q
  · split at q
    · rename_i h
      simp only [Bool.and_eq_true, decide_eq_true_eq] at h
      exact ⟨_, _, rx.int, ry.int, ⟨h.1.1, h.1.2, h.2⟩, q.here R.dom (.inr rfl)⟩
    · exact q.elim
  · exact q.elim
end

/-! ### == -/
mutual
/-- Python's == -/
def eqD : D → D → Bool
  | .non, .non => true
  | .bl a, .bl b => a == b
  | .bl a, .int j => (if a then 1 else 0) == j
  | .int i, .bl b => i == (if b then 1 else 0)
  | .int i, .int j => i == j
  | .str x, .str y => x == y
  | .lst xs, .lst ys => eqL xs ys
  | .rol xs, .lst ys => eqL xs ys
  | .lst xs, .rol ys => eqL xs ys
  | .rol xs, .rol ys => eqL xs ys
  | .tup xs, .tup ys => eqL xs ys
  | _, _ => false
def eqL : List D → List D → Bool
  | [], [] => true
  | x :: xs, y :: ys => eqD x y && eqL xs ys
  | _, _ => false
end
mutual
/-- plain data, no more than n deep -/
def plainD : Nat → D → Bool
  | _, .non => true
  | _, .bl _ => true
  | _, .int _ => true
  | _, .str x => PyData.strOk x
  | 0, _ => false
  | n + 1, .tup xs => plainDs n xs
  | n + 1, .lst xs => plainDs n xs
  | n + 1, .rol xs => plainDs n xs
  | _, _ => false
def plainDs : Nat → List D → Bool
  | _, [] => true
  | n, x :: xs => plainD n x && plainDs n xs
end
/-- a list of the store, frozen for a look -/
def look (S : List SO) (d : D) : D := match d with
  | .loc n => match gets S n with
    | some (.lst xs) => .lst xs
    | _ => d
  | d => d
def bEq (S : List SO) (x y : D) : Res := match x, y with
  | .int i, .int j => .ok (.bl (decide (i = j))) false
  | .str i, .str j => .ok (.bl (decide (i = j))) false
  | .bl i, .bl j => .ok (.bl (decide (i = j))) false
  | x, y => let a := look S x; let b := look S y; if plainD 30 a && plainD 30 b then .ok (.bl (eqD a b)) false else .bad
def bNe (S : List SO) (x y : D) : Res := match x, y with
  | .int i, .int j => .ok (.bl (!decide (i = j))) false
  | .str i, .str j => .ok (.bl (!decide (i = j))) false
  | .bl i, .bl j => .ok (.bl (!decide (i = j))) false
  | x, y => let a := look S x; let b := look S y; if plainD 30 a && plainD 30 b then .ok (.bl (!eqD a b)) false else .bad

mutual
def toPy : D → PyData
  | .non => .none
  | .bl b => .bool b
  | .int i => .int i
  | .str x => .str x
  | .tup xs => .tuple (toPys xs)
  | .lst xs => .list (toPys xs)
  | .rol xs => .list (toPys xs)
  | _ => .dict []
def toPys : List D → List PyData
  | [] => []
  | x :: xs => toPy x :: toPys xs
end
mutual
theorem plain_can : ∀ (n : Nat) (d : D), plainD n d = true → (toPy d).canLay0 = true ∧ (toPy d).depth ≤ n
  | _, .non, _ => by simp [toPy, PyData.canLay0, PyData.depth]
  | _, .bl _, _ => by simp [toPy, PyData.canLay0, PyData.depth]
  | _, .int _, _ => by simp [toPy, PyData.canLay0, PyData.depth]
  | _, .str x, h => by
    cases ‹Nat› <;> (simp only [plainD] at h; simp [toPy, PyData.canLay0, PyData.depth, h])
  | 0, .tup xs, h => by simp [plainD] at h
  | 0, .lst xs, h => by simp [plainD] at h
  | 0, .rol xs, h => by simp [plainD] at h
  | n + 1, .tup xs, h => by
    have h2 := plains_can n xs (by simpa [plainD] using h)
    simp only [toPy, PyData.canLay0, PyData.depth]
    exact ⟨h2.1, by omega⟩
  | n + 1, .lst xs, h => by
    have h2 := plains_can n xs (by simpa [plainD] using h)
    simp only [toPy, PyData.canLay0, PyData.depth]
    exact ⟨h2.1, by omega⟩
  | n + 1, .rol xs, h => by
    have h2 := plains_can n xs (by simpa [plainD] using h)
    simp only [toPy, PyData.canLay0, PyData.depth]
    exact ⟨h2.1, by omega⟩
  | n, .dct _ _, h => by cases n <;> simp [plainD] at h
  | n, .obj _ _, h => by cases n <;> simp [plainD] at h
  | n, .loc _, h => by cases n <;> simp [plainD] at h
  | n, .err, h => by cases n <;> simp [plainD] at h
theorem plains_can : ∀ (n : Nat) (xs : List D), plainDs n xs = true → PyData.canLayAll0 (toPys xs) = true ∧ PyData.depthAll (toPys xs) ≤ n
  | _, [], _ => by simp [toPys, PyData.canLayAll0, PyData.depthAll]
  | n, x :: xs, h => by
    simp only [plainDs, Bool.and_eq_true] at h
    have h1 := plain_can n x h.1
    have h2 := plains_can n xs h.2
    simp only [toPys, PyData.canLayAll0, PyData.depthAll, Bool.and_eq_true]
    exact ⟨⟨h1.1, h2.1⟩, by omega⟩
end

mutual
theorem eq_py : ∀ (n m : Nat) (a b : D), plainD n a = true → plainD m b = true → eqD a b = PyData.eqv (toPy a) (toPy b)
  | n, m, a, b, ha, hb => by
    cases a with
    | dct _ _ => cases n <;> simp [plainD] at ha
    | obj _ _ => cases n <;> simp [plainD] at ha
    | loc _ => cases n <;> simp [plainD] at ha
    | err => cases n <;> simp [plainD] at ha
    | tup xs =>
      cases b with
      | dct _ _ => cases m <;> simp [plainD] at hb
      | obj _ _ => cases m <;> simp [plainD] at hb
      | loc _ => cases m <;> simp [plainD] at hb
      | err => cases m <;> simp [plainD] at hb
      | tup ys =>
        cases n with
        | zero => simp [plainD] at ha
        | succ n =>
          cases m with
          | zero => simp [plainD] at hb
          | succ m =>
            simp only [eqD, toPy, PyData.eqv]
            exact eqs_py n m xs ys (by simpa [plainD] using ha) (by simpa [plainD] using hb)
      | _ => simp [eqD, toPy, PyData.eqv]
    | lst xs =>
      cases b with
      | dct _ _ => cases m <;> simp [plainD] at hb
      | obj _ _ => cases m <;> simp [plainD] at hb
      | loc _ => cases m <;> simp [plainD] at hb
      | err => cases m <;> simp [plainD] at hb
      | lst ys =>
        cases n with
        | zero => simp [plainD] at ha
        | succ n =>
          cases m with
          | zero => simp [plainD] at hb
          | succ m =>
            simp only [eqD, toPy, PyData.eqv]
            exact eqs_py n m xs ys (by simpa [plainD] using ha) (by simpa [plainD] using hb)
      | rol ys =>
        cases n with
        | zero => simp [plainD] at ha
        | succ n =>
          cases m with
          | zero => simp [plainD] at hb
          | succ m =>
            simp only [eqD, toPy, PyData.eqv]
            exact eqs_py n m xs ys (by simpa [plainD] using ha) (by simpa [plainD] using hb)
      | _ => simp [eqD, toPy, PyData.eqv]
    | rol xs =>
      cases b with
      | dct _ _ => cases m <;> simp [plainD] at hb
      | obj _ _ => cases m <;> simp [plainD] at hb
      | loc _ => cases m <;> simp [plainD] at hb
      | err => cases m <;> simp [plainD] at hb
      | lst ys =>
        cases n with
        | zero => simp [plainD] at ha
        | succ n =>
          cases m with
          | zero => simp [plainD] at hb
          | succ m =>
            simp only [eqD, toPy, PyData.eqv]
            exact eqs_py n m xs ys (by simpa [plainD] using ha) (by simpa [plainD] using hb)
      | rol ys =>
        cases n with
        | zero => simp [plainD] at ha
        | succ n =>
          cases m with
          | zero => simp [plainD] at hb
          | succ m =>
            simp only [eqD, toPy, PyData.eqv]
            exact eqs_py n m xs ys (by simpa [plainD] using ha) (by simpa [plainD] using hb)
      | _ => simp [eqD, toPy, PyData.eqv]
    | _ =>
      cases b with
      | dct _ _ => cases m <;> simp [plainD] at hb
      | obj _ _ => cases m <;> simp [plainD] at hb
      | loc _ => cases m <;> simp [plainD] at hb
      | err => cases m <;> simp [plainD] at hb
      | _ => simp [eqD, toPy, PyData.eqv]
theorem eqs_py : ∀ (n m : Nat) (xs ys : List D), plainDs n xs = true → plainDs m ys = true → eqL xs ys = PyData.eqvAll (toPys xs) (toPys ys)
  | n, m, [], [], _, _ => by simp [eqL, toPys, PyData.eqvAll]
  | n, m, [], y :: ys, _, _ => by simp [eqL, toPys, PyData.eqvAll]
  | n, m, x :: xs, [], _, _ => by simp [eqL, toPys, PyData.eqvAll]
  | n, m, x :: xs, y :: ys, ha, hb => by
    simp only [plainDs, Bool.and_eq_true] at ha hb
    simp only [eqL, toPys, PyData.eqvAll]
    rw [eq_py n m x y ha.1 hb.1, eqs_py n m xs ys ha.2 hb.2]
end
section
variable {g : GX} {H : Hp} {F : FZ} {μ : List Addr}
mutual
theorem dp_of : ∀ (n : Nat) (d : D) (v : V), RepP g H F d v → plainD n d = true → Dp g.K H v (toPy d)
  | _, .non, v, r, _ => by
    cases (show v = .non from r)
    exact .non
  | _, .bl b, v, r, _ => by
    cases (show v = .bl b from r)
    exact .bl b
  | _, .int i, v, r, _ => by
    cases (show v = .int i from r)
    exact .int i
  | _, .str x, v, r, _ => by
    cases (show v = .str x from r)
    exact .str x
  | 0, .tup xs, _, _, h => by simp [plainD] at h
  | 0, .lst xs, _, _, h => by simp [plainD] at h
  | 0, .rol xs, _, _, h => by simp [plainD] at h
  | n + 1, .tup xs, v, r, h => by
    obtain ⟨a, vs, rfl, h1, h2⟩ := r
    exact .tup h1.1 (dps_of n xs vs h2 (by simpa [plainD] using h))
  | n + 1, .lst xs, v, r, h => by
    obtain ⟨a, vs, rfl, h1, h2⟩ := r
    exact .lst (SqL.of h1.2.1) (dps_of n xs vs h2 (by simpa [plainD] using h))
  | n + 1, .rol xs, v, r, h => by
    obtain ⟨a, vs, rfl, h1, h2⟩ := r
    exact .lst h1.1.sq (dps_of n xs vs h2 (by simpa [plainD] using h))
  | n, .dct _ _, _, _, h => by cases n <;> simp [plainD] at h
  | n, .obj _ _, _, _, h => by cases n <;> simp [plainD] at h
  | n, .loc _, _, _, h => by cases n <;> simp [plainD] at h
  | n, .err, _, _, h => by cases n <;> simp [plainD] at h
theorem dps_of : ∀ (n : Nat) (ds : List D) (vs : List V), RepL g H F ds vs → plainDs n ds = true → DpAll g.K H vs (toPys ds)
  | _, [], vs, r, _ => by
    cases (show vs = [] from r)
    exact .nil
  | n, d :: ds, vs, r, h => by
    obtain ⟨v, ws, rfl, h1, h2⟩ := r
    simp only [plainDs, Bool.and_eq_true] at h
    exact .cons (dp_of n d v h1 h.1) (dps_of n ds ws h2 h.2)
end
theorem plain_pure : ∀ {n : Nat} {d : D}, plainD n d = true → d.pure = true := fun {n d} h => by
  cases d with
  | loc _ => cases n <;> simp [plainD] at h
  | _ => rfl
theorem plains_pure : ∀ {n : Nat} {ds : List D}, plainDs n ds = true → pureL ds = true
  | _, [], _ => rfl
  | n, d :: ds, h => by
    simp only [plainDs, Bool.and_eq_true] at h
    show (d.pure && pureL ds) = true
    rw [plain_pure h.1, plains_pure h.2] <;> rfl
variable {σ : Sl} {S : List SO} {σc : St}
theorem Rel.dp (R : Rel g μ F σ S σc H) {n : Nat} {d : D} {v : V} (r : RepV g H F μ d v) (h : plainD n (look S d) = true) : Dp g.K H v (toPy (look S d)) := by
  cases d with
  | loc k =>
    cases q : gets S k with
    | none =>
      have e : look S (.loc k) = .loc k := by unfold look; simp only [q]
      rw [e] at h
      cases n <;> simp [plainD] at h
    | some o =>
      cases o with
      | lst xs =>
        have e : look S (.loc k) = .lst xs := by unfold look; simp only [q]
        have e2 : lstOf S (.loc k) = some xs := by unfold lstOf; simp only [q]
        rw [e] at h ⊢
        obtain ⟨a, vs, rfl, k1, k2, k3⟩ := R.lst r e2
        cases n with
        | zero => simp [plainD] at h
        | succ n =>
          have h' : plainDs n xs = true := by simpa [plainD] using h
          exact .lst (SqL.of k1) (dps_of n xs vs (k3.pure (plains_pure h')) h')
      | dct _ _ =>
        have e : look S (.loc k) = .loc k := by unfold look; simp only [q]
        rw [e] at h
        cases n <;> simp [plainD] at h
      | ins _ _ =>
        have e : look S (.loc k) = .loc k := by unfold look; simp only [q]
        rw [e] at h
        cases n <;> simp [plainD] at h
  | _ => exact dp_of n _ v (r.pure rfl) h
theorem shaped_of {n : Nat} {d : D} (h : plainD n d = true) (hn : n ≤ 64) : SeqAt.shaped (toPy d) = true := by
  obtain ⟨h1, h2⟩ := plain_can n d h
  unfold SeqAt.shaped
  rw [h1]
  simp
  omega
theorem lk_eq : Lk2 g (fun x y H Q => rEq x y H Q ∨ rEqD g.K x y H Q) bEq := by
  intro E μ F σ S σc H x y vx vy Q R rx ry q
  have key : Ok g E H F μ (let a := look S x; let b := look S y; if plainD 30 a && plainD 30 b then .ok (.bl (eqD a b)) false else .bad) Q → rEqD g.K vx vy H Q := by
    intro q
    dsimp only at q
    split at q
    · rename_i h
      rw [Bool.and_eq_true] at h
      refine ⟨_, _, R.dp rx h.1, R.dp ry h.2, shaped_of h.1 (by decide), shaped_of h.2 (by decide), ?_⟩
      rw [← eq_py 30 30 _ _ h.1 h.2]
      exact q.here R.dom (.inr rfl)
    · exact q.elim
  unfold bEq at q
  split at q
  · rename_i i j
    refine .inr ⟨.int i, .int j, by cases rx.int; exact .int i, by cases ry.int; exact .int j, rfl, rfl, ?_⟩
    have e : PyData.eqv (.int i) (.int j) = decide (i = j) := by simp only [PyData.eqv, Bool.beq_eq_decide_eq]
    rw [e]
    exact q.here R.dom (.inr rfl)
  · rename_i i j
    cases rx.str
    cases ry.str
    exact .inl ⟨rfl, by rw [show decide (V.str i = V.str j) = decide (i = j) by simp]; exact q.here R.dom (.inr rfl)⟩
  · rename_i i j
    cases rx.bl
    cases ry.bl
    exact .inl ⟨rfl, by rw [show decide (V.bl i = V.bl j) = decide (i = j) by simp]; exact q.here R.dom (.inr rfl)⟩
  · exact .inr (key q)
theorem lk_ne : Lk2 g (fun x y H Q => rNe x y H Q ∨ rNeD g.K x y H Q) bNe := by
  intro E μ F σ S σc H x y vx vy Q R rx ry q
  have key : Ok g E H F μ (let a := look S x; let b := look S y; if plainD 30 a && plainD 30 b then .ok (.bl (!eqD a b)) false else .bad) Q → rNeD g.K vx vy H Q := by
    intro q
    dsimp only at q
    split at q
    · rename_i h
      rw [Bool.and_eq_true] at h
      refine ⟨_, _, R.dp rx h.1, R.dp ry h.2, shaped_of h.1 (by decide), shaped_of h.2 (by decide), ?_⟩
      rw [← eq_py 30 30 _ _ h.1 h.2]
      exact q.here R.dom (.inr rfl)
    · exact q.elim
  unfold bNe at q
  split at q
  · rename_i i j
    refine .inr ⟨.int i, .int j, by cases rx.int; exact .int i, by cases ry.int; exact .int j, rfl, rfl, ?_⟩
    have e : PyData.eqv (.int i) (.int j) = decide (i = j) := by simp only [PyData.eqv, Bool.beq_eq_decide_eq]
    rw [e]
    exact q.here R.dom (.inr rfl)
  · rename_i i j
    cases rx.str
    cases ry.str
    exact .inl ⟨rfl, by rw [show decide (V.str i = V.str j) = decide (i = j) by simp]; exact q.here R.dom (.inr rfl)⟩
  · rename_i i j
    cases rx.bl
    cases ry.bl
    exact .inl ⟨rfl, by rw [show decide (V.bl i = V.bl j) = decide (i = j) by simp]; exact q.here R.dom (.inr rfl)⟩
  · exact .inr (key q)
end
end HC

set_option maxRecDepth 100000
namespace HC
open PySem PySem.Spec L2
open PyProof.Rows hiding St

/-! ### orders of ints, None -/
def bCmp (p : Int → Int → Bool) (_ : List SO) (x y : D) : Res := match x, y with
  | .int i, .int j => .ok (.bl (p i j)) false
  | _, _ => .bad
theorem lk_cmp {g : GX} {p : Int → Int → Bool} : Lk2 g (rI0 fun i j => .bl (p i j)) (bCmp p) := by
  intro E μ F σ S σc H x y vx vy Q R rx ry q
  unfold bCmp at q
  split at q
  · exact ⟨_, _, rx.int, ry.int, q.here R.dom (.inr rfl)⟩
  · exact q.elim
abbrev bLt := bCmp fun i j => decide (i < j)
abbrev bLe := bCmp fun i j => decide (i ≤ j)
abbrev bGt := bCmp fun i j => decide (j < i)
abbrev bGe := bCmp fun i j => decide (j ≤ i)
def isNon : D → Bool
  | .non => true
  | _ => false
def bIs (_ : List SO) (x y : D) : Res := match y with
  | .non => .ok (.bl (isNon x)) false
  | .bl b => match x with
    | .bl a => .ok (.bl (decide (a = b))) false
    | _ => .bad
  | _ => .bad
def bIsNot (_ : List SO) (x y : D) : Res := match y with
  | .non => .ok (.bl (!isNon x)) false
  | .bl b => match x with
    | .bl a => .ok (.bl (!decide (a = b))) false
    | _ => .bad
  | _ => .bad
theorem isNon_v {g : GX} {H : Hp} {F : FZ} {μ : List Addr} {x : D} {v : V} (r : RepV g H F μ x v) : decide (v = .non) = isNon x := by
  rcases r with ⟨n, a, rfl, _, rfl⟩ | r
  · rfl
  · cases x with
    | non => cases (show v = .non from r); rfl
    | bl b => cases (show v = .bl b from r); rfl
    | int b => cases (show v = .int b from r); rfl
    | str b => cases (show v = .str b from r); rfl
    | tup _ => obtain ⟨a, vs, rfl, _⟩ := r; rfl
    | lst _ => obtain ⟨a, vs, rfl, _⟩ := r; rfl
    | rol _ => obtain ⟨a, vs, rfl, _⟩ := r; rfl
    | dct _ _ => obtain ⟨a, vs, rfl, _⟩ := r; rfl
    | obj _ _ => obtain ⟨a, _, _, _, rfl, _⟩ := r; rfl
    | loc _ => exact r.elim
    | err => obtain ⟨p, _, rfl⟩ := r; rfl
theorem lk_is {g : GX} : Lk2 g (fun x y H Q => (y = .non ∧ Q (.bl (decide (x = .non))) H) ∨ (∃ a b, x = .bl a ∧ y = .bl b ∧ Q (.bl (decide (a = b))) H)) bIs := by
  intro E μ F σ S σc H x y vx vy Q R rx ry q
  unfold bIs at q
  split at q
  · exact .inl ⟨ry.non, by rw [isNon_v rx]; exact q.here R.dom (.inr rfl)⟩
  · split at q
    · exact .inr ⟨_, _, rx.bl, ry.bl, q.here R.dom (.inr rfl)⟩
    · exact q.elim
  · exact q.elim
theorem lk_isnot {g : GX} : Lk2 g (fun x y H Q => (y = .non ∧ Q (.bl (!decide (x = .non))) H) ∨ (∃ a b, x = .bl a ∧ y = .bl b ∧ Q (.bl (!decide (a = b))) H)) bIsNot := by
  intro E μ F σ S σc H x y vx vy Q R rx ry q
  unfold bIsNot at q
  split at q
  · exact .inl ⟨ry.non, by rw [isNon_v rx]; exact q.here R.dom (.inr rfl)⟩
  · split at q
    · exact .inr ⟨_, _, rx.bl, ry.bl, q.here R.dom (.inr rfl)⟩
    · exact q.elim
  · exact q.elim
theorem op_isA {X : Cx} : OpR X (compareOp .Is) (fun x y H Q => (y = .non ∧ Q (.bl (decide (x = .non))) H) ∨ (∃ a b, x = .bl a ∧ y = .bl b ∧ Q (.bl (decide (a = b))) H)) := op_isN.or op_is_bl
theorem op_isnotA {X : Cx} : OpR X (compareOp .IsNot) (fun x y H Q => (y = .non ∧ Q (.bl (!decide (x = .non))) H) ∨ (∃ a b, x = .bl a ∧ y = .bl b ∧ Q (.bl (!decide (a = b))) H)) := op_notN.or op_isnot_bl

/-! ### truth, and, or, not, if -/
def truth (S : List SO) (d : D) : Option Bool := match d with
  | .non => some false
  | .bl b => some b
  | .int i => some (i != 0)
  | .str x => if x.length ≤ lim then some ((x.length : Int) != 0) else none
  | .tup xs => some (!xs.isEmpty)
  | d => match rdOf S d with
    | some xs => some (!xs.isEmpty)
    | none => none
theorem isEmpty_len {α β : Type} {xs : List α} {ys : List β} (h : xs.length = ys.length) : xs.isEmpty = ys.isEmpty := by
  cases xs <;> cases ys <;> simp at h <;> rfl
theorem Rel.tru {g : GX} {μ : List Addr} {F : FZ} {σ : Sl} {S : List SO} {σc : St} {H : Hp} (R : Rel g μ F σ S σc H) {d : D} {v : V} {b : Bool} (r : RepV g H F μ d v) (h : truth S d = some b) : TruV g.K v H b := by
  unfold truth at h
  split at h
  · cases r.non
    exact (Option.some.inj h).symm
  · cases r.bl
    exact (Option.some.inj h).symm
  · cases r.int
    exact (Option.some.inj h).symm
  · cases r.str
    split at h
    · rename_i hl
      exact ⟨by rw [lim_eq]; exact hl, (Option.some.inj h).symm⟩
    · cases h
  · rename_i xs
    obtain ⟨a, vs, rfl, h1, h2, h3⟩ := r.tup (xs := xs) rfl
    rw [← Option.some.inj h, isEmpty_len h3.length]
    exact .inr (.inl ⟨vs, h1, rfl⟩)
  · split at h
    · rename_i xs ex
      obtain ⟨a, vs, rfl, h1, h2, h3⟩ := R.rd r ex
      rw [← Option.some.inj h, isEmpty_len h3.length]
      exact .inl ⟨vs, h1, rfl⟩
    · cases h

def cTru (f : CE) : CE := fun σ S => match f σ S with
  | .ok d _ => match truth S d with
    | some b => .ok (.bl b) false
    | none => .bad
  | .ex c as => .ex c as
  | .bad => .bad
def cNot (f : CE) : CE := fun σ S => match f σ S with
  | .ok d _ => match truth S d with
    | some b => .ok (.bl (!b)) false
    | none => .bad
  | .ex c as => .ex c as
  | .bad => .bad
def cAnd (a b : CE) : CE := fun σ S => match a σ S with
  | .ok d _ => match truth S d with
    | some true => b σ S
    | some false => .ok d false
    | none => .bad
  | .ex c as => .ex c as
  | .bad => .bad
def cOr (a b : CE) : CE := fun σ S => match a σ S with
  | .ok d _ => match truth S d with
    | some true => .ok d false
    | some false => b σ S
    | none => .bad
  | .ex c as => .ex c as
  | .bad => .bad
def cIf (c a b : CE) : CE := fun σ S => match c σ S with
  | .ok (.bl true) _ => a σ S
  | .ok (.bl false) _ => b σ S
  | .ok _ _ => .bad
  | .ex c as => .ex c as
  | .bad => .bad
section
variable {X : Cx} {g : GX} {E : WX} {a b c : Expr} {fa fb fc : CE} {pos : Pos}
/-- one value, then what follows of it -/
theorem T.one {f : CE} {k : Sl → List SO → D → Res} {σc : St} {H : Hp} {Q : VK} {R1 : V → Hp → Prop}
    (h : T g E (fun σ S => match f σ S with | .ok d _ => k σ S d | .ex c as => .ex c as | .bad => .bad) σc H Q)
    (w : ∀ (μ : List Addr) (F : FZ) (σ : Sl) (S : List SO) (H1 : Hp) (d : D) (v : V), Rel g μ F σ S σc H1 → RepV g H1 F μ d v → Ok g (wat E σc) H1 F μ (k σ S d) Q → R1 v H1) : T g E f σc H R1 := by
  obtain ⟨μ, F, σ, S, R, q⟩ := h
  refine ⟨μ, F, σ, S, R, ?_⟩
  dsimp only at q
  cases ea : f σ S with
  | bad => rw [ea] at q; exact q
  | ex c as => rw [ea] at q; exact q
  | ok d fr =>
    rw [ea] at q
    intro v H1 F1 s1 x1 r1
    obtain ⟨F2, x2, u2, rx⟩ := r1.frz x1
    exact w μ F2 σ S H1 d v (R.mono s1 x2) rx (q.from s1 x2)
def cTwo (f : CE) (k : Sl → List SO → D → Res) : CE := fun σ S => match f σ S with
  | .ok d _ => k σ S d
  | .ex c as => .ex c as
  | .bad => .bad
theorem Rel.bind {μ : List Addr} {F : FZ} {σ : Sl} {S : List SO} {f : CE} {k : Sl → List SO → D → Res} {σc : St} {H : Hp} {Q : VK} {R1 : V → Hp → Prop} (R : Rel g μ F σ S σc H) (q : Ok g (wat E σc) H F μ (cTwo f k σ S) Q)
    (w : ∀ (H1 : Hp) (F1 : FZ) (d : D) (v : V), Same H H1 → FX F H F1 H1 → Rel g μ F1 σ S σc H1 → RepV g H1 F1 μ d v → Ok g (wat E σc) H1 F1 μ (k σ S d) Q → R1 v H1) : T g E f σc H R1 := by
  refine ⟨μ, F, σ, S, R, ?_⟩
  unfold cTwo at q
  cases ea : f σ S with
  | bad => rw [ea] at q; exact q
  | ex c as => rw [ea] at q; exact q
  | ok d fr =>
    rw [ea] at q
    intro v H1 F1 s1 x1 r1
    obtain ⟨F2, x2, u2, rx⟩ := r1.frz x1
    exact w H1 F2 d v s1 x2 (R.mono s1 x2) rx (q.from s1 x2)
/-- a test, then what follows of it -/
theorem TB.one {f : CE} {k : Sl → List SO → Bool → Res} {σc : St} {H : Hp} {Q : VK} {R1 : Bool → Hp → Prop}
    (h : T g E (fun σ S => match f σ S with | .ok (.bl b) _ => k σ S b | .ok _ _ => .bad | .ex c as => .ex c as | .bad => .bad) σc H Q)
    (w : ∀ (μ : List Addr) (F : FZ) (σ : Sl) (S : List SO) (H1 : Hp) (b : Bool), Rel g μ F σ S σc H1 → Ok g (wat E σc) H1 F μ (k σ S b) Q → R1 b H1) : TB g E f σc H R1 := by
  obtain ⟨μ, F, σ, S, R, q⟩ := h
  refine ⟨μ, F, σ, S, R, ?_⟩
  dsimp only at q
  cases ea : f σ S with
  | bad => rw [ea] at q; exact q
  | ex c as => rw [ea] at q; exact q
  | ok d fr =>
    rw [ea] at q
    cases d with
    | bl b =>
      intro v H1 F1 s1 x1 r1
      obtain ⟨F2, x2, u2, rx⟩ := r1.frz x1
      exact ⟨b, rx.bl, w μ F2 σ S H1 b (R.mono s1 x2) (q.from s1 x2)⟩
    | _ => exact q.elim
theorem Rel.ok (R : Rel g μ F σ S σc H) {f : CE} {Q : VK} (q : Ok g (wat E σc) H F μ (f σ S) Q) : T g E f σc H Q := ⟨μ, F, σ, S, R, q⟩

theorem q_tru (ha : PE X a (T g E fa)) (hg : X.K = g.K := by rfl) (he : ∀ whole, isTrue a X.env whole = (do let v ← whole; standAt a.pos; holding [v] (truthy v)) := by intro _; rfl) : PT X a (TB g E (cTru fa)) :=
  (pt_truth ha he).hc fun σc H Q h => T.one h fun μ F σ S H1 d v R r q => by
    split at q
    · rename_i b e
      obtain ⟨k, e2, z⟩ := q.here R.dom (v := .bl b) (.inr rfl)
      cases e2
      exact ⟨b, by rw [hg]; exact R.tru r e, z⟩
    · exact q.elim
/-- a value that is True or False, as a test -/
theorem q_trB (ha : PE X a (T g E fa)) (he : ∀ whole, isTrue a X.env whole = (do let v ← whole; standAt a.pos; holding [v] (truthy v)) := by intro _; rfl) : PT X a (TB g E fa) := pt_val ha he
theorem q_not (ha : PE X a (T g E fa)) (hg : X.K = g.K := by rfl) : PE X (.UnaryOp .Not a pos) (T g E (cNot fa)) :=
  (pe_notT ha).hc fun σc H Q h => T.one h fun μ F σ S H1 d v R r q => by
    split at q
    · rename_i b e
      exact ⟨b, by rw [hg]; exact R.tru r e, q.here R.dom (.inr rfl)⟩
    · exact q.elim
def cNotB (f : CE) : CE := fun σ S => match f σ S with
  | .ok (.bl b) _ => .ok (.bl (!b)) false
  | .ok _ _ => .bad
  | .ex c as => .ex c as
  | .bad => .bad
theorem q_notT (ha : PT X a (TB g E fa)) : PT X (.UnaryOp .Not a pos) (TB g E (cNotB fa)) :=
  (pt_not ha).hc fun σc H Q h => TB.one (k := fun _ _ b => .ok (.bl (!b)) false) h fun μ F σ S H1 b R q => by
    obtain ⟨k, e, z⟩ := q.here R.dom (v := .bl (!b)) (.inr rfl)
    cases e
    exact z
theorem q_one {op} (ha : PE X a (T g E fa)) : PE X (.BoolOp op [a] pos) (T g E fa) := pe_one ha
theorem q_and {rest : List Expr} (ha : PE X a (T g E fa)) (hb : PE X (.BoolOp .And (b :: rest) pos) (T g E fb)) (hg : X.K = g.K := by rfl) : PE X (.BoolOp .And (a :: b :: rest) pos) (T g E (cAnd fa fb)) :=
  (pe_andT ha hb).hc fun σc H Q h => T.one (k := fun σ S d => match truth S d with | some true => fb σ S | some false => .ok d false | none => .bad) h fun μ F σ S H1 d v R r q => by
    split at q
    · rename_i e
      exact ⟨true, by rw [hg]; exact R.tru r e, iteT (R.ok q)⟩
    · rename_i e
      exact ⟨false, by rw [hg]; exact R.tru r e, iteF (q.here R.dom r)⟩
    · exact q.elim
theorem q_or {rest : List Expr} (ha : PE X a (T g E fa)) (hb : PE X (.BoolOp .Or (b :: rest) pos) (T g E fb)) (hg : X.K = g.K := by rfl) : PE X (.BoolOp .Or (a :: b :: rest) pos) (T g E (cOr fa fb)) :=
  (pe_orT ha hb).hc fun σc H Q h => T.one (k := fun σ S d => match truth S d with | some true => .ok d false | some false => fb σ S | none => .bad) h fun μ F σ S H1 d v R r q => by
    split at q
    · rename_i e
      exact ⟨true, by rw [hg]; exact R.tru r e, iteT (q.here R.dom r)⟩
    · rename_i e
      exact ⟨false, by rw [hg]; exact R.tru r e, iteF (R.ok q)⟩
    · exact q.elim
/-- tests joined -/
def cAndB (a b : CE) : CE := fun σ S => match a σ S with
  | .ok (.bl true) _ => b σ S
  | .ok (.bl false) _ => .ok (.bl false) false
  | .ok _ _ => .bad
  | .ex c as => .ex c as
  | .bad => .bad
def cOrB (a b : CE) : CE := fun σ S => match a σ S with
  | .ok (.bl true) _ => .ok (.bl true) false
  | .ok (.bl false) _ => b σ S
  | .ok _ _ => .bad
  | .ex c as => .ex c as
  | .bad => .bad
theorem two_b {f : CE} {kt kf : CE} (σ : Sl) (S : List SO) : (match f σ S with | .ok (.bl true) _ => kt σ S | .ok (.bl false) _ => kf σ S | .ok _ _ => .bad | .ex c as => .ex c as | .bad => (.bad : Res)) =
    (match f σ S with | .ok (.bl b) _ => (fun σ S (b : Bool) => if b = true then kt σ S else kf σ S) σ S b | .ok _ _ => .bad | .ex c as => .ex c as | .bad => (.bad : Res)) := by
  cases f σ S with
  | ok d fr =>
    cases d with
    | bl b => cases b <;> rfl
    | _ => rfl
  | _ => rfl
theorem TB.two {f kt kf : CE} {σc : St} {H : Hp} {Q : VK} {R1 : Bool → Hp → Prop}
    (h : T g E (fun σ S => match f σ S with | .ok (.bl true) _ => kt σ S | .ok (.bl false) _ => kf σ S | .ok _ _ => .bad | .ex c as => .ex c as | .bad => .bad) σc H Q)
    (w : ∀ (μ : List Addr) (F : FZ) (σ : Sl) (S : List SO) (H1 : Hp) (b : Bool), Rel g μ F σ S σc H1 → Ok g (wat E σc) H1 F μ (if b = true then kt σ S else kf σ S) Q → R1 b H1) : TB g E f σc H R1 := by
  refine TB.one (k := fun σ S b => if b = true then kt σ S else kf σ S) ?_ w
  obtain ⟨μ, F, σ, S, R, q⟩ := h
  have e := two_b (f := f) (kt := kt) (kf := kf) σ S
  dsimp only at q e
  rw [e] at q
  exact ⟨μ, F, σ, S, R, q⟩
theorem w_and1 (ha : PT X a (TB g E fa)) : PW X (.BoolOp .And [a] pos) (TB g E fa) := pw_and1 ha
theorem w_or1 (ha : PT X a (TB g E fa)) : PW X (.BoolOp .Or [a] pos) (TB g E fa) := pw_or1 ha
theorem w_and {rest : List Expr} (ha : PT X a (TB g E fa)) (hb : PW X (.BoolOp .And (b :: rest) pos) (TB g E fb)) : PW X (.BoolOp .And (a :: b :: rest) pos) (TB g E (cAndB fa fb)) :=
  (pw_and ha hb).hc fun σc H Q h => TB.two (kt := fb) (kf := fun _ _ => .ok (.bl false) false) h fun μ F σ S H1 c R q => by
    cases c with
    | true => exact iteT (R.ok q)
    | false =>
      obtain ⟨k, e, z⟩ := q.here R.dom (v := .bl false) (.inr rfl)
      cases e
      exact iteF z
theorem w_or {rest : List Expr} (ha : PT X a (TB g E fa)) (hb : PW X (.BoolOp .Or (b :: rest) pos) (TB g E fb)) : PW X (.BoolOp .Or (a :: b :: rest) pos) (TB g E (cOrB fa fb)) :=
  (pw_or ha hb).hc fun σc H Q h => TB.two (kt := fun _ _ => .ok (.bl true) false) (kf := fb) h fun μ F σ S H1 c R q => by
    cases c with
    | true =>
      obtain ⟨k, e, z⟩ := q.here R.dom (v := .bl true) (.inr rfl)
      cases e
      exact iteT z
    | false => exact iteF (R.ok q)
theorem q_if (hc : PT X c (TB g E fc)) (ha : PE X a (T g E fa)) (hb : PE X b (T g E fb)) : PE X (.IfExp c a b pos) (T g E (cIf fc fa fb)) :=
  (pe_ifExp hc ha hb).hc fun σc H Q h => TB.two (kt := fa) (kf := fb) h fun μ F σ S H1 c R q => by
    cases c with
    | true => exact iteT (R.ok q)
    | false => exact iteF (R.ok q)
end

/-! ### arguments, tuples, lists -/
inductive ResL where
  | ok (ds : List D) | ex (c : Nat) (as : List D) | bad
abbrev CA := Sl → List SO → ResL
def OkL (g : GX) (E : XK) (H : Hp) (F : FZ) (μ : List Addr) (r : ResL) (Q : List V → Hp → Prop) : Prop := match r with
  | .ok ds => ∀ vs H' F', Same H H' → FX F H F' H' → RepVs g H' F' μ ds vs → Q vs H'
  | .ex c as => ∀ cls dx H' F', Same H H' → FX F H F' H' → RepX g H' F' μ c as cls dx → E cls dx H'
  | .bad => False
def TL (g : GX) (E : WX) (f : CA) : TA := fun σc H Q => ∃ μ F σ S, Rel g μ F σ S σc H ∧ OkL g (wat E σc) H F μ (f σ S) Q
theorem OkL.from {g : GX} {E : XK} {H H1 : Hp} {F F1 : FZ} {μ : List Addr} {r : ResL} {Q : List V → Hp → Prop} (h : OkL g E H F μ r Q) (s : Same H H1) (x : FX F H F1 H1) : OkL g E H1 F1 μ r Q := by
  cases r with
  | ok d => exact fun v H' F' s' x' rr => h v H' F' (s.trans s') (x.trans s x') rr
  | ex c as => exact fun cls dx H' F' s' x' rr => h cls dx H' F' (s.trans s') (x.trans s x') rr
  | bad => exact h
def cNil : CA := fun _ _ => .ok []
def cCons (a : CE) (r : CA) : CA := fun σ S => match a σ S with
  | .ok d _ => match r σ S with
    | .ok ds => .ok (d :: ds)
    | .ex c as => .ex c as
    | .bad => .bad
  | .ex c as => .ex c as
  | .bad => .bad
/-- what a call does with its arguments -/
def cApp (fn : List SO → List D → Res) (f : CA) : CE := fun σ S => match f σ S with
  | .ok ds => fn S ds
  | .ex c as => .ex c as
  | .bad => .bad
theorem TL.app {g : GX} {E : WX} {f : CA} {fn : List SO → List D → Res} {σc : St} {H : Hp} {Q : VK} {R1 : List V → Hp → Prop} (h : T g E (cApp fn f) σc H Q)
    (w : ∀ (μ : List Addr) (F : FZ) (σ : Sl) (S : List SO) (H1 : Hp) (ds : List D) (vs : List V), Rel g μ F σ S σc H1 → RepVs g H1 F μ ds vs → Ok g (wat E σc) H1 F μ (fn S ds) Q → R1 vs H1) : TL g E f σc H R1 := by
  obtain ⟨μ, F, σ, S, R, q⟩ := h
  refine ⟨μ, F, σ, S, R, ?_⟩
  unfold cApp at q
  cases ea : f σ S with
  | bad => rw [ea] at q; exact q
  | ex c as => rw [ea] at q; exact q
  | ok ds =>
    rw [ea] at q
    exact fun vs H1 F1 s1 x1 r1 => w μ F1 σ S H1 ds vs (R.mono s1 x1) r1 (q.from s1 x1)
def fTup (_ : List SO) (ds : List D) : Res := if pureL ds && decide (ds.length ≤ lim) then .ok (.tup ds) false else .bad
def fLst (_ : List SO) (ds : List D) : Res := if pureL ds && decide (ds.length ≤ lim) then .ok (.lst ds) true else .bad
section
variable {X : Cx} {g : GX} {E : WX} {e : Expr} {es : List Expr} {f : CE} {fr : CA} {pos : Pos}
theorem qa_nil : PA X [] (TL g E cNil) := pa_nil.hc fun σc H Q ⟨μ, F, σ, S, R, q⟩ => q [] H F (Same.refl H) R.fx .nil
theorem qa_cons (ha : PE X e (T g E f)) (hr : PA X es (TL g E fr)) (hs : starEach (e :: es) X.env = (false, eval e X.env) :: starEach es X.env := by rfl) : PA X (e :: es) (TL g E (cCons f fr)) :=
  (pa_cons ha hr hs).hc fun σc H Q ⟨μ, F, σ, S, R, q⟩ => by
    refine ⟨μ, F, σ, S, R, ?_⟩
    unfold cCons at q
    cases ea : f σ S with
    | bad => rw [ea] at q; exact q
    | ex c as => rw [ea] at q; exact q
    | ok d fl =>
      rw [ea] at q
      intro v H1 F1 s1 x1 r1
      obtain ⟨F2, x2, u2, rx⟩ := r1.frz x1
      refine ⟨μ, F2, σ, S, R.mono s1 x2, ?_⟩
      have q : OkL g (wat E σc) H F μ (match fr σ S with | .ok ds => .ok (d :: ds) | .ex c as => .ex c as | .bad => .bad) Q := q
      cases eb : fr σ S with
      | bad => rw [eb] at q; exact q
      | ex c as =>
        rw [eb] at q
        exact fun cls dx H' F' s' x' rr => q cls dx H' F' (s1.trans s') (x2.trans s1 x') rr
      | ok ds =>
        rw [eb] at q
        exact fun vs H3 F3 s3 x3 r3 => q (v :: vs) H3 F3 (s1.trans s3) (x2.trans s1 x3) (.cons (rx.mono s3 x3.up) r3)
theorem q_tup {x1} (h : PA X es (TL g E fr)) : PE X (.Tuple es x1 pos) (T g E (cApp fTup fr)) := (pe_tup h).hc fun σc H Q h => TL.app h fun μ F σ S H1 ds vs R r q => by
  unfold fTup at q
  split at q
  · rename_i hp
    rw [Bool.and_eq_true, decide_eq_true_eq] at hp
    have hl : vs.length ≤ sizeLine := by rw [lim_eq, ← r.length]; exact hp.2
    exact ⟨hl, fun p hn => q.tup R.dom hn hl (r.pure hp.1)⟩
  · exact q.elim
theorem q_lst (h : PA X es (TL g E fr)) : PE X (.List es pos) (T g E (cApp fLst fr)) := (pe_lst h).hc fun σc H Q h => TL.app h fun μ F σ S H1 ds vs R r q => by
  unfold fLst at q
  split at q
  · rename_i hp
    rw [Bool.and_eq_true, decide_eq_true_eq] at hp
    have hl : vs.length ≤ sizeLine := by rw [lim_eq, ← r.length]; exact hp.2
    exact ⟨hl, fun p hn => q.lst R.dom (fun a h => R.mu_there h) hn hl (r.pure hp.1)⟩
  · exact q.elim
end
end HC

set_option maxRecDepth 100000
namespace HC
open PySem PySem.Spec L2
open PyProof.Rows hiding St

/-! ## places, slices -/
def atD (xs : List D) (i : Int) : Option D := match i with
  | .ofNat n => gets xs n
  | .negSucc m => if m + 1 ≤ xs.length then gets xs (xs.length - (m + 1)) else none
theorem atD_at {xs : List D} {i : Int} {d : D} (h : atD xs i = some d) {α : Type} {vs : List α} (hl : xs.length = vs.length) : ∃ j : Nat, xs[j]? = some d ∧ ∀ v, vs[j]? = some v → atI vs i = some v := by
  unfold atD at h
  split at h
  · rename_i n
    rw [gets_eq] at h
    exact ⟨n, h, fun v e => atI_nat e⟩
  · rename_i m
    split at h
    · rename_i hm
      rw [gets_eq] at h
      refine ⟨_, h, fun v e => ?_⟩
      unfold atI ixN
      rw [if_neg (by omega), ← hl, if_pos (by omega)]
      show vs[(Int.negSucc m + (xs.length : Int)).toNat]? = some v
      rw [show (Int.negSucc m + (xs.length : Int)).toNat = xs.length - (m + 1) by omega]
      exact e
    · cases h
def strAt (z : Str) (i : Int) : Option Nat := match i with
  | .ofNat n => gets z.cps.toList n
  | .negSucc m => if m + 1 ≤ z.cps.toList.length then gets z.cps.toList (z.cps.toList.length - (m + 1)) else none
theorem strAt_at {z : Str} {i : Int} {c : Nat} (h : strAt z i = some c) : atI z.cps.toList i = some c := by
  unfold strAt at h
  split at h
  · rw [gets_eq] at h
    exact atI_nat h
  · rename_i m
    split at h
    · rename_i hm
      rw [gets_eq] at h
      unfold atI ixN
      rw [if_neg (by omega), if_pos (by omega)]
      show z.cps.toList[(Int.negSucc m + (z.cps.toList.length : Int)).toNat]? = some c
      rw [show (Int.negSucc m + (z.cps.toList.length : Int)).toNat = z.cps.toList.length - (m + 1) by omega]
      exact h
    · cases h
def bIx (S : List SO) (x y : D) : Res := match y with
  | .int i => match seqOf S x with
    | some xs => match atD xs i with
      | some d => .ok d false
      | none => .bad
    | none => match x with
      | .str z => if z.length ≤ lim then (match strAt z i with
        | some c => .ok (.str ⟨#[c]⟩) false
        | none => .bad) else .bad
      | _ => .bad
  | _ => .bad
section
variable {g : GX} {μ : List Addr} {F : FZ} {σ : Sl} {S : List SO} {σc : St} {H : Hp}
/-- a list or a tuple -/
theorem Rel.seq (R : Rel g μ F σ S σc H) {d : D} {v : V} {xs : List D} (r : RepV g H F μ d v) (h : seqOf S d = some xs) : ∃ a vs, v = .ref a ∧ (SqL g.K H a vs ∨ SqT g.K H a vs) ∧ vs.length ≤ sizeLine ∧ RepVs g H F μ xs vs := by
  rcases seqOf_cases h with e | e
  · obtain ⟨a, vs, rfl, h1, h2, h3⟩ := r.tup e
    exact ⟨a, vs, rfl, .inr h1, h2, h3.vs⟩
  · obtain ⟨a, vs, rfl, h1, h2, h3⟩ := R.rd r e
    exact ⟨a, vs, rfl, .inl h1, h2, h3⟩
theorem lk_ix : Lk2 g (rIx g.K) bIx := by
  intro E μ F σ S σc H x y vx vy Q R rx ry q
  unfold bIx at q
  split at q
  · split at q
    · rename_i i xs ex
      split at q
      · rename_i d ed
        obtain ⟨a, vs, rfl, h1, h2, h3⟩ := R.seq rx ex
        obtain ⟨j, ej, k⟩ := atD_at ed h3.length
        obtain ⟨v, ev, rv⟩ := h3.get ej
        have z := q.here R.dom rv
        rcases h1 with h1 | h1
        · exact .inl ⟨a, vs, _, v, rfl, ry.int, h1, k v ev, z⟩
        · exact .inr (.inl ⟨a, vs, _, v, rfl, ry.int, h1, k v ev, z⟩)
      · exact q.elim
    · split at q
      · split at q
        · rename_i hl
          split at q
          · rename_i c ec
            exact .inr (.inr ⟨_, _, c, rx.str, ry.int, by rw [lim_eq]; exact hl, strAt_at ec, q.here R.dom (.inr rfl)⟩)
          · exact q.elim
        · exact q.elim
      · exact q.elim
  · exact q.elim
end
section
variable {X : Cx} {g : GX} {E : WX} {a b : Expr} {fa fb fc : CE} {pos p2 : Pos}
theorem q_ix (ha : PE X a (T g E fa)) (hb : PE X b (T g E fb)) (hg : X.K = g.K := by rfl) (hs : PlainIx b := by exact fun _ _ => rfl) : PE X (.Subscript a b pos) (T g E (cBin bIx fa fb)) :=
  (pe_ix ix_seq ha hb hs).hc fun σc H Q h => T.two h fun μ F σ S H2 x y vx vy R rx ry q => by rw [hg]; exact lk_ix (wat E σc) μ F σ S σc H2 x y vx vy Q R rx ry q

/-- a part of a slice -/
inductive ResP where
  | ok (i : Option Int) | ex (c : Nat) (as : List D) | bad
def cutI (n d : Nat) : Option Int → Nat
  | none => d
  | some (.ofNat k) => if k ≤ n then k else n
  | some (.negSucc m) => n - (m + 1)
theorem cutI_eq (n d : Nat) (o : Option Int) : cutI n d o = HT.sIx n d o := by
  cases o with
  | none => rfl
  | some i =>
    cases i with
    | ofNat k =>
      show (if k ≤ n then k else n) = _
      rw [show HT.sIx n d (some (Int.ofNat k)) = min k n from HT.sIx_nat n d k]
      split <;> omega
    | negSucc m =>
      show n - (m + 1) = HT.sIx n d (some (Int.negSucc m))
      have h := HT.clip_eq (Int.negSucc m) n d
      rw [if_pos (by omega)] at h
      omega
def cutD (xs : List D) (lo hi : Option Int) : List D := let n := xs.length; let a := cutI n 0 lo; (xs.drop a).take (cutI n n hi - a)
def fCut (S : List SO) (x : D) (lo hi : Option Int) : Res := match x with
  | .tup xs => .ok (.tup (cutD xs lo hi)) false
  | x => match rdOf S x with
    | some xs => if pureL xs then .ok (.lst (cutD xs lo hi)) true else .bad
    | none => .bad

def kInt (k : Int → Res) : D → Res
  | .int i => k i
  | _ => .bad
def cCutLH (f l h : CE) : CE := cTwo f fun σ S x => cTwo l (fun σ S => kInt fun i => cTwo h (fun _ S => kInt fun j => fCut S x (some i) (some j)) σ S) σ S
def cCutL (f l : CE) : CE := cTwo f fun σ S x => cTwo l (fun _ S => kInt fun i => fCut S x (some i) none) σ S
def cCutH (f h : CE) : CE := cTwo f fun σ S x => cTwo h (fun _ S => kInt fun j => fCut S x none (some j)) σ S
def cCutA (f : CE) : CE := cTwo f fun _ S x => fCut S x none none
theorem RepL.cut {H : Hp} {F : FZ} {xs : List D} {vs : List V} (r : RepL g H F xs vs) (lo hi : Option Int) : RepL g H F (cutD xs lo hi) (cutV vs lo hi) := by
  have e : cutD xs lo hi = (xs.drop (HT.sIx vs.length 0 lo)).take (HT.sIx vs.length vs.length hi - HT.sIx vs.length 0 lo) := by
    unfold cutD
    dsimp only
    rw [cutI_eq, cutI_eq, r.length]
  rw [e]
  exact (r.drop _).take _
theorem cut_whole {vs : List V} {lo hi : Option Int} (h : HT.sIx vs.length 0 lo = 0 ∧ HT.sIx vs.length vs.length hi = vs.length) {xs : List D} (hl : xs.length = vs.length) : cutD xs lo hi = xs := by
  unfold cutD
  dsimp only
  rw [cutI_eq, cutI_eq, hl, h.1, h.2, ← hl]
  simp
theorem lk_cut {E : XK} {H : Hp} {μ : List Addr} {F : FZ} {σ : Sl} {S : List SO} {σc : St} {x : D} {vx : V} {lo hi : Option Int} {Q : VK} (R : Rel g μ F σ S σc H) (rx : RepV g H F μ x vx) (q : Ok g E H F μ (fCut S x lo hi) Q) :
    (rSlA g.K vx lo hi H Q ∨ rSlL g.K vx lo hi H Q) := by
  unfold fCut at q
  split at q
  · rename_i xs
    obtain ⟨a, vs, rfl, h1, h2, h3⟩ := rx.tup (xs := xs) rfl
    refine .inl ⟨a, vs, rfl, h1, fun w => ?_, fun _ p hp => ?_⟩
    · rw [cut_whole w h3.length] at q
      exact q.here R.dom rx
    · exact q.tup R.dom hp (Nat.le_trans (cutV_length _ _ _) h2) (h3.cut _ _)
  · split at q
    · rename_i xs ex
      split at q
      · rename_i hp
        obtain ⟨a, vs, rfl, h1, h2, h3⟩ := R.rd rx ex
        exact .inr ⟨a, vs, rfl, h1, fun p hn => q.lst R.dom (fun a h => R.mu_there h) hn (Nat.le_trans (cutV_length _ _ _) h2) ((h3.pure hp).cut _ _)⟩
      · exact q.elim
    · exact q.elim
theorem kInt_ok {E : XK} {H : Hp} {μ : List Addr} {F : FZ} {k : Int → Res} {d : D} {v : V} {Q : VK} (r : RepV g H F μ d v) (q : Ok g E H F μ (kInt k d) Q) : ∃ i, v = .int i ∧ Ok g E H F μ (k i) Q := by
  cases d with
  | int i => exact ⟨i, r.int, q⟩
  | _ => exact q.elim
theorem q_slLH {l h : Expr} (ha : PE X a (T g E fa)) (hl : PE X l (T g E fb)) (hh : PE X h (T g E fc)) (hg : X.K = g.K := by rfl) : PE X (.Subscript a (.Slice (some l) (some h) none p2) pos) (T g E (cCutLH fa fb fc)) :=
  (pe_slice (sl_tupA.or sl_list) ha (po_some hl) (po_some hh)).hc fun σc H Q ⟨μ, F, σ, S, R, q⟩ => R.bind q fun H1 F1 x v s1 x1 R1 rx q => R1.bind q fun H2 F2 y w s2 x2 R2 ry q => by
    obtain ⟨i, rfl, q⟩ := kInt_ok ry q
    refine ⟨i, rfl, R2.bind q fun H3 F3 z w s3 x3 R3 rz q => ?_⟩
    obtain ⟨j, rfl, q⟩ := kInt_ok rz q
    exact ⟨j, rfl, by rw [hg]; exact lk_cut R3 ((rx.mono s2 x2.up).mono s3 x3.up) q⟩
theorem q_slL {l : Expr} (ha : PE X a (T g E fa)) (hl : PE X l (T g E fb)) (hg : X.K = g.K := by rfl) : PE X (.Subscript a (.Slice (some l) none none p2) pos) (T g E (cCutL fa fb)) :=
  (pe_slice (sl_tupA.or sl_list) ha (po_some hl) po_none).hc fun σc H Q ⟨μ, F, σ, S, R, q⟩ => R.bind q fun H1 F1 x v s1 x1 R1 rx q => R1.bind q fun H2 F2 y w s2 x2 R2 ry q => by
    obtain ⟨i, rfl, q⟩ := kInt_ok ry q
    exact ⟨i, rfl, by rw [hg]; exact lk_cut R2 (rx.mono s2 x2.up) q⟩
theorem q_slH {l : Expr} (ha : PE X a (T g E fa)) (hl : PE X l (T g E fb)) (hg : X.K = g.K := by rfl) : PE X (.Subscript a (.Slice none (some l) none p2) pos) (T g E (cCutH fa fb)) :=
  (pe_slice (sl_tupA.or sl_list) ha po_none (po_some hl)).hc fun σc H Q ⟨μ, F, σ, S, R, q⟩ => R.bind q fun H1 F1 x v s1 x1 R1 rx q => R1.bind q fun H2 F2 y w s2 x2 R2 ry q => by
    obtain ⟨i, rfl, q⟩ := kInt_ok ry q
    exact ⟨i, rfl, by rw [hg]; exact lk_cut R2 (rx.mono s2 x2.up) q⟩
theorem q_slA (ha : PE X a (T g E fa)) (hg : X.K = g.K := by rfl) : PE X (.Subscript a (.Slice none none none p2) pos) (T g E (cCutA fa)) :=
  (pe_slice (sl_tupA.or sl_list) ha po_none po_none).hc fun σc H Q ⟨μ, F, σ, S, R, q⟩ => R.bind q fun H1 F1 x v s1 x1 R1 rx q => by
    show rSlA X.K v none none H1 Q ∨ rSlL X.K v none none H1 Q
    rw [hg]
    exact lk_cut R1 rx q
end
end HC

set_option maxRecDepth 100000
namespace HC
open PySem PySem.Spec L2
open PyProof.Rows hiding St

/-! ## calls of built-ins -/
def LkC (g : GX) (r : List V → Hp → VK → Prop) (fn : List SO → List D → Res) : Prop :=
  ∀ (E : XK) (μ : List Addr) (F : FZ) (σ : Sl) (S : List SO) (σc : St) (H : Hp) (ds : List D) (vs : List V) (Q : VK), Rel g μ F σ S σc H → RepVs g H F μ ds vs → Ok g E H F μ (fn S ds) Q → r vs H Q
section
variable {X : Cx} {g : GX} {E : WX} {x : Str} {p pos : Pos} {e : Expr} {es : List Expr} {f : CA} {id T' : String} {r : List V → Hp → VK → Prop} {fn : List SO → List D → Res}
theorem q_callB (hc : CallR X (.builtin id) r) (l : LkC g r fn) (hg : Gl X x) (hm : X.mg x = none) (hv : bootBuiltins x = some (.builtin id)) (ha : PA X (e :: es) (TL g E f)) (hn : x ≠ "__name__" := by decide) (hdb : (x == ("__debug__" : Str)) = false := by decide)
    (he : starEach (e :: es) X.env = (false, eval e X.env) :: starEach es X.env := by rfl) (hpl : (backTo pos (starEach es X.env)).any (·.1) = false := by rfl) : PE X (.Call (.Name x p) (e :: es) [] pos) (T g E (cApp fn f)) :=
  (pe_callB hc hg hm hv ha hn hdb he hpl).hc fun σc H Q h => TL.app h fun μ F σ S H1 ds vs R r q => l (wat E σc) μ F σ S σc H1 ds vs Q R r q
theorem q_callTy (hc : CallR X (.type T') r) (l : LkC g r fn) (hg : Gl X x) (hm : X.mg x = none) (hv : bootBuiltins x = some (.type T')) (ha : PA X (e :: es) (TL g E f)) (hn : x ≠ "__name__" := by decide) (hdb : (x == ("__debug__" : Str)) = false := by decide)
    (he : starEach (e :: es) X.env = (false, eval e X.env) :: starEach es X.env := by rfl) (hpl : (backTo pos (starEach es X.env)).any (·.1) = false := by rfl) : PE X (.Call (.Name x p) (e :: es) [] pos) (T g E (cApp fn f)) :=
  (pe_callTy hc hg hm hv ha hn hdb he hpl).hc fun σc H Q h => TL.app h fun μ F σ S H1 ds vs R r q => l (wat E σc) μ F σ S σc H1 ds vs Q R r q
theorem CallR.or {f : Value} {r r' : List V → Hp → VK → Prop} (h : CallR X f r) (h' : CallR X f r') : CallR X f (fun xs H Q => r xs H Q ∨ r' xs H Q) := by
  intro pins s σ H xs us Q I rv q
  rcases q with q | q
  · exact h pins s σ H xs us Q I rv q
  · exact h' pins s σ H xs us Q I rv q
end
theorem RepVs.one {g : GX} {H : Hp} {F : FZ} {μ : List Addr} {d : D} {vs : List V} (r : RepVs g H F μ [d] vs) : ∃ v, vs = [v] ∧ RepV g H F μ d v := by
  cases r with
  | cons r t =>
    cases t
    exact ⟨_, rfl, r⟩
theorem RepVs.two {g : GX} {H : Hp} {F : FZ} {μ : List Addr} {d e : D} {vs : List V} (r : RepVs g H F μ [d, e] vs) : ∃ v w, vs = [v, w] ∧ RepV g H F μ d v ∧ RepV g H F μ e w := by
  cases r with
  | cons r t =>
    obtain ⟨w, rfl, t2⟩ := RepVs.one t
    exact ⟨_, w, rfl, r, t2⟩

/-- len -/
def fLen (S : List SO) (ds : List D) : Res := match ds with
  | [d] => match seqOf S d with
    | some xs => .ok (.int xs.length) false
    | none => match d with
      | .str z => if z.length ≤ lim then .ok (.int z.length) false else .bad
      | _ => .bad
  | _ => .bad
theorem lk_len {g : GX} : LkC g (fun xs H Q => ∃ x n, xs = [x] ∧ LenV g.K x H n ∧ Q (.int n) H) fLen := by
  intro E μ F σ S σc H ds vs Q R r q
  unfold fLen at q
  split at q
  · obtain ⟨v, rfl, rv⟩ := r.one
    split at q
    · rename_i d xs ex
      obtain ⟨a, ws, rfl, h1, h2, h3⟩ := R.seq rv ex
      refine ⟨_, ws.length, rfl, ?_, ?_⟩
      · rcases h1 with h1 | h1
        · exact .inl ⟨ws, h1, rfl⟩
        · exact .inr ⟨ws, h1, rfl⟩
      · rw [← h3.length]
        exact q.here R.dom (.inr rfl)
    · split at q
      · split at q
        · rename_i hl
          cases rv.str
          exact ⟨_, _, rfl, ⟨by rw [lim_eq]; exact hl, rfl⟩, q.here R.dom (.inr rfl)⟩
        · exact q.elim
      · exact q.elim
  · exact q.elim
/-- int -/
def fInt (_ : List SO) (ds : List D) : Res := match ds with
  | [.int i] => .ok (.int i) false
  | [.bl b] => .ok (.int (if b then 1 else 0)) false
  | _ => .bad
theorem lk_int {g : GX} : LkC g (fun xs H Q => (∃ i, xs = [.int i] ∧ Q (.int i) H) ∨ ∃ k, xs = [.bl k] ∧ Q (.int (if k then 1 else 0)) H) fInt := by
  intro E μ F σ S σc H ds vs Q R r q
  unfold fInt at q
  split at q
  · obtain ⟨v, rfl, rv⟩ := r.one
    cases rv.int
    exact .inl ⟨_, rfl, q.here R.dom (.inr rfl)⟩
  · obtain ⟨v, rfl, rv⟩ := r.one
    cases rv.bl
    exact .inr ⟨_, rfl, q.here R.dom (.inr rfl)⟩
  · exact q.elim
/-- tuple, list -/
def fTuple (S : List SO) (ds : List D) : Res := match ds with
  | [.tup xs] => .ok (.tup xs) false
  | [d] => match rdOf S d with
    | some xs => if pureL xs then .ok (.tup xs) false else .bad
    | none => .bad
  | _ => .bad
theorem lk_tuple {g : GX} : LkC g (fun xs H Q => ∃ p ys, xs = [.ref p] ∧ ((SqL g.K H p ys ∧ ∀ l, H l = none → Q (.ref l) (upd H l (.tup ys))) ∨ (SqT g.K H p ys ∧ Q (.ref p) H))) fTuple := by
  intro E μ F σ S σc H ds vs Q R r q
  unfold fTuple at q
  split at q
  · rename_i xs
    obtain ⟨v, rfl, rv⟩ := r.one
    obtain ⟨a, ws, rfl, h1, h2, h3⟩ := rv.tup (xs := xs) rfl
    exact ⟨a, ws, rfl, .inr ⟨h1, q.here R.dom rv⟩⟩
  · obtain ⟨v, rfl, rv⟩ := r.one
    split at q
    · rename_i xs ex
      split at q
      · rename_i hp
        obtain ⟨a, ws, rfl, h1, h2, h3⟩ := R.rd rv ex
        exact ⟨a, ws, rfl, .inl ⟨h1, fun l hl => q.tup R.dom hl h2 (h3.pure hp)⟩⟩
      · exact q.elim
    · exact q.elim
  · exact q.elim
def fList (S : List SO) (ds : List D) : Res := match ds with
  | [d] => match seqOf S d with
    | some xs => if pureL xs then .ok (.lst xs) true else .bad
    | none => .bad
  | _ => .bad
theorem lk_list {g : GX} : LkC g (fun xs H Q => ∃ p ys, xs = [.ref p] ∧ (SqL g.K H p ys ∨ SqT g.K H p ys) ∧ ∀ l, H l = none → Q (.ref l) (upd H l (.lst ys))) fList := by
  intro E μ F σ S σc H ds vs Q R r q
  unfold fList at q
  split at q
  · obtain ⟨v, rfl, rv⟩ := r.one
    split at q
    · rename_i xs ex
      split at q
      · rename_i hp
        obtain ⟨a, ws, rfl, h1, h2, h3⟩ := R.seq rv ex
        exact ⟨a, ws, rfl, h1, fun l hl => q.lst R.dom (fun a h => R.mu_there h) hl h2 (h3.pure hp)⟩
      · exact q.elim
    · exact q.elim
  · exact q.elim

/-! ### ints, bools in a row -/
def intsOf : List D → Option (List Int)
  | [] => some []
  | .int i :: r => match intsOf r with
    | some ns => some (i :: ns)
    | none => none
  | _ => none
def blsOf : List D → Option (List Bool)
  | [] => some []
  | .bl i :: r => match blsOf r with
    | some ns => some (i :: ns)
    | none => none
  | _ => none
def sumI : List Int → Int
  | [] => 0
  | i :: r => i + sumI r
theorem sumI_eq : ∀ ns : List Int, sumI ns = ns.sum
  | [] => rfl
  | i :: r => by
    show i + sumI r = _
    rw [sumI_eq r, List.sum_cons]
theorem RepVs.ints {g : GX} {H : Hp} {F : FZ} {μ : List Addr} : ∀ {ds : List D} {vs : List V} {ns : List Int}, RepVs g H F μ ds vs → intsOf ds = some ns → vs = ns.map V.int
  | _, _, ns, .nil, h => by
    cases (show some [] = some ns from h)
    rfl
  | _, _, ns, .cons (a := d) r t, h => by
    cases d with
    | int i =>
      unfold intsOf at h
      split at h
      · rename_i ms e
        cases h
        rw [r.int, RepVs.ints t e]
        rfl
      · cases h
    | _ => cases h
theorem RepVs.bls {g : GX} {H : Hp} {F : FZ} {μ : List Addr} : ∀ {ds : List D} {vs : List V} {ns : List Bool}, RepVs g H F μ ds vs → blsOf ds = some ns → vs = ns.map V.bl
  | _, _, ns, .nil, h => by
    cases (show some [] = some ns from h)
    rfl
  | _, _, ns, .cons (a := d) r t, h => by
    cases d with
    | bl i =>
      unfold blsOf at h
      split at h
      · rename_i ms e
        cases h
        rw [r.bl, RepVs.bls t e]
        rfl
      · cases h
    | _ => cases h
/-- sum of a tuple -/
def rSumT (K : PySem.W.Frag) : List V → Hp → VK → Prop := fun vs H Q => ∃ (a : Addr) (ns : List Int), vs = [V.ref a] ∧ SqT K H a (ns.map V.int) ∧ Q (.int ns.sum) H
theorem vals_intsAre {ns : List Int} : ∀ {us : List Value}, Vals (ns.map V.int) us → IntsAre us ns := by
  induction ns with
  | nil =>
    intro us r
    cases r
    exact .nil
  | cons n ns ih =>
    intro us r
    cases r with
    | cons r t =>
      obtain ⟨tk, rfl⟩ := r
      exact .cons _ _ (ih t)
theorem cr_sumT {X : Cx} (hc : X.calm = true) : CallR X (.builtin "sum") (rSumT X.K) := by
  intro pins s σ H vs us Q I r h
  obtain ⟨a, ns, rfl, hs, q⟩ := h
  obtain ⟨its, rv, hl, hz⟩ := I.tuple hs
  cases r with
  | cons r t =>
    cases t
    cases r
    have hi := vals_intsAre rv
    obtain ⟨xs, hx⟩ := hi.allInts.items
    have hn : numsOf its.toArray.toList = ns := by rw [show its.toArray.toList = its from rfl, hi.numsOf]
    rw [hx] at hn
    rw [nums_intItems] at hn
    rw [hx] at hl
    refine PySem.W.ktm_sumG (I.ok.hd hc) hl fun h' tk t' hk => ⟨.int _, H, I.kept hk, ?_, q⟩
    rw [preSum_eq, List.take_of_length_le (by simp), hn]
    exact ⟨t', rfl⟩
def fSum (S : List SO) (ds : List D) : Res := match ds with
  | [d] => match seqOf S d with
    | some xs => match intsOf xs with
      | some ns => .ok (.int (sumI ns)) false
      | none => .bad
    | none => .bad
  | _ => .bad
theorem lk_sum {g : GX} : LkC g (fun xs H Q => rSum g.K xs H Q ∨ rSumT g.K xs H Q) fSum := by
  intro E μ F σ S σc H ds vs Q R r q
  unfold fSum at q
  split at q
  · obtain ⟨v, rfl, rv⟩ := r.one
    split at q
    · rename_i xs ex
      split at q
      · rename_i ns en
        obtain ⟨a, ws, rfl, h1, h2, h3⟩ := R.seq rv ex
        have e := h3.ints en
        subst e
        have z := q.here R.dom (v := .int (sumI ns)) (.inr rfl)
        rw [sumI_eq] at z
        rcases h1 with h1 | h1
        · exact .inl ⟨a, ns, rfl, h1, z⟩
        · exact .inr ⟨a, ns, rfl, h1, z⟩
      · exact q.elim
    · exact q.elim
  · exact q.elim
theorem cr_sumA {X : Cx} (hc : X.calm = true) : CallR X (.builtin "sum") (fun xs H Q => rSum X.K xs H Q ∨ rSumT X.K xs H Q) := (cr_sum hc).or (cr_sumT hc)
def allB : List Bool → Bool
  | [] => true
  | b :: r => b && allB r
def anyB : List Bool → Bool
  | [] => false
  | b :: r => b || anyB r
theorem allB_eq : ∀ bs : List Bool, allB bs = bs.all id
  | [] => rfl
  | b :: r => by
    show (b && allB r) = _
    rw [allB_eq r] <;> rfl
theorem anyB_eq : ∀ bs : List Bool, anyB bs = bs.any id
  | [] => rfl
  | b :: r => by
    show (b || anyB r) = _
    rw [anyB_eq r] <;> rfl
def fAll (S : List SO) (ds : List D) : Res := match ds with
  | [d] => match rdOf S d with
    | some xs => match blsOf xs with
      | some ns => .ok (.bl (allB ns)) false
      | none => .bad
    | none => .bad
  | _ => .bad
def fAny (S : List SO) (ds : List D) : Res := match ds with
  | [d] => match rdOf S d with
    | some xs => match blsOf xs with
      | some ns => .ok (.bl (anyB ns)) false
      | none => .bad
    | none => .bad
  | _ => .bad
theorem lk_all {g : GX} : LkC g (rAll g.K) fAll := by
  intro E μ F σ S σc H ds vs Q R r q
  unfold fAll at q
  split at q
  · obtain ⟨v, rfl, rv⟩ := r.one
    split at q
    · rename_i xs ex
      split at q
      · rename_i ns en
        obtain ⟨a, ws, rfl, h1, h2, h3⟩ := R.rd rv ex
        have e := h3.bls en
        subst e
        have z := q.here R.dom (v := .bl (allB ns)) (.inr rfl)
        rw [allB_eq] at z
        exact ⟨a, ns, rfl, h1, z⟩
      · exact q.elim
    · exact q.elim
  · exact q.elim
theorem lk_any {g : GX} : LkC g (rAny g.K) fAny := by
  intro E μ F σ S σc H ds vs Q R r q
  unfold fAny at q
  split at q
  · obtain ⟨v, rfl, rv⟩ := r.one
    split at q
    · rename_i xs ex
      split at q
      · rename_i ns en
        obtain ⟨a, ws, rfl, h1, h2, h3⟩ := R.rd rv ex
        have e := h3.bls en
        subst e
        have z := q.here R.dom (v := .bl (anyB ns)) (.inr rfl)
        rw [anyB_eq] at z
        exact ⟨a, ns, rfl, h1, z⟩
      · exact q.elim
    · exact q.elim
  · exact q.elim
def fMax2 (_ : List SO) (ds : List D) : Res := match ds with
  | [.int i, .int j] => .ok (.int (if j > i then j else i)) false
  | _ => .bad
def fMin2 (_ : List SO) (ds : List D) : Res := match ds with
  | [.int i, .int j] => .ok (.int (if j < i then j else i)) false
  | _ => .bad
theorem lk_max2 {g : GX} : LkC g (fun xs H Q => ∃ i j, xs = [.int i, .int j] ∧ Q (.int (if j > i then j else i)) H) fMax2 := by
  intro E μ F σ S σc H ds vs Q R r q
  unfold fMax2 at q
  split at q
  · obtain ⟨v, w, rfl, rv, rw'⟩ := r.two
    cases rv.int
    cases rw'.int
    exact ⟨_, _, rfl, q.here R.dom (.inr rfl)⟩
  · exact q.elim
theorem lk_min2 {g : GX} : LkC g (fun xs H Q => ∃ i j, xs = [.int i, .int j] ∧ Q (.int (if j < i then j else i)) H) fMin2 := by
  intro E μ F σ S σc H ds vs Q R r q
  unfold fMin2 at q
  split at q
  · obtain ⟨v, w, rfl, rv, rw'⟩ := r.two
    cases rv.int
    cases rw'.int
    exact ⟨_, _, rfl, q.here R.dom (.inr rfl)⟩
  · exact q.elim
def fAbs (_ : List SO) (ds : List D) : Res := match ds with
  | [.int i] => .ok (.int (if i < 0 then -i else i)) false
  | _ => .bad
theorem lk_abs {g : GX} : LkC g (fun xs H Q => ∃ i, xs = [.int i] ∧ Q (.int (if i < 0 then -i else i)) H) fAbs := by
  intro E μ F σ S σc H ds vs Q R r q
  unfold fAbs at q
  split at q
  · obtain ⟨v, rfl, rv⟩ := r.one
    cases rv.int
    exact ⟨_, rfl, q.here R.dom (.inr rfl)⟩
  · exact q.elim
/-- max, min of a list -/
def maxI (i : Int) : List Int → Int
  | [] => i
  | j :: r => maxI (if j > i then j else i) r
def minI (i : Int) : List Int → Int
  | [] => i
  | j :: r => minI (if j < i then j else i) r
theorem maxI_spec : ∀ (r : List Int) (i : Int), (maxI i r = i ∨ maxI i r ∈ r) ∧ i ≤ maxI i r ∧ ∀ y, y ∈ r → y ≤ maxI i r
  | [], i => ⟨.inl rfl, Int.le_refl _, fun y h => (nomatch h)⟩
  | j :: r, i => by
    obtain ⟨h1, h2, h3⟩ := maxI_spec r (if j > i then j else i)
    have e : maxI i (j :: r) = maxI (if j > i then j else i) r := rfl
    rw [e]
    refine ⟨?_, ?_, fun y hy => ?_⟩
    · rcases h1 with h1 | h1
      · rw [h1]
        split
        · exact .inr (List.mem_cons_self ..)
        · exact .inl rfl
      · exact .inr (List.mem_cons_of_mem _ h1)
    · refine Int.le_trans ?_ h2
      split <;> omega
    · rcases List.mem_cons.mp hy with rfl | hy
      · refine Int.le_trans ?_ h2
        split <;> omega
      · exact h3 y hy
theorem minI_spec : ∀ (r : List Int) (i : Int), (minI i r = i ∨ minI i r ∈ r) ∧ minI i r ≤ i ∧ ∀ y, y ∈ r → minI i r ≤ y
  | [], i => ⟨.inl rfl, Int.le_refl _, fun y h => (nomatch h)⟩
  | j :: r, i => by
    obtain ⟨h1, h2, h3⟩ := minI_spec r (if j < i then j else i)
    have e : minI i (j :: r) = minI (if j < i then j else i) r := rfl
    rw [e]
    refine ⟨?_, ?_, fun y hy => ?_⟩
    · rcases h1 with h1 | h1
      · rw [h1]
        split
        · exact .inr (List.mem_cons_self ..)
        · exact .inl rfl
      · exact .inr (List.mem_cons_of_mem _ h1)
    · refine Int.le_trans h2 ?_
      split <;> omega
    · rcases List.mem_cons.mp hy with rfl | hy
      · refine Int.le_trans h2 ?_
        split <;> omega
      · exact h3 y hy
def fMaxL (S : List SO) (ds : List D) : Res := match ds with
  | [d] => match rdOf S d with
    | some xs => match intsOf xs with
      | some (i :: ns) => .ok (.int (maxI i ns)) false
      | _ => .bad
    | none => .bad
  | _ => .bad
def fMinL (S : List SO) (ds : List D) : Res := match ds with
  | [d] => match rdOf S d with
    | some xs => match intsOf xs with
      | some (i :: ns) => .ok (.int (minI i ns)) false
      | _ => .bad
    | none => .bad
  | _ => .bad
theorem lk_maxL {g : GX} : LkC g (rMax g.K) fMaxL := by
  intro E μ F σ S σc H ds vs Q R r q
  unfold fMaxL at q
  split at q
  · obtain ⟨v, rfl, rv⟩ := r.one
    split at q
    · rename_i xs ex
      split at q
      · rename_i i ns en
        obtain ⟨a, ws, rfl, h1, h2, h3⟩ := R.rd rv ex
        have e := h3.ints en
        subst e
        refine ⟨a, i :: ns, rfl, h1, Nat.succ_pos _, fun m hm hle => ?_⟩
        obtain ⟨k1, k2, k3⟩ := maxI_spec ns i
        have e2 : m = maxI i ns := by
          refine Int.le_antisymm ?_ (hle _ ?_)
          · rcases List.mem_cons.mp hm with rfl | hm
            · exact k2
            · exact k3 m hm
          · rcases k1 with k1 | k1
            · rw [k1]; exact List.mem_cons_self ..
            · exact List.mem_cons_of_mem _ k1
        rw [e2]
        exact q.here R.dom (.inr rfl)
      · exact q.elim
    · exact q.elim
  · exact q.elim
theorem lk_minL {g : GX} : LkC g (rMin g.K) fMinL := by
  intro E μ F σ S σc H ds vs Q R r q
  unfold fMinL at q
  split at q
  · obtain ⟨v, rfl, rv⟩ := r.one
    split at q
    · rename_i xs ex
      split at q
      · rename_i i ns en
        obtain ⟨a, ws, rfl, h1, h2, h3⟩ := R.rd rv ex
        have e := h3.ints en
        subst e
        refine ⟨a, i :: ns, rfl, h1, Nat.succ_pos _, fun m hm hle => ?_⟩
        obtain ⟨k1, k2, k3⟩ := minI_spec ns i
        have e2 : m = minI i ns := by
          refine Int.le_antisymm (hle _ ?_) ?_
          · rcases k1 with k1 | k1
            · rw [k1]; exact List.mem_cons_self ..
            · exact List.mem_cons_of_mem _ k1
          · rcases List.mem_cons.mp hm with rfl | hm
            · exact k2
            · exact k3 m hm
        rw [e2]
        exact q.here R.dom (.inr rfl)
      · exact q.elim
    · exact q.elim
  · exact q.elim
end HC

set_option maxRecDepth 100000
namespace HC
open PySem PySem.Spec L2
open PyProof.Rows hiding St

/-! ## what is walked -/
/-- the items, told ahead (st) or as the store stands at each turn (dy) -/
inductive ResI where
  | st (ds : List D) | dy (it : List SO → Option (List D)) | ex (c : Nat) (as : List D) | bad
abbrev CI := Sl → List SO → ResI
structure Later (μ : List Addr) (F : FZ) (H : Hp) (μ' : List Addr) (F' : FZ) (H' : Hp) : Prop where
  mu : ∃ ν, μ' = μ ++ ν ∧ ∀ a, a ∈ ν → H a = none
  up : ∀ a, F a → F' a
  keep : ∀ a o, a ∉ μ → H a = some o → H' a = some o
  dom : ∀ a, H' a = none → H a = none
  nw : ∀ a, F' a → F a ∨ H a = none
theorem Later.refl {μ : List Addr} {F : FZ} {H : Hp} : Later μ F H μ F H := ⟨⟨[], by simp, fun a h => (nomatch h)⟩, fun _ h => h, fun _ _ _ h => h, fun _ h => h, fun _ h => .inl h⟩
theorem Later.trans {μ μ1 μ2 : List Addr} {F F1 F2 : FZ} {H H1 H2 : Hp} (a : Later μ F H μ1 F1 H1) (b : Later μ1 F1 H1 μ2 F2 H2) : Later μ F H μ2 F2 H2 := by
  obtain ⟨ν, e, n⟩ := a.mu
  obtain ⟨ν', e', n'⟩ := b.mu
  refine ⟨⟨ν ++ ν', by rw [e', e, List.append_assoc], fun x h => ?_⟩, fun x h => b.up _ (a.up _ h), fun x o h e2 => b.keep x o (fun hm => ?_) (a.keep x o h e2), fun x h => a.dom x (b.dom x h), fun x h => (b.nw x h).elim (a.nw x) fun h => .inr (a.dom x h)⟩
  · rcases List.mem_append.mp h with h | h
    · exact n x h
    · exact a.dom x (n' x h)
  · rw [e] at hm
    rcases List.mem_append.mp hm with hm | hm
    · exact h hm
    · rw [n x hm] at e2; cases e2
theorem Later.of {μ : List Addr} {F F' : FZ} {H H' : Hp} (s : Same H H') (x : FX F H F' H') : Later μ F H μ F' H' := ⟨⟨[], by simp, fun a h => (nomatch h)⟩, x.up, fun a o _ h => s a o h, fun a h => same_none s h, x.nw⟩
/-- what an iterator of the machine yields, from the items of the data -/
def Wk (g : GX) (μ : List Addr) (F : FZ) (H : Hp) (J : It) (it : List SO → Option (List D)) : Prop :=
  ∀ (μ' : List Addr) (F' : FZ) (σ' : Sl) (S' : List SO) (σc' : St) (H' : Hp), Later μ F H μ' F' H' → Rel g μ' F' σ' S' σc' H' → ∀ ds, it S' = some ds → ds.length ≤ sizeLine ∧ ∀ i : Nat,
    (i < ds.length → J.go i H') ∧ (∀ x H2, J.yld i H' x H2 → Same H' H2 ∧ ∀ d, ds[i]? = some d → RepV g H2 F' μ' d x) ∧ (ds.length ≤ i → J.stop i H')
theorem Wk.later {g : GX} {μ μ1 : List Addr} {F F1 : FZ} {H H1 : Hp} {J : It} {it : List SO → Option (List D)} (w : Wk g μ F H J it) (l : Later μ F H μ1 F1 H1) : Wk g μ1 F1 H1 J it :=
  fun μ' F' σ' S' σc' H' l' R => w μ' F' σ' S' σc' H' (l.trans l') R
def OkI (g : GX) (E : XK) (H : Hp) (F : FZ) (μ : List Addr) (r : ResI) (R : It → Hp → Prop) : Prop := match r with
  | .st ds => ∀ J H' F', Same H H' → FX F H F' H' → Wk g μ F' H' J (fun _ => some ds) → R J H'
  | .dy it => ∀ J H' F', Same H H' → FX F H F' H' → Wk g μ F' H' J it → R J H'
  | .ex c as => ∀ cls dx H' F', Same H H' → FX F H F' H' → RepX g H' F' μ c as cls dx → E cls dx H'
  | .bad => False
def TIt (g : GX) (W : WX) (f : CI) : TI := fun σc H R => ∃ μ F σ S, Rel g μ F σ S σc H ∧ OkI g (wat W σc) H F μ (f σ S) R
/-- a value that is walked -/
def iVal (f : CE) : CI := fun σ S => match f σ S with
  | .ok (.tup xs) _ => .st xs
  | .ok (.lst xs) _ => .st xs
  | .ok (.rol xs) _ => .st xs
  | .ok (.loc n) _ => match lstOf S (.loc n) with
    | some _ => .dy fun S => lstOf S (.loc n)
    | none => .bad
  | .ok _ _ => .bad
  | .ex c as => .ex c as
  | .bad => .bad
section
variable {g : GX} {μ μ' : List Addr} {F F' : FZ} {σ : Sl} {S : List SO} {σc : St} {H H' : Hp} {a : Addr} {xs : List V}
theorem Rel.no_mu (R : Rel g μ F σ S σc H) {o : HO} (h : H a = some o) (no : (∀ ys, o ≠ .lst ys) ∧ (∀ ys, o ≠ .dK ys) ∧ (∀ ys, o ≠ .dT ys) ∧ ∀ C dx fs, o ≠ .ins C dx fs) : a ∉ μ := fun hm => by
  obtain ⟨n, o2, _, _, ro⟩ := R.at_mu hm
  cases o2 with
  | lst zs =>
    obtain ⟨vs, q, _⟩ := ro
    rw [h] at q
    exact no.1 _ (Option.some.inj q)
  | dct ks ws =>
    obtain ⟨vs, _, q⟩ := ro
    rcases q with ⟨kvs, q, _⟩ | ⟨kvs, q, _⟩
    · rw [h] at q
      exact no.2.1 _ (Option.some.inj q)
    · rw [h] at q
      exact no.2.2.1 _ (Option.some.inj q)
  | ins c ws =>
    obtain ⟨dx, fs, vs, q, _⟩ := ro
    rw [h] at q
    exact no.2.2.2 _ _ _ (Option.some.inj q)
theorem Later.tup (R : Rel g μ F σ S σc H) (l : Later μ F H μ' F' H') (h : H a = some (.tup xs)) : H' a = some (.tup xs) :=
  l.keep a _ (R.no_mu h ⟨fun _ z => (nomatch z), fun _ z => (nomatch z), fun _ z => (nomatch z), fun _ _ _ z => (nomatch z)⟩) h
theorem Later.frz (R : Rel g μ F σ S σc H) (l : Later μ F H μ' F' H') {o : Obj} {u : HO} (h : H a = some (.frz o u)) : H' a = some (.frz o u) :=
  l.keep a _ (R.no_mu h ⟨fun _ z => (nomatch z), fun _ z => (nomatch z), fun _ z => (nomatch z), fun _ _ _ z => (nomatch z)⟩) h
theorem Later.sq (R : Rel g μ F σ S σc H) (l : Later μ F H μ' F' H') (h : SqT g.K H a xs) : SqT g.K H' a xs := by
  rcases h with (h | ⟨ob, h⟩) | h
  · exact .inl (.inl (l.tup R h))
  · exact .inl (.inr ⟨ob, l.frz R h⟩)
  · exact .inr h
theorem Later.rol (R : Rel g μ F σ S σc H) (l : Later μ F H μ' F' H') (h : Rol g.K H a xs) : Rol g.K H' a xs := h.imp (fun ⟨o, h⟩ => ⟨o, l.frz R h⟩) fun h => h
end
section
variable {g : GX} {μ μ' : List Addr} {F F' : FZ} {σ : Sl} {S : List SO} {σc : St} {H H' : Hp}
mutual
theorem RepP.later (R : Rel g μ F σ S σc H) (l : Later μ F H μ' F' H') : ∀ (d : D) (v : V), RepP g H F d v → RepP g H' F' d v
  | .non, _, h => h
  | .bl _, _, h => h
  | .int _, _, h => h
  | .str _, _, h => h
  | .tup ds, v, h => by
    obtain ⟨a, vs, e, h1, h2⟩ := h
    exact ⟨a, vs, e, ⟨l.sq R h1.1, h1.2⟩, RepL.later R l ds vs h2⟩
  | .lst ds, v, h => by
    obtain ⟨a, vs, e, ⟨h1, h2, h3⟩, h4⟩ := h
    exact ⟨a, vs, e, ⟨l.up _ h1, l.keep _ _ (fun hm => R.ap _ hm h1) h2, h3⟩, RepL.later R l ds vs h4⟩
  | .rol ds, v, h => by
    obtain ⟨a, vs, e, h1, h2⟩ := h
    exact ⟨a, vs, e, ⟨l.rol R h1.1, h1.2⟩, RepL.later R l ds vs h2⟩
  | .dct ks ds, v, h => by
    obtain ⟨a, vs, e, h1, h2, h3⟩ := h
    refine ⟨a, vs, e, l.up _ h1, RepL.later R l ds vs h2, ?_⟩
    have k : ∀ o, Rd H a o → Rd H' a o := fun o h => h.elim (fun h => .inl (l.keep _ _ (fun hm => R.ap _ hm h1) h)) fun ⟨ob, h⟩ => .inr ⟨ob, l.keep _ _ (fun hm => R.ap _ hm h1) h⟩
    rcases h3 with ⟨kvs, q1, q2⟩ | ⟨kvs, q1, q2⟩
    · exact .inl ⟨kvs, k _ q1, q2⟩
    · exact .inr ⟨kvs, k _ q1, q2⟩
  | .obj c ds, v, h => by
    obtain ⟨a, dx, fs, vs, e, h1, h2, h3, h4, h5⟩ := h
    exact ⟨a, dx, fs, vs, e, l.up _ h1, l.keep _ _ (fun hm => R.ap _ hm h1) h2, h3, h4, RepL.later R l ds vs h5⟩
  | .loc _, _, h => h
  | .err, _, h => h
theorem RepL.later (R : Rel g μ F σ S σc H) (l : Later μ F H μ' F' H') : ∀ (ds : List D) (vs : List V), RepL g H F ds vs → RepL g H' F' ds vs
  | [], _, h => h
  | d :: ds, vs, h => by
    obtain ⟨v, ws, e, h1, h2⟩ := h
    exact ⟨v, ws, e, RepP.later R l d v h1, RepL.later R l ds ws h2⟩
end

theorem RepV.later (R : Rel g μ F σ S σc H) (l : Later μ F H μ' F' H') {d : D} {v : V} (r : RepV g H F μ d v) : RepV g H' F' μ' d v := by
  rcases r with ⟨n, a, e, h, e2⟩ | r
  · obtain ⟨ν, en, _⟩ := l.mu
    exact .inl ⟨n, a, e, by rw [en, List.getElem?_append_left (List.getElem?_eq_some_iff.mp h).1]; exact h, e2⟩
  · exact .inr (RepP.later R l d v r)
theorem RepVs.later (R : Rel g μ F σ S σc H) (l : Later μ F H μ' F' H') {ds : List D} {vs : List V} (r : RepVs g H F μ ds vs) : RepVs g H' F' μ' ds vs := Paired.mapP r fun _ _ => RepV.later R l
theorem RepX.later (R : Rel g μ F σ S σc H) (l : Later μ F H μ' F' H') {c : Nat} {as : List D} {cls : Value} {dx : Option Addr} (r : RepX g H F μ c as cls dx) : RepX g H' F' μ' c as cls dx := by
  obtain ⟨h1, x, vs, h2, h3, fs, h4, h5⟩ := r
  exact ⟨h1, x, vs, h2, RepVs.later R l h3, fs, l.keep x _ (R.no_mu h4 ⟨fun _ z => (nomatch z), fun _ z => (nomatch z), fun _ z => (nomatch z), fun _ _ _ z => (nomatch z)⟩) h4, h5⟩
theorem wk_list {a : Addr} {it : List SO → Option (List D)}
    (h : ∀ (μ' : List Addr) (F' : FZ) (σ' : Sl) (S' : List SO) (σc' : St) (H' : Hp), Later μ F H μ' F' H' → Rel g μ' F' σ' S' σc' H' → ∀ ds, it S' = some ds → ∃ vs, SqL g.K H' a vs ∧ vs.length ≤ sizeLine ∧ RepVs g H' F' μ' ds vs) : Wk g μ F H (Itl g.K a) it :=
  fun μ' F' σ' S' σc' H' l R ds e => by
    obtain ⟨vs, h1, hz, h2⟩ := h μ' F' σ' S' σc' H' l R ds e
    have hl := h2.length
    refine ⟨by rw [hl]; exact hz, fun i => ?_⟩
    refine ⟨fun hi => ⟨vs, vs[i]'(by omega), h1, List.getElem?_eq_getElem (by omega)⟩, fun x H2 hy => ?_, fun hi => ⟨vs, h1, by omega⟩⟩
    obtain ⟨e2, hx⟩ := hy
    subst e2
    refine ⟨Same.refl _, fun d hd => ?_⟩
    obtain ⟨v, hv, rv⟩ := h2.get hd
    have hx := hx vs h1
    rw [hv] at hx
    cases hx
    exact rv
theorem wk_tup {a : Addr} {it : List SO → Option (List D)}
    (h : ∀ (μ' : List Addr) (F' : FZ) (σ' : Sl) (S' : List SO) (σc' : St) (H' : Hp), Later μ F H μ' F' H' → Rel g μ' F' σ' S' σc' H' → ∀ ds, it S' = some ds → ∃ vs, SqT g.K H' a vs ∧ vs.length ≤ sizeLine ∧ RepVs g H' F' μ' ds vs) : Wk g μ F H (Itt g.K a) it :=
  fun μ' F' σ' S' σc' H' l R ds e => by
    obtain ⟨vs, h1, hz, h2⟩ := h μ' F' σ' S' σc' H' l R ds e
    have hl := h2.length
    refine ⟨by rw [hl]; exact hz, fun i => ?_⟩
    refine ⟨fun hi => ⟨vs, vs[i]'(by omega), h1, List.getElem?_eq_getElem (by omega)⟩, fun x H2 hy => ?_, fun hi => ⟨vs, h1, by omega⟩⟩
    obtain ⟨e2, hx⟩ := hy
    subst e2
    refine ⟨Same.refl _, fun d hd => ?_⟩
    obtain ⟨v, hv, rv⟩ := h2.get hd
    have hx := hx vs h1
    rw [hv] at hx
    cases hx
    exact rv
/-- a value's list or tuple, for as long as it stands -/
theorem Wk.val (R : Rel g μ F σ S σc H) {d : D} {v : V} (r : RepV g H F μ d v) : match d with
    | .tup xs => ∃ a vs, v = .ref a ∧ SqT g.K H a vs ∧ Wk g μ F H (Itt g.K a) (fun _ => some xs)
    | .lst xs => ∃ a vs, v = .ref a ∧ SqL g.K H a vs ∧ Wk g μ F H (Itl g.K a) (fun _ => some xs)
    | .rol xs => ∃ a vs, v = .ref a ∧ SqL g.K H a vs ∧ Wk g μ F H (Itl g.K a) (fun _ => some xs)
    | .loc n => (∃ xs, lstOf S (.loc n) = some xs) → ∃ a vs, v = .ref a ∧ SqL g.K H a vs ∧ Wk g μ F H (Itl g.K a) (fun S => lstOf S (.loc n))
    | _ => True := by
  cases d with
  | tup xs =>
    obtain ⟨a, vs, rfl, h1, h2, h3⟩ := r.tup (xs := xs) rfl
    exact ⟨a, vs, rfl, h1, wk_tup fun μ' F' σ' S' σc' H' l R' ds e => by
      cases (show some xs = some ds from e)
      exact ⟨vs, l.sq R h1, h2, (RepL.later R l _ _ h3).vs⟩⟩
  | lst xs =>
    obtain ⟨a, vs, rfl, ⟨k1, k2, k3⟩, h2⟩ := r.pure rfl
    exact ⟨a, vs, rfl, SqL.of k2, wk_list fun μ' F' σ' S' σc' H' l R' ds e => by
      cases (show some xs = some ds from e)
      exact ⟨vs, SqL.of (l.keep _ _ (fun hm => R.ap _ hm k1) k2), k3, (RepL.later R l _ _ h2).vs⟩⟩
  | rol xs =>
    obtain ⟨a, vs, rfl, ⟨k1, k2⟩, h2⟩ := r.pure rfl
    exact ⟨a, vs, rfl, k1.sq, wk_list fun μ' F' σ' S' σc' H' l R' ds e => by
      cases (show some xs = some ds from e)
      exact ⟨vs, (l.rol R k1).sq, k2, (RepL.later R l _ _ h2).vs⟩⟩
  | loc n =>
    rintro ⟨xs, ex⟩
    obtain ⟨a, vs, rfl, h1, h2, h3⟩ := R.lst r ex
    refine ⟨a, vs, rfl, SqL.of h1, wk_list fun μ' F' σ' S' σc' H' l R' ds e => ?_⟩
    obtain ⟨b, ws, e2, k1, k2, k3⟩ := R'.lst (RepV.later R l r) e
    cases e2
    exact ⟨ws, SqL.of k1, k2, k3⟩
  | _ => trivial
end
section
variable {X : Cx} {g : GX} {W : WX} {tg e : Expr} {f : CE} {es : List Expr} {fa : CA} {p pos : Pos}
theorem it_val (he : PE X e (T g W f)) (hg : X.K = g.K := by rfl) : PI X tg e (TIt g W (iVal f)) := by
  have key : PI X tg e (fun σ H R => iTup X.K (T g W f) σ H R ∨ iList X.K (T g W f) σ H R) := ⟨fun pins s σ H R I h => h.elim ((pi_tup he).run pins s σ H R I) ((pi_list he).run pins s σ H R I)⟩
  refine key.hc fun σc H R ⟨μ, F, σ, S, Rl, q⟩ => ?_
  unfold iVal at q
  have bad : ∀ {A : Prop}, OkI g (wat W σc) H F μ .bad R → A := fun h => h.elim
  cases ef : f σ S with
  | bad => rw [ef] at q; exact bad q
  | ex c as => rw [ef] at q; exact .inl ⟨μ, F, σ, S, Rl, by rw [ef]; exact q⟩
  | ok d fr =>
    rw [ef] at q
    cases d with
    | tup xs =>
      refine .inl ⟨μ, F, σ, S, Rl, ?_⟩
      rw [ef]
      intro v H1 F1 s1 x1 r1
      obtain ⟨F2, x2, u2, rx⟩ := r1.frz x1
      obtain ⟨a, vs, rfl, h1, w⟩ := Wk.val (Rl.mono s1 x2) rx
      rw [hg]
      exact ⟨a, rfl, ⟨vs, h1⟩, q _ H1 F2 s1 x2 w⟩
    | lst xs =>
      refine .inr ⟨μ, F, σ, S, Rl, ?_⟩
      rw [ef]
      intro v H1 F1 s1 x1 r1
      obtain ⟨F2, x2, u2, rx⟩ := r1.frz x1
      obtain ⟨a, vs, rfl, h1, w⟩ := Wk.val (Rl.mono s1 x2) rx
      rw [hg]
      exact ⟨a, rfl, ⟨vs, h1⟩, q _ H1 F2 s1 x2 w⟩
    | rol xs =>
      refine .inr ⟨μ, F, σ, S, Rl, ?_⟩
      rw [ef]
      intro v H1 F1 s1 x1 r1
      obtain ⟨F2, x2, u2, rx⟩ := r1.frz x1
      obtain ⟨a, vs, rfl, h1, w⟩ := Wk.val (Rl.mono s1 x2) rx
      rw [hg]
      exact ⟨a, rfl, ⟨vs, h1⟩, q _ H1 F2 s1 x2 w⟩
    | loc n =>
      cases el : lstOf S (.loc n) with
      | none =>
        have q : OkI g (wat W σc) H F μ (match lstOf S (.loc n) with | some _ => .dy fun S => lstOf S (.loc n) | none => .bad) R := q
        rw [el] at q
        exact bad q
      | some xs =>
      have q : OkI g (wat W σc) H F μ (match lstOf S (.loc n) with | some _ => .dy fun S => lstOf S (.loc n) | none => .bad) R := q
      rw [el] at q
      refine .inr ⟨μ, F, σ, S, Rl, ?_⟩
      rw [ef]
      intro v H1 F1 s1 x1 r1
      obtain ⟨F2, x2, u2, rx⟩ := r1.frz x1
      have R1 := Rl.mono s1 x2
      obtain ⟨a, vs, rfl, h1, w⟩ := Wk.val R1 rx ⟨xs, el⟩
      rw [hg]
      exact ⟨a, rfl, ⟨vs, h1⟩, q _ H1 F2 s1 x2 w⟩
    | _ => exact bad q
end
end HC

set_option maxRecDepth 100000
/-! enumerate over a tuple -/
namespace HC
section
open PySem
open AutoSeq1 (wpAny_loadPart')
open Sem (wp)
theorem enumT_new (a : Addr) (items : Array Value) (ob : Obj) (hcl : ob.cls = .type "tuple") (n : Nat) (hda : ob.data = .seq items n) :
    Meets (Builtin.«enumerate.__new__» ⟨[.type "enumerate", .ref a], []⟩) (fun _ R s => s.heap.get? a = some ob ∧
      R (.ok (.ret (.ref (s.heap.push { cls := .type "tuple_iterator", data := .fields #[.ref a, .int 0 0] }).objs.size)))
        { s with heap := (s.heap.push { cls := .type "tuple_iterator", data := .fields #[.ref a, .int 0 0] }).push { cls := .type "enumerate", data := .fields #[.none, .bool false, .ref s.heap.objs.size, rawInt 0, .none, .none] } }) :=
  .of_wp fun prog w A R s hh => by
    obtain ⟨hp, gg, dd, tk, os⟩ := s
    obtain ⟨hl, h⟩ := hh
    have hsub := sub_enumerate
    have hT : Heap.IsTuple (Shared.heap ⟨hp, gg, dd, tk, os⟩) a items := ⟨_, hl, hcl, n, hda⟩
    wp_walk using wpAny_loadPart' hl
    refine wpAny_stack_any fun st => wpAny_pure ?_
    split
    · rename_i c _ _ _ _ _
      cases (c == Value.type "enumerate")
      · wp_walk using wpAny_loadPart' hl, wpAny_pyIter_tuple hT
        exact ⟨_, rfl, h⟩
      · wp_walk using wpAny_loadPart' hl, wpAny_pyIter_tuple hT
        exact ⟨_, rfl, h⟩
    · wp_walk using wpAny_loadPart' hl, wpAny_pyIter_tuple hT
      exact ⟨_, rfl, h⟩
theorem enumT_call {prog : Program} {w : World} {A : Around} {E : Value → Shared → Prop} {s : Shared} {l : Addr} {items : Array Value} {Q : Value → Shared → Prop} (hL : s.heap.IsTuple l items)
    (h : ∀ h', IsEnum h' (s.heap.objs.size + 1) s.heap.objs.size 0 .none → h'.IsTupleIter s.heap.objs.size l 0 → h'.objs.size = s.heap.objs.size + 2 →
      (∀ b o, s.heap.get? b = some o → h'.get? b = some o) → Q (.ref (s.heap.objs.size + 1)) { s with heap := h' }) :
    wpAny (model prog w) A (call (.type "enumerate") [.ref l]) Q E s := by
  obtain ⟨ob, hl, hc, n, hd⟩ := hL
  refine callType_new F.called_enumerate (by decide) (F.typeCall_enumerate_1 _) (F.newCall_enumerate_1 _) (fun obj => F.args_object_init_2 obj _) F.entry_enumerate_new
    (enumT_new l items ob hc n hd) ⟨hl, ?_⟩
  have hz : (s.heap.push { cls := .type "tuple_iterator", data := .fields #[.ref l, .int 0 0] }).objs.size = s.heap.objs.size + 1 := Heap.size_push ..
  show _ ∧ _
  rw [hz]
  have he : IsEnum ((s.heap.push { cls := .type "tuple_iterator", data := .fields #[.ref l, .int 0 0] }).push
      { cls := .type "enumerate", data := .fields #[.none, .bool false, .ref s.heap.objs.size, rawInt 0, .none, .none] }) (s.heap.objs.size + 1) s.heap.objs.size 0 .none := by
    have q := Heap.get?_push_size (s.heap.push { cls := .type "tuple_iterator", data := .fields #[.ref l, .int 0 0] })
      (o := { cls := .type "enumerate", data := .fields #[.none, .bool false, .ref s.heap.objs.size, rawInt 0, .none, .none] }) rfl
    rw [hz] at q
    exact q
  exact ⟨⟨_, he, rfl⟩, h _ he ⟨_, Heap.get?_push_of_some _ (Heap.get?_push_size _ rfl), rfl, rfl⟩ (by rw [Heap.size_push, hz]) fun b o x => Heap.get?_push_of_some _ (Heap.get?_push_of_some _ x)⟩
theorem enumT_end {prog : Program} {w : World} {A : Around} {E : Value → Shared → Prop} {s : Shared} {e it l : Addr} {i : Nat} {items : Array Value} {old : Value} {Q : Option Value → Shared → Prop} (hh : A.handled = none)
    (he : IsEnum s.heap e it i old) (hit : s.heap.IsTupleIter it l i) (hl : s.heap.IsTuple l items) (hx : items[i]? = none)
    (hQ : ∀ h', Heap.ExtBut it s.heap h' → Q none { s with heap := h' }) : wpAny (model prog w) A (pyNext (.ref e)) Q E s := by
  have hT : s.TypeIs (.ref e) "enumerate" := ⟨_, he, rfl⟩
  unfold pyNext
  refine wpAny_bind (wpAny_attempt (wpAny_callSpecial?_slot (name := Str.ofString "__next__") hT F.slot_enumerate_next
    (wpAny_call_entry F.slot_enumerate_next hT F.entry_enumerate_next ?_ (F.args_enumerate_next_1 _))))
  show wpAny _ _ (field (.ref e) 2 >>= _) _ _ _
  refine wpAny_bind (wpAny_field he rfl (x := .ref it) rfl ?_)
  refine wpAny_bind (wpAny_nextOf_tuple_end hh hit hl hx fun h' x he' hx' => ?_)
  obtain ⟨o, ho, hc⟩ := hx'
  exact wpAny_bind (wpAny_isInstance (T := "StopIteration") (b := true) ⟨o, ho, hc⟩ isSubtype_stop (wpAny_pure (hQ _ he')))
end
open PySem PySem.Spec L2
open PyProof.Rows hiding St
/-- the tuple at a, each item in a new pair -/
def IteT (K : PySem.W.Frag) (a : Addr) : It :=
  ⟨fun i H => ∃ (xs : List V) (x : V), SqT K H a xs ∧ xs[i]? = some x, fun i H v H' => ∃ p x, v = .ref p ∧ H p = none ∧ H' = upd H p (.tup [.int (i : Nat), x]) ∧ ∀ xs, SqT K H a xs → xs[i]? = some x, fun i H => ∃ xs : List V, SqT K H a xs ∧ xs.length ≤ i⟩
theorem turn_enumT {P : Program} {w : World} {K : PySem.W.Frag} {elts : List Expr} {kk : Nat} {tpos : Pos} (a e it : Addr) :
    Turn P w K (.Tuple elts kk tpos) (IteT K a) [e, it] e (fun i h => (∃ old, IsEnum h e it ((i : Nat) : Int) old) ∧ h.IsTupleIter it a i ∧ e ≠ it) where
  mem := by simp
  obj := fun i h st b hb => by
    obtain ⟨⟨old, he⟩, ⟨o, ho, hc, hd⟩, _⟩ := st
    rcases (by simpa using hb : b = e ∨ b = it) with z | z
    · rw [z]; exact ⟨_, he, fun v q => nomatch q⟩
    · rw [z]; exact ⟨o, ho, fun v q => by rw [hd] at q; cases q⟩
  keep := fun i h h' st k => let ⟨⟨old, he⟩, hi, hne⟩ := st; ⟨⟨old, k e (by simp) _ he⟩, hi.at fun o q => k it (by simp) o q, hne⟩
  item := by
    intro X hP hw hK hc i pins s σ H E I hf st hg
    subst hP hw hK
    obtain ⟨⟨old, he⟩, hit, hne⟩ := st
    obtain ⟨xs, x, hq, hx⟩ := hg
    obtain ⟨its, rv, p, hz⟩ := I.tuple hq
    obtain ⟨u, hu, ru⟩ := rv.get hx
    have hel : e < s.heap.objs.size := Heap.lt_size he
    have hil : it < s.heap.objs.size := let ⟨_, q, _⟩ := hit; Heap.lt_size q
    have hae : a ≠ e := fun z => by
      obtain ⟨o, ho, hcl, _⟩ := p
      rw [z, he] at ho
      cases ho
      simp at hcl
    have hai : a ≠ it := fun z => by
      obtain ⟨o, ho, hcl, _⟩ := p
      obtain ⟨o2, ho2, hcl2, _⟩ := id hit
      rw [z, ho2] at ho
      cases ho
      rw [hcl2] at hcl
      simp at hcl
    have pt : s.heap.IsTuple a its.toArray := p
    have hi : i < its.toArray.size := by
      have h1 := (List.getElem?_eq_some_iff.mp hu).1
      simpa using h1
    have De : Draws X.prog X.w X.A.in1 it [it, a] its.toArray.size (fun i v => its.toArray[i]? = some v) (fun i h => h.IsTupleIter it a i ∧ h.IsTuple a its.toArray)   := Draws.tuple (A := X.A.in1) (I.ok.hd hc) it a hai its.toArray
    refine wpAny_pyNext_enum_itemD De he ⟨hit, pt⟩ hi hne (by
      intro z
      rcases (by simpa using z : e = it ∨ e = a) with z | z
      · exact hne z
      · exact hae z.symm) fun y h' tk hy ho hit' hT hsz hk => ?_
    have ey : y = u := by
      have hu' : its.toArray[i]? = some u := by simpa using hu
      exact Option.some.inj (hy.symm.trans hu')
    subst ey
    refine ⟨_, rfl, wpAny_letOwnedTupleGo_enum (s := { s with heap := h', toks := tk + 1 }) ho fun h'' he' sb => ?_⟩
    have hT2 : h''.get? s.heap.objs.size = some { cls := .type "tuple", data := .seq #[.int i tk, y] } := (sb.2 _ (Nat.ne_of_gt hel)).trans hT
    have new : ObjOk X.prog X.w (upd H s.heap.objs.size (.tup [.int (i : Nat), x])) h'' s.heap.objs.size (.tup [.int (i : Nat), x]) :=
      ⟨by show 2 ≤ sizeLine; decide, [.int i tk, y], .cons ⟨_, rfl⟩ (.cons ru .nil), ⟨_, hT2, rfl, _, rfl⟩⟩
    have I1 : Inv X pins σ (upd H s.heap.objs.size (.tup [.int (i : Nat), x])) { s with heap := h'', toks := tk + 1 } :=
      I.turnedNew (ch := [e, it]) (fun b ob hb q => (sb.2 b (fun z => hb (by simp [z]))).trans (hk b ob (fun z => hb (by simp [z])) (fun z => hb (by simp [z])) q)) hf (Nat.le_refl _) new
    refine ⟨.ref s.heap.objs.size, _, I1, rfl, ⟨_, x, rfl, I.hok.fresh (Nat.le_refl _), rfl, fun ys hy => by rw [I.tuple_inj hy hq]; exact hx⟩, ⟨⟨y, ?_⟩, hit'.1.at fun o q => (sb.2 it (Ne.symm hne)).trans q, hne⟩, fun b hb => ?_⟩
    · have e1 : ((i + 1 : Nat) : Int) = (i : Int) + 1 := by omega
      rw [e1]
      exact he'
    · have hb' : b < s.heap.objs.size := by
        rcases (by simpa using hb : b = e ∨ b = it) with z | z
        · rw [z]; exact hel
        · rw [z]; exact hil
      rw [upd_ne (Nat.ne_of_lt hb')]
      exact (hf b hb).1
  done := by
    intro X hP hw hK hc i pins s σ H E I hf st hg
    subst hP hw hK
    obtain ⟨⟨old, he⟩, hit, hne⟩ := st
    obtain ⟨xs, hq, hx⟩ := hg
    obtain ⟨its, rv, p, hz⟩ := I.tuple hq
    obtain ⟨f0, f1, f2, f3, f4, f5⟩ := hf it (by simp)
    have hl := rv.length
    have hai : a ≠ it := fun z => by
      obtain ⟨o, ho, hcl, _⟩ := p
      obtain ⟨o2, ho2, hcl2, _⟩ := id hit
      rw [z, ho2] at ho
      cases ho
      rw [hcl2] at hcl
      simp at hcl
    have pt : s.heap.IsTuple a its.toArray := p
    exact enumT_end (I.ok.hd hc) he hit pt (by simp; omega) fun h' eb => ⟨rfl, I.turned (t' := s.toks) (fun b o hb q => eb b o hb q) f0 f1 f3 f4 f5⟩
  self := fun A i s Q E st h => let ⟨⟨_, he⟩, _⟩ := st; wpAny_pyIter_enum he h
end HC

set_option maxRecDepth 100000
namespace HC
open PySem PySem.Spec L2
open PyProof.Rows hiding St
def iEnumT (K : PySem.W.Frag) (ta : TA) : TI := fun σ H R => ta σ H fun vs H1 => ∃ a xs, vs = [.ref a] ∧ SqT K H1 a xs ∧ R (IteT K a) H1
theorem pi_enumT {X : Cx} {e : Expr} {ta : TA} {p pos tpos : Pos} {elts : List Expr} {kk : Nat} (hg : Gl X "enumerate") (hm : X.mg "enumerate" = none) (ha : PA X [e] ta) (hs : starEach [e] X.env = [(false, eval e X.env)] := by rfl) :
    PI X (.Tuple elts kk tpos) (.Call (.Name "enumerate" p) [e] [] pos) (iEnumT X.K ta) := by
  refine ⟨fun pins s σ H R I h => Call_ (ld_blt I hg hm boot_enumerate (PyProof.Rows.callWith_type1 (thn (ha.run pos pins s σ H _ I h) fun us s1 ⟨vs, H1, I1, r1, q1⟩ => ?_) hs rfl))⟩
  obtain ⟨a, xs, ex, hq, q⟩ := q1
  subst ex
  cases r1 with
  | cons r rr =>
    cases rr
    cases r
    obtain ⟨its, rv, p', hz⟩ := I1.tuple hq
    refine enumT_call (show s1.heap.IsTuple a its.toArray from p') fun h' he hit hsz hk => wpAny_pyIter_enum he ?_
    have I2 : Inv X pins σ H1 { s1 with heap := h' } := I1.kept (t' := s1.toks) hk
    refine ⟨s1.heap.objs.size + 1, [s1.heap.objs.size + 1, s1.heap.objs.size], _, _, H1, rfl, I2, turn_enumT a (s1.heap.objs.size + 1) s1.heap.objs.size, ⟨⟨.none, he⟩, hit, Nat.succ_ne_self _⟩, fun b hb => ?_, q⟩
    have hle : s1.heap.objs.size ≤ b := by
      rcases (by simpa using hb : b = s1.heap.objs.size + 1 ∨ b = s1.heap.objs.size) with z | z
      · rw [z]; exact Nat.le_succ _
      · rw [z]; exact Nat.le_refl _
    exact I1.fpOk hle (I1.hok.fresh hle)

/-! ## ranges -/
def rangeD (lo : Int) : Nat → List D
  | 0 => []
  | n + 1 => .int lo :: rangeD (lo + 1) n
theorem rangeD_len : ∀ (n : Nat) (lo : Int), (rangeD lo n).length = n
  | 0, _ => rfl
  | n + 1, lo => by
    show (rangeD (lo + 1) n).length + 1 = n + 1
    rw [rangeD_len n]
theorem rangeD_get : ∀ (n : Nat) (lo : Int) (i : Nat) (d : D), (rangeD lo n)[i]? = some d → d = .int (lo + i)
  | 0, _, i, d, h => by simp [rangeD] at h
  | n + 1, lo, 0, d, h => by
    simp [rangeD] at h
    rw [← h]
    simp
  | n + 1, lo, i + 1, d, h => by
    have h' : (rangeD (lo + 1) n)[i]? = some d := by simpa [rangeD] using h
    rw [rangeD_get n (lo + 1) i d h']
    congr 1
    omega
def downD (lo : Int) : Nat → List D
  | 0 => []
  | n + 1 => .int lo :: downD (lo - 1) n
theorem downD_len : ∀ (n : Nat) (lo : Int), (downD lo n).length = n
  | 0, _ => rfl
  | n + 1, lo => by
    show (downD (lo - 1) n).length + 1 = n + 1
    rw [downD_len n]
theorem downD_get : ∀ (n : Nat) (lo : Int) (i : Nat) (d : D), (downD lo n)[i]? = some d → d = .int (lo + (i : Nat) * (-1))
  | 0, _, i, d, h => by simp [downD] at h
  | n + 1, lo, 0, d, h => by
    simp [downD] at h
    rw [← h]
    simp
  | n + 1, lo, i + 1, d, h => by
    have h' : (downD (lo - 1) n)[i]? = some d := by simpa [downD] using h
    rw [downD_get n (lo - 1) i d h']
    congr 1
    omega
def inRg (i : Int) : Bool := decide (i < 4611686018427387904) && decide (-4611686018427387904 ≤ i)
theorem inRg_ok {i : Int} (h : inRg i = true) : -(2 ^ 62) ≤ i ∧ i < 2 ^ 62 := by
  unfold inRg at h
  rw [Bool.and_eq_true, decide_eq_true_eq, decide_eq_true_eq] at h
  omega
def rg1 (_ : List SO) (ds : List D) : ResI := match ds with
  | [.int j] => if inRg j && decide (j.toNat ≤ lim) then .st (rangeD 0 j.toNat) else .bad
  | _ => .bad
def rg2 (_ : List SO) (ds : List D) : ResI := match ds with
  | [.int i, .int j] => if inRg i && inRg j && decide ((j - i).toNat ≤ lim) then .st (rangeD i (j - i).toNat) else .bad
  | _ => .bad
def rg3 (_ : List SO) (ds : List D) : ResI := match ds with
  | [.int i, .int j, .int c] => if decide (c = -1) && (inRg i && inRg j) && decide ((i - j).toNat ≤ lim) then .st (downD i (i - j).toNat) else .bad
  | _ => .bad
def iApp (fn : List SO → List D → ResI) (f : CA) : CI := fun σ S => match f σ S with
  | .ok ds => fn S ds
  | .ex c as => .ex c as
  | .bad => .bad
theorem OkI.from {g : GX} {E : XK} {H H1 : Hp} {F F1 : FZ} {μ : List Addr} {r : ResI} {R : It → Hp → Prop} (h : OkI g E H F μ r R) (s : Same H H1) (x : FX F H F1 H1) : OkI g E H1 F1 μ r R := by
  cases r with
  | st d => exact fun J H' F' s' x' rr => h J H' F' (s.trans s') (x.trans s x') rr
  | dy d => exact fun J H' F' s' x' rr => h J H' F' (s.trans s') (x.trans s x') rr
  | ex c as => exact fun cls dx H' F' s' x' rr => h cls dx H' F' (s.trans s') (x.trans s x') rr
  | bad => exact h
theorem TL.appI {g : GX} {E : WX} {f : CA} {fn : List SO → List D → ResI} {σc : St} {H : Hp} {R : It → Hp → Prop} {R1 : List V → Hp → Prop} (h : TIt g E (iApp fn f) σc H R)
    (w : ∀ (μ : List Addr) (F : FZ) (σ : Sl) (S : List SO) (H1 : Hp) (ds : List D) (vs : List V), Rel g μ F σ S σc H1 → RepVs g H1 F μ ds vs → OkI g (wat E σc) H1 F μ (fn S ds) R → R1 vs H1) : TL g E f σc H R1 := by
  obtain ⟨μ, F, σ, S, Rl, q⟩ := h
  refine ⟨μ, F, σ, S, Rl, ?_⟩
  unfold iApp at q
  cases ea : f σ S with
  | bad => rw [ea] at q; exact q
  | ex c as => rw [ea] at q; exact q
  | ok ds =>
    rw [ea] at q
    exact fun vs H1 F1 s1 x1 r1 => w μ F1 σ S H1 ds vs (Rl.mono s1 x1) r1 (q.from s1 x1)
section
variable {g : GX} {μ : List Addr} {F : FZ} {σ : Sl} {S : List SO} {σc : St} {H : Hp}
theorem wk_range (lo : Int) (n : Nat) (hn : n ≤ lim) : Wk g μ F H (Itr lo n) (fun _ => some (rangeD lo n)) := fun μ' F' σ' S' σc' H' l R ds e => by
  cases (show some (rangeD lo n) = some ds from e)
  rw [rangeD_len]
  refine ⟨by rw [lim_eq]; exact hn, fun i => ?_⟩
  refine ⟨fun h => h, fun x H2 hy => ?_, fun h => h⟩
  obtain ⟨e2, hx⟩ := hy
  subst e2
  refine ⟨Same.refl _, fun d hd => ?_⟩
  rw [rangeD_get n lo i d hd, hx]
  exact .inr rfl
theorem wk_down (lo : Int) (n : Nat) (hn : n ≤ lim) : Wk g μ F H (Itc lo (-1) n) (fun _ => some (downD lo n)) := fun μ' F' σ' S' σc' H' l R ds e => by
  cases (show some (downD lo n) = some ds from e)
  rw [downD_len]
  refine ⟨by rw [lim_eq]; exact hn, fun i => ?_⟩
  refine ⟨fun h => h, fun x H2 hy => ?_, fun h => h⟩
  obtain ⟨e2, hx⟩ := hy
  subst e2
  refine ⟨Same.refl _, fun d hd => ?_⟩
  rw [downD_get n lo i d hd, hx]
  exact .inr rfl
theorem RepVs.three {d e f : D} {vs : List V} (r : RepVs g H F μ [d, e, f] vs) : ∃ u v w, vs = [u, v, w] ∧ RepV g H F μ d u ∧ RepV g H F μ e v ∧ RepV g H F μ f w := by
  cases r with
  | cons r t =>
    obtain ⟨v, w, rfl, t1, t2⟩ := RepVs.two t
    exact ⟨_, v, w, rfl, r, t1, t2⟩
end
section
variable {X : Cx} {g : GX} {W : WX} {tg a b c : Expr} {f : CA} {p pos : Pos}
theorem it_range1 (hg : Gl X "range") (hm : X.mg "range" = none) (ha : PA X [a] (TL g W f)) (hs : starEach [a] X.env = [(false, eval a X.env)] := by rfl) : PI X tg (.Call (.Name "range" p) [a] [] pos) (TIt g W (iApp rg1 f)) :=
  (pi_range1 hg hm ha hs).hc fun σc H R h => TL.appI h fun μ F σ S H1 ds vs Rl r q => by
    unfold rg1 at q
    split at q
    · rename_i j
      obtain ⟨v, rfl, rv⟩ := r.one
      cases rv.int
      split at q
      · rename_i hj
        rw [Bool.and_eq_true, decide_eq_true_eq] at hj
        obtain ⟨h1, h2⟩ := inRg_ok hj.1
        exact ⟨j, rfl, h1, h2, q _ H1 F (Same.refl _) Rl.fx (wk_range 0 _ hj.2)⟩
      · exact q.elim
    · exact q.elim
theorem it_range2 (hg : Gl X "range") (hm : X.mg "range" = none) (ha : PA X [a, b] (TL g W f)) (hs : starEach [a, b] X.env = [(false, eval a X.env), (false, eval b X.env)] := by rfl) (hs2 : starEach [b] X.env = [(false, eval b X.env)] := by rfl) : PI X tg (.Call (.Name "range" p) [a, b] [] pos) (TIt g W (iApp rg2 f)) :=
  (pi_range2 hg hm ha hs hs2).hc fun σc H R h => TL.appI h fun μ F σ S H1 ds vs Rl r q => by
    unfold rg2 at q
    split at q
    · rename_i i j
      obtain ⟨v, w, rfl, rv, rw'⟩ := r.two
      cases rv.int
      cases rw'.int
      split at q
      · rename_i hj
        rw [Bool.and_eq_true, Bool.and_eq_true, decide_eq_true_eq] at hj
        obtain ⟨h1, h2⟩ := inRg_ok hj.1.1
        obtain ⟨h3, h4⟩ := inRg_ok hj.1.2
        exact ⟨i, j, rfl, ⟨h1, h2, h3, h4⟩, q _ H1 F (Same.refl _) Rl.fx (wk_range i _ hj.2)⟩
      · exact q.elim
    · exact q.elim
theorem it_range3 (hg : Gl X "range") (hm : X.mg "range" = none) (ha : PA X [a, b, c] (TL g W f)) (hs : starEach [a, b, c] X.env = (false, eval a X.env) :: starEach [b, c] X.env := by rfl) (hpl : (backTo pos (starEach [b, c] X.env)).any (·.1) = false := by rfl) : PI X tg (.Call (.Name "range" p) [a, b, c] [] pos) (TIt g W (iApp rg3 f)) :=
  (pi_range3 hg hm ha hs hpl).hc fun σc H R h => TL.appI h fun μ F σ S H1 ds vs Rl r q => by
    unfold rg3 at q
    split at q
    · rename_i i j c
      obtain ⟨u, v, w, rfl, ru, rv, rw'⟩ := r.three
      cases ru.int
      cases rv.int
      cases rw'.int
      split at q
      · rename_i hj
        rw [Bool.and_eq_true, Bool.and_eq_true, Bool.and_eq_true, decide_eq_true_eq, decide_eq_true_eq] at hj
        obtain ⟨⟨rfl, hi, hj⟩, hn⟩ := hj
        obtain ⟨h1, h2⟩ := inRg_ok hi
        obtain ⟨h3, h4⟩ := inRg_ok hj
        exact ⟨i, j, -1, _, rfl, RgC.neg h1 h2 h3 h4, q _ H1 F (Same.refl _) Rl.fx (wk_down i _ hn)⟩
      · exact q.elim
    · exact q.elim
end

/-! ## enumerate, reversed -/
def enumD (i : Int) : List D → List D
  | [] => []
  | d :: r => .tup [.int i, d] :: enumD (i + 1) r
theorem enumD_len : ∀ (ds : List D) (i : Int), (enumD i ds).length = ds.length
  | [], _ => rfl
  | d :: r, i => by
    show (enumD (i + 1) r).length + 1 = r.length + 1
    rw [enumD_len r]
theorem enumD_get : ∀ (ds : List D) (k : Int) (i : Nat) (d : D), (enumD k ds)[i]? = some d → ∃ e, ds[i]? = some e ∧ d = .tup [.int (k + i), e]
  | [], _, i, d, h => by simp [enumD] at h
  | e :: r, k, 0, d, h => by
    simp [enumD] at h
    exact ⟨e, rfl, by rw [← h]; simp⟩
  | e :: r, k, i + 1, d, h => by
    have h' : (enumD (k + 1) r)[i]? = some d := by simpa [enumD] using h
    obtain ⟨e2, h1, h2⟩ := enumD_get r (k + 1) i d h'
    exact ⟨e2, by simpa using h1, by rw [h2, show k + 1 + (i : Int) = k + ((i + 1 : Nat) : Int) by omega]⟩
def enI (S : List SO) (ds : List D) : ResI := match ds with
  | [.tup xs] => .st (enumD 0 xs)
  | [.lst xs] => .st (enumD 0 xs)
  | [.rol xs] => .st (enumD 0 xs)
  | [.loc n] => match lstOf S (.loc n) with
    | some _ => .dy fun S => match lstOf S (.loc n) with
      | some xs => if pureL xs then some (enumD 0 xs) else none
      | none => none
    | none => .bad
  | _ => .bad
section
variable {g : GX} {μ : List Addr} {F : FZ} {σ : Sl} {S : List SO} {σc : St} {H : Hp}
theorem wk_enum {a : Addr} {it : List SO → Option (List D)}
    (h : ∀ (μ' : List Addr) (F' : FZ) (σ' : Sl) (S' : List SO) (σc' : St) (H' : Hp), Later μ F H μ' F' H' → Rel g μ' F' σ' S' σc' H' → ∀ ds, it S' = some ds → ∃ xs vs, ds = enumD 0 xs ∧ SqL g.K H' a vs ∧ vs.length ≤ sizeLine ∧ RepL g H' F' xs vs) : Wk g μ F H (Ite g.K a) it :=
  fun μ' F' σ' S' σc' H' l R ds e => by
    obtain ⟨xs, vs, rfl, h1, hz, h2⟩ := h μ' F' σ' S' σc' H' l R ds e
    have hl := h2.length
    rw [enumD_len]
    refine ⟨by rw [hl]; exact hz, fun i => ?_⟩
    refine ⟨fun hi => ⟨vs, vs[i]'(by omega), h1, List.getElem?_eq_getElem (by omega)⟩, fun x H2 hy => ?_, fun hi => ⟨vs, h1, by omega⟩⟩
    obtain ⟨p, y, rfl, hp, rfl, hx⟩ := hy
    refine ⟨same_new hp, fun d hd => ?_⟩
    obtain ⟨e2, he2, rfl⟩ := enumD_get xs 0 i d hd
    obtain ⟨v, hv, rv⟩ := (h2.vs (μ := [])).get he2
    have hx := hx vs h1
    rw [hv] at hx
    obtain rfl : v = y := Option.some.inj hx
    rcases rv with ⟨n, a2, _, z, _⟩ | rv
    · simp at z
    · refine .inr ⟨p, [.int (i : Nat), v], rfl, ⟨.inl (.inl upd_same), by show 2 ≤ sizeLine; decide⟩, _, _, rfl, ?_, v, [], rfl, RepP.mono (same_new hp) (fun _ h => h) _ _ rv, rfl⟩
      show V.int (i : Nat) = .int (0 + (i : Nat))
      rw [Int.zero_add]
theorem wk_enumT {a : Addr} {it : List SO → Option (List D)}
    (h : ∀ (μ' : List Addr) (F' : FZ) (σ' : Sl) (S' : List SO) (σc' : St) (H' : Hp), Later μ F H μ' F' H' → Rel g μ' F' σ' S' σc' H' → ∀ ds, it S' = some ds → ∃ xs vs, ds = enumD 0 xs ∧ SqT g.K H' a vs ∧ vs.length ≤ sizeLine ∧ RepL g H' F' xs vs) : Wk g μ F H (IteT g.K a) it :=
  fun μ' F' σ' S' σc' H' l R ds e => by
    obtain ⟨xs, vs, rfl, h1, hz, h2⟩ := h μ' F' σ' S' σc' H' l R ds e
    have hl := h2.length
    rw [enumD_len]
    refine ⟨by rw [hl]; exact hz, fun i => ?_⟩
    refine ⟨fun hi => ⟨vs, vs[i]'(by omega), h1, List.getElem?_eq_getElem (by omega)⟩, fun x H2 hy => ?_, fun hi => ⟨vs, h1, by omega⟩⟩
    obtain ⟨p, y, rfl, hp, rfl, hx⟩ := hy
    refine ⟨same_new hp, fun d hd => ?_⟩
    obtain ⟨e2, he2, rfl⟩ := enumD_get xs 0 i d hd
    obtain ⟨v, hv, rv⟩ := (h2.vs (μ := [])).get he2
    have hx := hx vs h1
    rw [hv] at hx
    obtain rfl : v = y := Option.some.inj hx
    rcases rv with ⟨n, a2, _, z, _⟩ | rv
    · simp at z
    · refine .inr ⟨p, [.int (i : Nat), v], rfl, ⟨.inl (.inl upd_same), by show 2 ≤ sizeLine; decide⟩, _, _, rfl, ?_, v, [], rfl, RepP.mono (same_new hp) (fun _ h => h) _ _ rv, rfl⟩
      show V.int (i : Nat) = .int (0 + (i : Nat))
      rw [Int.zero_add]
end
section
variable {X : Cx} {g : GX} {W : WX} {e : Expr} {f : CA} {p pos tpos : Pos} {elts : List Expr} {kk : Nat}
theorem it_enum (hG : Gl X "enumerate") (hm : X.mg "enumerate" = none) (ha : PA X [e] (TL g W f)) (hg : X.K = g.K := by rfl) (hs : starEach [e] X.env = [(false, eval e X.env)] := by rfl) :
    PI X (.Tuple elts kk tpos) (.Call (.Name "enumerate" p) [e] [] pos) (TIt g W (iApp enI f)) := by
  have key : PI X (.Tuple elts kk tpos) (.Call (.Name "enumerate" p) [e] [] pos) (fun σ H R => TL g W f σ H fun vs H1 => (∃ a xs, vs = [.ref a] ∧ SqL X.K H1 a xs ∧ R (Ite X.K a) H1) ∨ ∃ a xs, vs = [.ref a] ∧ SqT X.K H1 a xs ∧ R (IteT X.K a) H1) := by
    refine ⟨fun pins s σ H R I h => Call_ (ld_blt I hG hm boot_enumerate (PyProof.Rows.callWith_type1 (thn (ha.run pos pins s σ H _ I h) fun us s1 ⟨vs, H1, I1, r1, q1⟩ => ?_) hs rfl))⟩
    rcases q1 with ⟨a, xs, ex, hq, q⟩ | ⟨a, xs, ex, hq, q⟩
    · subst ex
      cases r1 with
      | cons r rr =>
        cases rr
        cases r
        obtain ⟨its, rv, p', hz⟩ := I1.list hq
        refine call_enumerate_list p'.isList fun h' he hit hsz hk => wpAny_pyIter_enum he ?_
        have I2 : Inv X pins σ H1 { s1 with heap := h' } := I1.kept (t' := s1.toks) hk
        refine ⟨s1.heap.objs.size + 1, [s1.heap.objs.size + 1, s1.heap.objs.size], _, _, H1, rfl, I2, turn_enum a (s1.heap.objs.size + 1) s1.heap.objs.size, ⟨⟨.none, he⟩, hit, Nat.succ_ne_self _⟩, fun b hb => ?_, q⟩
        have hle : s1.heap.objs.size ≤ b := by
          rcases (by simpa using hb : b = s1.heap.objs.size + 1 ∨ b = s1.heap.objs.size) with z | z
          · rw [z]; exact Nat.le_succ _
          · rw [z]; exact Nat.le_refl _
        exact I1.fpOk hle (I1.hok.fresh hle)
    · subst ex
      cases r1 with
      | cons r rr =>
        cases rr
        cases r
        obtain ⟨its, rv, p', hz⟩ := I1.tuple hq
        refine enumT_call (show s1.heap.IsTuple a its.toArray from p') fun h' he hit hsz hk => wpAny_pyIter_enum he ?_
        have I2 : Inv X pins σ H1 { s1 with heap := h' } := I1.kept (t' := s1.toks) hk
        refine ⟨s1.heap.objs.size + 1, [s1.heap.objs.size + 1, s1.heap.objs.size], _, _, H1, rfl, I2, turn_enumT a (s1.heap.objs.size + 1) s1.heap.objs.size, ⟨⟨.none, he⟩, hit, Nat.succ_ne_self _⟩, fun b hb => ?_, q⟩
        have hle : s1.heap.objs.size ≤ b := by
          rcases (by simpa using hb : b = s1.heap.objs.size + 1 ∨ b = s1.heap.objs.size) with z | z
          · rw [z]; exact Nat.le_succ _
          · rw [z]; exact Nat.le_refl _
        exact I1.fpOk hle (I1.hok.fresh hle)
  refine key.hc fun σc H R h => TL.appI h fun μ F σ S H1 ds vs Rl r q => ?_
  rw [hg]
  unfold enI at q
  split at q
  · rename_i xs
    obtain ⟨v, rfl, rv⟩ := r.one
    obtain ⟨a, ws, rfl, h1, h2, h3⟩ := rv.tup (xs := xs) rfl
    refine .inr ⟨a, ws, rfl, h1, q _ H1 F (Same.refl _) Rl.fx (wk_enumT fun μ' F' σ' S' σc' H' l R' ds e => ?_)⟩
    cases (show some (enumD 0 xs) = some ds from e)
    exact ⟨xs, ws, rfl, l.sq Rl h1, h2, RepL.later Rl l _ _ h3⟩
  · rename_i xs
    obtain ⟨v, rfl, rv⟩ := r.one
    obtain ⟨a, ws, rfl, ⟨k1, k2, k3⟩, h2⟩ := rv.pure rfl
    refine .inl ⟨a, ws, rfl, SqL.of k2, q _ H1 F (Same.refl _) Rl.fx (wk_enum fun μ' F' σ' S' σc' H' l R' ds e => ?_)⟩
    cases (show some (enumD 0 xs) = some ds from e)
    exact ⟨xs, ws, rfl, SqL.of (l.keep _ _ (fun hm => Rl.ap _ hm k1) k2), k3, RepL.later Rl l _ _ h2⟩
  · rename_i xs
    obtain ⟨v, rfl, rv⟩ := r.one
    obtain ⟨a, ws, rfl, ⟨k1, k2⟩, h2⟩ := rv.pure rfl
    refine .inl ⟨a, ws, rfl, k1.sq, q _ H1 F (Same.refl _) Rl.fx (wk_enum fun μ' F' σ' S' σc' H' l R' ds e => ?_)⟩
    cases (show some (enumD 0 xs) = some ds from e)
    exact ⟨xs, ws, rfl, (l.rol Rl k1).sq, k2, RepL.later Rl l _ _ h2⟩
  · rename_i n
    obtain ⟨v, rfl, rv⟩ := r.one
    split at q
    · rename_i xs0 ex0
      obtain ⟨a, ws, rfl, h1, h2, h3⟩ := Rl.lst rv ex0
      refine .inl ⟨a, ws, rfl, SqL.of h1, q _ H1 F (Same.refl _) Rl.fx (wk_enum fun μ' F' σ' S' σc' H' l R' ds e => ?_)⟩
      split at e
      · rename_i xs ex
        split at e
        · rename_i hp
          cases e
          obtain ⟨b, us, e2, k1, k2, k3⟩ := R'.lst (RepV.later Rl l rv) ex
          cases e2
          exact ⟨xs, us, rfl, SqL.of k1, k2, k3.pure hp⟩
        · cases e
      · cases e
    · exact q.elim
  · exact q.elim
end
end HC

set_option maxRecDepth 100000
namespace HC
open PySem PySem.Spec L2
open PyProof.Rows hiding St

/-! ## targets -/
abbrev TgF := D → Sl → Option Sl
abbrev TgsF := List D → Sl → Option Sl
def setD (σ : Sl) (i : Nat) (d : D) : Sl := σ.set i (some d)
def tgName (i : Nat) : TgF := fun d σ => some (setD σ i d)
def tgNil : TgsF := fun ds σ => match ds with
  | [] => some σ
  | _ => none
def tgCons (a : TgF) (r : TgsF) : TgsF := fun ds σ => match ds with
  | d :: ds => match a d σ with
    | some σ1 => r ds σ1
    | none => none
  | [] => none
def tgTup (n : Nat) (t : TgsF) : TgF := fun d σ => match d with
  | .tup ds => if ds.length = n then t ds σ else none
  | _ => none
/-- the slots but ss are as they were -/
def But (ss : List Nat) (σ σ' : St) : Prop := σ'.length = σ.length ∧ ∀ j, j ∉ ss → σ'[j]? = σ[j]?
theorem But.refl {ss : List Nat} {σ : St} : But ss σ σ := ⟨rfl, fun _ _ => rfl⟩
theorem But.trans {s1 s2 : List Nat} {σ σ1 σ2 : St} (a : But s1 σ σ1) (b : But s2 σ1 σ2) : But (s1 ++ s2) σ σ2 :=
  ⟨b.1.trans a.1, fun j h => by rw [List.mem_append, not_or] at h; rw [b.2 j h.2, a.2 j h.1]⟩
theorem But.mono {s1 s2 : List Nat} {σ σ1 : St} (a : But s1 σ σ1) (h : ∀ j ∈ s1, j ∈ s2) : But s2 σ σ1 := ⟨a.1, fun j hj => a.2 j fun z => hj (h j z)⟩
def TGt (g : GX) (ss : List Nat) (A : TgF) : TG := fun v σc H Q => ∃ μ F σ S d σ', Rel g μ F σ S σc H ∧ RepV g H F μ d v ∧ A d σ = some σ' ∧ ∀ σc', Rel g μ F σ' S σc' H → But ss σc σc' → Q σc' H
def TGts (g : GX) (ss : List Nat) (A : TgsF) : TGs := fun vs σc H Q => ∃ μ F σ S ds σ', Rel g μ F σ S σc H ∧ RepVs g H F μ ds vs ∧ A ds σ = some σ' ∧ ∀ σc', Rel g μ F σ' S σc' H → But ss σc σc' → Q σc' H
section
variable {g : GX} {μ : List Addr} {F : FZ} {σ : Sl} {S : List SO} {σc : St} {H : Hp}
theorem Rel.set (R : Rel g μ F σ S σc H) {i : Nat} {d : D} {v : V} (r : RepV g H F μ d v) : Rel g μ F (setD σ i d) S (σc.set i (some v)) H := by
  refine ⟨fun j e h => ?_, by unfold setD; rw [List.length_set, List.length_set]; exact R.len, R.st, R.ml, R.nd, R.ap, R.dom, R.xc⟩
  unfold setD at h
  by_cases hj : i = j
  · subst hj
    by_cases hl : i < σ.length
    · rw [List.getElem?_set_self hl] at h
      cases h
      exact ⟨v, by rw [List.getElem?_set_self (by rw [← R.len]; exact hl)], r⟩
    · rw [List.getElem?_eq_none (by rw [List.length_set]; omega)] at h
      cases h
  · rw [List.getElem?_set_ne hj] at h
    rw [List.getElem?_set_ne hj]
    exact R.env j e h
theorem But.set {i : Nat} {v : Option V} : But [i] σc (σc.set i v) := ⟨by rw [List.length_set], fun j hj => by rw [List.getElem?_set_ne]; intro z; subst z; simp at hj⟩
end
section
variable {X : Cx} {g : GX} {pos : Pos}
theorem tg_name {i : Nat} {x : Str} (hN : X.N.Nodup) (hi : X.N[i]? = some x) (hx : Loc X.env.scope x) (hf : X.fn x = true ∨ X.env.scope.names.lookup x = some .local := by first | exact .inl rfl | exact .inr rfl | assumption) : PG X (.Name x pos) (TGt g [i] (tgName i)) :=
  (pg_name hN hi hx hf).hc fun v σc H Q ⟨μ, F, σ, S, d, σ', R, r, e, q⟩ => by
    cases (show some (setD σ i d) = some σ' from e)
    exact q _ (R.set r) .set
theorem tgs_nil : PGs X [] (TGts g [] tgNil) := ⟨fun pins s σ0 H vs us Q I rv ⟨μ, F, σ, S, ds, σ', R, r, e, q⟩ => by
  refine pgs_nil.run pins s σ0 H vs us Q I rv ?_
  cases ds with
  | nil =>
    cases (show some σ = some σ' from e)
    cases r
    exact ⟨rfl, q _ R .refl⟩
  | cons _ _ => cases e⟩
theorem tgs_cons {e : Expr} {es : List Expr} {s1 s2 : List Nat} {A : TgF} {B : TgsF} (h1 : PG X e (TGt g s1 A)) (h2 : PGs X es (TGts g s2 B))
    (hs : (assignEach (e :: es) X.env).map (·.2) = assign e X.env :: (assignEach es X.env).map (·.2) := by rfl) : PGs X (e :: es) (TGts g (s1 ++ s2) (tgCons A B)) := ⟨fun pins s σ0 H vs us Q I rv ⟨μ, F, σ, S, ds, σ', R, r, e, q⟩ => by
  refine (pgs_cons h1 h2 hs).run pins s σ0 H vs us Q I rv ?_
  cases ds with
  | nil => cases e
  | cons d ds =>
    cases r with
    | cons rd rr =>
      have e2 : (match A d σ with | some σ1 => B ds σ1 | none => none) = some σ' := e
      split at e2
      · rename_i σ1 e1
        exact ⟨_, _, rfl, μ, F, σ, S, d, σ1, R, rd, e1, fun σc1 R1 b1 => ⟨μ, F, σ1, S, ds, σ', R1, rr, e2, fun σc2 R2 b2 => q σc2 R2 (b1.trans b2)⟩⟩
      · cases e2⟩
theorem tg_tup {es : List Expr} {k : Nat} {ss : List Nat} {B : TgsF} {n : Nat} (hc : X.calm = true) (h : PGs X es (TGts g ss B)) (hg : X.K = g.K := by rfl)
    (hn : (assignEach es X.env).length = n := by rfl) (hst : (assignEach es X.env).findIdx? (·.1) = none := by rfl) : PG X (.Tuple es k pos) (TGt g ss (tgTup n B)) :=
  (pg_tup hc h hn hst).hc fun v σc H Q ⟨μ, F, σ, S, d, σ', R, r, e, q⟩ => by
    unfold tgTup at e
    split at e
    · rename_i ds
      split at e
      · rename_i hl
        obtain ⟨a, vs, rfl, h1, h2, h3⟩ := r.tup (xs := ds) rfl
        exact ⟨a, vs, rfl, by rw [hg]; exact h1, by rw [← h3.length]; exact hl, μ, F, σ, S, ds, σ', R, h3.vs, e, q⟩
      · cases e
    · cases e
end

/-! ## list comprehensions -/
def wipeD (σ : Sl) : List Nat → Sl
  | [] => σ
  | v :: vs => (wipeD σ vs).set v none
theorem wipeD_some {σ : Sl} {i : Nat} {x : D} : ∀ {vs : List Nat}, (wipeD σ vs)[i]? = some (some x) → σ[i]? = some (some x) ∧ i ∉ vs
  | [], h => ⟨h, by simp⟩
  | v :: vs, h => by
    unfold wipeD at h
    by_cases hi : v = i
    · subst hi
      by_cases hv : v < (wipeD σ vs).length
      · rw [List.getElem?_set_self hv] at h; cases h
      · rw [List.getElem?_eq_none (by rw [List.length_set]; omega)] at h; cases h
    · rw [List.getElem?_set_ne hi] at h
      obtain ⟨h1, h2⟩ := wipeD_some h
      refine ⟨h1, fun z => ?_⟩
      rcases List.mem_cons.mp z with z | z
      · exact hi z.symm
      · exact h2 z
theorem wipeD_len (σ : Sl) : ∀ vs : List Nat, (wipeD σ vs).length = σ.length
  | [] => rfl
  | v :: vs => by unfold wipeD; rw [List.length_set, wipeD_len σ vs]
theorem wipe_off {σ : St} {i : Nat} : ∀ {vs : List Nat}, i ∉ vs → (wipe σ vs)[i]? = σ[i]?
  | [], _ => rfl
  | v :: vs, h => by
    unfold wipe
    rw [List.getElem?_set_ne (fun z => h (by rw [z]; exact List.mem_cons_self ..)), wipe_off fun z => h (List.mem_cons_of_mem _ z)]
theorem wipe_on {σ : St} {i : Nat} : ∀ {vs : List Nat}, i ∈ vs → (wipe σ vs)[i]? = if i < σ.length then some none else none
  | v :: vs, h => by
    unfold wipe
    by_cases hi : v = i
    · subst hi
      by_cases hv : v < σ.length
      · rw [List.getElem?_set_self (by rw [wipe_length]; exact hv), if_pos hv]
      · rw [List.getElem?_eq_none (by rw [List.length_set, wipe_length]; omega), if_neg hv]
    · rw [List.getElem?_set_ne hi]
      rcases List.mem_cons.mp h with z | z
      · exact absurd z.symm hi
      · exact wipe_on z
theorem wipe_but {σ σ' : St} {ss vs : List Nat} (b : But ss (wipe σ vs) σ') (h : ∀ j ∈ ss, j ∈ vs) : wipe σ' vs = wipe σ vs := by
  apply List.ext_getElem?
  intro j
  have hl : σ'.length = σ.length := b.1.trans (wipe_length σ vs)
  by_cases hj : j ∈ vs
  · rw [wipe_on hj, wipe_on hj, hl]
  · rw [wipe_off hj, b.2 j fun z => hj (h j z)]
theorem Rel.wipe {g : GX} {μ : List Addr} {F : FZ} {σ : Sl} {S : List SO} {σc : St} {H : Hp} (R : Rel g μ F σ S σc H) (vs : List Nat) : Rel g μ F (wipeD σ vs) S (wipe σc vs) H :=
  ⟨fun j e h => by
    obtain ⟨h1, h2⟩ := wipeD_some h
    rw [wipe_off h2]
    exact R.env j e h1, by rw [wipeD_len, wipe_length]; exact R.len, R.st, R.ml, R.nd, R.ap, R.dom, R.xc⟩
/-- the items that the comprehension makes -/
def compL (A : TgF) (t f : CE) (σ : Sl) (S : List SO) : List D → Option (List D)
  | [] => some []
  | d :: ds => match A d σ with
    | some σ1 => match t σ1 S with
      | .ok (.bl true) _ => match f σ1 S with
        | .ok y _ => if y.pure then (match compL A t f σ S ds with
          | some r => some (y :: r)
          | none => none) else none
        | _ => none
      | .ok (.bl false) _ => compL A t f σ S ds
      | _ => none
    | none => none
def cTrue : CE := fun _ _ => .ok (.bl true) false
def kComp (A : TgF) (t f : CE) (ws : List Nat) (σ : Sl) (S : List SO) (ds : List D) : Res := match compL A t f (wipeD σ ws) S ds with
  | some r => .ok (.lst r) true
  | none => .bad
def cComp (it : CI) (A : TgF) (ws : List Nat) (t f : CE) : CE := fun σ S => match it σ S with
  | .st ds => kComp A t f ws σ S ds
  | .dy i => match i S with
    | some ds => kComp A t f ws σ S ds
    | none => .bad
  | .ex c as => .ex c as
  | .bad => .bad
/-- no exception -/
def W0 : WX := fun _ _ _ _ => False
theorem compL_le {A : TgF} {t f : CE} {σ : Sl} {S : List SO} : ∀ {ds r : List D}, compL A t f σ S ds = some r → r.length ≤ ds.length
  | [], r, h => by
    cases (show some [] = some r from h)
    exact Nat.le_refl _
  | d :: ds, r, h => by
    unfold compL at h
    split at h
    · split at h
      · split at h
        · split at h
          · split at h
            · rename_i e
              cases h
              have := compL_le e
              simp only [List.length_cons]
              omega
            · cases h
          · cases h
        · cases h
      · have := compL_le h
        simp only [List.length_cons]
        omega
      · cases h
    · cases h
section
variable {g : GX} {H : Hp} {F : FZ} {b : Addr} {o : HO} {us : List V}
mutual
/-- a plain value does not see a store into an object that is not frozen -/
theorem RepP.writeG (nt : ∀ xs, H b ≠ some (.tup xs)) (nz : ∀ ob u, H b ≠ some (.frz ob u)) (nf : ¬ F b) : ∀ (d : D) (v : V), RepP g H F d v → RepP g (upd H b o) F d v
  | .non, _, h => h
  | .bl _, _, h => h
  | .int _, _, h => h
  | .str _, _, h => h
  | .tup ds, v, h => by
    obtain ⟨a, vs, e, ⟨h1, hz⟩, h2⟩ := h
    refine ⟨a, vs, e, ⟨?_, hz⟩, RepL.writeG nt nz nf ds vs h2⟩
    rcases h1 with (h1 | ⟨ob, h1⟩) | h1
    · exact .inl (.inl ((upd_ne (fun z => nt _ (z ▸ h1))).trans h1))
    · exact .inl (.inr ⟨ob, (upd_ne (fun z => nz _ _ (z ▸ h1))).trans h1⟩)
    · exact .inr h1
  | .lst ds, v, h => by
    obtain ⟨a, vs, e, ⟨h1, h2, h3⟩, h4⟩ := h
    have na : a ≠ b := fun z => nf (z ▸ h1)
    exact ⟨a, vs, e, ⟨h1, (upd_ne na).trans h2, h3⟩, RepL.writeG nt nz nf ds vs h4⟩
  | .rol ds, v, h => by
    obtain ⟨a, vs, e, ⟨h1, hz⟩, h2⟩ := h
    refine ⟨a, vs, e, ⟨?_, hz⟩, RepL.writeG nt nz nf ds vs h2⟩
    rcases h1 with ⟨ob, h1⟩ | h1
    · exact .inl ⟨ob, (upd_ne (fun z => nz _ _ (z ▸ h1))).trans h1⟩
    · exact .inr h1
  | .dct ks ds, v, h => by
    obtain ⟨a, vs, e, h1, h2, h3⟩ := h
    have na : a ≠ b := fun z => nf (z ▸ h1)
    have k : ∀ u, Rd H a u → Rd (upd H b o) a u := fun u h => h.elim (fun h => .inl ((upd_ne na).trans h)) fun ⟨ob, h⟩ => .inr ⟨ob, (upd_ne na).trans h⟩
    refine ⟨a, vs, e, h1, RepL.writeG nt nz nf ds vs h2, ?_⟩
    rcases h3 with ⟨kvs, q1, q2⟩ | ⟨kvs, q1, q2⟩
    · exact .inl ⟨kvs, k _ q1, q2⟩
    · exact .inr ⟨kvs, k _ q1, q2⟩
  | .obj c ds, v, h => by
    obtain ⟨a, dx, fs, vs, e, h1, h2, h3, h4, h5⟩ := h
    have na : a ≠ b := fun z => nf (z ▸ h1)
    exact ⟨a, dx, fs, vs, e, h1, (upd_ne na).trans h2, h3, h4, RepL.writeG nt nz nf ds vs h5⟩
  | .loc _, _, h => h
  | .err, _, h => h
theorem RepL.writeG (nt : ∀ xs, H b ≠ some (.tup xs)) (nz : ∀ ob u, H b ≠ some (.frz ob u)) (nf : ¬ F b) : ∀ (ds : List D) (vs : List V), RepL g H F ds vs → RepL g (upd H b o) F ds vs
  | [], _, h => h
  | d :: ds, vs, h => by
    obtain ⟨v, ws, e, h1, h2⟩ := h
    exact ⟨v, ws, e, RepP.writeG nt nz nf d v h1, RepL.writeG nt nz nf ds ws h2⟩
end
theorem RepP.write (hb : H b = some (.lst us)) (nf : ¬ F b) (d : D) (v : V) : RepP g H F d v → RepP g (upd H b o) F d v := RepP.writeG (fun xs z => by rw [hb] at z; exact nomatch z) (fun ob u z => by rw [hb] at z; exact nomatch z) nf d v
theorem RepL.write (hb : H b = some (.lst us)) (nf : ¬ F b) (ds : List D) (vs : List V) : RepL g H F ds vs → RepL g (upd H b o) F ds vs := RepL.writeG (fun xs z => by rw [hb] at z; exact nomatch z) (fun ob u z => by rw [hb] at z; exact nomatch z) nf ds vs
end
section
variable {g : GX} {μ : List Addr} {F : FZ} {σ : Sl} {S : List SO} {σc : St} {H1 : Hp} {J : It} {ds : List D}
theorem comp_walk {A : TgF} {ss ws : List Nat} {t f : CE} {res : List D} {it : List SO → Option (List D)} {D' : Addr} {Qd : Hp → Prop} (R : Rel g μ F σ S σc H1) (hw : Wk g μ F H1 J it) (eit : it S = some ds) (hD : H1 D' = none) (hss : ∀ j ∈ ss, j ∈ ws)
    (e : compL A t f (wipeD σ ws) S ds = some res)
    (q : ∀ (H : Hp) (F' : FZ) (vs : List V), Same H1 H → FX F H1 F' H → ¬ F' D' → D' ∉ μ → H D' = some (.lst vs) → vs.length ≤ sizeLine → RepL g H F' res vs → Qd H) :
    ∃ W : Nat → Nat → Hp → Prop, (∃ m, W 0 m (upd H1 D' (.lst []))) ∧ ∀ i m H, W i m H →
      (J.stop i H ∧ Qd H) ∨ (J.go i H ∧ ∃ Nx : Hp → Prop, (∀ H', Nx H' → ∃ m', m' < m ∧ W (i + 1) m' H') ∧ ∀ x H', J.yld i H x H' → TGt g ss A x (L2.wipe σc ws) H' fun σ2 H2 => L2.wipe σ2 ws = L2.wipe σc ws ∧ TB g W0 t σ2 H2 fun b H3 =>
        if b = true then T g W0 f σ2 H3 fun y H4 => ∃ acc, H4 D' = some (.lst acc) ∧ acc.length < sizeLine ∧ Nx (upd H4 D' (.lst (acc ++ [y]))) else Nx H3) := by
  -- what holds ahead of turn i
  let Inv' : Nat → Hp → Prop := fun i H => i ≤ ds.length ∧ ∃ (F' : FZ) (vs : List V) (acc rest : List D), Same H1 H ∧ FX F H1 F' H ∧ ¬ F' D' ∧ H D' = some (.lst vs) ∧ RepL g H F' acc vs ∧ acc.length ≤ i ∧ compL A t f (wipeD σ ws) S (ds.drop i) = some rest ∧ res = acc ++ rest
  have nmu : D' ∉ μ := fun h => by
    obtain ⟨u, e⟩ := R.mu_there h
    rw [hD] at e; cases e
  have nF : ¬ F D' := fun h => by
    obtain ⟨u, e⟩ := R.dom _ h
    rw [hD] at e; cases e
  have hlen : ds.length ≤ sizeLine := (hw μ F σ S σc H1 .refl R ds eit).1
  refine ⟨fun i m H => m = ds.length - i ∧ Inv' i H, ⟨ds.length, rfl, Nat.zero_le _, F, [], [], res, same_new hD, ⟨fun _ h => h, fun _ h => .inl h, fun a h => ?_⟩, nF, upd_same, rfl, Nat.le_refl _, e, rfl⟩, ?_⟩
  · obtain ⟨o, e⟩ := R.dom a h
    exact ⟨o, same_new hD _ _ e⟩
  rintro i m H ⟨rfl, hi, F', vs, acc, rest, sm, fx, nf, hd, ra, la, er, es⟩
  have R2 : Rel g μ F' σ S σc H := R.mono sm fx
  obtain ⟨_, wk⟩ := hw μ F' σ S σc H (.of sm fx) R2 ds eit
  obtain ⟨go, yl, stop⟩ := wk i
  by_cases hlt : i < ds.length
  · have ed : ds.drop i = ds[i] :: ds.drop (i + 1) := List.drop_eq_getElem_cons hlt
    rw [ed] at er
    unfold compL at er
    refine .inr ⟨go hlt, Inv' (i + 1), fun H' p' => ⟨ds.length - (i + 1), by omega, rfl, p'⟩, fun x H' hy => ?_⟩
    obtain ⟨sm', rx⟩ := yl x H' hy
    have rx := rx _ (List.getElem?_eq_getElem hlt)
    have fx0 : FX F' H F' H' := ⟨fun _ h => h, fun _ h => .inl h, fun a h => let ⟨o, e⟩ := fx.dom a h; ⟨o, sm' _ _ e⟩⟩
    have R3 : Rel g μ F' (wipeD σ ws) S (L2.wipe σc ws) H' := (R2.mono sm' fx0).wipe ws
    split at er
    · rename_i σ1 eA
      refine ⟨μ, F', wipeD σ ws, S, ds[i], σ1, R3, rx, eA, fun σ2 R4 bt => ⟨wipe_but bt hss, ?_⟩⟩
      split at er
      · rename_i fr et
        refine ⟨μ, F', σ1, S, R4, ?_⟩
        rw [et]
        intro v H5 F5 s5 x5 r5
        obtain ⟨F6, x6, u6, r6⟩ := r5.frz x5
        refine ⟨true, r6.bl, iteT ?_⟩
        have R6 : Rel g μ F6 σ1 S σ2 H5 := R4.mono s5 x6
        split at er
        · rename_i y fy ef
          split at er
          · rename_i hp
            split at er
            · rename_i r' er'
              cases er
              refine ⟨μ, F6, σ1, S, R6, ?_⟩
              rw [ef]
              intro yv H7 F7 s7 x7 r7
              obtain ⟨F8, x8, u8, r8⟩ := r7.frz x7
              have sall : Same H H7 := (sm'.trans s5).trans s7
              have xall : FX F' H F8 H7 := (fx0.trans sm' x6).trans (sm'.trans s5) x8
              have up8 : ∀ a, F' a → F8 a := xall.up
              have hlv := ra.length
              refine ⟨vs, sall _ _ hd, by omega, by omega, F8, vs ++ [yv], acc ++ [y], r', ?_, ?_, ?_, upd_same, ?_, by rw [List.length_append]; simp; omega, er', by simp [es]⟩
              · exact fun b o eb => by
                  rw [upd_ne (fun z => by rw [z, hD] at eb; cases eb)]
                  exact sall _ _ (sm _ _ eb)
              · refine ⟨fun a h => up8 _ (fx.up _ h), fun a h => (xall.nw a h).elim (fx.nw a) fun z => .inr (same_none sm z), fun a h => ?_⟩
                obtain ⟨o, eo⟩ := x8.dom a h
                by_cases ha : a = D'
                · exact ⟨_, by rw [ha]; exact upd_same⟩
                · exact ⟨o, by rw [upd_ne ha]; exact eo⟩
              · intro h
                rcases xall.nw _ h with h | h
                · exact nf h
                · rw [hd] at h; cases h
              · -- the new list's items
                have n8 : ¬ F8 D' := fun h => by
                  rcases xall.nw _ h with h | h
                  · exact nf h
                  · rw [hd] at h; cases h
                refine RepL.write (sall _ _ hd) n8 _ _ (RepL.append (RepL.mono sall up8 _ _ ra) ⟨yv, [], rfl, r8.pure hp, rfl⟩)
            · cases er
          · cases er
        · cases er
      · rename_i fr et
        refine ⟨μ, F', σ1, S, R4, ?_⟩
        rw [et]
        intro v H5 F5 s5 x5 r5
        obtain ⟨F6, x6, u6, r6⟩ := r5.frz x5
        have sall : Same H H5 := sm'.trans s5
        have xall : FX F' H F6 H5 := fx0.trans sm' x6
        refine ⟨false, r6.bl, iteF ⟨by omega, F6, vs, acc, rest, sm.trans sall, fx.trans sm xall, ?_, sall _ _ hd, RepL.mono sall xall.up _ _ ra, by omega, er, es⟩⟩
        intro h
        rcases xall.nw _ h with h | h
        · exact nf h
        · rw [hd] at h; cases h
      · cases er
    · cases er
  · have ei : i = ds.length := by omega
    have e0 : ds.drop i = [] := List.drop_eq_nil_of_le (by omega)
    rw [e0] at er
    cases (show some [] = some rest from er)
    rw [List.append_nil] at es
    subst es
    exact .inl ⟨stop (by omega), q H F' vs sm fx nf nmu hd (by have := ra.length; omega) ra⟩
end
section
variable {X : Cx} {g : GX} {W : WX} {elt tg iter : Expr} {scope : Scope} {own : List (Str × Nat)} {pos : Pos} {fi : CI} {A : TgF} {ss : List Nat} {fe ft : CE} {ifs : List Expr}
/-- the block of a comprehension -/
abbrev blkX (X : Cx) (scope : Scope) (s : Shared) (H : Hp) (C : Addr) (cl : List (Str × Addr)) (fp : List Addr) : Cx := X.blk s H scope (compEnvC scope cl C X.env) fp
theorem tLc_of {σc : St} {H : Hp} {Q : VK} (hss : ∀ j ∈ ss, j ∈ own.map (·.2)) (h : T g W (cComp fi A (own.map (·.2)) ft fe) σc H Q) : tLc (TIt g W fi) (TGt g ss A) (TB g W0 ft) (T g W0 fe) (own.map (·.2)) σc H Q := by
  obtain ⟨μ, F, σ, S, R, q⟩ := h
  refine ⟨μ, F, σ, S, R, ?_⟩
  unfold cComp at q
  have fin : ∀ {ds : List D} {it : List SO → Option (List D)} (J : It) (H1 : Hp) (F1 : FZ), Same H H1 → FX F H F1 H1 → Wk g μ F1 H1 J it → it S = some ds → Ok g (wat W σc) H F μ (kComp A ft fe (own.map (·.2)) σ S ds) Q →
      ∀ D', H1 D' = none → ∃ W : Nat → Nat → Hp → Prop, (∃ m, W 0 m (upd H1 D' (.lst []))) ∧ ∀ i m H, W i m H →
      (J.stop i H ∧ Q (.ref D') H) ∨ (J.go i H ∧ ∃ Nx : Hp → Prop, (∀ H', Nx H' → ∃ m', m' < m ∧ W (i + 1) m' H') ∧ ∀ x H', J.yld i H x H' → TGt g ss A x (L2.wipe σc (own.map (·.2))) H' fun σ2 H2 => L2.wipe σ2 (own.map (·.2)) = L2.wipe σc (own.map (·.2)) ∧ TB g W0 ft σ2 H2 fun b H3 =>
        if b = true then T g W0 fe σ2 H3 fun y H4 => ∃ acc, H4 D' = some (.lst acc) ∧ acc.length < sizeLine ∧ Nx (upd H4 D' (.lst (acc ++ [y]))) else Nx H3) := by
    intro ds it J H1 F1 s1 x1 w e q D' hD
    unfold kComp at q
    split at q
    · rename_i r er
      refine comp_walk (R.mono s1 x1) w e hD hss er fun H2 F2 vs s2 x2 nf nmu hd hz rl => ?_
      exact q (.ref D') H2 F2 (s1.trans s2) (x1.trans s1 x2) (.inr ⟨rfl, D', rfl, same_none s1 hD, nf, nmu, vs, hd, hz, rl⟩)
    · exact q.elim
  cases ei : fi σ S with
  | bad => rw [ei] at q; exact q
  | ex c as => rw [ei] at q; exact q
  | st ds =>
    rw [ei] at q
    exact fun J H1 F1 s1 x1 w => fin J H1 F1 s1 x1 w rfl q
  | dy it =>
    rw [ei] at q
    have q : Ok g (wat W σc) H F μ (match it S with | some ds => kComp A ft fe (own.map (·.2)) σ S ds | none => .bad) Q := q
    intro J H1 F1 s1 x1 w
    split at q
    · rename_i ds e
      exact fin J H1 F1 s1 x1 w e q
    · exact q.elim
theorem q_comp (hc : X.calm = true) (hN : X.N.Nodup) (hi : PI X tg iter (TIt g W fi)) (ok : BlkOk X.N X.env.scope scope own) (hss : ∀ j ∈ ss, j ∈ own.map (·.2))
    (hg : ∀ s H C cl fp, PG (blkX X scope s H C cl fp) tg (TGt g ss A)) (ht : ∀ s H C cl fp, PTs (blkX X scope s H C cl fp) ifs (TB g W0 ft)) (he : ∀ s H C cl fp, PE (blkX X scope s H C cl fp) elt (T g W0 fe)) (hs : ∀ x, foldedSetIterable iter X.env x = pure x := by intro _; rfl) :
    PE X (.ListComp elt [⟨tg, iter, ifs, 0⟩] scope pos) (T g W (cComp fi A (own.map (·.2)) ft fe)) :=
  (pe_lc hc hN hi ok hg ht he hs).hc fun σc H Q h => tLc_of hss h
theorem qt_nil : PTs X [] (TB g W0 cTrue) := ⟨fun pins s σ H Q I ⟨μ, F, σd, S, R, q⟩ => pts_nil.run pins s σ H Q I (by
  obtain ⟨k, e, z⟩ := q (.bl true) H F (Same.refl _) R.fx (.inl ⟨rfl, .inr rfl⟩)
  cases e
  exact z)⟩
theorem qt_one {c : Expr} (h : PT X c (TB g W0 ft)) : PTs X [c] (TB g W0 ft) := pts_one h
end
end HC

set_option maxRecDepth 100000
namespace HC
open PySem PySem.Spec L2
open PyProof.Rows hiding St

/-! ## statements -/
inductive RS where
  | nx (σ : Sl) (S : List SO) | rt (d : D) (fr : Bool) | bk (σ : Sl) (S : List SO) | ct (σ : Sl) (S : List SO) | ex (c : Nat) (as : List D) (σ : Sl) (S : List SO) | bad
abbrev SC := Sl → List SO → RS
/-- what is handed back: a plain value that stands, or a new object -/
def Back (g : GX) (H : Hp) (μ : List Addr) (H' : Hp) (F' : FZ) (d : D) (fr : Bool) (v : V) : Prop :=
  (fr = false ∧ RepP g H' F' d v) ∨ (fr = true ∧ ∃ a, v = .ref a ∧ (H a = none ∨ a ∈ μ) ∧ ¬ F' a ∧ RepN g H' F' d a)
def OkS (g : GX) (W : WX) (μ : List Addr) (F : FZ) (H : Hp) (r : RS) (Dn : Ends) : Prop := match r with
  | .nx σ' S' => ∀ σc' μ' F' H', Later μ F H μ' F' H' → Rel g μ' F' σ' S' σc' H' → Dn.nx σc' H'
  | .bk σ' S' => ∀ σc' μ' F' H', Later μ F H μ' F' H' → Rel g μ' F' σ' S' σc' H' → Dn.bk σc' H'
  | .ct σ' S' => ∀ σc' μ' F' H', Later μ F H μ' F' H' → Rel g μ' F' σ' S' σc' H' → Dn.ct σc' H'
  | .rt d fr => ∀ v μ' F' H', Later μ F H μ' F' H' → Back g H μ H' F' d fr v → (∀ a, F' a → ∃ o, H' a = some o) → Dn.rt v H'
  | .ex c as σ' S' => ∀ cls dx σc' μ' F' H', Later μ F H μ' F' H' → Rel g μ' F' σ' S' σc' H' → RepX g H' F' μ' c as cls dx → W cls dx σc' H'
  | .bad => False
def TSt (g : GX) (W : WX) (f : SC) : TS := fun Dn σc H => ∃ μ F σ S, Rel g μ F σ S σc H ∧ OkS g W μ F H (f σ S) Dn
theorem OkS.from {g : GX} {W : WX} {μ μ1 : List Addr} {F F1 : FZ} {H H1 : Hp} {r : RS} {Dn : Ends} (l : Later μ F H μ1 F1 H1) (q : OkS g W μ F H r Dn) : OkS g W μ1 F1 H1 r Dn := by
  cases r with
  | nx σ' S' => exact fun σc' μ' F' H' l' => q σc' μ' F' H' (l.trans l')
  | bk σ' S' => exact fun σc' μ' F' H' l' => q σc' μ' F' H' (l.trans l')
  | ct σ' S' => exact fun σc' μ' F' H' l' => q σc' μ' F' H' (l.trans l')
  | rt d fr =>
    intro v μ' F' H' l' b
    refine q v μ' F' H' (l.trans l') (b.imp (fun h => h) fun ⟨e, a, ev, h, r⟩ => ⟨e, a, ev, ?_, r⟩)
    obtain ⟨ν, en, hn⟩ := l.mu
    rcases h with h | h
    · exact .inl (l.dom a h)
    · rw [en] at h
      rcases List.mem_append.mp h with h | h
      · exact .inr h
      · exact .inl (hn a h)
  | ex c as σ' S' => exact fun cls dx σc' μ' F' H' l' => q cls dx σc' μ' F' H' (l.trans l')
  | bad => exact q
def OkS.ends {g : GX} {W : WX} {μ : List Addr} {F : FZ} {H : Hp} {r : RS} {D1 D2 : Ends} (q : OkS g W μ F H r D1) (h : ∀ σ' S', r = .nx σ' S' → OkS g W μ F H (.nx σ' S') D2)
    (e1 : D1.rt = D2.rt) (e2 : D1.bk = D2.bk) (e3 : D1.ct = D2.ct) : OkS g W μ F H r D2 := by
  cases r with
  | nx σ' S' => exact h _ _ rfl
  | bk σ' S' => exact fun σc' μ' F' H' l R => e2 ▸ q σc' μ' F' H' l R
  | ct σ' S' => exact fun σc' μ' F' H' l R => e3 ▸ q σc' μ' F' H' l R
  | rt d fr => exact fun v μ' F' H' l b dm => e1 ▸ q v μ' F' H' l b dm
  | ex c as σ' S' => exact q
  | bad => exact q

def sSkip : SC := fun σ S => .nx σ S
def sSeq (f r : SC) : SC := fun σ S => match f σ S with
  | .nx σ1 S1 => r σ1 S1
  | x => x
/-- an expression, then what is done with it -/
def sVal (f : CE) (k : Sl → List SO → D → Bool → RS) : SC := fun σ S => match f σ S with
  | .ok d fr => k σ S d fr
  | .ex c as => .ex c as σ S
  | .bad => .bad
def sAsg (i : Nat) (f : CE) : SC := sVal f fun σ S d _ => .nx (setD σ i d) S
/-- a new object to a name: it stands in the store -/
def sNew (i : Nat) (f : CE) : SC := sVal f fun σ S d fr => match fr with
  | true => match d with
    | .lst xs => .nx (setD σ i (.loc S.length)) (S ++ [.lst xs])
    | .dct ks ws => .nx (setD σ i (.loc S.length)) (S ++ [.dct ks ws])
    | _ => .bad
  | false => .bad
def sExpr (f : CE) : SC := sVal f fun σ S _ _ => .nx σ S
def retD (S : List SO) (d : D) (fr : Bool) : RS := match d with
  | .loc n => match gets S n with
    | some (.lst xs) => if pureL xs then .rt (.lst xs) true else .bad
    | some (.dct ks ws) => if pureL ws then .rt (.dct ks ws) true else .bad
    | _ => .bad
  | .err => .bad
  | d => .rt d fr
def sRet (f : CE) : SC := sVal f fun _ S d fr => retD S d fr
def sRetN : SC := fun _ _ => .rt .non false
def sIf (c : CE) (a b : SC) : SC := fun σ S => match c σ S with
  | .ok (.bl true) _ => a σ S
  | .ok (.bl false) _ => b σ S
  | .ok _ _ => .bad
  | .ex c as => .ex c as σ S
  | .bad => .bad
section
variable {g : GX} {μ : List Addr} {F : FZ} {σ : Sl} {S : List SO} {σc : St} {H : Hp} {W : WX} {Dn : Ends}
/-- the expression's reading, from the statement's -/
theorem Rel.sval (R : Rel g μ F σ S σc H) {f : CE} {k : Sl → List SO → D → Bool → RS} {Q : VK} (q : OkS g W μ F H (sVal f k σ S) Dn)
    (w : ∀ (d : D) (fr : Bool) (v : V) (H1 : Hp) (F1 : FZ), Same H H1 → FX F H F1 H1 → Rel g μ F1 σ S σc H1 → RepR g H H1 F1 μ d fr v → OkS g W μ F H (k σ S d fr) Dn → Q v H1) : T g W f σc H Q := by
  refine ⟨μ, F, σ, S, R, ?_⟩
  unfold sVal at q
  cases ea : f σ S with
  | bad => rw [ea] at q; exact q
  | ex c as =>
    rw [ea] at q
    exact fun cls dx H' F' s x rx => q cls dx σc μ F' H' (.of s x) (R.mono s x) rx
  | ok d fr =>
    rw [ea] at q
    exact fun v H1 F1 s1 x1 r1 => w d fr v H1 F1 s1 x1 (R.mono s1 x1) r1 q
/-- .. where it is frozen -/
theorem Rel.svalF (R : Rel g μ F σ S σc H) {f : CE} {k : Sl → List SO → D → Bool → RS} {Q : VK} (q : OkS g W μ F H (sVal f k σ S) Dn)
    (w : ∀ (d : D) (fr : Bool) (v : V) (H1 : Hp) (F1 : FZ), Same H H1 → FX F H F1 H1 → Rel g μ F1 σ S σc H1 → RepV g H1 F1 μ d v → OkS g W μ F1 H1 (k σ S d fr) Dn → Q v H1) : T g W f σc H Q := by
  refine ⟨μ, F, σ, S, R, ?_⟩
  unfold sVal at q
  cases ea : f σ S with
  | bad => rw [ea] at q; exact q
  | ex c as =>
    rw [ea] at q
    exact fun cls dx H' F' s x rx => q cls dx σc μ F' H' (.of s x) (R.mono s x) rx
  | ok d fr =>
    rw [ea] at q
    intro v H1 F1 s1 x1 r1
    obtain ⟨F2, x2, u2, r2⟩ := r1.frz x1
    exact w d fr v H1 F2 s1 x2 (R.mono s1 x2) r2 (q.from (.of s1 x2))
theorem OkS.next (R : Rel g μ F σ S σc H) (q : OkS g W μ F H (.nx σ S) Dn) : Dn.nx σc H := q σc μ F H .refl R
end
section
variable {X : Cx} {g : GX} {W : WX} {st : Stmt} {rest : List Stmt} {e : Expr} {f fc : CE} {fs fr : SC} {pos pos' : Pos} {i : Nat} {x : Str}
theorem s_nil : PSs X [] (TSt g W sSkip) := pss_nil.hc fun Dn σ H ⟨μ, F, σd, S, R, q⟩ => q.next R
theorem seq_of {Dn : Ends} {σc : St} {H : Hp} (h : TSt g W (sSeq fs fr) Dn σc H) : tSeq (TSt g W fs) (TSt g W fr) Dn σc H := by
  obtain ⟨μ, F, σ, S, R, q⟩ := h
  refine ⟨μ, F, σ, S, R, ?_⟩
  unfold sSeq at q
  cases ea : fs σ S with
  | nx σ1 S1 =>
    rw [ea] at q
    exact fun σc' μ' F' H' l R' => ⟨μ', F', σ1, S1, R', q.from l⟩
  | bk σ1 S1 => rw [ea] at q; exact q
  | ct σ1 S1 => rw [ea] at q; exact q
  | rt d fr => rw [ea] at q; exact q
  | ex c as σ1 S1 => rw [ea] at q; exact q
  | bad => rw [ea] at q; exact q
theorem s_cons (h1 : PS X st (TSt g W fs)) (h2 : PSs X rest (TSt g W fr)) : PSs X (st :: rest) (TSt g W (sSeq fs fr)) := (pss_cons h1 h2).hc fun Dn σ H h => seq_of h
theorem s_one (h1 : PS X st (TSt g W fs)) : PSs X [st] (TSt g W fs) := pss_one h1
theorem s_pass : PS X (.Pass pos) (TSt g W sSkip) := ps_pass.hc fun Dn σ H ⟨μ, F, σd, S, R, q⟩ => q.next R
theorem s_doc {x j pos pos'} : PS X (.Expr (.Constant (.str x) j pos) pos') (TSt g W sSkip) := ps_doc.hc fun Dn σ H ⟨μ, F, σd, S, R, q⟩ => q.next R
def sBreak : SC := fun σ S => .bk σ S
def sCont : SC := fun σ S => .ct σ S
theorem s_break : PS X (.Break pos) (TSt g W sBreak) := ps_break.hc fun Dn σ H ⟨μ, F, σd, S, R, q⟩ => q σ μ F H .refl R
theorem s_cont : PS X (.Continue pos) (TSt g W sCont) := ps_continue.hc fun Dn σ H ⟨μ, F, σd, S, R, q⟩ => q σ μ F H .refl R
theorem asg_of {Dn : Ends} {σc : St} {H : Hp} (h : TSt g W (sAsg i f) Dn σc H) : tAsg (T g W f) (gName i) Dn σc H := by
  obtain ⟨μ, F, σ, S, R, q⟩ := h
  exact R.svalF q fun d fr v H1 F1 s1 x1 R1 r1 q1 => q1.next (R1.set r1)
theorem s_asg (hN : X.N.Nodup) (hi : X.N[i]? = some x) (hx : Loc X.env.scope x) (he : PE X e (T g W f)) (hs : swapsWith e (some (.Name x pos')) pos.line X.env = pure false := by rfl) (hf : X.fn x = true ∨ X.env.scope.names.lookup x = some .local := by first | exact .inl rfl | exact .inr rfl | assumption) :
    PS X (.Assign [.Name x pos'] e pos) (TSt g W (sAsg i f)) := (ps_set hN hi hx he hs hf).hc fun Dn σ H h => asg_of h
theorem new_of {Dn : Ends} {σc : St} {H : Hp} (h : TSt g W (sNew i f) Dn σc H) : tAsg (T g W f) (gName i) Dn σc H := by
  obtain ⟨μ, F, σ, S, R, q⟩ := h
  refine R.sval q fun d fr v H1 F1 s1 x1 R1 r1 q1 => ?_
  split at q1
  · rcases r1 with ⟨e, _⟩ | ⟨_, a, rfl, h0, nf, nm, rn⟩
    · cases e
    have mk : ∀ o : SO, RepO g H1 F1 (μ ++ [a]) o a → Rel g (μ ++ [a]) F1 (setD σ i (.loc S.length)) (S ++ [o]) (σc.set i (some (.ref a))) H1 := fun o ro => by
      have up : ∀ {d v}, RepV g H1 F1 μ d v → RepV g H1 F1 (μ ++ [a]) d v := fun {d v} h => h.imp (fun ⟨n, b, e, hb, ev⟩ => ⟨n, b, e, by rw [List.getElem?_append_left (List.getElem?_eq_some_iff.mp hb).1]; exact hb, ev⟩) fun h => h
      have ups : ∀ {ds vs}, RepVs g H1 F1 μ ds vs → RepVs g H1 F1 (μ ++ [a]) ds vs := fun {ds vs} h => Paired.mapP h fun _ _ => up
      have R2 : Rel g (μ ++ [a]) F1 σ (S ++ [o]) σc H1 := by
        refine ⟨fun j d h => let ⟨v, h1, h2⟩ := R1.env j d h; ⟨v, h1, up h2⟩, R1.len, fun n o2 h => ?_, by rw [List.length_append, List.length_append, R1.ml]; rfl, ?_, fun b hb => ?_, R1.dom, fun p hp => ?_⟩
        · by_cases hn : n < S.length
          · rw [List.getElem?_append_left hn] at h
            obtain ⟨b, h1, h2⟩ := R1.st n o2 h
            refine ⟨b, by rw [List.getElem?_append_left (by rw [R1.ml]; exact hn)]; exact h1, ?_⟩
            cases o2 with
            | lst xs => obtain ⟨vs, k1, k2, k3⟩ := h2; exact ⟨vs, k1, k2, ups k3⟩
            | dct ks ws => obtain ⟨vs, k1, k2⟩ := h2; exact ⟨vs, ups k1, k2⟩
            | ins c ws => obtain ⟨dx, fs, vs, k1, k2, k3, k4⟩ := h2; exact ⟨dx, fs, vs, k1, k2, k3, ups k4⟩
          · have hn2 : n = S.length := by
              have := (List.getElem?_eq_some_iff.mp h).1
              rw [List.length_append] at this
              simp at this
              omega
            subst hn2
            rw [List.getElem?_append_right (Nat.le_refl _), Nat.sub_self] at h
            cases h
            refine ⟨a, ?_, ro⟩
            rw [← R1.ml, List.getElem?_append_right (Nat.le_refl _), Nat.sub_self]
            rfl
        · rw [List.nodup_append]
          exact ⟨R1.nd, by simp, fun b hb c hc => by
            rw [List.mem_singleton.mp hc]
            intro z
            rw [z] at hb
            exact nm hb⟩
        · rcases List.mem_append.mp hb with hb | hb
          · exact R1.ap b hb
          · rw [List.mem_singleton.mp hb]
            exact nf
        · obtain ⟨h1, x, vs, h2, h3, r⟩ := R1.xc p hp
          exact ⟨h1, x, vs, h2, ups h3, r⟩
      refine R2.set (.inl ⟨S.length, a, rfl, ?_, rfl⟩)
      rw [← R1.ml, List.getElem?_append_right (Nat.le_refl _), Nat.sub_self]
      rfl
    have l1 : Later μ F H (μ ++ [a]) F1 H1 := ⟨⟨[a], rfl, fun b hb => by rw [List.mem_singleton.mp hb]; exact h0⟩, x1.up, fun b o _ h => s1 b o h, fun b h => same_none s1 h, x1.nw⟩
    have fin : ∀ o : SO, RepO g H1 F1 (μ ++ [a]) o a → OkS g W μ F H (.nx (setD σ i (.loc S.length)) (S ++ [o])) Dn → gName i (.ref a) σc H1 Dn.nx := fun o ro q2 => q2 _ _ _ _ l1 (mk o ro)
    split at q1
    · rename_i xs
      obtain ⟨vs, k1, k2, k3⟩ := rn
      exact fin (.lst xs) ⟨vs, k1, k2, k3.vs⟩ q1
    · rename_i ks ws
      obtain ⟨vs, k1, k2⟩ := rn
      exact fin (.dct ks ws) ⟨vs, k1.vs, k2⟩ q1
    · exact q1.elim
  · exact q1.elim

theorem s_new (hN : X.N.Nodup) (hi : X.N[i]? = some x) (hx : Loc X.env.scope x) (he : PE X e (T g W f)) (hs : swapsWith e (some (.Name x pos')) pos.line X.env = pure false := by rfl) (hf : X.fn x = true ∨ X.env.scope.names.lookup x = some .local := by first | exact .inl rfl | exact .inr rfl | assumption) :
    PS X (.Assign [.Name x pos'] e pos) (TSt g W (sNew i f)) := (ps_set hN hi hx he hs hf).hc fun Dn σ H h => new_of h
theorem s_expr (he : PE X e (T g W f)) (hs : swapsWith e none pos.line X.env = pure false := by rfl) : PS X (.Expr e pos) (TSt g W (sExpr f)) := (ps_expr he hs).hc fun Dn σc H ⟨μ, F, σ, S, R, q⟩ =>
  R.svalF q fun d fr v H1 F1 s1 x1 R1 r1 q1 => q1.next R1
theorem s_ret (he : PE X e (T g W f)) : PS X (.Return (some e) pos) (TSt g W (sRet f)) := (ps_ret he).hc fun Dn σc H ⟨μ, F, σ, S, R, q⟩ =>
  R.sval q fun d fr v H1 F1 s1 x1 R1 r1 q1 => by
    have q2 : OkS g W μ F H (retD S d fr) Dn := q1
    have l : Later μ F H μ F1 H1 := .of s1 x1
    unfold retD at q2
    split at q2
    · rename_i n
      rcases r1 with ⟨_, r1⟩ | ⟨_, _, _, _, _, _, r1⟩
      · rcases r1 with ⟨m, a, e, ha, rfl⟩ | r1
        · cases e
          have am : a ∈ μ := List.mem_of_getElem? ha
          split at q2
          · rename_i xs es
            split at q2
            · rename_i hp
              obtain ⟨b, hb, vs, k1, k2, k3⟩ := R1.st n _ (by rw [← gets_eq]; exact es)
              rw [ha] at hb
              cases hb
              exact q2 _ μ F1 H1 l (.inr ⟨rfl, a, rfl, .inr am, R1.ap a am, vs, k1, k2, k3.pure hp⟩) R1.dom
            · exact q2.elim
          · rename_i ks ws es
            split at q2
            · rename_i hp
              obtain ⟨b, hb, vs, k1, k2⟩ := R1.st n _ (by rw [← gets_eq]; exact es)
              rw [ha] at hb
              cases hb
              exact q2 _ μ F1 H1 l (.inr ⟨rfl, a, rfl, .inr am, R1.ap a am, vs, k1.pure hp, k2⟩) R1.dom
            · exact q2.elim
          · exact q2.elim
        · exact r1.elim
      · exact r1.elim
    · exact q2.elim
    · rename_i h1 h2
      refine q2 v μ F1 H1 l ?_ R1.dom
      rcases r1 with ⟨e, r1⟩ | ⟨e, a, ev, h0, nf, nm, rn⟩
      · refine .inl ⟨e, r1.pure ?_⟩
        cases d with
        | loc n => exact absurd rfl (h1 n)
        | _ => rfl
      · exact .inr ⟨e, a, ev, .inl h0, nf, rn⟩
theorem s_retN : PS X (.Return none pos) (TSt g W sRetN) := ps_retN.hc fun Dn σc H ⟨μ, F, σ, S, R, q⟩ => q .non μ F H .refl (.inl ⟨rfl, rfl⟩) R.dom
theorem if_of {c : Expr} {Dn : Ends} {σc : St} {H : Hp} (h : TSt g W (sIf fc fs fr) Dn σc H) : tIfS (TB g W fc) (TSt g W fs) (TSt g W fr) Dn σc H := by
  obtain ⟨μ, F, σ, S, R, q⟩ := h
  refine ⟨μ, F, σ, S, R, ?_⟩
  unfold sIf at q
  cases ea : fc σ S with
  | bad => rw [ea] at q; exact q
  | ex c as =>
    rw [ea] at q
    exact fun cls dx H' F' s x rx => q cls dx σc μ F' H' (.of s x) (R.mono s x) rx
  | ok d fl =>
    rw [ea] at q
    cases d with
    | bl b =>
      intro v H1 F1 s1 x1 r1
      obtain ⟨F2, x2, u2, r2⟩ := r1.frz x1
      refine ⟨b, r2.bl, ?_⟩
      cases b with
      | true => exact iteT ⟨μ, F2, σ, S, R.mono s1 x2, q.from (.of s1 x2)⟩
      | false => exact iteF ⟨μ, F2, σ, S, R.mono s1 x2, q.from (.of s1 x2)⟩
    | _ => exact q.elim
theorem s_if {c : Expr} {a b : List Stmt} (hc : PT X c (TB g W fc)) (ha : PSs X a (TSt g W fs)) (hb : PSs X b (TSt g W fr)) : PS X (.If c a b pos) (TSt g W (sIf fc fs fr)) := (ps_if hc ha hb).hc fun Dn σ H h => if_of (c := c) h
/-- a tuple's parts to names -/
def sAsgT (A : TgF) (f : CE) : SC := sVal f fun σ S d _ => match A d σ with
  | some σ1 => .nx σ1 S
  | none => .bad
theorem s_asgT {tg : Expr} {ss : List Nat} {A : TgF} (he : PE X e (T g W f)) (hg : PG X tg (TGt g ss A)) (hs : swapsWithSole [tg] e pos.line X.env = pure false := by rfl) (hw : swappedStores [tg] e X.env = pure none := by rfl)
    (h1 : (assignEach [tg] X.env).map (·.2) = [assign tg X.env] := by rfl) : PS X (.Assign [tg] e pos) (TSt g W (sAsgT A f)) := (ps_asg he hg hs hw h1).hc fun Dn σc H ⟨μ, F, σ, S, R, q⟩ =>
  R.svalF q fun d fr v H1 F1 s1 x1 R1 r1 q1 => by
    split at q1
    · rename_i σ1 e1
      exact ⟨μ, F1, σ, S, d, σ1, R1, r1, e1, fun σc' R2 _ => q1.next R2⟩
    · exact q1.elim
end
end HC

set_option maxRecDepth 100000
namespace HC
open PySem PySem.Spec L2
open PyProof.Rows hiding St

/-! ## lists of the store are written -/
section
variable {g : GX} {μ : List Addr} {F : FZ} {σ : Sl} {S : List SO} {σc : St} {H : Hp} {a : Addr} {us : List V} {o : HO}
theorem RepV.write {d : D} {v : V} (hb : H a = some (.lst us)) (nf : ¬ F a) (r : RepV g H F μ d v) : RepV g (upd H a o) F μ d v := r.imp (fun h => h) (RepP.write hb nf _ _)
theorem RepVs.write {ds : List D} {vs : List V} (hb : H a = some (.lst us)) (nf : ¬ F a) (r : RepVs g H F μ ds vs) : RepVs g (upd H a o) F μ ds vs := Paired.mapP r fun _ _ => RepV.write hb nf
theorem nodup_at {α : Type} {l : List α} (nd : l.Nodup) {i j : Nat} {x : α} (hi : l[i]? = some x) (hj : l[j]? = some x) : i = j := by
  obtain ⟨h1, e1⟩ := List.getElem?_eq_some_iff.mp hi
  obtain ⟨h2, e2⟩ := List.getElem?_eq_some_iff.mp hj
  exact (List.getElem_inj nd).mp (e1.trans e2.symm)
/-- the list at n becomes ys -/
theorem Rel.put (R : Rel g μ F σ S σc H) {n : Nat} {xs ys : List D} {ws : List V} (hS : gets S n = some (.lst xs)) (hm : μ[n]? = some a) (hz : ws.length ≤ sizeLine) (hy : RepVs g H F μ ys ws) :
    Rel g μ F σ (S.set n (.lst ys)) σc (upd H a (.lst ws)) ∧ Later μ F H μ F (upd H a (.lst ws)) := by
  rw [gets_eq] at hS
  obtain ⟨b, hb, vs, k1, k2, k3⟩ := R.st n _ hS
  rw [hm] at hb
  cases hb
  have am : a ∈ μ := List.mem_of_getElem? hm
  have nf : ¬ F a := R.ap a am
  refine ⟨⟨fun i d h => let ⟨v, h1, h2⟩ := R.env i d h; ⟨v, h1, h2.write k1 nf⟩, R.len, fun k o2 h => ?_, by rw [List.length_set]; exact R.ml, R.nd, R.ap, fun b hb => ?_, fun p hp => ?_⟩, ⟨⟨[], by simp, fun x h => (nomatch h)⟩, fun _ h => h, fun b o hb e => ?_, fun b h => ?_, fun _ h => .inl h⟩⟩
  · by_cases hk : n = k
    · subst hk
      rw [List.getElem?_set_self (List.getElem?_eq_some_iff.mp hS).1] at h
      cases h
      exact ⟨a, hm, ws, upd_same, hz, hy.write k1 nf⟩
    · rw [List.getElem?_set_ne hk] at h
      obtain ⟨b, h1, h2⟩ := R.st k o2 h
      have nb : b ≠ a := fun z => hk (nodup_at R.nd hm (by rw [← z]; exact h1))
      refine ⟨b, h1, ?_⟩
      cases o2 with
      | lst zs => obtain ⟨vs, q1, q2, q3⟩ := h2; exact ⟨vs, (upd_ne nb).trans q1, q2, q3.write k1 nf⟩
      | dct ks zs =>
        obtain ⟨vs, q1, q2⟩ := h2
        exact ⟨vs, q1.write k1 nf, q2.imp (fun ⟨kvs, z, y⟩ => ⟨kvs, (upd_ne nb).trans z, y⟩) fun ⟨kvs, z, y⟩ => ⟨kvs, (upd_ne nb).trans z, y⟩⟩
      | ins c zs => obtain ⟨dx, fs, vs, q1, q2, q3, q4⟩ := h2; exact ⟨dx, fs, vs, (upd_ne nb).trans q1, q2, q3, q4.write k1 nf⟩
  · obtain ⟨o, e⟩ := R.dom b hb
    have nb : b ≠ a := fun z => nf (z ▸ hb)
    exact ⟨o, (upd_ne nb).trans e⟩
  · obtain ⟨h1, x, vs, h2, h3, fs, h4, h5⟩ := R.xc p hp
    exact ⟨h1, x, vs, h2, h3.write k1 nf, fs, (upd_ne (ne_of h4 k1 (fun z => nomatch z))).trans h4, h5⟩
  · have nb : b ≠ a := fun z => hb (by rw [z]; exact am)
    exact (upd_ne nb).trans e
  · by_cases z : b = a
    · rw [z, upd_same] at h; cases h
    · rw [upd_ne z] at h; exact h
/-- a list of the store, at its place -/
theorem Rel.locl (R : Rel g μ F σ S σc H) {n : Nat} {xs : List D} {v : V} (r : RepV g H F μ (.loc n) v) (hS : gets S n = some (.lst xs)) : ∃ b vs, v = .ref b ∧ μ[n]? = some b ∧ H b = some (.lst vs) ∧ vs.length ≤ sizeLine ∧ RepVs g H F μ xs vs := by
  rcases r with ⟨m, b, e, hm, rfl⟩ | r
  · cases e
    obtain ⟨b2, hb, vs, k1, k2, k3⟩ := R.st n _ (by rw [← gets_eq]; exact hS)
    rw [hm] at hb
    cases hb
    exact ⟨b, vs, rfl, hm, k1, k2, k3⟩
  · exact r.elim
end
def putL (S : List SO) (n : Nat) (ys : List D) : List SO := S.set n (.lst ys)
theorem RepVs.set {g : GX} {H : Hp} {F : FZ} {μ : List Addr} {d : D} {v : V} (r : RepV g H F μ d v) : ∀ {ds : List D} {vs : List V} (i : Nat), RepVs g H F μ ds vs → RepVs g H F μ (ds.set i d) (vs.set i v)
  | _, _, _, .nil => .nil
  | _, _, 0, .cons _ t => .cons r t
  | _, _, i + 1, .cons q t => .cons q (RepVs.set r i t)
theorem RepVs.app {g : GX} {H : Hp} {F : FZ} {μ : List Addr} : ∀ {xs ys : List D} {vs ws : List V}, RepVs g H F μ xs vs → RepVs g H F μ ys ws → RepVs g H F μ (xs ++ ys) (vs ++ ws)
  | _, _, _, _, .nil, s => s
  | _, _, _, _, .cons r t, s => .cons r (RepVs.app t s)
theorem RepVs.take {g : GX} {H : Hp} {F : FZ} {μ : List Addr} : ∀ (n : Nat) {xs : List D} {vs : List V}, RepVs g H F μ xs vs → RepVs g H F μ (xs.take n) (vs.take n)
  | 0, _, _, _ => .nil
  | _ + 1, _, _, .nil => .nil
  | n + 1, _, _, .cons r t => .cons r (RepVs.take n t)
theorem RepVs.drop {g : GX} {H : Hp} {F : FZ} {μ : List Addr} : ∀ (n : Nat) {xs : List D} {vs : List V}, RepVs g H F μ xs vs → RepVs g H F μ (xs.drop n) (vs.drop n)
  | 0, _, _, r => r
  | _ + 1, _, _, .nil => .nil
  | n + 1, _, _, .cons _ t => RepVs.drop n t
/-! ### methods of lists -/
/-- the items, the arguments: the new items, the answer -/
abbrev LM := List D → List D → Option (List D × D)
def LkM (g : GX) (r : V → List V → Hp → VK → Prop) (fn : LM) : Prop :=
  ∀ (μ : List Addr) (F : FZ) (H : Hp) (a : Addr) (xs : List D) (vs : List V) (ds : List D) (us : List V) (ys : List D) (res : D) (Q : VK), H a = some (.lst vs) → vs.length ≤ sizeLine → RepVs g H F μ xs vs → RepVs g H F μ ds us → fn xs ds = some (ys, res) →
    (∀ ws v, RepVs g H F μ ys ws → ws.length ≤ sizeLine → RepV g H F μ res v → Q v (upd H a (.lst ws))) → r (.ref a) us H Q
def sArgs (f : CA) (k : Sl → List SO → List D → RS) : SC := fun σ S => match f σ S with
  | .ok ds => k σ S ds
  | .ex c as => .ex c as σ S
  | .bad => .bad
def locL (S : List SO) (d : D) (k : Nat → List D → RS) : RS := match d with
  | .loc n => match gets S n with
    | some (.lst xs) => k n xs
    | _ => .bad
  | _ => .bad
def kMeth (fn : LM) (n : Nat) (k : Sl → List SO → D → RS) (σ : Sl) (S : List SO) (ds : List D) : RS := match gets S n with
  | some (.lst xs) => match fn xs ds with
    | some (ys, res) => k σ (putL S n ys) res
    | none => .bad
  | _ => .bad
/-- o.m(args), then k of the answer -/
def sMeth (fn : LM) (fo : CE) (fa : CA) (k : Sl → List SO → D → RS) : SC := sVal fo fun σ S x _ => locL S x fun n _ => sArgs fa (kMeth fn n k) σ S
def sMethE (fn : LM) (fo : CE) (fa : CA) : SC := sMeth fn fo fa fun σ S _ => .nx σ S
def sMethA (i : Nat) (fn : LM) (fo : CE) (fa : CA) : SC := sMeth fn fo fa fun σ S d => .nx (setD σ i d) S
section
variable {g : GX} {μ : List Addr} {F : FZ} {σ : Sl} {S : List SO} {σc : St} {H : Hp} {W : WX} {Dn : Ends}
theorem Rel.sargs (R : Rel g μ F σ S σc H) {f : CA} {k : Sl → List SO → List D → RS} {Q : List V → Hp → Prop} (q : OkS g W μ F H (sArgs f k σ S) Dn)
    (w : ∀ (ds : List D) (vs : List V) (H1 : Hp) (F1 : FZ), Same H H1 → FX F H F1 H1 → Rel g μ F1 σ S σc H1 → RepVs g H1 F1 μ ds vs → OkS g W μ F1 H1 (k σ S ds) Dn → Q vs H1) : TL g W f σc H Q := by
  refine ⟨μ, F, σ, S, R, ?_⟩
  unfold sArgs at q
  cases ea : f σ S with
  | bad => rw [ea] at q; exact q
  | ex c as =>
    rw [ea] at q
    exact fun cls dx H' F' s x rx => q cls dx σc μ F' H' (.of s x) (R.mono s x) rx
  | ok ds =>
    rw [ea] at q
    exact fun vs H1 F1 s1 x1 r1 => w ds vs H1 F1 s1 x1 (R.mono s1 x1) r1 (q.from (.of s1 x1))
theorem locL_ok {d : D} {v : V} {k : Nat → List D → RS} (R : Rel g μ F σ S σc H) (r : RepV g H F μ d v) (q : OkS g W μ F H (locL S d k) Dn) :
    ∃ n xs b vs, d = .loc n ∧ gets S n = some (.lst xs) ∧ v = .ref b ∧ μ[n]? = some b ∧ H b = some (.lst vs) ∧ vs.length ≤ sizeLine ∧ RepVs g H F μ xs vs ∧ OkS g W μ F H (k n xs) Dn := by
  unfold locL at q
  split at q
  · rename_i n
    split at q
    · rename_i xs e
      obtain ⟨b, vs, h1, h2, h3, h4, h5⟩ := R.locl r e
      exact ⟨n, xs, b, vs, rfl, e, h1, h2, h3, h4, h5, q⟩
    · exact q.elim
  · exact q.elim
theorem kMeth_ok {fn : LM} {r : V → List V → Hp → VK → Prop} (l : LkM g r fn) {n : Nat} {k : Sl → List SO → D → RS} {b : Addr} {ds : List D} {us : List V} {Q : VK} (R : Rel g μ F σ S σc H) (hm : μ[n]? = some b) (rd : RepVs g H F μ ds us)
    (q : OkS g W μ F H (kMeth fn n k σ S ds) Dn)
    (w : ∀ (S' : List SO) (res : D) (v : V) (H' : Hp), Rel g μ F σ S' σc H' → RepV g H' F μ res v → OkS g W μ F H' (k σ S' res) Dn → Q v H') : r (.ref b) us H Q := by
  unfold kMeth at q
  split at q
  · rename_i xs e
    split at q
    · rename_i ys res ef
      obtain ⟨b2, vs, h1, h2, h3, h4, h5⟩ := R.locl (v := .ref b) (.inl ⟨n, b, rfl, hm, rfl⟩) e
      cases h1
      refine l μ F H b xs vs ds us ys res Q h3 h4 h5 rd ef fun ws v ry hz rr => ?_
      obtain ⟨R', lt⟩ := R.put (ys := ys) e hm hz ry
      exact w _ res v _ R' (rr.write h3 (R.ap b (List.mem_of_getElem? hm))) (q.from lt)
    · exact q.elim
  · exact q.elim
end
section
variable {X : Cx} {g : GX} {W : WX} {o e : Expr} {es : List Expr} {fo : CE} {fa : CA} {fn : LM} {pos apos cpos pos' : Pos} {name : Str} {id : String} {r : V → List V → Hp → VK → Prop} {i : Nat} {x : Str}
theorem meth_read {k : Sl → List SO → D → RS} {Dn : Ends} {σc : St} {H : Hp} {Q : VK} (l : LkM g r fn) (hg : X.K = g.K) (h : TSt g W (sMeth fn fo fa k) Dn σc H)
    (w : ∀ (μ : List Addr) (F : FZ) (σ : Sl) (S' : List SO) (res : D) (v : V) (H' : Hp), Rel g μ F σ S' σc H' → RepV g H' F μ res v → OkS g W μ F H' (k σ S' res) Dn → Q v H') : tBM X.K "list" r (T g W fo) (TL g W fa) σc H Q := by
  obtain ⟨μ, F, σ, S, R, q⟩ := h
  refine R.svalF q fun d fr v H1 F1 s1 x1 R1 r1 q1 => ?_
  obtain ⟨n, xs, b, vs, rfl, e, rfl, hm, hb, hz, rx, q2⟩ := locL_ok R1 r1 q1
  refine ⟨.inl ⟨rfl, vs, SqL.of hb⟩, R1.sargs q2 fun ds us H2 F2 s2 x2 R2 rd q3 => ?_⟩
  exact kMeth_ok l R2 hm rd q3 fun S' res v H' R' rr q' => w μ F2 σ S' res v H' R' rr q'
theorem meth_read0 {k : Sl → List SO → D → RS} {Dn : Ends} {σc : St} {H : Hp} {Q : VK} (l : LkM g r fn) (hg : X.K = g.K) (h : TSt g W (sMeth fn fo cNil k) Dn σc H)
    (w : ∀ (μ : List Addr) (F : FZ) (σ : Sl) (S' : List SO) (res : D) (v : V) (H' : Hp), Rel g μ F σ S' σc H' → RepV g H' F μ res v → OkS g W μ F H' (k σ S' res) Dn → Q v H') : tBM0 X.K "list" r (T g W fo) σc H Q := by
  obtain ⟨μ, F, σ, S, R, q⟩ := h
  refine R.svalF q fun d fr v H1 F1 s1 x1 R1 r1 q1 => ?_
  obtain ⟨n, xs, b, vs, rfl, e, rfl, hm, hb, hz, rx, q2⟩ := locL_ok R1 r1 q1
  refine ⟨.inl ⟨rfl, vs, SqL.of hb⟩, ?_⟩
  exact kMeth_ok (ds := []) l R1 hm .nil q2 fun S' res v H' R' rr q' => w μ F1 σ S' res v H' R' rr q'
/-- o.m(e, ..) as a statement -/
theorem s_methE (slot : Slot "list" name id) (hty : typeOf (.builtin id) = pure (.type "method_descriptor")) (hm : MtR X id r) (l : LkM g r fn) (ho : PE X o (T g W fo)) (ha : PA X (e :: es) (TL g W fa)) (hg : X.K = g.K := by rfl)
    (hbase : attributeBase o name X.env (eval o X.env) = eval o X.env := by rfl) (hs : swapsWith (.Call (.Attribute o name apos) (e :: es) [] cpos) none pos.line X.env = pure false := by rfl)
    (hfew : ((backTo cpos (starEach (e :: es) X.env)).all (fun x => !x.1) && (backToKw cpos (keywordEach [] X.env)).all (fun x => x.1.isSome) && decide ((e :: es).length + ([] : List Keyword).length + (if ([] : List Keyword).isEmpty then 0 else 1) < 30)) = true := by rfl)
    (hline : (apos.endLine == cpos.line) = true := by rfl) (hst : starEach (e :: es) X.env = (false, eval e X.env) :: starEach es X.env := by rfl) (hplain : (backTo cpos (starEach es X.env)).any (·.1) = false := by rfl) :
    PS X (.Expr (.Call (.Attribute o name apos) (e :: es) [] cpos) pos) (TSt g W (sMethE fn fo fa)) :=
  (ps_expr (pe_bm PySem.F.plainAttrs_list slot hty hm ho ha hbase hfew hline hst hplain) hs).hc fun Dn σc H h => meth_read l hg h fun μ F σ S' res v H' R' rr q' => q'.next R'

theorem s_methE0 (slot : Slot "list" name id) (hty : typeOf (.builtin id) = pure (.type "method_descriptor")) (hm : MtR X id r) (l : LkM g r fn) (ho : PE X o (T g W fo)) (hg : X.K = g.K := by rfl)
    (hbase : attributeBase o name X.env (eval o X.env) = eval o X.env := by rfl) (hs : swapsWith (.Call (.Attribute o name apos) [] [] cpos) none pos.line X.env = pure false := by rfl) (hline : (apos.endLine == cpos.line) = true := by rfl) :
    PS X (.Expr (.Call (.Attribute o name apos) [] [] cpos) pos) (TSt g W (sMethE fn fo cNil)) :=
  (ps_expr (pe_bm0 PySem.F.plainAttrs_list slot hty hm ho hbase hline) hs).hc fun Dn σc H h => meth_read0 l hg h fun μ F σ S' res v H' R' rr q' => q'.next R'
/-- x = o.m(..) -/
theorem s_methA0 (hN : X.N.Nodup) (hi : X.N[i]? = some x) (hx : Loc X.env.scope x) (slot : Slot "list" name id) (hty : typeOf (.builtin id) = pure (.type "method_descriptor")) (hm : MtR X id r) (l : LkM g r fn) (ho : PE X o (T g W fo)) (hg : X.K = g.K := by rfl)
    (hbase : attributeBase o name X.env (eval o X.env) = eval o X.env := by rfl) (hs : swapsWith (.Call (.Attribute o name apos) [] [] cpos) (some (.Name x pos')) pos.line X.env = pure false := by rfl) (hline : (apos.endLine == cpos.line) = true := by rfl)
    (hf : X.fn x = true ∨ X.env.scope.names.lookup x = some .local := by first | exact .inl rfl | exact .inr rfl | assumption) :
    PS X (.Assign [.Name x pos'] (.Call (.Attribute o name apos) [] [] cpos) pos) (TSt g W (sMethA i fn fo cNil)) :=
  (ps_set hN hi hx (pe_bm0 PySem.F.plainAttrs_list slot hty hm ho hbase hline) hs hf).hc fun Dn σc H h => meth_read0 l hg h fun μ F σ S' res v H' R' rr q' => q'.next (R'.set rr)
theorem s_methA (hN : X.N.Nodup) (hi : X.N[i]? = some x) (hx : Loc X.env.scope x) (slot : Slot "list" name id) (hty : typeOf (.builtin id) = pure (.type "method_descriptor")) (hm : MtR X id r) (l : LkM g r fn) (ho : PE X o (T g W fo)) (ha : PA X (e :: es) (TL g W fa)) (hg : X.K = g.K := by rfl)
    (hbase : attributeBase o name X.env (eval o X.env) = eval o X.env := by rfl) (hs : swapsWith (.Call (.Attribute o name apos) (e :: es) [] cpos) (some (.Name x pos')) pos.line X.env = pure false := by rfl)
    (hfew : ((backTo cpos (starEach (e :: es) X.env)).all (fun x => !x.1) && (backToKw cpos (keywordEach [] X.env)).all (fun x => x.1.isSome) && decide ((e :: es).length + ([] : List Keyword).length + (if ([] : List Keyword).isEmpty then 0 else 1) < 30)) = true := by rfl)
    (hline : (apos.endLine == cpos.line) = true := by rfl) (hst : starEach (e :: es) X.env = (false, eval e X.env) :: starEach es X.env := by rfl) (hplain : (backTo cpos (starEach es X.env)).any (·.1) = false := by rfl)
    (hf : X.fn x = true ∨ X.env.scope.names.lookup x = some .local := by first | exact .inl rfl | exact .inr rfl | assumption) :
    PS X (.Assign [.Name x pos'] (.Call (.Attribute o name apos) (e :: es) [] cpos) pos) (TSt g W (sMethA i fn fo fa)) :=
  (ps_set hN hi hx (pe_bm PySem.F.plainAttrs_list slot hty hm ho ha hbase hfew hline hst hplain) hs hf).hc fun Dn σc H h => meth_read l hg h fun μ F σ S' res v H' R' rr q' => q'.next (R'.set rr)
end
/-! ### the methods -/
def mAppend : LM := fun xs ds => match ds with
  | [y] => if xs.length < lim then some (xs ++ [y], .non) else none
  | _ => none
theorem lm_append {g : GX} : LkM g rAppend mAppend := by
  intro μ F H a xs vs ds us ys res Q ha hz rx rd e q
  unfold mAppend at e
  split at e
  · rename_i y
    obtain ⟨u, rfl, ru⟩ := rd.one
    split at e
    · rename_i hl
      cases e
      have hv := rx.length
      have h1 : vs.length < sizeLine := by rw [lim_eq, ← hv]; exact hl
      exact ⟨a, vs, u, rfl, rfl, ha, h1, q _ _ (rx.app (.cons ru .nil)) (by rw [List.length_append]; exact h1) (.inr rfl)⟩
    · cases e
  · cases e
def lastD : List D → Option D
  | [] => none
  | [d] => some d
  | _ :: r => lastD r
def initD : List D → List D
  | [] => []
  | [_] => []
  | d :: r => d :: initD r
theorem lastD_eq : ∀ xs : List D, lastD xs = xs[xs.length - 1]?
  | [] => rfl
  | [d] => rfl
  | d :: e :: r => by
    show lastD (e :: r) = _
    rw [lastD_eq (e :: r)]
    simp
theorem initD_eq : ∀ xs : List D, initD xs = xs.dropLast
  | [] => rfl
  | [d] => rfl
  | d :: e :: r => by
    show d :: initD (e :: r) = _
    rw [initD_eq (e :: r)]
    rfl
def mPop : LM := fun xs ds => match ds with
  | [] => match lastD xs with
    | some y => some (initD xs, y)
    | none => none
  | _ => none
theorem lm_pop {g : GX} : LkM g rPop mPop := by
  intro μ F H a xs vs ds us ys res Q ha hz rx rd e q
  unfold mPop at e
  split at e
  · cases rd
    split at e
    · rename_i y ey
      cases e
      rw [lastD_eq] at ey
      obtain ⟨v, hv, rv⟩ := rx.get ey
      rw [rx.length] at hv
      refine ⟨a, vs, v, rfl, rfl, ha, hv, q _ _ ?_ (by rw [List.length_dropLast]; omega) rv⟩
      rw [initD_eq, List.dropLast_eq_take, List.dropLast_eq_take, rx.length]
      exact rx.take _
    · cases e
  · cases e
def mInsert : LM := fun xs ds => match ds with
  | [.int i, y] => if 0 ≤ i && i < 4611686018427387904 && xs.length < lim then some (xs.take i.toNat ++ [y] ++ xs.drop i.toNat, .non) else none
  | _ => none
theorem lm_insert {g : GX} : LkM g (fun x vs H Q => ∃ (l : Addr) (xs : List V) (i : Int) (y : V), x = .ref l ∧ vs = [.int i, y] ∧ H l = some (.lst xs) ∧ xs.length < sizeLine ∧ 0 ≤ i ∧ i < 2 ^ 63 ∧ Q .non (upd H l (.lst (xs.take i.toNat ++ [y] ++ xs.drop i.toNat)))) mInsert := by
  intro μ F H a xs vs ds us ys res Q ha hz rx rd e q
  unfold mInsert at e
  split at e
  · rename_i i y
    obtain ⟨u, w, rfl, ru, rw'⟩ := rd.two
    cases ru.int
    split at e
    · rename_i h
      simp only [Bool.and_eq_true, decide_eq_true_eq] at h
      cases e
      have hv := rx.length
      have h1 : vs.length < sizeLine := by rw [lim_eq, ← hv]; exact h.2
      refine ⟨a, vs, i, w, rfl, rfl, ha, h1, h.1.1, by omega, q _ _ (((rx.take _).app (.cons rw' .nil)).app (rx.drop _)) ?_ (.inr rfl)⟩
      rw [List.length_append, List.length_append, List.length_take, List.length_drop]
      simp
      omega
    · cases e
  · cases e

/-! ## x[i] = e -/
def setI (xs : List D) (i : Int) (y : D) : Option (List D) := match i with
  | .ofNat n => if n < xs.length then some (xs.set n y) else none
  | .negSucc m => if m + 1 ≤ xs.length then some (xs.set (xs.length - (m + 1)) y) else none
theorem setI_ix {xs ys : List D} {i : Int} {y : D} (h : setI xs i y = some ys) : ∃ j, ixN xs.length i = some j ∧ ys = xs.set j y := by
  unfold setI at h
  unfold ixN
  split at h
  · rename_i n
    split at h
    · rename_i hn
      refine ⟨n, ?_, (Option.some.inj h).symm⟩
      have h0 : (0 : Int) ≤ Int.ofNat n := Int.natCast_nonneg n
      have h1 : Int.ofNat n < (xs.length : Int) := Int.ofNat_lt.mpr hn
      rw [if_pos h0, if_pos h1]
      rfl
    · cases h
  · rename_i m
    split at h
    · rename_i hn
      refine ⟨xs.length - (m + 1), ?_, (Option.some.inj h).symm⟩
      rw [if_neg (by omega), if_pos (by omega)]
      congr 1
      omega
    · cases h
def kSub (y : D) (σ : Sl) (S : List SO) (x i : D) : RS := match i with
  | .int i => locL S x fun n xs => match setI xs i y with
    | some ys => .nx σ (putL S n ys)
    | none => .bad
  | _ => .bad
def sTwo (a b : CE) (k : Sl → List SO → D → D → RS) : SC := sVal a fun σ S x _ => sVal b (fun σ S y _ => k σ S x y) σ S
def sSub (fe fo fi : CE) : SC := sVal fe fun σ S y _ => sTwo fo fi (kSub y) σ S
section
variable {g : GX} {μ : List Addr} {F : FZ} {σ : Sl} {S : List SO} {σc : St} {H : Hp} {W : WX} {Dn : Ends}
/-- a store into a list of the store -/
theorem kSub_ok {x i y : D} {vx vi vy : V} {Q : Hp → Prop} (R : Rel g μ F σ S σc H) (rx : RepV g H F μ x vx) (ri : RepV g H F μ i vi) (ry : RepV g H F μ y vy) (q : OkS g W μ F H (kSub y σ S x i) Dn)
    (w : ∀ (S' : List SO) (H' : Hp), Rel g μ F σ S' σc H' → OkS g W μ F H' (.nx σ S') Dn → Q H') : rSetL vx vi vy H Q := by
  unfold kSub at q
  split at q
  · rename_i k
    cases ri.int
    obtain ⟨n, xs, b, vs, rfl, e, rfl, hm, hb, hz, rxs, q2⟩ := locL_ok R rx q
    split at q2
    · rename_i ys ey
      obtain ⟨j, hj, rfl⟩ := setI_ix ey
      rw [rxs.length] at hj
      obtain ⟨R', lt⟩ := R.put (ys := xs.set j y) e hm (by rw [List.length_set]; exact hz) (rxs.set ry j)
      exact ⟨b, vs, k, j, rfl, rfl, hb, hj, w _ _ R' (q2.from lt)⟩
    · exact q2.elim
  · exact q.elim
end
section
variable {X : Cx} {g : GX} {W : WX} {o e i : Expr} {fo fe fi : CE} {pos pos' : Pos}
theorem s_sub (he : PE X e (T g W fe)) (ho : PE X o (T g W fo)) (hi : PE X i (T g W fi))
    (ha : ∀ v, assign (.Subscript o i pos') X.env v = (do
      let ov ← holding [v] (eval o X.env)
      let iv ← holding [v, ov] (eval i X.env)
      standAt pos'
      holding [v, ov, iv] (setItem ov iv v)
      release [v, ov, iv] []) := by intro _; rfl) (hs : swapsWithSole [.Subscript o i pos'] e pos.line X.env = pure false := by rfl) (hw : swappedStores [.Subscript o i pos'] e X.env = pure none := by rfl)
    (h1 : (assignEach [.Subscript o i pos'] X.env).map (·.2) = [assign (.Subscript o i pos') X.env] := by rfl) : PS X (.Assign [.Subscript o i pos'] e pos) (TSt g W (sSub fe fo fi)) :=
  (ps_asg he (pg_sub ho hi set_list ha) hs hw h1).hc fun Dn σc H ⟨μ, F, σ, S, R, q⟩ => R.svalF q fun y fy vy H1 F1 s1 x1 R1 ry q1 =>
    R1.svalF q1 fun x fx vx H2 F2 s2 x2 R2 rx q2 => R2.svalF q2 fun k fk vk H3 F3 s3 x3 R3 rk q3 =>
      kSub_ok R3 (rx.mono s3 x3.up) rk ((ry.mono s2 x2.up).mono s3 x3.up) q3 fun S' H' R' q' => q'.next R'
end

/-! ## x op= e, x[i] op= e -/
def sAug (i : Nat) (fn : List SO → D → D → Res) (f : CE) : SC := fun σ S => match gets σ i with
  | some (some x) => sVal f (fun σ S y _ => match fn S x y with
    | .ok d false => .nx (setD σ i d) S
    | _ => .bad) σ S
  | _ => .bad
def iAdd (_ : List SO) (x y : D) : Res := match x, y with
  | .int i, .int j => .ok (.int (i + j)) false
  | _, _ => .bad
def iMul (_ : List SO) (x y : D) : Res := match x, y with
  | .int i, .int j => if small i || small j then .ok (.int (i * j)) false else .bad
  | _, _ => .bad
theorem lk_iadd {g : GX} : Lk2 g (rI0 fun i j => .int (i + j)) iAdd := by
  intro E μ F σ S σc H x y vx vy Q R rx ry q
  unfold iAdd at q
  split at q
  · exact ⟨_, _, rx.int, ry.int, q.here R.dom (.inr rfl)⟩
  · exact q.elim
theorem lk_imul {g : GX} : Lk2 g (rI CMul fun i j => .int (i * j)) iMul := by
  intro E μ F σ S σc H x y vx vy Q R rx ry q
  unfold iMul at q
  split at q
  · split at q
    · rename_i h
      rw [Bool.or_eq_true] at h
      refine ⟨_, _, rx.int, ry.int, h.imp small_ok small_ok, q.here R.dom (.inr rfl)⟩
    · exact q.elim
  · exact q.elim
def kAugS (fn : List SO → D → D → Res) (fe : CE) (σ : Sl) (S : List SO) (x i : D) : RS := match i with
  | .int k => locL S x fun _ xs => match atD xs k with
    | some z => sVal fe (fun σ S y _ => match fn S z y with
      | .ok d false => kSub d σ S x (.int k)
      | _ => .bad) σ S
    | none => .bad
  | _ => .bad
def sAugS (fn : List SO → D → D → Res) (fo fi fe : CE) : SC := sTwo fo fi (kAugS fn fe)
theorem get_list {X : Cx} : PGet X (rIxL X.K) := by
  intro pins s σ H x y v u Q I rx ry h
  obtain ⟨p, xs, i, z, rfl, rfl, hq, he, q⟩ := h
  cases rx
  obtain ⟨t, rfl⟩ := ry
  obtain ⟨its, r, pl, hz⟩ := I.list hq
  obtain ⟨j, h1, h2, h3, h4, h5⟩ := atI_get he
  obtain ⟨w, ew, rw'⟩ := r.get h2
  have hl := r.length
  have hn : sizeLine < 2 ^ 63 := by rw [sizeLine_eq]; decide
  have hi : xs.length < 2 ^ 63 := Nat.lt_of_le_of_lt hz hn
  have fin : EP X pins σ Q w s := ⟨z, H, I, rw', q⟩
  by_cases h0 : 0 ≤ i
  · have hj : i.toNat = j := by
      rw [seqIndex_of h0 h5] at h1
      exact Option.some.inj h1
    exact wpAny_getItem_list pl.isList h0 (by omega) (by rw [hj]; simpa using ew) fin
  · have hj : (i + (its.toArray.size : Int)).toNat = j := by
      rw [seqIndex_neg (by omega) h4] at h1
      rw [List.size_toArray, ← hl]
      exact Option.some.inj h1
    exact wpAny_getItem_list_neg pl.isList (by omega) (by rw [List.size_toArray]; omega) (by omega) (by rw [hj]; simpa using ew) fin
section
variable {X : Cx} {g : GX} {W : WX} {o e i : Expr} {fo fe fi f : CE} {pos pos' : Pos} {k : Nat} {x : Str} {op : Operator} {r : R2} {fn : List SO → D → D → Res}
theorem s_aug (hN : X.N.Nodup) (hi : X.N[k]? = some x) (hx : Loc X.env.scope x) (he : PE X e (T g W f)) (ho : OpR X (inplaceOp op) r) (l : Lk2 g r fn) (hf : X.fn x = true ∨ X.env.scope.names.lookup x = some .local := by first | exact .inl rfl | exact .inr rfl | assumption) :
    PS X (.AugAssign (.Name x pos') op e pos) (TSt g W (sAug k fn f)) :=
  (ps_aug hN hi hx he ho hf).hc fun Dn σc H ⟨μ, F, σ, S, R, q⟩ => by
    unfold sAug at q
    split at q
    · rename_i d ed
      obtain ⟨v, hv, rv⟩ := R.get ed
      refine ⟨v, hv, R.svalF q fun y fy vy H1 F1 s1 x1 R1 ry q1 => ?_⟩
      split at q1
      · rename_i z ez
        refine l (fun _ _ _ => False) μ F1 σ S σc H1 d y v vy _ R1 (rv.mono s1 x1.up) ry ?_
        rw [ez]
        intro w H2 F2 s2 x2 r2
        rcases r2 with ⟨_, r2⟩ | ⟨e, _⟩
        · exact (q1.from (.of s2 x2)).next ((R1.mono s2 x2).set r2)
        · cases e
      · exact q1.elim
    · exact q.elim
theorem s_augS (ho : PE X o (T g W fo)) (hi : PE X i (T g W fi)) (he : PE X e (T g W fe)) (hp : OpR X (inplaceOp op) r) (l : Lk2 g r fn) (hg : X.K = g.K := by rfl)
    (ha : ∀ ov iv new, augStore i ov iv new = (do holding [new, ov, iv] (setItem ov iv new); release [new, ov, iv] []; pure .next) := by intros; rfl) : PS X (.AugAssign (.Subscript o i pos') op e pos) (TSt g W (sAugS fn fo fi fe)) :=
  (ps_augS ho hi get_list he hp set_list ha).hc fun Dn σc H ⟨μ, F, σ, S, R, q⟩ => by
    have q : OkS g W μ F H (sVal fo (fun σ S x _ => sVal fi (fun σ S y _ => kAugS fn fe σ S x y) σ S) σ S) Dn := q
    refine R.svalF q fun x fx vx H1 F1 s1 x1 R1 rx q1 => R1.svalF q1 fun y fy vy H2 F2 s2 x2 R2 ry q2 => ?_
    unfold kAugS at q2
    split at q2
    · rename_i k
      cases ry.int
      have rx2 := rx.mono s2 x2.up
      obtain ⟨n, xs, b, vs, rfl, e, rfl, hm, hb, hz, rxs, q3⟩ := locL_ok R2 rx2 q2
      split at q3
      · rename_i z ez
        obtain ⟨j, ej, kk⟩ := atD_at ez rxs.length
        obtain ⟨vz, hvz, rz⟩ := rxs.get ej
        refine ⟨b, vs, k, vz, rfl, rfl, SqL.of hb, kk vz hvz, R2.svalF q3 fun w fw vw H3 F3 s3 x3 R3 rw' q4 => ?_⟩
        split at q4
        · rename_i d ed
          refine l (fun _ _ _ => False) μ F3 σ S σc H3 z w vz vw _ R3 (rz.mono s3 x3.up) rw' ?_
          rw [ed]
          intro nv H4 F4 s4 x4 r4
          rcases r4 with ⟨_, r4⟩ | ⟨e, _⟩
          · exact kSub_ok (i := .int k) (R3.mono s4 x4) ((rx2.mono s3 x3.up).mono s4 x4.up) (.inr rfl) r4 (q4.from (.of s4 x4)) fun S' H' R' q' => q'.next R'
          · cases e
        · exact q4.elim
      · exact q3.elim
    · exact q2.elim
end
end HC

set_option maxRecDepth 100000
namespace HC
open PySem PySem.Spec L2
open PyProof.Rows hiding St

/-! ## loops -/
def forL (A : TgF) (body : SC) : List D → SC
  | [], σ, S => .nx σ S
  | d :: ds, σ, S => match A d σ with
    | some σ1 => match body σ1 S with
      | .nx σ2 S2 => forL A body ds σ2 S2
      | .ct σ2 S2 => forL A body ds σ2 S2
      | .bk σ2 S2 => .nx σ2 S2
      | r => r
    | none => .bad
def forD (A : TgF) (body : SC) (it : List SO → Option (List D)) : Nat → Nat → SC
  | 0, _, _, _ => .bad
  | k + 1, i, σ, S => match it S with
    | some ds => match gets ds i with
      | some d => match A d σ with
        | some σ1 => match body σ1 S with
          | .nx σ2 S2 => forD A body it k (i + 1) σ2 S2
          | .ct σ2 S2 => forD A body it k (i + 1) σ2 S2
          | .bk σ2 S2 => .nx σ2 S2
          | r => r
        | none => .bad
      | none => .nx σ S
    | none => .bad
def fuel : Nat := 1073741824
def sFor (it : CI) (A : TgF) (body : SC) : SC := fun σ S => match it σ S with
  | .st ds => forL A body ds σ S
  | .dy it => forD A body it fuel 0 σ S
  | .ex c as => .ex c as σ S
  | .bad => .bad
def whileF (c : CE) (body : SC) : Nat → SC
  | 0, _, _ => .bad
  | k + 1, σ, S => match c σ S with
    | .ok (.bl true) _ => match body σ S with
      | .nx σ2 S2 => whileF c body k σ2 S2
      | .ct σ2 S2 => whileF c body k σ2 S2
      | .bk σ2 S2 => .nx σ2 S2
      | r => r
    | .ok (.bl false) _ => .nx σ S
    | .ok _ _ => .bad
    | .ex c as => .ex c as σ S
    | .bad => .bad
def sWhile (c : CE) (body : SC) : SC := whileF c body fuel
/-- what is wanted behind a loop's body -/
abbrev lEnds (Dn : Ends) (N : St → Hp → Prop) : Ends := { Dn with nx := N, ct := N, bk := Dn.nx }
section
variable {g : GX} {W : WX} {μ : List Addr} {F : FZ} {H : Hp} {Dn : Ends} {N : St → Hp → Prop}
/-- the body's result, in a loop whose next turn is k -/
theorem OkS.body {r : RS} {k : SC} (q : OkS g W μ F H (match r with | .nx σ2 S2 => k σ2 S2 | .ct σ2 S2 => k σ2 S2 | .bk σ2 S2 => .nx σ2 S2 | r => r) Dn)
    (h : ∀ σ2 S2 σc' μ' F' H', Later μ F H μ' F' H' → Rel g μ' F' σ2 S2 σc' H' → OkS g W μ F H (k σ2 S2) Dn → N σc' H') : OkS g W μ F H r (lEnds Dn N) := by
  cases r with
  | nx σ2 S2 => exact fun σc' μ' F' H' l R => h σ2 S2 σc' μ' F' H' l R q
  | ct σ2 S2 => exact fun σc' μ' F' H' l R => h σ2 S2 σc' μ' F' H' l R q
  | bk σ2 S2 => exact q
  | rt d fr => exact q
  | ex c as σ2 S2 => exact q
  | bad => exact q
end
section
variable {g : GX} {W : WX} {fi : CI} {A : TgF} {ss : List Nat} {body : SC} {fc : CE}
theorem for_of {Dn : Ends} {σc : St} {H : Hp} (h : TSt g W (sFor fi A body) Dn σc H) : tFor (TIt g W fi) (TGt g ss A) (TSt g W body) Dn σc H := by
  obtain ⟨μ, F, σ, S, R, q⟩ := h
  refine ⟨μ, F, σ, S, R, ?_⟩
  unfold sFor at q
  cases ei : fi σ S with
  | bad => rw [ei] at q; exact q
  | ex c as =>
    rw [ei] at q
    exact fun cls dx H' F' s x rx => q cls dx σc μ F' H' (.of s x) (R.mono s x) rx
  | st ds =>
    rw [ei] at q
    intro J H1 F1 s1 x1 w
    have R1 := R.mono s1 x1
    have hlen := (w μ F1 σ S σc H1 .refl R1 ds rfl).1
    let P : Nat → St → Hp → Prop := fun i σ' H' => i ≤ ds.length ∧ ∃ μ2 F2 σ2 S2, Rel g μ2 F2 σ2 S2 σ' H' ∧ Wk g μ2 F2 H' J (fun _ => some ds) ∧ OkS g W μ2 F2 H' (forL A body (ds.drop i) σ2 S2) Dn
    refine ⟨fun i m σ' H' => m = ds.length - i ∧ P i σ' H', ⟨ds.length, by simp, Nat.zero_le _, μ, F1, σ, S, R1, w, q.from (.of s1 x1)⟩, ?_⟩
    rintro i m σ' H' ⟨rfl, hi, μ2, F2, σ2, S2, R2, w2, q2⟩
    obtain ⟨_, wk⟩ := w2 μ2 F2 σ2 S2 σ' H' .refl R2 ds rfl
    obtain ⟨go, yl, stop⟩ := wk i
    by_cases hlt : i < ds.length
    · rw [List.drop_eq_getElem_cons hlt] at q2
      unfold forL at q2
      refine .inr ⟨go hlt, P (i + 1), fun σ3 H3 p => ⟨ds.length - (i + 1), by omega, rfl, p⟩, fun x H3 hy => ?_⟩
      obtain ⟨sm, rx⟩ := yl x H3 hy
      have rx := rx _ (List.getElem?_eq_getElem hlt)
      have fx0 : FX F2 H' F2 H3 := ⟨fun _ h => h, fun _ h => .inl h, fun a h => let ⟨o, e⟩ := R2.dom a h; ⟨o, sm _ _ e⟩⟩
      have R3 := R2.mono sm fx0
      have l3 : Later μ2 F2 H' μ2 F2 H3 := .of sm fx0
      split at q2
      · rename_i σ4 eA
        refine ⟨μ2, F2, σ2, S2, ds[i], σ4, R3, rx, eA, fun σ5 R5 _ => ⟨μ2, F2, σ4, S2, R5, ?_⟩⟩
        have q3 := q2.from l3
        exact OkS.body (k := forL A body (ds.drop (i + 1))) q3 fun σ6 S6 σc' μ' F' H6 l R6 q6 => ⟨by omega, μ', F', σ6, S6, R6, (w2.later l3).later l, q6.from l⟩
      · exact q2.elim
    · have ei2 : i = ds.length := by omega
      rw [List.drop_eq_nil_of_le (by omega)] at q2
      exact .inl ⟨stop (by omega), q2.next R2⟩
  | dy it =>
    rw [ei] at q
    intro J H1 F1 s1 x1 w
    have R1 := R.mono s1 x1
    let P : Nat → Nat → St → Hp → Prop := fun i m σ' H' => ∃ μ2 F2 σ2 S2, Rel g μ2 F2 σ2 S2 σ' H' ∧ Wk g μ2 F2 H' J it ∧ OkS g W μ2 F2 H' (forD A body it m i σ2 S2) Dn
    refine ⟨fun i m σ' H' => P i m σ' H', ⟨fuel, μ, F1, σ, S, R1, w, q.from (.of s1 x1)⟩, ?_⟩
    rintro i m σ' H' ⟨μ2, F2, σ2, S2, R2, w2, q2⟩
    cases m with
    | zero => exact q2.elim
    | succ m =>
      unfold forD at q2
      split at q2
      · rename_i ds ed
        obtain ⟨_, wk⟩ := w2 μ2 F2 σ2 S2 σ' H' .refl R2 ds ed
        obtain ⟨go, yl, stop⟩ := wk i
        split at q2
        · rename_i d eg
          rw [gets_eq] at eg
          have hlt := (List.getElem?_eq_some_iff.mp eg).1
          refine .inr ⟨go hlt, P (i + 1) m, fun σ3 H3 p => ⟨m, by omega, p⟩, fun x H3 hy => ?_⟩
          obtain ⟨sm, rx⟩ := yl x H3 hy
          have rx := rx _ eg
          have fx0 : FX F2 H' F2 H3 := ⟨fun _ h => h, fun _ h => .inl h, fun a h => let ⟨o, e⟩ := R2.dom a h; ⟨o, sm _ _ e⟩⟩
          have R3 := R2.mono sm fx0
          have l3 : Later μ2 F2 H' μ2 F2 H3 := .of sm fx0
          split at q2
          · rename_i σ4 eA
            refine ⟨μ2, F2, σ2, S2, d, σ4, R3, rx, eA, fun σ5 R5 _ => ⟨μ2, F2, σ4, S2, R5, ?_⟩⟩
            have q3 := q2.from l3
            exact OkS.body (k := forD A body it m (i + 1)) q3 fun σ6 S6 σc' μ' F' H6 l R6 q6 => ⟨μ', F', σ6, S6, R6, (w2.later l3).later l, q6.from l⟩
          · exact q2.elim
        · rename_i eg
          rw [gets_eq] at eg
          exact .inl ⟨stop (List.getElem?_eq_none_iff.mp eg), q2.next R2⟩
      · exact q2.elim
theorem while_of {Dn : Ends} {σc : St} {H : Hp} (h : TSt g W (sWhile fc body) Dn σc H) : tWhile (TB g W fc) (TSt g W body) Dn σc H := by
  obtain ⟨μ, F, σ, S, R, q⟩ := h
  refine ⟨fun m σ' H' => ∃ μ2 F2 σ2 S2, Rel g μ2 F2 σ2 S2 σ' H' ∧ OkS g W μ2 F2 H' (whileF fc body m σ2 S2) Dn, ⟨fuel, μ, F, σ, S, R, q⟩, ?_⟩
  rintro m σ' H' ⟨μ2, F2, σ2, S2, R2, q2⟩
  cases m with
  | zero => exact q2.elim
  | succ m =>
    unfold whileF at q2
    refine ⟨μ2, F2, σ2, S2, R2, ?_⟩
    cases ea : fc σ2 S2 with
    | bad => rw [ea] at q2; exact q2
    | ex c as =>
      rw [ea] at q2
      exact fun cls dx H3 F3 s x rx => q2 cls dx σ' μ2 F3 H3 (.of s x) (R2.mono s x) rx
    | ok d fl =>
      rw [ea] at q2
      cases d with
      | bl b =>
        intro v H3 F3 s3 x3 r3
        obtain ⟨F4, x4, u4, r4⟩ := r3.frz x3
        have l := Later.of (μ := μ2) s3 x4
        refine ⟨b, r4.bl, ?_⟩
        cases b with
        | true =>
          refine iteT ⟨fun σ5 H5 => ∃ μ6 F6 σ6 S6, Rel g μ6 F6 σ6 S6 σ5 H5 ∧ OkS g W μ6 F6 H5 (whileF fc body m σ6 S6) Dn, fun σ5 H5 p => ⟨m, by omega, p⟩, μ2, F4, σ2, S2, R2.mono s3 x4, ?_⟩
          exact OkS.body (k := whileF fc body m) (q2.from l) fun σ6 S6 σc' μ' F' H6 l R6 q6 => ⟨μ', F', σ6, S6, R6, q6.from l⟩
        | false => exact iteF ((q2.from l).next (R2.mono s3 x4))
      | _ => exact q2.elim
variable {X : Cx} {tg iter c : Expr} {bd : List Stmt} {pos : Pos}
theorem s_for (hp : PassesOwn (model X.prog X.w) X.A X.env X.xe) (hc : X.calm = true) (hi : PI X tg iter (TIt g W fi)) (hg : PG X tg (TGt g ss A)) (hb : PSs X bd (TSt g W body)) (hs : ∀ x, foldedSetIterable iter X.env x = pure x := by intro _; rfl) :
    PS X (.For tg iter bd [] pos) (TSt g W (sFor fi A body)) := (ps_for hp hc hi hg hb hs).hc fun Dn σ H h => for_of h
theorem s_while (hp : PassesOwn (model X.prog X.w) X.A X.env X.xe) (hc : PT X c (TB g W fc)) (hb : PSs X bd (TSt g W body)) : PS X (.While c bd [] pos) (TSt g W (sWhile fc body)) := (ps_while hp hc hb).hc fun Dn σ H h => while_of h
end
end HC

set_option maxRecDepth 100000
namespace HC
open PySem PySem.Spec L2
open PyProof.Rows hiding St

/-! ## defs -/
abbrev FnS := List D → Res
def fnSp (g : GX) (m : FnS) : Sp := fun vs H Q E => ∃ (F : FZ) (ds : List D), (∀ a, F a → ∃ o, H a = some o) ∧ RepL g H F ds vs ∧ Ok g E H F [] (m ds) Q
def startD (n : Nat) (ds : List D) : Sl := ds.map some ++ List.replicate (n - ds.length) none
/-- a def of np parameters and n names -/
def runF (np n : Nat) (body : SC) : FnS := fun ds => if ds.length = np then (match body (startD n ds) [] with
  | .rt d fr => .ok d fr
  | .nx _ _ => .ok .non false
  | .ex c as _ _ => if pureL as then .ex c as else .bad
  | _ => .bad) else .bad
theorem start_rel {g : GX} {F : FZ} {H : Hp} {N : List Str} {ds : List D} {vs : List V} (hx : g.xc = none) (dom : ∀ a, F a → ∃ o, H a = some o) (r : RepL g H F ds vs) : Rel g [] F (startD N.length ds) [] (L2.start N vs) H := by
  have hl := r.length
  refine ⟨fun i d h => ?_, ?_, fun n o h => by simp at h, rfl, List.nodup_nil, fun a h => (nomatch h), dom, fun p h => by rw [hx] at h; cases h⟩
  · unfold startD at h
    unfold L2.start
    by_cases hi : i < ds.length
    · rw [List.getElem?_append_left (by simpa using hi), List.getElem?_map] at h
      cases e : ds[i]? with
      | none => rw [e] at h; cases h
      | some d' =>
        rw [e] at h
        cases h
        obtain ⟨v, h1, h2⟩ := (r.vs (μ := [])).get e
        refine ⟨v, ?_, h2⟩
        rw [List.getElem?_append_left (by rw [List.length_map]; omega), List.getElem?_map, h1]
        rfl
    · rw [List.getElem?_append_right (by simpa using hi), List.getElem?_replicate] at h
      split at h <;> cases h
  · unfold startD L2.start
    rw [List.length_append, List.length_append, List.length_map, List.length_map, List.length_replicate, List.length_replicate, hl]
/-- the rule for a def: its body's derivation -/
theorem fn_ok {P : Program} {w : World} {K : PySem.W.Frag} {mg : Str → Option Value} {base : Heap} {g : GX} {x qual : Str} {st : Stmt} {f : Addr} {fd : FuncData} {N ps : List Str} {k : Nat} {body : SC} (Fn : L2.Fun K x qual st f fd) (Sc : FnScope N ps (defScope st)) (hx : g.xc = none)
    (hb : ∀ (cdv : Value) (A : Around) (outer : List Env) (s : Shared) (H : Hp) (E : XK), Room k (A.deeper (envOfC qual (defScope st) s.heap.objs.size f cdv)) →
      PSs (cxOf (L2.CX P w) P w K mg base N qual (defScope st) f cdv A outer s H E) (defBody st) (TSt g (fun c d _ H => E c d H) body)) :
    FnOk P w K mg base (L2.CX P w) (k + 1) f fd ps (fnSp g (runF ps.length N.length body)) := by
  refine Fn.okX Sc (fun vs H Q E h => ?_) (fun cdv A outer s H vs Q E hr h => ?_)
  · obtain ⟨F, ds, dom, r, q⟩ := h
    unfold runF at q
    split at q
    · rename_i e
      rw [← r.length, e]
    · exact q.elim
  · obtain ⟨F, ds, dom, r, q⟩ := h
    unfold runF at q
    split at q
    · refine ⟨_, hb cdv A outer s H E hr, [], F, _, [], start_rel hx dom r, ?_⟩
      cases e : body (startD N.length ds) [] with
      | nx σ' S' =>
        rw [e] at q
        intro σc' μ' F' H' l R
        have sm : Same H H' := fun a o h => l.keep a o (fun z => nomatch z) h
        exact q .non H' F' sm ⟨l.up, l.nw, R.dom⟩ (.inl ⟨rfl, .inr rfl⟩)
      | rt d fr =>
        rw [e] at q
        intro v μ' F' H' l b dm
        have sm : Same H H' := fun a o h => l.keep a o (fun z => nomatch z) h
        refine q v H' F' sm ⟨l.up, l.nw, dm⟩ ?_
        rcases b with ⟨e1, b⟩ | ⟨e1, a, ev, ha, nf, rn⟩
        · exact .inl ⟨e1, .inr b⟩
        · exact .inr ⟨e1, a, ev, (ha.elim (fun h => h) (fun z => nomatch z)), nf, fun z => (nomatch z), rn⟩
      | ex c as σ' S' =>
        rw [e] at q
        intro cls dx σc' μ' F' H' l R rx
        have sm : Same H H' := fun a o h => l.keep a o (fun z => nomatch z) h
        have q : Ok g E H F [] (if pureL as then .ex c as else .bad) Q := q
        split at q
        · rename_i hp
          obtain ⟨h1, y, vs, h2, h3, h4⟩ := rx
          exact q cls dx H' F' sm ⟨l.up, l.nw, R.dom⟩ ⟨h1, y, vs, h2, (h3.pure hp).vs, h4⟩
        · exact q.elim
      | bk _ _ => rw [e] at q; exact q.elim
      | ct _ _ => rw [e] at q; exact q.elim
      | bad => rw [e] at q; exact q.elim
    · exact q.elim

/-! ## calls -/
mutual
/-- data without lists, dicts, objects -/
def flatD : D → Bool
  | .non => true
  | .bl _ => true
  | .int _ => true
  | .str _ => true
  | .tup xs => flatDs xs
  | _ => false
def flatDs : List D → Bool
  | [] => true
  | d :: r => flatD d && flatDs r
end
section
variable {g : GX} {H : Hp} {F F' : FZ}
mutual
theorem flat_rep : ∀ (d : D) (v : V), flatD d = true → RepP g H F d v → RepP g H F' d v
  | .non, _, _, h => h
  | .bl _, _, _, h => h
  | .int _, _, _, h => h
  | .str _, _, _, h => h
  | .tup ds, v, p, h => by
    obtain ⟨a, vs, e, h1, h2⟩ := h
    exact ⟨a, vs, e, h1, flat_reps ds vs (by simpa [flatD] using p) h2⟩
  | .lst _, _, p, _ => by simp [flatD] at p
  | .rol _, _, p, _ => by simp [flatD] at p
  | .dct _ _, _, p, _ => by simp [flatD] at p
  | .obj _ _, _, p, _ => by simp [flatD] at p
  | .loc _, _, p, _ => by simp [flatD] at p
  | .err, _, p, _ => by simp [flatD] at p
theorem flat_reps : ∀ (ds : List D) (vs : List V), flatDs ds = true → RepL g H F ds vs → RepL g H F' ds vs
  | [], _, _, h => h
  | d :: ds, vs, p, h => by
    obtain ⟨v, ws, e, h1, h2⟩ := h
    simp only [flatDs, Bool.and_eq_true] at p
    exact ⟨v, ws, e, flat_rep d v p.1 h1, flat_reps ds ws p.2 h2⟩
end
end
def flatR (d : D) (fr : Bool) : Bool := match fr with
  | false => flatD d
  | true => match d with
    | .lst xs => flatDs xs
    | _ => false
def lends (S : List SO) : List D → Bool
  | [] => true
  | d :: r => (match d with
    | .loc n => (match gets S n with
      | some (.lst xs) => pureL xs
      | _ => false)
    | _ => true) && lends S r
def callD (m : FnS) (S : List SO) (ds : List D) : Res := if pureL ds then m ds else (if lends S ds then (match m (ds.map (look S)) with
  | .ok d fr => if flatR d fr then .ok d fr else .bad
  | .ex c as => if flatDs as then .ex c as else .bad
  | .bad => .bad) else .bad)
section
variable {g : GX} {μ : List Addr} {F : FZ} {σ : Sl} {S : List SO} {σc : St} {H : Hp}
/-- lists of the store are lent for a call -/
theorem Rel.lend (R : Rel g μ F σ S σc H) : ∀ {ds : List D} {vs : List V}, RepVs g H F μ ds vs → lends S ds = true → RepL g H (fun a => F a ∨ a ∈ μ) (ds.map (look S)) vs
  | _, _, .nil, _ => rfl
  | _, _, .cons (a := d) r t, p => by
    unfold lends at p
    rw [Bool.and_eq_true] at p
    obtain ⟨p1, p2⟩ := p
    refine ⟨_, _, rfl, ?_, R.lend t p2⟩
    cases d with
    | loc n =>
      simp only at p1
      split at p1
      · rename_i xs q
        have e : look S (.loc n) = .lst xs := by unfold look; simp only [q]
        rw [e]
        obtain ⟨b, vs, rfl, hm, hb, hz, rx⟩ := R.locl r q
        exact ⟨b, vs, rfl, ⟨.inr (List.mem_of_getElem? hm), hb, hz⟩, RepL.mono (Same.refl _) (fun _ h => .inl h) _ _ (rx.pure p1)⟩
      · exact nomatch p1
    | _ => exact RepP.mono (Same.refl _) (fun _ h => .inl h) _ _ (r.pure rfl)
end
end HC

set_option maxRecDepth 100000
namespace HC
open PySem PySem.Spec L2
open PyProof.Rows hiding St

/-! ## what a def promises, where no container is being shown -/
def RG (k : Nat) (A : Around) : Prop := Room k A ∧ A.guards = some []
structure FnG (P : Program) (w : World) (K : PySem.W.Frag) (mg : Str → Option Value) (base : Heap) (CX : CXT) (k : Nat) (f : Addr) (fd : FuncData) (ps : List Str) (sp : Sp) : Prop where
  ln : ∀ ds H Q E, sp ds H Q E → ds.length = ps.length
  go : ∀ (A : Around) (out : List Env) (s : Shared) (H : Hp) (ar : Args) (ws : List Value) (ds : List V) (Q : VK) (E : XK), RG k A → Env0 P w K mg base A out s H → BindsTo s fd ar (ps.zip ws) → Vals ds ws → sp ds H Q E → codeAny (model P w) A (.call (.ref f) ar) (CR CX out P w H s Q E) s
theorem RG.mono {j k : Nat} {A : Around} (r : RG k A) (h : j ≤ k) : RG j A := ⟨r.1.mono h, r.2⟩
theorem RG.deeper {k : Nat} {A : Around} (r : RG (k + 1) A) (env : Env) : RG k (A.deeper env) := ⟨r.1.deeper env, r.2⟩
section
variable {P : Program} {w : World} {K : PySem.W.Frag} {mg : Str → Option Value} {base : Heap} {k : Nat} {sp : Sp} {f : Addr} {fd : FuncData} {N ps : List Str}
theorem FnG.mono {CX : CXT} {j : Nat} (F : FnG P w K mg base CX j f fd ps sp) (h : j ≤ k) : FnG P w K mg base CX k f fd ps sp := ⟨F.ln, fun A o s H ar ws ds Q E r => F.go A o s H ar ws ds Q E (r.mono h)⟩
theorem fnG_of {x qual : Str} {st : Stmt} (F : L2.Fun K x qual st f fd) (S : FnScope N ps (defScope st)) (ln : ∀ ds H Q E, sp ds H Q E → ds.length = ps.length)
    (body : ∀ (cdv : Value) (A : Around) (out : List Env) (s : Shared) (H : Hp) (ds : List V) (Q : VK) (E : XK), RG k (A.deeper (envOfC qual (defScope st) s.heap.objs.size f cdv)) → sp ds H Q E →
      ∃ t, PSs (cxOf (L2.CX P w) P w K mg base N qual (defScope st) f cdv A out s H E) (defBody st) t ∧ t { nx := fun _ H1 => Q .non H1, rt := Q } (L2.start N ds) H) : FnG P w K mg base (L2.CX P w) (k + 1) f fd ps sp := by
  obtain ⟨oc, od, kV, doc, pm, an, cdv, ct, osl, rfl, lk, hcd⟩ := F.ex
  refine ⟨ln, fun A out s H ar ws ds Q E hr e0 hb r hs => ?_⟩
  have KX : K.In s.heap := e0.mod.kin.keeps fun b o e => (e0.bs b o e).1
  have lims : s.heap.NoLimit := e0.mod.nolimit.keeps fun b o e => (e0.bs b o e).1
  have kinds : ∀ z ∈ ps.zip ws, (defScope st).names.lookup z.1 = some .local ∨ ((defScope st).names.lookup z.1 = some .cell ∧ ((cellsFrom (s.heap.objs.size + 1) (defScope st).names []).lookup z.1).isSome = true) := by
    rintro ⟨n, v⟩ hz
    exact (S.par n (List.of_mem_zip hz).1).imp (fun q => q) fun q => ⟨q, PySem.W.cellsFrom_some _ _ _ (.inl q)⟩
  refine codeAny_call_function hr.1.depth (KX _ _ lk) rfl S.co S.gen rfl (PySem.W.codeRec_of KX hcd) (hb _ _ _ _ ?_)
  refine wpAny_newFunctionEnv_cells S.kind kinds fun env he s1 x => ?_
  subst he
  refine ⟨lims.keeps x.toInCall.keep, codeAny_func ?_⟩
  obtain ⟨t, ht, hq⟩ := body cdv A out s H ds Q E (hr.deeper _) hs
  have I := inv_start (CX := L2.CX P w) (P := P) (E := E) S hr.1.hd e0 (ln _ _ _ _ hs) r x
  refine wpAny_mono (ht.run [] s1 _ H _ I hq) (fun fl s' hf => ?_) fun e s' he => he
  cases fl with
  | ret u =>
    obtain ⟨v, σ', H1, J, rv, q⟩ := hf
    exact ⟨v, H1, J.os, J.bare, J.base, J.hok, rv, q⟩
  | next =>
    obtain ⟨σ', H1, J, q⟩ := hf
    exact ⟨V.non, H1, J.os, J.bare, J.base, J.hok, rfl, q⟩
  | brk => exact hf.elim fun _ h => h.elim fun _ h => False.elim h.2
  | cont => exact hf.elim fun _ h => h.elim fun _ h => False.elim h.2
end
/-- the rule for a def: its body's derivation -/
theorem fn_okG {P : Program} {w : World} {K : PySem.W.Frag} {mg : Str → Option Value} {base : Heap} {g : GX} {x qual : Str} {st : Stmt} {f : Addr} {fd : FuncData} {N ps : List Str} {k : Nat} {body : SC} (Fn : L2.Fun K x qual st f fd) (Sc : FnScope N ps (defScope st)) (hx : g.xc = none)
    (hb : ∀ (cdv : Value) (A : Around) (outer : List Env) (s : Shared) (H : Hp) (E : XK), RG k (A.deeper (envOfC qual (defScope st) s.heap.objs.size f cdv)) →
      PSs (cxOf (L2.CX P w) P w K mg base N qual (defScope st) f cdv A outer s H E) (defBody st) (TSt g (fun c d _ H => E c d H) body)) :
    FnG P w K mg base (L2.CX P w) (k + 1) f fd ps (fnSp g (runF ps.length N.length body)) := by
  refine fnG_of Fn Sc (fun vs H Q E h => ?_) (fun cdv A outer s H vs Q E hr h => ?_)
  · obtain ⟨F, ds, dom, r, q⟩ := h
    unfold runF at q
    split at q
    · rename_i e
      rw [← r.length, e]
    · exact q.elim
  · obtain ⟨F, ds, dom, r, q⟩ := h
    unfold runF at q
    split at q
    · refine ⟨_, hb cdv A outer s H E hr, [], F, _, [], start_rel hx dom r, ?_⟩
      cases e : body (startD N.length ds) [] with
      | nx σ' S' =>
        rw [e] at q
        intro σc' μ' F' H' l R
        have sm : Same H H' := fun a o h => l.keep a o (fun z => nomatch z) h
        exact q .non H' F' sm ⟨l.up, l.nw, R.dom⟩ (.inl ⟨rfl, .inr rfl⟩)
      | rt d fr =>
        rw [e] at q
        intro v μ' F' H' l b dm
        have sm : Same H H' := fun a o h => l.keep a o (fun z => nomatch z) h
        refine q v H' F' sm ⟨l.up, l.nw, dm⟩ ?_
        rcases b with ⟨e1, b⟩ | ⟨e1, a, ev, ha, nf, rn⟩
        · exact .inl ⟨e1, .inr b⟩
        · exact .inr ⟨e1, a, ev, (ha.elim (fun h => h) (fun z => nomatch z)), nf, fun z => (nomatch z), rn⟩
      | ex c as σ' S' =>
        rw [e] at q
        intro cls dx σc' μ' F' H' l R rx
        have sm : Same H H' := fun a o h => l.keep a o (fun z => nomatch z) h
        have q : Ok g E H F [] (if pureL as then .ex c as else .bad) Q := q
        split at q
        · rename_i hp
          obtain ⟨h1, y, vs, h2, h3, h4⟩ := rx
          exact q cls dx H' F' sm ⟨l.up, l.nw, R.dom⟩ ⟨h1, y, vs, h2, (h3.pure hp).vs, h4⟩
        · exact q.elim
      | bk _ _ => rw [e] at q; exact q.elim
      | ct _ _ => rw [e] at q; exact q.elim
      | bad => rw [e] at q; exact q.elim
    · exact q.elim

/-! ## calls of own defs -/
section
variable {g : GX} {E : XK} {μ : List Addr} {F : FZ} {σ : Sl} {S : List SO} {σc : St} {H : Hp}
theorem RepVs.up {F : FZ} {ds : List D} {vs : List V} (h : RepVs g H F [] ds vs) : RepVs g H F μ ds vs := Paired.mapP h fun _ _ q => q.elim (fun ⟨_, _, _, z, _⟩ => nomatch z) .inr
theorem RepVs.all {F : FZ} : ∀ {ds : List D} {vs : List V}, RepVs g H F [] ds vs → RepL g H F ds vs
  | _, _, .nil => rfl
  | _, _, .cons r t => ⟨_, _, rfl, r.elim (fun ⟨_, _, _, z, _⟩ => nomatch z) fun h => h, RepVs.all t⟩
theorem Ok.called {W : WX} {m : FnS} {ds : List D} {vs : List V} {Q : VK} (R : Rel g μ F σ S σc H) (r : RepVs g H F μ ds vs) (q : Ok g (wat W σc) H F μ (callD m S ds) Q) : fnSp g m vs H Q (WE W σc) := by
  unfold callD at q
  split at q
  · rename_i hp
    refine ⟨F, ds, R.dom, r.pure hp, ?_⟩
    cases e : m ds with
    | ok d fr =>
      rw [e] at q
      intro v H' F' sm fx rr
      refine q v H' F' sm fx ?_
      rcases rr with ⟨e1, b⟩ | ⟨e1, a, ev, ha, nf, _, rn⟩
      · exact .inl ⟨e1, b.elim (fun ⟨_, _, _, z, _⟩ => nomatch z) .inr⟩
      · refine .inr ⟨e1, a, ev, ha, nf, fun hm => ?_, rn⟩
        obtain ⟨u, eu⟩ := R.mu_there hm
        rw [ha] at eu
        exact nomatch eu
    | ex c as =>
      rw [e] at q
      intro cls dx H' F' sm fx rx
      obtain ⟨h1, y, vs, h2, h3, h4⟩ := rx
      exact q cls dx H' F' sm fx ⟨h1, y, vs, h2, h3.up, h4⟩
    | bad => rw [e] at q; exact q.elim
  · split at q
    · rename_i hp
      have hd : ∀ a, (F a ∨ a ∈ μ) → ∃ o, H a = some o := fun a h => h.elim (R.dom a) R.mu_there
      refine ⟨fun a => F a ∨ a ∈ μ, ds.map (look S), hd, R.lend r hp, ?_⟩
      cases e : m (ds.map (look S)) with
      | ok d fr =>
        rw [e] at q
        intro v H' F' sm fx rr
        have q : Ok g (wat W σc) H F μ (if flatR d fr then .ok d fr else .bad) Q := q
        split at q
        · rename_i hf
          refine q v H' F sm ⟨fun _ h => h, fun _ h => .inl h, fun a h => let ⟨o, e⟩ := R.dom a h; ⟨o, sm _ _ e⟩⟩ ?_
          rcases rr with ⟨e1, b⟩ | ⟨e1, a, ev, ha, nf, _, rn⟩
          · subst e1
            refine .inl ⟨rfl, .inr (b.elim (fun ⟨_, _, _, z, _⟩ => nomatch z) fun b => flat_rep d v hf b)⟩
          · subst e1
            cases d with
            | lst xs =>
              obtain ⟨ws, q1, q2, q3⟩ := rn
              have nF : ¬ F a := fun z => by
                obtain ⟨o, eo⟩ := R.dom a z
                rw [ha] at eo
                exact nomatch eo
              refine .inr ⟨rfl, a, ev, ha, nF, fun hm => ?_, ws, q1, q2, flat_reps xs ws hf q3⟩
              obtain ⟨u, eu⟩ := R.mu_there hm
              rw [ha] at eu
              exact nomatch eu
            | _ => exact nomatch hf
        · exact q.elim
      | ex c as =>
        rw [e] at q
        intro cls dx H' F' sm fx rx
        have q : Ok g (wat W σc) H F μ (if flatDs as then .ex c as else .bad) Q := q
        split at q
        · rename_i hf
          obtain ⟨h1, y, vs, h2, h3, h4⟩ := rx
          exact q cls dx H' F sm ⟨fun _ h => h, fun _ h => .inl h, fun a h => let ⟨o, e⟩ := R.dom a h; ⟨o, sm _ _ e⟩⟩ ⟨h1, y, vs, h2, (flat_reps as vs hf h3.all).vs, h4⟩
        · exact q.elim
      | bad => rw [e] at q; exact q.elim
    · exact q.elim
end
section
variable {X : Cx} {g : GX} {W : WX} {k : Nat} {f : Addr} {fd : FuncData} {ps ks : List Str} {m : FnS} {x : Str} {p pos : Pos} {e : Expr} {es : List Expr} {kws : List Keyword} {cf ck : CA}
theorem run_G {sp : Sp} {pins : List (Addr × Obj)} {σ : St} {H : Hp} {s : Shared} {Q : VK} {ar : Args} {ws : List Value} {vs : List V} (Fo : FnG X.prog X.w X.K X.mg X.base (L2.CX X.prog X.w) k f fd ps sp) (hr : RG k X.A) (hx : PassesAt (L2.CX X.prog X.w) X σ (WE W σ))
    (I : Inv X pins σ H s) (hb : BindsTo s fd ar (ps.zip ws)) (r : Vals vs ws) (h : sp vs H Q (WE W σ)) : wpAny (model X.prog X.w) X.A (call (.ref f) ar.pos ar.kw) (EP X pins σ Q) X.xe s := by
  refine wpAny_call (codeAny_mono (Fo.go X.A X.stack s H ar ws vs Q (WE W σ) hr I.env0 hb r h) fun r s' hq => ?_)
  cases r with
  | error e => exact hx pins H s e s' I hq
  | ok fl => cases fl with
    | ret u => exact I.after hq
    | next => exact nomatch hq
    | brk => exact nomatch hq
    | cont => exact nomatch hq
/-- f(e, ..) -/
theorem q_call (Fo : FnG X.prog X.w X.K X.mg X.base (L2.CX X.prog X.w) k f fd ps (fnSp g m)) (hr : RG k X.A) (hg : Gl X x) (hm : X.mg x = some (.ref f)) (hk : PySem.W.keepIn X.K (.ref f) = true) (hb : Binds X.K fd ps []) (tk : Takes X W) (ha : PA X (e :: es) (TL g W cf))
    (hdb : (x == ("__debug__" : Str)) = false := by decide) (he : starEach (e :: es) X.env = (false, eval e X.env) :: starEach es X.env := by rfl) (hpl : (backTo pos (starEach es X.env)).any (·.1) = false := by rfl) :
    PE X (.Call (.Name x p) (e :: es) [] pos) (T g W (cApp (callD m) cf)) := by
  refine ⟨fun pins s σ H Q I h => wpAny_Call_Name_kw (ld_glob I hg hm ?_ hdb)⟩
  refine PySem.W.callWith_K (h₀ := X.base) I.ok.mod.kin hk (thn (ha.run pos pins s σ H (fun vs H1 => fnSp g m vs H1 Q (WE W σ)) I (TL.app h fun μ F σd S H1 ds vs R r q => q.called R r)) fun us s1 ⟨vs, H1, I1, r, q⟩ => ⟨I1.kIn, ?_⟩) he hpl
  have hl : us.length = ps.length := by rw [← r.length]; exact Fo.ln _ _ _ _ q
  have b := hb s1 us I1.kIn (by rw [List.append_nil]; exact hl)
  rw [List.append_nil] at b
  exact run_G (ar := ⟨us, []⟩) Fo hr (passAt tk σ) I1 b r q
/-- f() -/
theorem q_call0 (Fo : FnG X.prog X.w X.K X.mg X.base (L2.CX X.prog X.w) k f fd ps (fnSp g m)) (hr : RG k X.A) (hg : Gl X x) (hm : X.mg x = some (.ref f)) (hk : PySem.W.keepIn X.K (.ref f) = true) (hb : Binds X.K fd ps []) (tk : Takes X W)
    (hdb : (x == ("__debug__" : Str)) = false := by decide) : PE X (.Call (.Name x p) [] [] pos) (T g W (cApp (callD m) cNil)) := by
  refine ⟨fun pins s σ H Q I h => wpAny_Call_Name_kw (ld_glob I hg hm ?_ hdb)⟩
  refine PySem.W.callWith_K0 I.kIn hk ?_
  have q : fnSp g m [] H Q (WE W σ) := by
    obtain ⟨μ, F, σd, S, R, q⟩ := h
    exact Ok.called R (ds := []) .nil q
  have hl : ([] : List Value).length = ps.length := Fo.ln _ _ _ _ q
  have b := hb s [] I.kIn (by rw [List.append_nil]; exact hl)
  rw [List.append_nil] at b
  exact run_G (ar := ⟨[], []⟩) Fo hr (passAt tk σ) I b .nil q
end
end HC

set_option maxRecDepth 100000
namespace HC
open PySem PySem.Spec L2
open PyProof.Rows hiding St

/-! ## calls by names -/
def pick {α : Type} (z : α) (ix : List Nat) (xs : List α) : List α := ix.map fun i => xs.getD i z
def callKw (ix : List Nat) (n : Nat) (m : FnS) (S : List SO) (ds : List D) : Res := if ds.length = n then callD m S (pick .non ix ds) else .bad
theorem paired_get {α β : Type} {R : α → β → Prop} {xs : List α} {ys : List β} (h : Paired R xs ys) : ∀ (i : Nat) (a : α) (b : β), i < xs.length → R (xs.getD i a) (ys.getD i b) := by
  induction h with
  | nil => exact fun i a b hi => absurd hi (Nat.not_lt_zero i)
  | cons r t ih =>
    intro i a b hi
    cases i with
    | zero => exact r
    | succ i => exact ih i a b (Nat.lt_of_succ_lt_succ hi)
theorem RepVs.pick {g : GX} {H : Hp} {F : FZ} {μ : List Addr} {ds : List D} {vs : List V} (r : RepVs g H F μ ds vs) : ∀ {ix : List Nat}, (∀ i ∈ ix, i < ds.length) → RepVs g H F μ (pick .non ix ds) (pick .non ix vs)
  | [], _ => .nil
  | i :: ix, h => .cons (paired_get r i _ _ (h i (List.mem_cons_self ..))) (r.pick fun j hj => h j (List.mem_cons_of_mem _ hj))
theorem vals_get {vs : List V} {us : List Value} (r : Vals vs us) : ∀ (i : Nat), i < vs.length → RelV (vs.getD i .non) (us.getD i .none) := by
  induction r with
  | nil => exact fun i hi => absurd hi (Nat.not_lt_zero i)
  | cons r t ih =>
    intro i hi
    cases i with
    | zero => exact r
    | succ i => exact ih i (Nat.lt_of_succ_lt_succ hi)
theorem vals_pick {vs : List V} {us : List Value} (r : Vals vs us) : ∀ {ix : List Nat}, (∀ i ∈ ix, i < vs.length) → Vals (pick .non ix vs) (pick .none ix us)
  | [], _ => .nil
  | i :: ix, h => .cons (vals_get r i (h i (List.mem_cons_self ..))) (vals_pick r fun j hj => h j (List.mem_cons_of_mem _ hj))
theorem _root_.L2.PK.hc {X : Cx} {kws : List Keyword} {t t' : TA} (h : PK X kws t) (w : ∀ σ H Q, t' σ H Q → t σ H Q) : PK X kws t' := ⟨fun pos pins s σ H Q I q => h.run pos pins s σ H Q I (w _ _ _ q)⟩
/-- a def's parameters, given by names -/
def BindsKw (fd : FuncData) (ps ks : List Str) (ix : List Nat) : Prop := ∀ (s : Shared) (us : List Value), us.length = ks.length → BindsTo s fd ⟨[], ks.zip us⟩ (ps.zip (pick .none ix us))
theorem bindsKw {K : PySem.W.Frag} {x qual : Str} {st : Stmt} {f : Addr} {fd : FuncData} {ps ks : List Str} {ix : List Nat} (F : L2.Fun K x qual st f fd)
    (h : ∀ (kV doc pm : Value) (an : Option Addr) (cdv ct : Value) (us : List Value), us.length = ks.length → bindArgs (PySem.W.fnOf x qual (defArgs st) (defBody st) (defScope st) .none kV doc pm an cdv ct) ⟨[], ks.zip us⟩ = pure (ps.zip (pick .none ix us))) : BindsKw fd ps ks ix := by
  obtain ⟨oc, od, kV, doc, pm, an, cdv, ct, osl, rfl, lk, hcd⟩ := F.ex
  exact fun s us hl => .of_eq (h kV doc pm an cdv ct us hl)
section
variable {X : Cx} {g : GX} {W : WX} {k : Nat} {f : Addr} {fd : FuncData} {ps ks : List Str} {m : FnS} {x : Str} {p pos kpos : Pos} {e : Expr} {kws : List Keyword} {cf : CE} {ck : CA} {nm : Option Str}
theorem qk_nil : PK X [] (TL g W cNil) := pk_nil.hc fun σc H Q ⟨μ, F, σ, S, R, q⟩ => q [] H F (Same.refl H) R.fx .nil
theorem qk_cons (ha : PE X e (T g W cf)) (hr : PK X kws (TL g W ck)) : PK X (⟨nm, e, kpos⟩ :: kws) (TL g W (cCons cf ck)) :=
  (pk_cons ha hr).hc fun σc H Q ⟨μ, F, σ, S, R, q⟩ => by
    refine ⟨μ, F, σ, S, R, ?_⟩
    unfold cCons at q
    cases ea : cf σ S with
    | bad => rw [ea] at q; exact q
    | ex c as => rw [ea] at q; exact q
    | ok d fl =>
      rw [ea] at q
      intro v H1 F1 s1 x1 r1
      obtain ⟨F2, x2, u2, rx⟩ := r1.frz x1
      refine ⟨μ, F2, σ, S, R.mono s1 x2, ?_⟩
      have q : OkL g (wat W σc) H F μ (match ck σ S with | .ok ds => .ok (d :: ds) | .ex c as => .ex c as | .bad => .bad) Q := q
      cases eb : ck σ S with
      | bad => rw [eb] at q; exact q
      | ex c as =>
        rw [eb] at q
        exact fun cls dx H' F' s' x' rr => q cls dx H' F' (s1.trans s') (x2.trans s1 x') rr
      | ok ds =>
        rw [eb] at q
        exact fun vs H3 F3 s3 x3 r3 => q (v :: vs) H3 F3 (s1.trans s3) (x2.trans s1 x3) (.cons (rx.mono s3 x3.up) r3)
/-- f(k = e, ..) -/
theorem q_callKw (ix : List Nat) (Fo : FnG X.prog X.w X.K X.mg X.base (L2.CX X.prog X.w) k f fd ps (fnSp g m)) (hr : RG k X.A) (hg : Gl X x) (hm : X.mg x = some (.ref f)) (hk : PySem.W.keepIn X.K (.ref f) = true) (hb : BindsKw fd ps ks ix) (tk : Takes X W) (ha : PK X kws (TL g W ck))
    (hix : ix.all (· < ks.length) = true := by decide) (hall : (backToKw pos (keywordEach kws X.env)).all (·.1.isSome) = true := by rfl) (hks : (backToKw pos (keywordEach kws X.env)).filterMap (·.1) = ks := by rfl) (hdb : (x == ("__debug__" : Str)) = false := by decide)
    (hpl : ((backTo pos (starEach [] X.env)).any (·.1) || (backToKw pos (keywordEach kws X.env)).any (·.1.isNone)) = false := by rfl) : PE X (.Call (.Name x p) [] kws pos) (T g W (cApp (callKw ix ks.length m) ck)) := by
  refine ⟨fun pins s σ H Q I h => wpAny_Call_Name_kw (ld_glob I hg hm ?_ hdb)⟩
  refine PySem.W.callWith_KW0 (h₀ := X.base) I.ok.mod.kin hk hall (thn (ha.run pos pins s σ H (fun vs H1 => vs.length = ks.length ∧ fnSp g m (pick .non ix vs) H1 Q (WE W σ)) I (TL.app h fun μ F σd S H1 ds vs R r q => ?_)) fun us s1 ⟨vs, H1, I1, r, hl, q⟩ => ⟨I1.kIn, ?_⟩) hpl
  · unfold callKw at q
    split at q
    · rename_i e
      exact ⟨by rw [← r.length, e], q.called R (r.pick fun i hi => by rw [e]; simpa using List.all_eq_true.mp hix i hi)⟩
    · exact q.elim
  · rw [hks]
    have r2 : Vals (pick .non ix vs) (pick .none ix us) := vals_pick r fun i hi => by rw [hl]; simpa using List.all_eq_true.mp hix i hi
    exact run_G (ar := ⟨[], ks.zip us⟩) Fo hr (passAt tk σ) I1 (hb s1 us (by rw [← r.length, hl])) r2 q
end
end HC

set_option maxRecDepth 100000
namespace HC
open PySem PySem.Spec L2
open PyProof.Rows hiding St

/-! ## the head -/
theorem only_rol {K : PySem.W.Frag} {H : Hp} {a : Addr} {xs : List V} (o : Only H) (h : SqL K H a xs) : Rol K H a xs := h.imp (fun h => h.elim (fun h => by
  rcases o a with z | ⟨ob, ys, z⟩
  · rw [h] at z; exact nomatch z
  · rw [h] at z; exact nomatch z) fun h => h) fun h => h
theorem reps_ints {g : GX} {H : Hp} {F : FZ} : ∀ ns : List Int, RepL g H F (ns.map D.int) (ns.map V.int)
  | [] => rfl
  | n :: ns => ⟨_, _, rfl, rfl, reps_ints ns⟩
theorem law_sp {g : GX} {m : FnS} {H : Hp} {a : Addr} {ns : List Int} (o : Only H) (h : SqL g.K H a (ns.map V.int)) (hl : ns.length ≤ sizeLine) (e : m [.rol (ns.map D.int)] = .ok (.bl true) false) :
    fnSp g m [.ref a] H (fun v _ => v = .bl true) fun _ _ _ => False := by
  refine ⟨fun _ => False, [.rol (ns.map D.int)], fun _ h => h.elim, ⟨.ref a, [], rfl, ⟨a, _, rfl, ⟨only_rol o h, by rw [List.length_map]; exact hl⟩, reps_ints ns⟩, rfl⟩, ?_⟩
  rw [e]
  intro v H' F' _ _ r
  rcases r with ⟨_, r⟩ | ⟨z, _⟩
  · exact r.elim (fun ⟨_, _, z, _⟩ => nomatch z) fun r => r
  · exact nomatch z
/-- the law's call, at the heap behind the module's body -/
theorem head_call {P : Program} {w : World} {K : PySem.W.Frag} {mg mb : Str → Option Value} {k : Nat} {fa a : Addr} {fd : FuncData} {x : Str} {sp : Sp} {s : Shared} {its : List Value} {ns : List Int} (hr : RG k callerA)
    (inK : K.In s.heap) (top : s.heap.Ns mainGlobals mg) (boot : s.heap.Ns builtinsNs mb) (hboot : ∀ x : Str, x ≠ "__name__" → mb x = bootBuiltins x) (lims : s.heap.NoLimit) (nog : s.gens = #[])
    (scr : s.heap.get? a = some { cls := .type "list", data := .seq its.toArray }) (iv : IntsAre its ns) (short : ns.length ≤ sizeLine)
    (Fo : ∀ B : Heap, K.In B → B.Ns mainGlobals mg → FnG P w K mg B (L2.CX P w) k fa fd [x] sp) (bd : ∀ (s : Shared) (u : Value), BindsTo s fd ⟨[u], []⟩ [(x, u)])
    (say : ∀ H : Hp, Only H → SqL K H a (ns.map V.int) → sp [.ref a] H (fun v _ => v = .bl true) fun _ _ _ => False)
    (noX : ∀ H e s', L2.CX P w [] H s (fun _ _ _ => False) e s' → False) :
    codeAny (model P w) callerA (.call (.ref fa) ⟨[.ref a], []⟩) (fun r s' => r = .ok (.ret (.bool true)) ∧ OldK s.heap s'.heap ∧ s'.os = s.os ∧ AllBare s'.gens) s := by
  have rv : Vals (ns.map V.int) its := vals_ints iv
  have main : ∀ H : Hp, Only H → (∀ b, H b ≠ none → b = a ∧ K.lookup a = none) → SqL K H a (ns.map V.int) → HOk P w H s.heap →
      codeAny (model P w) callerA (.call (.ref fa) ⟨[.ref a], []⟩) (fun r s' => r = .ok (.ret (.bool true)) ∧ OldK s.heap s'.heap ∧ s'.os = s.os ∧ AllBare s'.gens) s := by
    intro H only here sq ok
    have free : ∀ {b : Addr}, b ≠ a → H b = none := fun {b} nb => by
      cases q : H b with
      | none => rfl
      | some u => exact absurd (here b (by rw [q]; exact fun z => nomatch z)).1 nb
    have spaces : ∀ {b : Addr} {m : Str → Option Value}, s.heap.Ns b m → (hidT s.heap H).Ns b m := by
      rintro b m ⟨o, es, ep, e, d, r⟩
      refine ⟨o, es, ep, hidT_get e (free ?_), d, r⟩
      rintro rfl
      rw [scr] at e
      cases e
      exact nomatch d
    have kB : K.In (hidT s.heap H) := fun b o e => hidT_get (inK b o e) (by
      cases q : H b with
      | none => rfl
      | some u =>
        obtain ⟨rfl, z⟩ := here b (by rw [q]; exact fun z => nomatch z)
        rw [z] at e
        exact nomatch e)
    have md : Mod K mg (hidT s.heap H) := ⟨kB, spaces top, ⟨mb, spaces boot, hboot⟩, let ⟨mc, h1, h2⟩ := lims; ⟨mc, spaces h1, h2⟩⟩
    have e0 : Env0 P w K mg (hidT s.heap H) callerA [] s H := ⟨rfl, md, fun b o e => of_hidT e, Nat.le_of_eq (hidT_size _ _), trivial, (fun b hb => absurd (show b ∈ ([] : List Addr) from hb) List.not_mem_nil), ok, .of_eq nog⟩
    refine codeAny_mono ((Fo _ kB (spaces top)).go callerA [] s H ⟨[.ref a], []⟩ [.ref a] [.ref a] _ _ hr e0 (bd s (.ref a)) (.cons rfl .nil) (say H only sq)) fun r s' h => ?_
    cases r with
    | error e => exact (noX H e s' h).elim
    | ok fl => cases fl with
      | next => exact nomatch h
      | brk => exact nomatch h
      | cont => exact nomatch h
      | ret u =>
        obtain ⟨v, H', os, bare, un, ok', r', (rfl : v = .bl true)⟩ := h
        obtain rfl : u = Value.bool true := r'
        refine ⟨rfl, OldK.of_keep fun b o e => ?_, os, bare⟩
        rcases only b with q | ⟨ob, xs, q⟩
        · exact un.keep b o e q (fun z => nomatch z) (fun z => nomatch z)
        · have z1 := (ok b _ q).1
          have z2 := (ok' b _ (un.frzs b ob _ q)).1
          rw [e] at z1
          cases z1
          exact z2
  have len : its.length = ns.length := iv.length
  cases hk : K.lookup a with
  | some o =>
    have e := inK a o hk
    rw [scr] at e
    cases e
    exact main (fun _ => none) (fun _ => .inl rfl) (fun b z => absurd rfl z) (.inr ⟨_, its.toArray, _, hk, rfl, rfl, rfl, by rw [List.size_toArray, len]; exact short, by simpa using rv⟩) fun b u z => nomatch z
  | none =>
    have at_a : ∀ b (u : HO), (if b = a then some (HO.frz { cls := .type "list", data := .seq its.toArray } (.lst (ns.map V.int))) else none) = some u → b = a ∧ u = HO.frz { cls := .type "list", data := .seq its.toArray } (.lst (ns.map V.int)) := fun b u z => by
      split at z
      · rename_i e
        cases z
        exact ⟨e, rfl⟩
      · exact nomatch z
    refine main (fun b => if b = a then some (.frz { cls := .type "list", data := .seq its.toArray } (.lst (ns.map V.int))) else none) (fun b => ?_) (fun b z => ?_) (.inl (.inr ⟨{ cls := .type "list", data := .seq its.toArray }, if_pos rfl⟩)) fun b u z => ?_
    · by_cases hb : b = a
      · exact .inr ⟨_, _, if_pos hb⟩
      · exact .inl (if_neg hb)
    · by_cases hb : b = a
      · exact ⟨hb, hk⟩
      · exact absurd (if_neg hb) z
    · obtain ⟨rfl, rfl⟩ := at_a b u z
      exact ⟨scr, by rw [List.length_map]; exact short, its, _, rv, scr⟩
theorem walk_hc {l : PySem.W.OpenLaw} {n k : Nat} {q : Program} {loose : List Str} {XP : (Str → Option Value) → Heap → Prop} {YP : World → Heap → Prop} {d : DefRec} {K : Params → PySem.W.Frag} {gx : World → GX} {m : FnS} {x : Str}
    (hn : l.most = some n) (hn2 : n ≤ sizeLine) (hdf : d.params.defaults = []) (hr : RG k callerA) (hg : ∀ w, (gx w).K = K w.params) (inY : ∀ (w : World) (h : Heap), YP w h → (K w.params).In h)
    (Fo : ∀ (w : World) (mg : Str → Option Value) (fa : Addr) (h : Heap), (K w.params).In h → h.Ns mainGlobals mg → mg d.name = some (.ref fa) → ∃ fd : FuncData, (∀ (s : Shared) (u : Value), BindsTo s fd ⟨[u], []⟩ [(x, u)]) ∧
        ∀ B : Heap, (K w.params).In B → B.Ns mainGlobals mg → FnG l.prog w (K w.params) mg B (L2.CX l.prog w) k fa fd [x] (fnSp (gx w) m))
    (say : ∀ ns : List Int, ns.length ≤ n → m [.rol (ns.map D.int)] = .ok (.bl true) false)
    (noX : ∀ (w : World) (H : Hp) (s : Shared) (e : Value) (s' : Shared), L2.CX l.prog w [] H s (fun _ _ _ => False) e s' → False) :
    PySem.W.WalkO q loose XP YP l.row.toRowW d [] (fun f vs => PySem.call f vs) := by
  refine Att.attach_call hn hdf fun w s₀ s₁ mg mb fa o pm cd doc a vs ns G Y ho hd hcd hmg hobj hints hlen nog => ?_
  have inK := inY w _ Y
  obtain ⟨fd, hb, hF⟩ := Fo w mg fa _ inK G.T.g hmg
  exact head_call hr inK G.T.g G.T.b G.T.builtins G.T.nolimit nog hobj hints (Nat.le_trans hlen hn2) hF hb (fun H o sq => law_sp o (by rw [hg]; exact sq) (Nat.le_trans hlen hn2) (say ns hlen)) fun H e s' => noX w H s₁ e s'
end HC
namespace HC
open PySem PySem.Spec L2
theorem no_cx {P : Program} {w : World} {H : Hp} {s : Shared} {e : Value} {s' : Shared} (h : L2.CX P w [] H s (fun _ _ _ => False) e s') : False := by
  obtain ⟨_, _, _, _, _, _, _, _, _, _, _, _, z⟩ := h
  exact z
end HC

set_option maxRecDepth 100000
namespace HC
open PySem PySem.Spec L2
open PyProof.Rows hiding St

/-! ## isinstance -/
inductive Tg where
  | non | int | bool | str | tup | lst | dct
def tgS : Tg → String
  | .non => "NoneType" | .int => "int" | .bool => "bool" | .str => "str" | .tup => "tuple" | .lst => "list" | .dct => "dict"
def isa : Tg → Tg → Bool
  | .non, .non => true | .int, .int => true | .bool, .bool => true | .bool, .int => true | .str, .str => true | .tup, .tup => true | .lst, .lst => true | .dct, .dct => true
  | _, _ => false
theorem isa_ok : ∀ a b : Tg, b ≠ .non → kitB (tgS a) (tgS b) = some (isa a b) := by
  intro a b h
  cases a <;> cases b <;> first | exact absurd rfl h | decide +kernel
def tgD (S : List SO) : D → Option Tg
  | .non => some .non | .bl _ => some .bool | .int _ => some .int | .str _ => some .str | .tup _ => some .tup | .lst _ => some .lst | .rol _ => some .lst | .dct _ _ => some .dct
  | .obj _ _ => none
  | .loc n => match gets S n with
    | some (.lst _) => some .lst
    | some (.dct _ _) => some .dct
    | _ => none
  | .err => none
/-- the class of a value: a locked dict of tuple keys too -/
def TyY (K : PySem.W.Frag) (H : Hp) (x : V) (t : Value) : Prop := TyX K H x t ∨ ∃ (a : Addr) (o : Obj) (kvs : List (List Key × V)), x = .ref a ∧ H a = some (.frz o (.dT kvs)) ∧ t = .type "dict"
theorem kit_ofY {X : Cx} {pins : List (Addr × Obj)} {σ : St} {H : Hp} {s : Shared} {x : V} {u t : Value} (I : Inv X pins σ H s) (rx : RelV x u) (ty : TyY X.K H x t) : ∃ P : Heap → Prop, PySem.W.KitX X.K u t P ∧ P s.heap ∧ u ≠ .builtin "__main__.__loader__#opaque" := by
  rcases ty with ty | ⟨a, ob, kvs, rfl, ea, rfl⟩
  · exact kit_of I rx ty
  · cases (show u = Value.ref a from rx)
    obtain ⟨_, _, _, vs, _, o, es, ep, h1, h2, _⟩ := (show ObjOk X.prog X.w H s.heap a (.frz ob (.dT kvs)) from I.hok a _ ea)
    exact ⟨_, PySem.W.kitx_dict, ⟨o, h1, h2.1⟩, fun z => nomatch z⟩
theorem Rel.ty {g : GX} {μ : List Addr} {F : FZ} {σ : Sl} {S : List SO} {σc : St} {H : Hp} (R : Rel g μ F σ S σc H) {d : D} {v : V} {t : Tg} (r : RepV g H F μ d v) (h : tgD S d = some t) : TyY g.K H v (.type (tgS t)) := by
  cases d with
  | non => cases h; cases (show v = .non from r.pure rfl); exact .inl <| .base .non
  | bl b => cases h; cases (show v = .bl b from r.pure rfl); exact .inl <| .base (.bl _)
  | int b => cases h; cases (show v = .int b from r.pure rfl); exact .inl <| .base (.int _)
  | str b => cases h; cases (show v = .str b from r.pure rfl); exact .inl <| .base (.str _)
  | tup xs =>
    cases h
    obtain ⟨a, vs, rfl, ⟨h1, _⟩, _⟩ := (r.pure rfl : RepP g H F (.tup xs) v)
    rcases h1 with (h1 | ⟨ob, h1⟩) | ⟨o, its, n, h1, h2, _⟩
    · exact .inl <| .base (.tup h1)
    · exact .inl <| .fTuple h1
    · exact .inl <| .kTuple h1 h2
  | lst xs =>
    cases h
    obtain ⟨a, vs, rfl, ⟨_, h1, _⟩, _⟩ := (r.pure rfl : RepP g H F (.lst xs) v)
    exact .inl <| .base (.lst h1)
  | rol xs =>
    cases h
    obtain ⟨a, vs, rfl, ⟨h1, _⟩, _⟩ := (r.pure rfl : RepP g H F (.rol xs) v)
    rcases h1 with ⟨ob, h1⟩ | ⟨o, its, n, h1, h2, _⟩
    · exact .inl <| .base (.frz h1)
    · exact .inl <| .kList h1 h2
  | dct ks xs =>
    cases h
    obtain ⟨a, vs, rfl, _, _, h1⟩ := (r.pure rfl : RepP g H F (.dct ks xs) v)
    rcases h1 with ⟨kvs, (h1 | ⟨ob, h1⟩), _⟩ | ⟨kvs, h1, _⟩
    · exact .inl <| .base (.dK h1)
    · exact .inl <| .fDict h1
    · rcases h1 with h1 | ⟨ob, h1⟩
      · exact .inl <| .base (.dT h1)
      · exact .inr ⟨a, ob, kvs, rfl, h1, rfl⟩
  | obj c xs => cases h
  | err => cases h
  | loc n =>
    have h : (match gets S n with | some (.lst _) => some Tg.lst | some (.dct _ _) => some Tg.dct | _ => none) = some t := h
    rcases r with ⟨m, a, e, hm, rfl⟩ | r
    · cases e
      split at h
      · rename_i xs q
        cases h
        obtain ⟨b, h1, h2⟩ := R.st n _ ((gets_eq S n).symm.trans q)
        rw [hm] at h1
        cases h1
        obtain ⟨vs, h3, _⟩ := h2
        exact .inl <| .base (.lst h3)
      · rename_i ks xs q
        cases h
        obtain ⟨b, h1, h2⟩ := R.st n _ ((gets_eq S n).symm.trans q)
        rw [hm] at h1
        cases h1
        obtain ⟨vs, _, h3⟩ := h2
        rcases h3 with ⟨kvs, h3, _⟩ | ⟨kvs, h3, _⟩
        · exact .inl <| .base (.dK h3)
        · exact .inl <| .base (.dT h3)
      · cases h
    · exact r.elim
/-- isinstance(x, c), isinstance(x, (c1, ..)) -/
def fIsi (cs : List Tg) (S : List SO) (ds : List D) : Res := match ds with
  | [d] => match tgD S d with
    | some t => .ok (.bl (cs.any (isa t))) false
    | none => .bad
  | _ => .bad
def rIs1 (K : PySem.W.Frag) : List V → Hp → VK → Prop := fun xs H Q => ∃ (x c : V) (t u : Value) (b : Bool), xs = [x, c] ∧ ClsV c u ∧ TyY K H x t ∧ PySem.W.kitOne K t u = some b ∧ Q (.bl b) H
def rIsN (K : PySem.W.Frag) : List V → Hp → VK → Prop := fun xs H Q => ∃ (x : V) (tp : Addr) (cs : List V) (t : Value) (us : List Value) (b : Bool), xs = [x, .ref tp] ∧ H tp = some (.tup cs) ∧ Paired ClsV cs us ∧ TyY K H x t ∧ PySem.W.kitAny K t us = some b ∧ Q (.bl b) H
theorem call_is1 {X : Cx} : CallR X (.builtin "isinstance") (rIs1 X.K) := by
  intro pins s σ H xs us Q I r ⟨x, c, t, u, b, e1, k, ty, e, q⟩
  subst e1
  obtain ⟨u1, u2, rfl, r1, r2⟩ := vals2 r
  obtain rfl := k.eq r2
  obtain ⟨P, Z, p, hx⟩ := kit_ofY I r1 ty
  exact PySem.W.kia_one Z I.kIn p e hx fun tk => ⟨.bl b, H, I.tok tk, rfl, q⟩
theorem call_isN {X : Cx} : CallR X (.builtin "isinstance") (rIsN X.K) := by
  intro pins s σ H xs us Q I r ⟨x, tp, cs, t, ws, b, e1, hT, k, ty, e, q⟩
  subst e1
  obtain ⟨u1, u2, rfl, r1, r2⟩ := vals2 r
  obtain rfl : u2 = Value.ref tp := r2
  obtain ⟨P, Z, p, hx⟩ := kit_ofY I r1 ty
  obtain ⟨_, its, rv, o, h1, h2, n, h3⟩ := (show ObjOk X.prog X.w H s.heap tp (.tup cs) from I.hok tp _ hT)
  obtain rfl := ClsV.all k rv
  obtain ⟨oc, od, dt, sl⟩ := o
  simp only at h2 h3
  subst h2 h3
  exact PySem.W.kia_tup Z I.kIn p h1 e hx fun tk => ⟨.bl b, H, I.tok tk, rfl, q⟩
/-- a built-in class by its name -/
structure PCl (X : Cx) (e : Expr) (t : Tg) : Prop where
  pe : PE X e (tC (.ty (tgS t)))
  nn : t ≠ .non
section
variable {X : Cx} {g : GX} {W : WX} {e c : Expr} {es : List Expr} {f : CE} {pos p pc : Pos} {t : Tg} {ts : List Tg}
theorem pcl {x : Str} (hg : Gl X x) (hm : X.mg x = none) (hv : bootBuiltins x = some (.type (tgS t))) (nn : t ≠ .non := by intro z; cases z) (hn : x ≠ "__name__" := by decide) (hdb : (x == ("__debug__" : Str)) = false := by decide) : PCl X (.Name x p) t :=
  ⟨pe_bltn hg hm hv rfl hn hdb, nn⟩
inductive PCls (X : Cx) : List Expr → List Tg → Prop
  | nil : PCls X [] []
  | cons {e : Expr} {t : Tg} {es : List Expr} {ts : List Tg} (h : PCl X e t) (r : PCls X es ts) (hs : starEach (e :: es) X.env = (false, eval e X.env) :: starEach es X.env := by rfl) : PCls X (e :: es) (t :: ts)
theorem PCls.pa (h : PCls X es ts) : PA X es (fun _ H Q => Q (ts.map fun t => V.ty (tgS t)) H) := by
  induction h with
  | nil => exact pa_nil
  | cons h r hs ih => exact (pa_cons h.pe ih hs).hc fun _ _ _ q => q
theorem PCls.all (K : PySem.W.Frag) (a : Tg) (h : PCls X es ts) : PySem.W.kitAny K (.type (tgS a)) (ts.map fun t => Value.type (tgS t)) = some (ts.any (isa a)) := by
  induction h with
  | nil => rfl
  | @cons e t es ts h r hs ih =>
    rw [List.map_cons, List.any_cons]
    refine kitAny_cons (kit_ty (isa_ok a t h.nn)) (fun z => ?_) fun z => by rw [z]; rfl
    rw [z]
    exact ih
theorem cls_pairs : ∀ ts : List Tg, Paired ClsV (ts.map fun t => V.ty (tgS t)) (ts.map fun t => Value.type (tgS t))
  | [] => .nil
  | t :: ts => .cons (.ty _) (cls_pairs ts)
variable {x : Str}
theorem q_isi (hg : Gl X "isinstance") (hm : X.mg "isinstance" = none) (hK : X.K = g.K) (he : PE X e (T g W f)) (hc : PCl X c t)
    (hs1 : starEach [e, c] X.env = (false, eval e X.env) :: starEach [c] X.env := by rfl) (hs2 : starEach [c] X.env = (false, eval c X.env) :: starEach [] X.env := by rfl) (hpl : (backTo pos (starEach [c] X.env)).any (·.1) = false := by rfl) :
    PE X (.Call (.Name "isinstance" p) [e, c] [] pos) (T g W (cApp (fIsi [t]) (cCons f cNil))) :=
  (pe_callB call_is1 hg hm (by decide +kernel) (pa_cons he (pa_cons hc.pe pa_nil hs2) hs1) (by decide) (by decide) hs1 hpl).hc fun σc H Q ⟨μ, F, σ, S, R, q⟩ => by
    refine ⟨μ, F, σ, S, R, ?_⟩
    unfold cApp cCons cNil at q
    cases ea : f σ S with
    | bad => rw [ea] at q; exact q
    | ex c as => rw [ea] at q; exact q
    | ok d fl =>
      rw [ea] at q
      intro v H1 F1 s1 x1 r1
      obtain ⟨F2, x2, u2, rx⟩ := r1.frz x1
      have q : Ok g (wat W σc) H F μ (match tgD S d with | some a => .ok (.bl ([t].any (isa a))) false | none => .bad) Q := q
      cases et : tgD S d with
      | none => rw [et] at q; exact q.elim
      | some a =>
        rw [et] at q
        refine ⟨v, _, _, _, isa a t, rfl, .ty (tgS t), by rw [hK]; exact (R.mono s1 x2).ty rx et, kit_ty (isa_ok a t hc.nn), ?_⟩
        have q2 := (q.from s1 x2).here (R.mono s1 x2).dom (v := .bl (isa a t)) (.inr (by show _ = _; rw [List.any_cons, List.any_nil, Bool.or_false]))
        exact q2
theorem q_isN {n1} (hg : Gl X "isinstance") (hm : X.mg "isinstance" = none) (hK : X.K = g.K) (he : PE X e (T g W f)) (hc : PCls X es ts) (hz : ts.length ≤ 1000)
    (hs1 : starEach [e, .Tuple es n1 pc] X.env = (false, eval e X.env) :: starEach [.Tuple es n1 pc] X.env := by rfl) (hs2 : starEach [.Tuple es n1 pc] X.env = (false, eval (.Tuple es n1 pc) X.env) :: starEach [] X.env := by rfl) (hpl : (backTo pos (starEach [.Tuple es n1 pc] X.env)).any (·.1) = false := by rfl) :
    PE X (.Call (.Name "isinstance" p) [e, .Tuple es n1 pc] [] pos) (T g W (cApp (fIsi ts) (cCons f cNil))) :=
  (pe_callB call_isN hg hm (by decide +kernel) (pa_cons he (pa_cons (pe_tup hc.pa) pa_nil hs2) hs1) (by decide) (by decide) hs1 hpl).hc fun σc H Q ⟨μ, F, σ, S, R, q⟩ => by
    refine ⟨μ, F, σ, S, R, ?_⟩
    unfold cApp cCons cNil at q
    cases ea : f σ S with
    | bad => rw [ea] at q; exact q
    | ex c as => rw [ea] at q; exact q
    | ok d fl =>
      rw [ea] at q
      intro v H1 F1 s1 x1 r1
      obtain ⟨F2, x2, u2, rx⟩ := r1.frz x1
      have q : Ok g (wat W σc) H F μ (match tgD S d with | some a => .ok (.bl (ts.any (isa a))) false | none => .bad) Q := q
      cases et : tgD S d with
      | none => rw [et] at q; exact q.elim
      | some a =>
        rw [et] at q
        refine ⟨by rw [List.length_map]; exact Nat.le_trans hz (by decide), fun tp no => ?_⟩
        have sm : Same H1 (upd H1 tp (.tup (ts.map fun t => V.ty (tgS t)))) := same_new no
        have fx : FX F2 H1 F2 (upd H1 tp (.tup (ts.map fun t => V.ty (tgS t)))) := ⟨fun _ h => h, fun _ h => .inl h, fun a h => let ⟨o, e⟩ := (R.mono s1 x2).dom a h; ⟨o, sm _ _ e⟩⟩
        have R2 := (R.mono s1 x2).mono sm fx
        refine ⟨v, tp, _, _, _, _, rfl, upd_same, cls_pairs ts, by rw [hK]; exact R2.ty (rx.mono sm fun _ h => h) et, hc.all X.K a, ?_⟩
        exact ((q.from s1 x2).from sm fx).here R2.dom (.inr rfl)
end
end HC

set_option maxRecDepth 100000
namespace HC
open PySem PySem.Spec L2
open PyProof.Rows hiding St

/-! ## repr -/
def pyK : D → Option PyData
  | .int i => some (.int i)
  | .str x => some (.str x)
  | _ => none
def pyKs : List D → Option (List PyData)
  | [] => some []
  | d :: r => match pyK d, pyKs r with
    | some x, some xs => some (x :: xs)
    | _, _ => none
mutual
/-- what repr sees; lists (l) or dicts, not both -/
def pyD (l : Bool) : D → Option PyData
  | .non => some .none
  | .bl b => some (.bool b)
  | .int i => some (.int i)
  | .str x => some (.str x)
  | .tup ds => match pyDs l ds with
    | some xs => some (.tuple xs)
    | none => none
  | .lst ds => if l then (match pyDs l ds with
    | some xs => some (.list xs)
    | none => none) else none
  | .rol ds => if l then (match pyDs l ds with
    | some xs => some (.list xs)
    | none => none) else none
  | .dct ks ds => if l then none else (match pyKs ks, pyDs l ds with
    | some a, some xs => some (.dict (a.zip xs))
    | _, _ => none)
  | _ => none
def pyDs (l : Bool) : List D → Option (List PyData)
  | [] => some []
  | d :: r => match pyD l d, pyDs l r with
    | some x, some xs => some (x :: xs)
    | _, _ => none
end
section
variable {X : Cx} {pins : List (Addr × Obj)} {σ : St} {H : Hp} {s : Shared} {g : GX} {F : FZ} {l : Bool}
theorem pyKs_length : ∀ {ks : List D} {a : List PyData}, pyKs ks = some a → a.length = ks.length
  | [], _, h => by cases h; rfl
  | d :: r, a, h => by
    unfold pyKs at h
    split at h
    · rename_i x xs e1 e2
      cases h
      rw [List.length_cons, List.length_cons, pyKs_length e2]
    · cases h
theorem pyDs_length : ∀ {ks : List D} {a : List PyData}, pyDs l ks = some a → a.length = ks.length
  | [], _, h => by cases h; rfl
  | d :: r, a, h => by
    unfold pyDs at h
    split at h
    · rename_i x xs e1 e2
      cases h
      rw [List.length_cons, List.length_cons, pyDs_length e2]
    · cases h
theorem keys_read {P : Program} {w : World} {h : Heap} : ∀ {es : List DictEntry} {vs : List (Key × Value)} {kvs : List (Key × V)} {a : List PyData}, Pairs (mixKind P w) es vs → KV kvs vs → pyKs (kvs.map fun p => keyD p.1) = some a →
    ReadsAll h (es.map (·.key)) a [] ∧ Vals (kvs.map (·.2)) (es.map (·.val))
  | _, _, _, a, .nil, k, e => by
    cases k
    cases e
    exact ⟨.nil, .nil⟩
  | _, _, _, a, .cons (e := e0) (kv := y) hk hv t, k, e => by
    cases k with
    | @cons x _ xs _ r t2 =>
      obtain ⟨k1, v1⟩ := x
      obtain ⟨k2, v2⟩ := y
      obtain ⟨rfl, rv⟩ := r
      rw [List.map_cons] at e
      unfold pyKs at e
      split at e
      · rename_i z zs e1 e2
        cases e
        obtain ⟨h1, h2⟩ := keys_read (h := h) t t2 e2
        refine ⟨?_, .cons (by show L2.RelV v1 e0.val; rw [show e0.val = v2 from hv]; exact rv) h2⟩
        rw [List.map_cons]
        refine .cons (as := []) (bs := []) ?_ h1
        rcases keyIs_shape hk with ⟨i, t, rfl, ev⟩ | ⟨x, t, rfl, ev⟩
        · rw [ev]; cases e1; exact .int _ _
        · rw [ev]; cases e1; exact .str _ _
      · cases e
def Seen (l : Bool) (x : Bool) (as : List Addr) : Prop := (l = true → x = false) ∧ (l = false → ∀ b ∈ as, b ≠ sysModules)
theorem zip_fst {α β : Type} : ∀ {a : List α} {b : List β}, a.length = b.length → (a.zip b).map (·.1) = a
  | [], [], _ => rfl
  | x :: a, y :: b, h => by rw [List.zip_cons_cons, List.map_cons, zip_fst (Nat.succ.inj h)]
theorem zip_snd {α β : Type} : ∀ {a : List α} {b : List β}, a.length = b.length → (a.zip b).map (·.2) = b
  | [], [], _ => rfl
  | x :: a, y :: b, h => by rw [List.zip_cons_cons, List.map_cons, zip_snd (Nat.succ.inj h)]
mutual
theorem reads (I : Inv X pins σ H s) (hK : X.K = g.K) : ∀ (d : D) (v : V) (u : Value) (x : PyData), RepP g H F d v → RelV v u → pyD l d = some x → ∃ as, Reads s.heap u x as ∧ Seen l x.hasDict as
  | .non, v, u, x, r, rv, e => by
    cases e
    cases (show v = .non from r)
    cases (show u = Value.none from rv)
    exact ⟨_, .none, fun _ => rfl, fun _ b h => nomatch h⟩
  | .bl k, v, u, x, r, rv, e => by
    cases e
    cases (show v = .bl k from r)
    cases (show u = Value.bool k from rv)
    exact ⟨_, .bool _, fun _ => rfl, fun _ b h => nomatch h⟩
  | .int k, v, u, x, r, rv, e => by
    cases e
    cases (show v = .int k from r)
    obtain ⟨t, rfl⟩ := rv
    exact ⟨_, .int _ _, fun _ => rfl, fun _ b h => nomatch h⟩
  | .str k, v, u, x, r, rv, e => by
    cases e
    cases (show v = .str k from r)
    obtain ⟨t, rfl⟩ := rv
    exact ⟨_, .str _ _, fun _ => rfl, fun _ b h => nomatch h⟩
  | .tup ds, v, u, x, r, rv, e => by
    obtain ⟨a, vs, rfl, ⟨h1, _⟩, h2⟩ := r
    cases (show u = Value.ref a from rv)
    unfold pyD at e
    split at e
    · rename_i xs e2
      cases e
      rw [← hK] at h1
      obtain ⟨its, rvs, ⟨o, q1, q2, n, q3⟩, _⟩ := I.tuple h1
      obtain ⟨as, q4, q5⟩ := reads_all I hK ds vs its xs h2 rvs e2
      exact ⟨as, .tuple q1 q2 q3 (by simpa using q4), q5⟩
    · cases e
  | .lst ds, v, u, x, r, rv, e => by
    obtain ⟨a, vs, rfl, h1, h2⟩ := r
    cases (show u = Value.ref a from rv)
    unfold pyD at e
    split at e
    · rename_i hl
      split at e
      · rename_i xs e2
        cases e
        obtain ⟨its, rvs, ⟨o, n, q1, q2, _, q3⟩, _⟩ := I.list (.inl (.inl h1.2.1))
        obtain ⟨as, q4, q5⟩ := reads_all I hK ds vs its xs h2 rvs e2
        exact ⟨_, .list q1 q2 q3 (by simpa using q4), q5.1, fun z => by rw [hl] at z; cases z⟩
      · cases e
    · cases e
  | .rol ds, v, u, x, r, rv, e => by
    obtain ⟨a, vs, rfl, ⟨h1, _⟩, h2⟩ := r
    cases (show u = Value.ref a from rv)
    unfold pyD at e
    split at e
    · rename_i hl
      split at e
      · rename_i xs e2
        cases e
        rw [← hK] at h1
        obtain ⟨its, rvs, ⟨o, n, q1, q2, _, q3⟩, _⟩ := I.list h1.sq
        obtain ⟨as, q4, q5⟩ := reads_all I hK ds vs its xs h2 rvs e2
        exact ⟨_, .list q1 q2 q3 (by simpa using q4), q5.1, fun z => by rw [hl] at z; cases z⟩
      · cases e
    · cases e
  | .dct ks ds, v, u, x, r, rv, e => by
    obtain ⟨a, vs, rfl, _, h2, h3⟩ := r
    cases (show u = Value.ref a from rv)
    unfold pyD at e
    split at e
    · cases e
    · rename_i hl
      split at e
      · rename_i ka xs e1 e2
        cases e
        have hlen : ds.length = ks.length := by
          rw [h2.length]
          rcases h3 with ⟨kvs, _, rfl, rfl⟩ | ⟨kvs, _, rfl, rfl⟩ <;> rw [List.length_map, List.length_map]
        have hz : ka.length = xs.length := by rw [pyKs_length e1, pyDs_length e2, hlen]
        rcases h3 with ⟨kvs, q, rfl, rfl⟩ | ⟨kvs, q, rfl, rfl⟩
        · obtain ⟨_, ns, ws, kv, o, es, ep, q1, q2, q3, _, q4, _⟩ := dk_rd I.hok q
          obtain ⟨r1, r2⟩ := keys_read (h := s.heap) q4 kv e1
          obtain ⟨as, q5, q6⟩ := reads_all I hK ds _ _ xs h2 r2 e2
          refine ⟨_, .dict (as := []) (bs := as) q1 q2.1 q3 (by rw [zip_fst hz]; simpa using r1) (by rw [zip_snd hz]; simpa using q5), fun z => absurd z hl, fun z b hb => ?_⟩
          rcases List.mem_cons.mp hb with rfl | hb
          · exact beq_eq_false_iff_ne.mp ns
          · exact q6.2 z b (by simpa using hb)
        · cases kvs with
          | cons p kvs => cases e1
          | nil =>
            obtain ⟨_, ns, ws, kv, o, es, ep, q1, q2, q3, q4, _⟩ := dt_rd I.hok q
            cases kv
            have z1 : es.toList = [] := q4
            cases e1
            have z2 : xs = [] := List.length_eq_zero_iff.mp hz.symm
            subst z2
            refine ⟨_, .dict (as := []) (bs := []) q1 q2.1 q3 (by rw [z1]; exact .nil) (by rw [z1]; exact .nil), fun z => absurd z hl, fun z b hb => ?_⟩
            rcases List.mem_cons.mp hb with rfl | hb
            · exact beq_eq_false_iff_ne.mp ns
            · exact nomatch hb
      · cases e
  | .obj _ _, _, _, _, _, _, e => by cases e
  | .loc _, _, _, _, _, _, e => by cases e
  | .err, _, _, _, _, _, e => by cases e
theorem reads_all (I : Inv X pins σ H s) (hK : X.K = g.K) : ∀ (ds : List D) (vs : List V) (us : List Value) (xs : List PyData), RepL g H F ds vs → Vals vs us → pyDs l ds = some xs → ∃ as, ReadsAll s.heap us xs as ∧ Seen l (PyData.hasDictAll xs) as
  | [], vs, us, xs, r, rv, e => by
    cases (show vs = [] from r)
    cases rv
    cases e
    exact ⟨_, .nil, fun _ => rfl, fun _ b h => nomatch h⟩
  | d :: ds, vs, us, xs, r, rv, e => by
    obtain ⟨v, ws, rfl, h1, h2⟩ := r
    cases rv with
    | cons r1 r2 =>
      unfold pyDs at e
      split at e
      · rename_i y ys e1 e2
        cases e
        obtain ⟨as, q1, q2⟩ := reads I hK d v _ y h1 r1 e1
        obtain ⟨bs, q3, q4⟩ := reads_all I hK ds ws _ ys h2 r2 e2
        refine ⟨_, .cons q1 q3, fun z => ?_, fun z b hb => (List.mem_append.mp hb).elim (q2.2 z b) (q4.2 z b)⟩
        show (y.hasDict || PyData.hasDictAll ys) = false
        rw [q2.1 z, q4.1 z]
        rfl
      · cases e
end
end
/-- repr -/
def shw (x : PyData) : Res := if x.showable && decide (x.depth ≤ 60) && decide (x.shown.length ≤ lim) then .ok (.str x.shown) false else .bad
def fRepr (S : List SO) (ds : List D) : Res := match ds with
  | [d] => if lends S [d] then (match pyD true (look S d) with
    | some x => shw x
    | none => match pyD false (look S d) with
      | some x => shw x
      | none => .bad) else .bad
  | _ => .bad
def rRep (g : GX) : List V → Hp → VK → Prop := fun xs H Q => ∃ (F : FZ) (d : D) (v : V) (l : Bool) (x : PyData), xs = [v] ∧ RepP g H F d v ∧ pyD l d = some x ∧ x.showable = true ∧ x.depth ≤ 60 ∧ x.shown.length ≤ sizeLine ∧ Q (.str x.shown) H
theorem RG.rep {k : Nat} {A : Around} (r : RG k A) : A.units + 70 < cLine ∧ A.guards = some [] := ⟨by have := r.1.un; omega, r.2⟩
theorem call_rep {X : Cx} {g : GX} (hK : X.K = g.K) (hr : X.A.units + 70 < cLine ∧ X.A.guards = some []) : CallR X (.builtin "repr") (rRep g) := by
  intro pins s σ H xs us Q I rv ⟨F, d, v, l, x, e, r, ex, h1, h2, h3, q⟩
  subst e
  obtain ⟨u, rfl, ru⟩ := vals1 rv
  obtain ⟨as, rd, se⟩ := reads I hK d v u x r ru ex
  have go : ∀ (h' : Heap) (t tk : Tok), (∀ b o, s.heap.get? b = some o → h'.get? b = some o) → EP X pins σ Q (.str x.shown t) { s with heap := h', toks := tk } := fun h' t tk hk => ⟨.str x.shown, H, I.kept hk, ⟨t, rfl⟩, q⟩
  have hsm : x.hasDict = true → sysModules ∉ as := fun z m => by
    cases l with
    | true => rw [se.1 rfl] at z; cases z
    | false => exact se.2 rfl _ m rfl
  have hu : X.A.units + (x.depth + 1) < cLine := by have := hr.1; omega
  cases rd with
  | none => exact PySem.P.repr_of_none (go _ _ _ fun _ _ z => z)
  | bool b => exact PySem.P.repr_of_bool (go _ _ _ fun _ _ z => z)
  | int i t => exact PySem.P.repr_of_int (by simpa [PyData.showable] using h1) (go _ _ _ fun _ _ z => z)
  | str y t => exact PySem.P.repr_of_str (go _ _ _ fun _ _ z => z) h3
  | list a b c d => exact repr_of_reads' (h₀ := s.heap) (.list a b c d) h1 hsm hr.2 hu (fun _ _ e => e) go h3
  | tuple a b c d => exact repr_of_reads' (h₀ := s.heap) (.tuple a b c d) h1 hsm hr.2 hu (fun _ _ e => e) go h3
  | dict a b c d e => exact repr_of_reads' (h₀ := s.heap) (.dict a b c d e) h1 hsm hr.2 hu (fun _ _ e => e) go h3
theorem lk_repr {g : GX} : LkC g (rRep g) fRepr := by
  intro E μ F σ S σc H ds vs Q R r q
  unfold fRepr at q
  split at q
  · rename_i d
    split at q
    · rename_i hl
      obtain ⟨v, ws, rfl, h1, h2⟩ := R.lend r hl
      cases (show ws = [] from h2)
      have fin : ∀ {l : Bool} {x : PyData}, pyD l (look S d) = some x → Ok g E H F μ (shw x) Q → rRep g [v] H Q := fun {l x} ex q => by
        unfold shw at q
        split at q
        · rename_i hc
          simp only [Bool.and_eq_true, decide_eq_true_eq] at hc
          exact ⟨_, _, v, l, x, rfl, h1, ex, hc.1.1, hc.1.2, by rw [lim_eq]; exact hc.2, q.here R.dom (.inr rfl)⟩
        · exact q.elim
      split at q
      · rename_i x ex
        exact fin ex q
      · split at q
        · rename_i x ex
          exact fin ex q
        · exact q.elim
    · exact q.elim
  · exact q.elim
end HC

set_option maxRecDepth 100000
namespace HC
open PySem PySem.Spec L2
open PyProof.Rows hiding St

/-! ## sorted -/
def insI (x : Int) : List Int → List Int
  | [] => [x]
  | y :: r => if x ≤ y then x :: y :: r else y :: insI x r
def sortU : List Int → List Int
  | [] => []
  | x :: r => insI x (sortU r)
def sortI (b : Bool) (ns : List Int) : List Int := if b then (sortU ns).reverse else sortU ns
theorem insI_perm (x : Int) : ∀ l : List Int, (insI x l).Perm (x :: l)
  | [] => .refl _
  | y :: r => by
    unfold insI
    split
    · exact .refl _
    · exact ((insI_perm x r).cons y).trans (.swap x y r)
theorem sortU_perm : ∀ l : List Int, (sortU l).Perm l
  | [] => .refl _
  | x :: r => (insI_perm x _).trans ((sortU_perm r).cons x)
theorem insI_mem {x z : Int} {l : List Int} (h : z ∈ insI x l) : z = x ∨ z ∈ l := List.mem_cons.mp ((insI_perm x l).mem_iff.mp h)
theorem insI_ord (x : Int) : ∀ {l : List Int}, l.Pairwise (· ≤ ·) → (insI x l).Pairwise (· ≤ ·)
  | [], _ => List.pairwise_singleton _ _
  | y :: r, h => by
    have h2 := List.pairwise_cons.mp h
    unfold insI
    split
    · rename_i hx
      refine List.pairwise_cons.mpr ⟨fun z hz => ?_, h⟩
      rcases List.mem_cons.mp hz with rfl | hz
      · exact hx
      · exact Int.le_trans hx (h2.1 z hz)
    · rename_i hx
      refine List.pairwise_cons.mpr ⟨fun z hz => ?_, insI_ord x h2.2⟩
      rcases insI_mem hz with rfl | hz
      · omega
      · exact h2.1 z hz
theorem sortU_ord : ∀ l : List Int, (sortU l).Pairwise (· ≤ ·)
  | [] => .nil
  | x :: r => insI_ord x (sortU_ord r)
theorem sortU_of {a b : List Int} (p : a.Perm b) (o : a.Pairwise (· ≤ ·)) : a = sortU b := PySem.W.ksm_same (p.trans (sortU_perm b).symm) o (sortU_ord b)
theorem sortI_of {k : Bool} {a b : List Int} (p : a.Perm b) (o : OrdB k a) : a = sortI k b := by
  cases k with
  | false => exact sortU_of p o
  | true =>
    have o2 : a.reverse.Pairwise (· ≤ ·) := List.pairwise_reverse.mpr o
    have e := sortU_of ((List.reverse_perm a).trans p) o2
    show a = (sortU b).reverse
    rw [← e, List.reverse_reverse]
def fSorted (k : Bool) (S : List SO) (ds : List D) : Res := match ds with
  | [d] => match rdOf S d with
    | some xs => match intsOf xs with
      | some ns => .ok (.lst ((sortI k ns).map .int)) true
      | none => .bad
    | none => .bad
  | _ => .bad
theorem reps_int {g : GX} {H : Hp} {F : FZ} (ns : List Int) : RepL g H F (ns.map D.int) (ns.map V.int) := reps_ints ns
theorem fSorted_run {g : GX} {k : Bool} {E : XK} {μ : List Addr} {F : FZ} {σ : Sl} {S : List SO} {σc : St} {H : Hp} {ds : List D} {vs : List V} {Q : VK} (R : Rel g μ F σ S σc H) (r : RepVs g H F μ ds vs) (q : Ok g E H F μ (fSorted k S ds) Q) :
    ∃ (a : Addr) (ns : List Int), vs = [V.ref a] ∧ SqL g.K H a (ns.map V.int) ∧ ∀ (ns' : List Int) (p : Addr), ns'.Perm ns → OrdB k ns' → H p = none → Q (.ref p) (upd H p (.lst (ns'.map V.int))) := by
  unfold fSorted at q
  split at q
  · obtain ⟨v, rfl, rv⟩ := r.one
    split at q
    · rename_i xs ex
      split at q
      · rename_i ns en
        obtain ⟨a, ws, rfl, h1, h2, h3⟩ := R.rd rv ex
        have e := h3.ints en
        subst e
        refine ⟨a, ns, rfl, h1, fun ns' p hp ho hn => ?_⟩
        have e2 := sortI_of hp ho
        subst e2
        exact q.lst R.dom (fun a h => R.mu_there h) hn (by rw [List.length_map, hp.length_eq, ← List.length_map (f := V.int)]; exact h2) (reps_ints _)
      · exact q.elim
    · exact q.elim
  · exact q.elim
theorem lk_sorted {g : GX} : LkC g (rSortedI g.K) (fSorted false) := by
  intro E μ F σ S σc H ds vs Q R r q
  obtain ⟨a, ns, h1, h2, h3⟩ := fSorted_run R r q
  exact ⟨a, ns, h1, h2, fun ns' p hp ho => h3 ns' p hp ho⟩
section
variable {X : Cx} {g : GX} {W : WX} {e : Expr} {f : CA} {p pos kpos pp : Pos} {j : Nat}
theorem q_sortedRev {k : Bool} (hK : X.K = g.K) (hg : Gl X "sorted") (hm : X.mg "sorted" = none) (ha : PA X [e] (TL g W f))
    (he : backTo pos (starEach [e] X.env) = (false, eval e X.env) :: backTo pos (starEach [] X.env) := by rfl) (hpl : (backTo pos (starEach [e] X.env)).any (·.1) = false := by rfl)
    (hall : (backToKw pos (keywordEach [⟨some "reverse", .Constant (.bool k) j pp, kpos⟩] X.env)).all (·.1.isSome) = true := by rfl) (hnone : (backToKw pos (keywordEach [⟨some "reverse", .Constant (.bool k) j pp, kpos⟩] X.env)).any (·.1.isNone) = false := by rfl)
    (hks : (backToKw pos (keywordEach [⟨some "reverse", .Constant (.bool k) j pp, kpos⟩] X.env)).filterMap (·.1) = [Str.ofString "reverse"] := by rfl) :
    PE X (.Call (.Name "sorted" p) [e] [⟨some "reverse", .Constant (.bool k) j pp, kpos⟩] pos) (T g W (cApp (fSorted k) f)) :=
  (pe_callBK (cr_sortedRev (b := k)) hg hm (by decide +kernel) ha (pk_cons pe_bl pk_nil) (by decide) (by decide) he hpl hall hnone hks).hc fun σc H Q h => TL.app h fun μ F σ S H1 ds vs R r q => by
    obtain ⟨a, ns, h1, h2, h3⟩ := fSorted_run R r q
    exact ⟨a, ns, h1, rfl, by rw [hK]; exact h2, h3⟩
end

/-! ## displays of dicts, keys written in the text -/
theorem TL.cons {g : GX} {W : WX} {f : CE} {fr : CA} {σc : St} {H : Hp} {Q : List V → Hp → Prop} (h : TL g W (cCons f fr) σc H Q) : T g W f σc H fun v H1 => TL g W fr σc H1 fun vs H2 => Q (v :: vs) H2 := by
  obtain ⟨μ, F, σ, S, R, q⟩ := h
  refine ⟨μ, F, σ, S, R, ?_⟩
  unfold cCons at q
  cases ea : f σ S with
  | bad => rw [ea] at q; exact q
  | ex c as => rw [ea] at q; exact q
  | ok d fl =>
    rw [ea] at q
    intro v H1 F1 s1 x1 r1
    obtain ⟨F2, x2, u2, rx⟩ := r1.frz x1
    refine ⟨μ, F2, σ, S, R.mono s1 x2, ?_⟩
    have q : OkL g (wat W σc) H F μ (match fr σ S with | .ok ds => .ok (d :: ds) | .ex c as => .ex c as | .bad => .bad) Q := q
    cases eb : fr σ S with
    | bad => rw [eb] at q; exact q
    | ex c as =>
      rw [eb] at q
      exact fun cls dx H' F' s' x' rr => q cls dx H' F' (s1.trans s') (x2.trans s1 x') rr
    | ok ds =>
      rw [eb] at q
      exact fun vs H3 F3 s3 x3 r3 => q (v :: vs) H3 F3 (s1.trans s3) (x2.trans s1 x3) (.cons (rx.mono s3 x3.up) r3)
inductive DP (g : GX) (W : WX) : List (TE × TE) → List Key → CA → Prop
  | nil : DP g W [] [] cNil
  | cons {trs : List (TE × TE)} {ks : List Key} {f : CE} {fr : CA} (k : Key) (h : DP g W trs ks fr) : DP g W ((tC (kV k), T g W f) :: trs) (k :: ks) (cCons f fr)
theorem T.imp {g : GX} {W : WX} {f : CE} {σc : St} {H : Hp} {Q Q' : VK} (h : T g W f σc H Q) (w : ∀ v H1, Q v H1 → Q' v H1) : T g W f σc H Q' := by
  obtain ⟨μ, F, σ, S, R, q⟩ := h
  refine ⟨μ, F, σ, S, R, ?_⟩
  cases e : f σ S with
  | ok d fr => rw [e] at q; exact fun v H' F' s x r => w _ _ (q v H' F' s x r)
  | ex c as => rw [e] at q; exact q
  | bad => rw [e] at q; exact q
theorem DP.run {g : GX} {W : WX} {trs : List (TE × TE)} {ks : List Key} {f : CA} (h : DP g W trs ks f) {σc : St} : ∀ {H : Hp} {Q : List V → Hp → Prop} {Q' : List (V × V) → Hp → Prop}, TL g W f σc H Q → (∀ vs H2, vs.length = ks.length → Q vs H2 → Q' ((ks.zip vs).map (fun p => (kV p.1, p.2))) H2) → tPairs trs σc H Q' := by
  induction h with
  | nil =>
    rintro H Q Q' ⟨μ, F, σ, S, R, q⟩ w
    exact w [] H rfl (q [] H F (Same.refl H) R.fx .nil)
  | @cons trs ks f fr k h ih =>
    intro H Q Q' q w
    exact T.imp q.cons fun v H1 z => ih z fun vs H2 hl q2 => w (v :: vs) H2 (by rw [List.length_cons, List.length_cons, hl]) q2
/-- {k: e, ..} -/
def cDct (ks : List Key) (f : CA) : CE := fun σ S => match f σ S with
  | .ok ds => if decide ks.Nodup && pureL ds && decide (ds.length = ks.length) then .ok (.dct (ks.map keyD) ds) true else .bad
  | .ex c as => .ex c as
  | .bad => .bad
theorem merge_new : ∀ (more acc : List (Key × V)), ((acc ++ more).map (·.1)).Nodup → mergeK acc more = acc ++ more
  | [], acc, _ => (List.append_nil acc).symm
  | p :: r, acc, h => by
    have hn : valV acc p.1 = none := by
      cases e : valV acc p.1 with
      | none => rfl
      | some v =>
        have h1 : (acc.any fun kv => decide (kv.1 = p.1)) = true := by rw [valV_any, e]; rfl
        obtain ⟨q, hq, eq⟩ := List.any_eq_true.mp h1
        rw [List.map_append, List.map_cons] at h
        have h2 := (List.nodup_append.mp h).2.2 _ (List.mem_map_of_mem hq) p.1 (List.mem_cons_self ..)
        exact absurd (of_decide_eq_true eq) h2
    show mergeK (putK acc p.1 p.2) r = _
    rw [putK_new _ hn, merge_new r (acc ++ [p]) (by rw [List.append_assoc]; exact h), List.append_assoc]
    rfl
theorem q_dnil {X : Cx} {g : GX} {W : WX} {pos : Pos} : PE X (.Dict [] [] pos) (T g W (fun _ _ => .ok (.dct [] []) true)) :=
  pe_dnewK.hc fun σc H Q ⟨μ, F, σ, S, R, q⟩ p hp => by
    have s : Same H (upd H p (.dK [])) := same_new hp
    refine q _ _ F s ⟨fun _ h => h, fun _ h => .inl h, fun a h => let ⟨o, e⟩ := R.dom a h; ⟨o, s _ _ e⟩⟩ (.inr ⟨rfl, p, rfl, hp, fun h => ?_, fun h => ?_, [], rfl, .inl ⟨[], upd_same, rfl, rfl⟩⟩)
    · obtain ⟨o, e⟩ := R.dom p h; rw [hp] at e; cases e
    · obtain ⟨o, e⟩ := R.mu_there h; rw [hp] at e; cases e
theorem q_dct {X : Cx} {g : GX} {W : WX} {pos : Pos} {keys : List (Option Expr)} {values : List Expr} {trs : List (TE × TE)} {ks : List Key} {f : CA} (h : PPs X pos keys values trs) (dp : DP g W trs ks f)
    (hall : keys.all (·.isSome) = true := by rfl) (hl : keys.length = values.length := by rfl) (h0 : keys ≠ [] := by exact fun z => nomatch z) (h15 : keys.length ≤ 15 := by decide) (hk : ks.length ≤ 15 := by decide) : PE X (.Dict keys values pos) (T g W (cDct ks f)) :=
  (pe_disp h hall hl h0 h15).hc fun σc H Q ⟨μ, F, σ, S, R, q⟩ p hp => by
    have s : Same H (upd H p (.dK [])) := same_new hp
    have fx : FX F H F (upd H p (.dK [])) := ⟨fun _ h => h, fun _ h => .inl h, fun a h => let ⟨o, e⟩ := R.dom a h; ⟨o, s _ _ e⟩⟩
    have nF : ¬ F p := fun h => by obtain ⟨o, e⟩ := R.dom p h; rw [hp] at e; cases e
    have nM : p ∉ μ := fun h => by obtain ⟨o, e⟩ := R.mu_there h; rw [hp] at e; cases e
    refine dp.run (Q := fun vs H2 => H2 p = some (.dK []) ∧ (vs.length = ks.length → ∃ kvs : List (Key × V), (ks.zip vs).map (fun p => (kV p.1, p.2)) = kvs.map (fun kv => (kV kv.1, kv.2)) ∧ kvs.length ≤ 15 ∧ Q (.ref p) (upd H2 p (.dK (mergeK [] kvs))))) ⟨μ, F, σ, S, R.mono s fx, ?_⟩ fun vs H2 hl z => ⟨z.1, z.2 hl⟩
    unfold cDct at q
    cases e : f σ S with
    | bad => rw [e] at q; exact q
    | ex c as => rw [e] at q; exact fun cls dx H' F' s' x' rr => q cls dx H' F' (s.trans s') (fx.trans s x') rr
    | ok ds =>
      rw [e] at q
      have q : Ok g (wat W σc) H F μ (if decide ks.Nodup && pureL ds && decide (ds.length = ks.length) then .ok (.dct (ks.map keyD) ds) true else .bad) Q := q
      split at q
      · rename_i hc
        simp only [Bool.and_eq_true, decide_eq_true_eq] at hc
        intro vs H' F' s' x' rr
        have hpp : H' p = some (.dK []) := s' _ _ upd_same
        have nF' : ¬ F' p := fun h => (x'.nw p h).elim nF fun z => by rw [upd_same] at z; cases z
        refine ⟨hpp, fun hlen => ⟨ks.zip vs, rfl, by rw [List.length_zip]; omega, ?_⟩⟩
        have nd : ((([] : List (Key × V)) ++ ks.zip vs).map (·.1)).Nodup := by
          rw [List.nil_append, zip_fst hlen.symm]
          exact hc.1.1
        rw [merge_new _ _ nd, List.nil_append]
        have sm : Same H (upd H' p (.dK (ks.zip vs))) := fun a o ha => by
          have na : a ≠ p := fun z => by rw [z, hp] at ha; cases ha
          rw [upd_ne na]
          exact s' _ _ (s _ _ ha)
        refine q _ _ F' sm ⟨fun a h => x'.up a h, fun a h => (x'.nw a h).imp (fun h => h) fun z => same_none s z, fun a h => ?_⟩ (.inr ⟨rfl, p, rfl, hp, nF', nM, vs, ?_, .inl ⟨ks.zip vs, upd_same, ?_, ?_⟩⟩)
        · obtain ⟨o, e⟩ := x'.dom a h
          have na : a ≠ p := fun z => nF' (z ▸ h)
          exact ⟨o, (upd_ne na).trans e⟩
        · exact RepL.writeG (fun xs z => by rw [hpp] at z; cases z) (fun ob u z => by rw [hpp] at z; cases z) nF' _ _ (rr.pure hc.1.2)
        · show ks.map keyD = (ks.zip vs).map (keyD ∘ fun p : Key × V => p.1)
          rw [← List.map_map, zip_fst hlen.symm]
        · exact (zip_snd hlen.symm).symm
      · exact q.elim
theorem qp_nil {X : Cx} {pos : Pos} : PPs X pos [] [] [] := pps_nil
theorem qp_int {X : Cx} {g : GX} {W : WX} {pos : Pos} {i : Int} {j : Nat} {p2 : Pos} {v : Expr} {ks : List (Option Expr)} {vs : List Expr} {f : CE} {trs : List (TE × TE)} (hv : PE X v (T g W f)) (hr : PPs X pos ks vs trs) : PPs X pos (some (.Constant (.int i) j p2) :: ks) (v :: vs) ((tC (kV (.inl i)), T g W f) :: trs) := pps_cons pe_int hv hr
theorem qp_str {X : Cx} {g : GX} {W : WX} {pos : Pos} {i : Str} {j : Nat} {p2 : Pos} {v : Expr} {ks : List (Option Expr)} {vs : List Expr} {f : CE} {trs : List (TE × TE)} (hv : PE X v (T g W f)) (hr : PPs X pos ks vs trs) : PPs X pos (some (.Constant (.str i) j p2) :: ks) (v :: vs) ((tC (kV (.inr i)), T g W f) :: trs) := pps_cons pe_str hv hr
end HC

set_option maxRecDepth 100000
namespace HC
open PySem PySem.Spec L2
open PyProof.Rows hiding St

def cNeg (f : CE) : CE := fun σ S => match f σ S with
  | .ok d _ => match d with
    | .int i => .ok (.int (-i)) false
    | _ => .bad
  | .ex c as => .ex c as
  | .bad => .bad
def cBad : CE := fun _ _ => .bad
def aBad : CA := fun _ _ => .bad
def iBad : CI := fun _ _ => .bad
def sBad : SC := fun _ _ => .bad
section
variable {X : Cx} {g : GX} {W : WX} {a e : Expr} {fa : CE} {pos : Pos} {st : Stmt} {sts : List Stmt}
theorem q_neg (ha : PE X a (T g W fa)) : PE X (.UnaryOp .USub a pos) (T g W (cNeg fa)) :=
  (pe_un un_neg ha).hc fun σc H Q h => T.one h fun μ F σ S H1 d v R r q => by
    split at q
    · cases r.int
      exact ⟨_, rfl, q.here R.dom (.inr rfl)⟩
    · exact q.elim
/-- what is not read: nothing is told of it -/
theorem q_bad : PE X e (T g W cBad) := ⟨fun _ _ _ _ _ _ ⟨_, _, _, _, _, q⟩ => q.elim⟩
theorem s_bad : PS X st (TSt g W sBad) := ⟨fun _ _ _ _ _ _ ⟨_, _, _, _, _, q⟩ => q.elim⟩
theorem s_asgLc {i : Nat} {y : Str} {py : Pos} {elt tg iter : Expr} {ifs : List Expr} {scope : Scope} {own : List (Str × Nat)} {spos : Pos} {fi : CI} {A : TgF} {ss : List Nat} {ft fe : CE} (hc : X.calm = true) (hN : X.N.Nodup) (hy : X.N[i]? = some y) (hyl : X.env.scope.names.lookup y = some .local)
    (hsw : swapsWith (.ListComp elt [⟨tg, iter, ifs, 0⟩] scope pos) (some (.Name y py)) spos.line X.env = pure true) (hi : PI X tg iter (TIt g W fi)) (ok : BlkOk X.N X.env.scope scope own) (hss : ∀ j ∈ ss, j ∈ own.map (·.2))
    (hg : ∀ s H C cl fp, PG (blkX X scope s H C cl fp) tg (TGt g ss A)) (ht : ∀ s H C cl fp, PTs (blkX X scope s H C cl fp) ifs (TB g W0 ft)) (he : ∀ s H C cl fp, PE (blkX X scope s H C cl fp) elt (T g W0 fe)) (hs : ∀ x, foldedSetIterable iter X.env x = pure x := by intro _; rfl) :
    PS X (.Assign [.Name y py] (.ListComp elt [⟨tg, iter, ifs, 0⟩] scope pos) spos) (TSt g W (sAsg i (cComp fi A (own.map (·.2)) ft fe))) :=
  (ps_setLc hc hN hy hyl hsw hi ok hg ht he hs).hc fun Dn σ H h => tLc_of hss (asg_of h)
theorem s_newLc {i : Nat} {y : Str} {py : Pos} {elt tg iter : Expr} {ifs : List Expr} {scope : Scope} {own : List (Str × Nat)} {spos : Pos} {fi : CI} {A : TgF} {ss : List Nat} {ft fe : CE} (hc : X.calm = true) (hN : X.N.Nodup) (hy : X.N[i]? = some y) (hyl : X.env.scope.names.lookup y = some .local)
    (hsw : swapsWith (.ListComp elt [⟨tg, iter, ifs, 0⟩] scope pos) (some (.Name y py)) spos.line X.env = pure true) (hi : PI X tg iter (TIt g W fi)) (ok : BlkOk X.N X.env.scope scope own) (hss : ∀ j ∈ ss, j ∈ own.map (·.2))
    (hg : ∀ s H C cl fp, PG (blkX X scope s H C cl fp) tg (TGt g ss A)) (ht : ∀ s H C cl fp, PTs (blkX X scope s H C cl fp) ifs (TB g W0 ft)) (he : ∀ s H C cl fp, PE (blkX X scope s H C cl fp) elt (T g W0 fe)) (hs : ∀ x, foldedSetIterable iter X.env x = pure x := by intro _; rfl) :
    PS X (.Assign [.Name y py] (.ListComp elt [⟨tg, iter, ifs, 0⟩] scope pos) spos) (TSt g W (sNew i (cComp fi A (own.map (·.2)) ft fe))) :=
  (ps_setLc hc hN hy hyl hsw hi ok hg ht he hs).hc fun Dn σ H h => tLc_of hss (new_of h)
end
end HC
namespace HC
open PySem PySem.Spec L2
theorem it_bad {X : Cx} {g : GX} {W : WX} {tg e : Expr} : PI X tg e (TIt g W iBad) := ⟨fun _ _ _ _ _ _ ⟨_, _, _, _, _, q⟩ => q.elim⟩
end HC

set_option maxRecDepth 100000
namespace HC

/-! ## to reckon with defs as functions of data -/
abbrev its (ns : List Int) : List D := ns.map .int
theorem pure_its : ∀ ns : List Int, pureL (its ns) = true
  | [] => rfl
  | n :: ns => pure_its ns
theorem ints_its : ∀ ns : List Int, intsOf (its ns) = some ns
  | [] => rfl
  | n :: ns => by
    show (match intsOf (its ns) with | some ms => some (n :: ms) | none => none) = _
    rw [ints_its ns]
theorem gets_its (ns : List Int) (k : Nat) : gets (its ns) k = (ns[k]?).map D.int := by rw [gets_eq, List.getElem?_map]
theorem at_its {ns : List Int} {k : Nat} {i : Int} (h : ns[k]? = some i) : atD (its ns) (k : Int) = some (.int i) := by
  show gets (its ns) k = _
  rw [gets_its, h]
  rfl
section
variable {f r c a b : SC} {e e1 e2 : CE} {σ σ1 : Sl} {S S1 : List SO} {d x y : D} {fr fx fy : Bool} {i n np : Nat} {xs ds : List D} {m : FnS} {fn : List SO → List D → Res} {op : List SO → D → D → Res} {t : CE}
theorem seq_nx (h : f σ S = .nx σ1 S1) : sSeq f r σ S = r σ1 S1 := by unfold sSeq; rw [h]
theorem seq_rt (h : f σ S = .rt d fr) : sSeq f r σ S = .rt d fr := by unfold sSeq; rw [h]
theorem if_t (h : t σ S = .ok (.bl true) fr) : sIf t a b σ S = a σ S := by unfold sIf; rw [h]
theorem if_f (h : t σ S = .ok (.bl false) fr) : sIf t a b σ S = b σ S := by unfold sIf; rw [h]
theorem asg_ok (h : e σ S = .ok d fr) : sAsg i e σ S = .nx (setD σ i d) S := by unfold sAsg sVal; rw [h]
theorem new_l (h : e σ S = .ok (.lst xs) true) : sNew i e σ S = .nx (setD σ i (.loc S.length)) (S ++ [.lst xs]) := by unfold sNew sVal; rw [h]
theorem expr_ok (h : e σ S = .ok d fr) : sExpr e σ S = .nx σ S := by unfold sExpr sVal; rw [h]
theorem ret_is (h : e σ S = .ok d fr) : sRet e σ S = retD S d fr := by unfold sRet sVal; rw [h]
theorem ret_v (h : e σ S = .ok d fr) (hd : retD S d fr = .rt d fr := by rfl) : sRet e σ S = .rt d fr := (ret_is h).trans hd
theorem bin_to {q : Res} (ha : e1 σ S = .ok x fx) (hb : e2 σ S = .ok y fy) (h : op S x y = q) : cBin op e1 e2 σ S = q := (by unfold cBin; rw [ha, hb] : cBin op e1 e2 σ S = op S x y).trans h
theorem app_to {q : Res} (hx : e σ S = .ok x fx) (h : fn S [x] = q) : cApp fn (cCons e cNil) σ S = q := (by unfold cApp cCons cNil; rw [hx] : cApp fn (cCons e cNil) σ S = fn S [x]).trans h
theorem ret_loc (h : e σ S = .ok (.loc n) fr) (g : gets S n = some (.lst xs)) (p : pureL xs = true) : sRet e σ S = .rt (.lst xs) true := by
  rw [ret_is h]
  unfold retD
  simp only [g, p, if_true]
theorem run_rt (hl : ds.length = np) (h : f (startD n ds) [] = .rt d fr) : runF np n f ds = .ok d fr := by unfold runF; rw [if_pos hl, h]
theorem run_nx (hl : ds.length = np) (h : f (startD n ds) [] = .nx σ1 S1) : runF np n f ds = .ok .non false := by unfold runF; rw [if_pos hl, h]
theorem bin_ok (ha : e1 σ S = .ok x fx) (hb : e2 σ S = .ok y fy) : cBin op e1 e2 σ S = op S x y := by unfold cBin; rw [ha, hb]
theorem app1 (h : e σ S = .ok x fx) : cApp fn (cCons e cNil) σ S = fn S [x] := by unfold cApp cCons cNil; rw [h]
theorem app2 (h1 : e1 σ S = .ok x fx) (h2 : e2 σ S = .ok y fy) : cApp fn (cCons e1 (cCons e2 cNil)) σ S = fn S [x, y] := by unfold cApp cCons cNil; rw [h1]; dsimp only; rw [h2]
theorem app3 {e3 : CE} {z : D} {fz : Bool} (h1 : e1 σ S = .ok x fx) (h2 : e2 σ S = .ok y fy) (h3 : e3 σ S = .ok z fz) : cApp fn (cCons e1 (cCons e2 (cCons e3 cNil))) σ S = fn S [x, y, z] := by unfold cApp cCons cNil; rw [h1]; dsimp only; rw [h2]; dsimp only; rw [h3]
theorem call_p (hp : pureL ds = true) : callD m S ds = m ds := by unfold callD; rw [if_pos hp]
theorem mul_r {i j : Int} (h : small j = true) : bMul S (.int i) (.int j) = .ok (.int (i * j)) false := by
  show (if small i || small j || _ then _ else _) = _
  rw [h, Bool.or_true, Bool.true_or, if_pos rfl]
theorem mul_l {i j : Int} (h : small i = true) : bMul S (.int i) (.int j) = .ok (.int (i * j)) false := by
  show (if small i || small j || _ then _ else _) = _
  rw [h, Bool.true_or, Bool.true_or, if_pos rfl]
theorem small_of {i : Int} (h1 : -18446744073709551616 < i) (h2 : i < 18446744073709551616) : small i = true := decide_eq_true (by omega)
theorem mod_p {i j : Int} (h : 0 < j) : bMod S (.int i) (.int j) = .ok (.int (i % j)) false := by
  show (if 0 < j then _ else _) = _
  rw [if_pos h]
theorem div_p {i j : Int} (h : 0 < j) (h2 : j < 1073741824) : bFdiv S (.int i) (.int j) = .ok (.int (i / j)) false := by
  show (if (decide (0 < j) && decide (j < 1073741824)) = true then _ else _) = _
  rw [decide_eq_true h, decide_eq_true h2]
  rfl
theorem ixS {i : Int} {k : Nat} {ns : List Int} (h : ns[k]? = some i) : bIx S (.rol (its ns)) (.int k) = .ok (.int i) false := by
  show (match atD (its ns) k with | some d => Res.ok d false | none => Res.bad) = _
  rw [at_its h]
theorem ixT {i : Int} {k : Nat} {ns : List Int} (h : ns[k]? = some i) : bIx S (.tup (its ns)) (.int k) = .ok (.int i) false := by
  show (match atD (its ns) k with | some d => Res.ok d false | none => Res.bad) = _
  rw [at_its h]
theorem ixL {i : Int} {k : Nat} {ns : List Int} (h : ns[k]? = some i) : bIx S (.lst (its ns)) (.int k) = .ok (.int i) false := by
  show (match atD (its ns) k with | some d => Res.ok d false | none => Res.bad) = _
  rw [at_its h]
end
/-- a loop by an invariant, nothing breaks out of it -/
theorem for_inv {A : TgF} {body : SC} (I : Nat → Sl → List SO → Prop) : ∀ (ds : List D) (i : Nat) (σ : Sl) (S : List SO), I i σ S →
    (∀ j d σ S, ds[j]? = some d → I (i + j) σ S → ∃ σ1 σ2 S2, A d σ = some σ1 ∧ (body σ1 S = .nx σ2 S2 ∨ body σ1 S = .ct σ2 S2) ∧ I (i + j + 1) σ2 S2) → ∃ σ' S', forL A body ds σ S = .nx σ' S' ∧ I (i + ds.length) σ' S'
  | [], i, σ, S, h, _ => ⟨σ, S, rfl, h⟩
  | d :: ds, i, σ, S, h, w => by
    obtain ⟨σ1, σ2, S2, h1, h2, h3⟩ := w 0 d σ S rfl h
    obtain ⟨σ', S', h4, h5⟩ := for_inv I ds (i + 1) σ2 S2 h3 fun j d σ S hj hi => by
      have := w (j + 1) d σ S hj (by rw [← Nat.add_assoc, Nat.add_right_comm]; exact hi)
      rw [show i + (j + 1) + 1 = i + 1 + j + 1 by omega] at this
      exact this
    refine ⟨σ', S', ?_, by rw [List.length_cons, show i + (ds.length + 1) = i + 1 + ds.length by omega]; exact h5⟩
    unfold forL
    simp only [h1]
    rcases h2 with h2 | h2 <;> simp only [h2] <;> exact h4
/-- a comprehension, each turn told -/
theorem comp_is {A : TgF} {t f : CE} {σ : Sl} {S : List SO} (p : D → Bool) (g : D → D) : ∀ ds : List D, (∀ d ∈ ds, ∃ σ1 fr, A d σ = some σ1 ∧ t σ1 S = .ok (.bl (p d)) fr ∧ (p d = true → (g d).pure = true ∧ ∃ f2, f σ1 S = .ok (g d) f2)) → compL A t f σ S ds = some ((ds.filter p).map g)
  | [], _ => rfl
  | d :: ds, w => by
    obtain ⟨σ1, fr, h1, h2, h3⟩ := w d (List.mem_cons_self ..)
    have ih := comp_is p g ds fun d hd => w d (List.mem_cons_of_mem _ hd)
    unfold compL
    simp only [h1, h2]
    cases e : p d with
    | false =>
      simp only [e]
      rw [List.filter_cons_of_neg (by rw [e]; exact Bool.false_ne_true)]
      exact ih
    | true =>
      obtain ⟨h4, f2, h5⟩ := h3 e
      simp only [h5, h4, if_true, ih]
      rw [List.filter_cons_of_pos e]
      rfl
theorem range_get : ∀ (n : Nat) (lo : Int) (j : Nat), j < n → (rangeD lo n)[j]? = some (.int (lo + j))
  | 0, _, _, h => absurd h (Nat.not_lt_zero _)
  | n + 1, lo, 0, _ => by
    show some (D.int lo) = _
    rw [show lo + ((0 : Nat) : Int) = lo by omega]
  | n + 1, lo, j + 1, h => by
    show (rangeD (lo + 1) n)[j]? = _
    rw [range_get n (lo + 1) j (by omega)]
    congr 2
    omega
theorem rg1_n {S : List SO} {n : Int} (h0 : 0 ≤ n) (h : n ≤ 1000000) : rg1 S [.int n] = .st (rangeD 0 n.toNat) := by
  show (if (inRg n && decide (n.toNat ≤ lim)) = true then _ else _) = _
  have h1 : inRg n = true := by
    unfold inRg
    rw [decide_eq_true (by omega : n < 4611686018427387904), decide_eq_true (by omega : -4611686018427387904 ≤ n)]
    rfl
  rw [h1, decide_eq_true (show n.toNat ≤ lim by unfold lim; omega)]
  rfl
theorem for_st {it : CI} {A : TgF} {body : SC} {σ : Sl} {S : List SO} {ds : List D} (h : it σ S = .st ds) : sFor it A body σ S = forL A body ds σ S := by unfold sFor; rw [h]
theorem iapp1 {fn : List SO → List D → ResI} {e : CE} {σ : Sl} {S : List SO} {x : D} {fx : Bool} (h : e σ S = .ok x fx) : iApp fn (cCons e cNil) σ S = fn S [x] := by unfold iApp cCons cNil; rw [h]
end HC
namespace HC
section
variable {fo e : CE} {σ : Sl} {S : List SO} {d : D} {fr fx : Bool} {n : Nat} {xs : List D}
theorem append_ok (ho : fo σ S = .ok (.loc n) fr) (he : e σ S = .ok d fx) (hg : gets S n = some (.lst xs)) (hl : xs.length < lim) : sMethE mAppend fo (cCons e cNil) σ S = .nx σ (S.set n (.lst (xs ++ [d]))) := by
  unfold sMethE sMeth sVal locL sArgs kMeth mAppend cCons cNil putL
  simp only [ho, hg, he, hl, if_true]
theorem call_d {m : FnS} {f : CA} {ds : List D} {q : Res} (hf : f σ S = .ok ds) (hp : pureL ds = true) (h : m ds = q) : cApp (callD m) f σ S = q := by
  unfold cApp
  simp only [hf]
  rw [call_p hp, h]
theorem call_k {m : FnS} {f : CA} {ds : List D} {q : Res} {ix : List Nat} (hf : f σ S = .ok ds) (hl : ds.length = n) (hp : pureL (pick .non ix ds) = true) (h : m (pick .non ix ds) = q) : cApp (callKw ix n m) f σ S = q := by
  unfold cApp callKw
  simp only [hf, hl, if_true]
  rw [call_p hp, h]
theorem tup_of {f : CA} {ds : List D} (hf : f σ S = .ok ds) (hp : pureL ds = true) (hl : ds.length ≤ lim) : cApp fTup f σ S = .ok (.tup ds) false := by
  unfold cApp fTup
  simp only [hf, hp, Bool.true_and, decide_eq_true hl, if_true]
theorem tuple_l {f : CA} {xs : List D} (hf : f σ S = .ok [.lst xs]) (hp : pureL xs = true) : cApp fTuple f σ S = .ok (.tup xs) false := by
  unfold cApp fTuple
  simp only [hf, rdOf, lstOf, hp, if_true]
theorem comp_st {it : CI} {A : TgF} {ws : List Nat} {t f : CE} {ds r : List D} (hi : it σ S = .st ds) (h : compL A t f (wipeD σ ws) S ds = some r) : cComp it A ws t f σ S = .ok (.lst r) true := by
  unfold cComp kComp
  simp only [hi, h]
theorem cons1 (he : e σ S = .ok d fx) : cCons e cNil σ S = .ok [d] := by unfold cCons cNil; simp only [he]
theorem cons_ok {fr : CA} {ds : List D} (he : e σ S = .ok d fx) (hr : fr σ S = .ok ds) : cCons e fr σ S = .ok (d :: ds) := by unfold cCons; simp only [he, hr]
end
theorem its_snoc (ds : List Int) (d : Int) : its ds ++ [.int d] = its (ds ++ [d]) := by
  show _ = (ds ++ [d]).map D.int
  rw [List.map_append]
  rfl
theorem rev_mem {k : Bool} {x : Int} {ns : List Int} (h : x ∈ sortI k ns) : x ∈ ns := by
  cases k with
  | false => exact (sortU_perm ns).mem_iff.mp h
  | true => exact (sortU_perm ns).mem_iff.mp (List.mem_reverse.mp h)
theorem sortI_len (k : Bool) (ns : List Int) : (sortI k ns).length = ns.length := by
  cases k with
  | false => exact (sortU_perm ns).length_eq
  | true =>
    show (sortU ns).reverse.length = _
    rw [List.length_reverse]
    exact (sortU_perm ns).length_eq
theorem sort_down (ns : List Int) : (sortI true ns).Pairwise (· ≥ ·) := by
  show (sortU ns).reverse.Pairwise (· ≥ ·)
  rw [List.pairwise_reverse]
  exact sortU_ord ns
theorem filter_its (p : Int → Bool) (q : D → Bool) (h : ∀ i, q (.int i) = p i) : ∀ ns : List Int, (its ns).filter q = its (ns.filter p)
  | [] => rfl
  | n :: ns => by
    show (D.int n :: its ns).filter q = _
    cases e : p n with
    | true => rw [List.filter_cons_of_pos (by rw [h, e]), filter_its p q h ns, List.filter_cons_of_pos e]; rfl
    | false => rw [List.filter_cons_of_neg (by rw [h, e]; exact Bool.false_ne_true), filter_its p q h ns, List.filter_cons_of_neg (by rw [e]; exact Bool.false_ne_true)]
def intD : D → Int
  | .int i => i
  | _ => 0
end HC
namespace HC
theorem iapp_to {fn : List SO → List D → ResI} {e : CE} {σ : Sl} {S : List SO} {x : D} {fx : Bool} {r : ResI} (h : e σ S = .ok x fx) (h2 : fn S [x] = r) : iApp fn (cCons e cNil) σ S = r := (iapp1 h).trans h2
theorem ival_l {e : CE} {σ : Sl} {S : List SO} {xs : List D} {fx : Bool} (h : e σ S = .ok (.lst xs) fx) : iVal e σ S = .st xs := by unfold iVal; rw [h]
theorem ival_t {e : CE} {σ : Sl} {S : List SO} {xs : List D} {fx : Bool} (h : e σ S = .ok (.tup xs) fx) : iVal e σ S = .st xs := by unfold iVal; rw [h]
theorem ival_d {e : CE} {σ : Sl} {S : List SO} {n : Nat} {xs : List D} {fx : Bool} (h : e σ S = .ok (.loc n) fx) (hg : gets S n = some (.lst xs)) : iVal e σ S = .dy fun S => lstOf S (.loc n) := by
  unfold iVal
  rw [h]
  simp only [lstOf, hg]
end HC
namespace HC
theorem cut_h (xs : List D) (k : Nat) : cutD xs none (some (k : Int)) = xs.take k := by
  show (xs.drop 0).take ((if k ≤ xs.length then k else xs.length) - 0) = _
  rw [List.drop_zero, Nat.sub_zero]
  split
  · rfl
  · rw [List.take_of_length_le (Nat.le_refl _), List.take_of_length_le (by omega)]
theorem cut_l (xs : List D) (k : Nat) : cutD xs (some (k : Int)) none = xs.drop k := by
  show (xs.drop (if k ≤ xs.length then k else xs.length)).take (xs.length - (if k ≤ xs.length then k else xs.length)) = _
  split
  · rw [List.take_of_length_le (by rw [List.length_drop]; exact Nat.le_refl _)]
  · rw [List.drop_of_length_le (Nat.le_refl _), List.drop_of_length_le (by omega), List.take_nil]
theorem cut_lh (xs : List D) (a b : Nat) : cutD xs (some (a : Int)) (some (b : Int)) = (xs.drop a).take (b - a) := by
  show (xs.drop (if a ≤ xs.length then a else xs.length)).take ((if b ≤ xs.length then b else xs.length) - (if a ≤ xs.length then a else xs.length)) = _
  by_cases h : a ≤ xs.length
  · rw [if_pos h]
    split
    · rfl
    · rw [List.take_of_length_le (by rw [List.length_drop]; omega), List.take_of_length_le (by rw [List.length_drop]; omega)]
  · rw [if_neg h, List.drop_of_length_le (Nat.le_refl _), List.drop_of_length_le (by omega), List.take_nil, List.take_nil]
section
variable {f l h : CE} {σ : Sl} {S : List SO} {xs : List D} {fx fl fh : Bool} {a b n : Nat}
theorem cutH_t (hf : f σ S = .ok (.tup xs) fx) (hh : h σ S = .ok (.int b) fh) : cCutH f h σ S = .ok (.tup (xs.take b)) false := by
  unfold cCutH cTwo kInt
  simp only [hf, hh]
  show Res.ok (.tup (cutD xs none (some (b : Int)))) false = _
  rw [cut_h]
theorem cutL_t (hf : f σ S = .ok (.tup xs) fx) (hl : l σ S = .ok (.int a) fl) : cCutL f l σ S = .ok (.tup (xs.drop a)) false := by
  unfold cCutL cTwo kInt
  simp only [hf, hl]
  show Res.ok (.tup (cutD xs (some (a : Int)) none)) false = _
  rw [cut_l]
theorem cutLH_t (hf : f σ S = .ok (.tup xs) fx) (hl : l σ S = .ok (.int a) fl) (hh : h σ S = .ok (.int b) fh) : cCutLH f l h σ S = .ok (.tup ((xs.drop a).take (b - a))) false := by
  unfold cCutLH cTwo kInt
  simp only [hf, hl, hh]
  show Res.ok (.tup (cutD xs (some (a : Int)) (some (b : Int)))) false = _
  rw [cut_lh]
theorem cutL_d (hf : f σ S = .ok (.loc n) fx) (hg : gets S n = some (.lst xs)) (hp : pureL xs = true) (hl : l σ S = .ok (.int a) fl) : cCutL f l σ S = .ok (.lst (xs.drop a)) true := by
  unfold cCutL cTwo kInt
  simp only [hf, hl]
  show (match (match gets S n with | some (.lst xs) => some xs | _ => none) with | some xs => if pureL xs = true then Res.ok (.lst (cutD xs (some (a : Int)) none)) true else Res.bad | none => Res.bad) = _
  simp only [hg, hp, if_true]
  rw [cut_l]
theorem comp_dy {it : CI} {A : TgF} {ws : List Nat} {t f : CE} {i : List SO → Option (List D)} {ds r : List D} (hi : it σ S = .dy i) (hd : i S = some ds) (h : compL A t f (wipeD σ ws) S ds = some r) : cComp it A ws t f σ S = .ok (.lst r) true := by
  unfold cComp kComp
  simp only [hi, hd, h]
theorem sub_ok {fe fo fi : CE} {y : D} {k : Nat} (he : fe σ S = .ok y fx) (ho : fo σ S = .ok (.loc n) fl) (hi : fi σ S = .ok (.int k) fh) (hg : gets S n = some (.lst xs)) (hk : k < xs.length) : sSub fe fo fi σ S = .nx σ (S.set n (.lst (xs.set k y))) := by
  unfold sSub sTwo sVal kSub locL putL
  simp only [he, ho, hi, hg]
  show (match (if k < xs.length then some (xs.set k y) else none) with | some ys => RS.nx σ (S.set n (.lst ys)) | none => RS.bad) = _
  rw [if_pos hk]
theorem len_t (hf : f σ S = .ok (.tup xs) fx) : cApp fLen (cCons f cNil) σ S = .ok (.int xs.length) false := app_to hf rfl
theorem len_d (hf : f σ S = .ok (.loc n) fx) (hg : gets S n = some (.lst xs)) : cApp fLen (cCons f cNil) σ S = .ok (.int xs.length) false := app_to hf (by
  unfold fLen seqOf rdOf lstOf
  simp only [hg])
end
theorem take_its (ns : List Int) (k : Nat) : (its ns).take k = its (ns.take k) := (List.map_take ..).symm
theorem drop_its (ns : List Int) (k : Nat) : (its ns).drop k = its (ns.drop k) := (List.map_drop ..).symm
theorem sum_t {S : List SO} (ns : List Int) : fSum S [.tup (its ns)] = .ok (.int (sumI ns)) false := by
  show (match intsOf (its ns) with | some ns => Res.ok (.int (sumI ns)) false | none => Res.bad) = _
  rw [ints_its]
theorem sum_l {S : List SO} (ns : List Int) : fSum S [.lst (its ns)] = .ok (.int (sumI ns)) false := by
  show (match intsOf (its ns) with | some ns => Res.ok (.int (sumI ns)) false | none => Res.bad) = _
  rw [ints_its]
end HC

set_option maxRecDepth 100000
namespace HC
open PySem

/-! ## what repr shows is short enough -/
def Itm (d : D) (dp w : Nat) : Prop := ∃ x, pyD true d = some x ∧ x.showable = true ∧ x.depth ≤ dp ∧ x.leavesShort 700 = true ∧ x.weight ≤ w
def Itms (ds : List D) (dp w : Nat) : Prop := ∃ xs, pyDs true ds = some xs ∧ PyData.showableAll xs = true ∧ PyData.depthAll xs ≤ dp ∧ PyData.leavesShortAll 700 xs = true ∧ PyData.weightAll xs ≤ w
theorem itm_non {dp w : Nat} : Itm .non dp w := ⟨_, rfl, by simp [PyData.showable], by simp [PyData.depth], by simp [PyData.leavesShort], by simp [PyData.weight]⟩
theorem itm_bl {b : Bool} {dp w : Nat} : Itm (.bl b) dp w := ⟨_, rfl, by simp [PyData.showable], by simp [PyData.depth], by simp [PyData.leavesShort], by simp [PyData.weight]⟩
theorem itm_int {i : Int} {dp : Nat} (h : i.natAbs.log2 < 600) : Itm (.int i) dp 601 := by
  refine ⟨_, rfl, ?_, ?_, ?_, ?_⟩
  · simp only [PyData.showable, decide_eq_true_eq]
    omega
  · simp [PyData.depth]
  · simp only [PyData.leavesShort, decide_eq_true_eq]
    have h1 := int_text_length_le (a := i) (k := 600) (by decide) h
    have e : (PyData.shown (.int i)).length = (toString i).length := by
      simp only [PyData.shown]
      exact ofString_length _
    omega
  · simp only [PyData.weight]
    split <;> omega
theorem itm_str {x : Str} {dp w : Nat} (h : (x.cps.toList.all fun c => decide (c < 16 ^ 8)) = true) (hw : x.cps.size ≤ w) : Itm (.str x) dp w :=
  ⟨_, rfl, by simp [PyData.showable], by simp [PyData.depth], by simpa only [PyData.leavesShort] using h, by simpa only [PyData.weight] using hw⟩
theorem itms_nil {dp : Nat} : Itms [] dp 0 := ⟨[], rfl, by simp [PyData.showableAll], by simp [PyData.depthAll], by simp [PyData.leavesShortAll], by simp [PyData.weightAll]⟩
theorem itms_cons {d : D} {ds : List D} {dp w w2 : Nat} (h : Itm d dp w) (r : Itms ds dp w2) : Itms (d :: ds) dp (w + 1 + w2) := by
  obtain ⟨x, a1, a2, a3, a4, a5⟩ := h
  obtain ⟨xs, b1, b2, b3, b4, b5⟩ := r
  refine ⟨x :: xs, by unfold pyDs; simp only [a1, b1], ?_, ?_, ?_, ?_⟩
  · simp only [PyData.showableAll, a2, b2]; rfl
  · simp only [PyData.depthAll]; omega
  · simp only [PyData.leavesShortAll, a4, b4]; rfl
  · simp only [PyData.weightAll]; omega
theorem itms_of {dp w : Nat} : ∀ {ds : List D}, (∀ d ∈ ds, Itm d dp w) → Itms ds dp (ds.length * (w + 1))
  | [], _ => by simpa using itms_nil
  | d :: ds, h => by
    have := itms_cons (h d (List.mem_cons_self ..)) (itms_of fun e he => h e (List.mem_cons_of_mem _ he))
    rw [List.length_cons, Nat.add_mul, Nat.one_mul, Nat.add_comm]
    exact this
theorem Itm.le {d : D} {dp w dp2 w2 : Nat} (h : Itm d dp w) (h1 : dp ≤ dp2) (h2 : w ≤ w2) : Itm d dp2 w2 := by
  obtain ⟨x, a1, a2, a3, a4, a5⟩ := h
  exact ⟨x, a1, a2, by omega, a4, by omega⟩
theorem itm_tup {ds : List D} {dp w : Nat} (h : Itms ds dp w) : Itm (.tup ds) (dp + 1) w := by
  obtain ⟨xs, b1, b2, b3, b4, b5⟩ := h
  refine ⟨.tuple xs, by unfold pyD; simp only [b1], ?_, ?_, ?_, ?_⟩
  · simpa only [PyData.showable] using b2
  · simp only [PyData.depth]; omega
  · simpa only [PyData.leavesShort] using b4
  · simpa only [PyData.weight] using b5
theorem itm_lst {ds : List D} {dp w : Nat} (h : Itms ds dp w) : Itm (.lst ds) (dp + 1) w := by
  obtain ⟨xs, b1, b2, b3, b4, b5⟩ := h
  refine ⟨.list xs, by unfold pyD; simp only [b1, if_true], ?_, ?_, ?_, ?_⟩
  · simpa only [PyData.showable] using b2
  · simp only [PyData.depth]; omega
  · simpa only [PyData.leavesShort] using b4
  · simpa only [PyData.weight] using b5
theorem shw_of {x : PyData} (a2 : x.showable = true) (a3 : x.depth ≤ 60) (a4 : x.leavesShort 700 = true) (a5 : x.weight ≤ 20000) : shw x = .ok (.str x.shown) false := by
  have h1 := PyData.shown_le 700 (by decide) x a4
  unfold shw
  rw [a2, decide_eq_true a3, decide_eq_true (show x.shown.length ≤ lim by
    have : (700 + 2) * x.weight ≤ 702 * 20000 := Nat.mul_le_mul (by decide) a5
    unfold lim
    omega)]
  rfl
theorem rep_of {d : D} (h : Itm d 60 20000) : ∃ s, ∀ S, fRepr S [d] = .ok (.str s) false := by
  obtain ⟨x, a1, a2, a3, a4, a5⟩ := h
  refine ⟨x.shown, fun S => ?_⟩
  have hp : lends S [d] = true := by cases d <;> first | rfl | exact nomatch a1
  have hl : look S d = d := by cases d <;> first | rfl | exact nomatch a1
  show (if lends S [d] = true then (match pyD true (look S d) with | some x => shw x | none => _) else _) = _
  rw [hp, if_pos rfl, hl, a1]
  exact shw_of a2 a3 a4 a5
theorem rep_dct {ks ds : List D} {x : PyData} (h : pyD false (.dct ks ds) = some x) (a2 : x.showable = true) (a3 : x.depth ≤ 60) (a4 : x.leavesShort 700 = true) (a5 : x.weight ≤ 20000) : ∃ s, ∀ S, fRepr S [.dct ks ds] = .ok (.str s) false := by
  refine ⟨x.shown, fun S => ?_⟩
  show (match pyD true (.dct ks ds) with | some x => shw x | none => match pyD false (.dct ks ds) with | some x => shw x | none => Res.bad) = _
  rw [show pyD true (.dct ks ds) = none from rfl, h]
  exact shw_of a2 a3 a4 a5
end HC

set_option maxRecDepth 100000
namespace HC

/-! ## to run a def by simp -/
def rB (r : Res) (k : D → Res) : Res := match r with
  | .ok d _ => k d
  | .ex c as => .ex c as
  | .bad => .bad
def aB (r : Res) (k : D → ResL) : ResL := match r with
  | .ok d _ => k d
  | .ex c as => .ex c as
  | .bad => .bad
def lB (r : ResL) (k : List D → Res) : Res := match r with
  | .ok d => k d
  | .ex c as => .ex c as
  | .bad => .bad
def llB (r : ResL) (k : List D → ResL) : ResL := match r with
  | .ok d => k d
  | .ex c as => .ex c as
  | .bad => .bad
def liB (r : ResL) (k : List D → ResI) : ResI := match r with
  | .ok d => k d
  | .ex c as => .ex c as
  | .bad => .bad
def lsB (r : ResL) (σ : Sl) (S : List SO) (k : List D → RS) : RS := match r with
  | .ok d => k d
  | .ex c as => .ex c as σ S
  | .bad => .bad
def vB (r : Res) (σ : Sl) (S : List SO) (k : D → Bool → RS) : RS := match r with
  | .ok d fr => k d fr
  | .ex c as => .ex c as σ S
  | .bad => .bad
def sB (r : RS) (k : SC) : RS := match r with
  | .nx σ S => k σ S
  | x => x
def tB (r : Res) (k : Bool → Res) : Res := match r with
  | .ok (.bl b) _ => k b
  | .ok _ _ => .bad
  | .ex c as => .ex c as
  | .bad => .bad
def iS (r : Res) (σ : Sl) (S : List SO) (k : Bool → RS) : RS := match r with
  | .ok (.bl b) _ => k b
  | .ok _ _ => .bad
  | .ex c as => .ex c as σ S
  | .bad => .bad
def fB (r : ResI) (A : TgF) (body : SC) (σ : Sl) (S : List SO) : RS := match r with
  | .st ds => forL A body ds σ S
  | .dy it => forD A body it fuel 0 σ S
  | .ex c as => .ex c as σ S
  | .bad => .bad
def oS (r : RS) (k : SC) : RS := match r with
  | .nx σ S => k σ S
  | .ct σ S => k σ S
  | .bk σ S => .nx σ S
  | r => r
def gB (r : Option Sl) (k : Sl → RS) : RS := match r with
  | some σ => k σ
  | none => .bad
def fin (r : RS) : Res := match r with
  | .rt d fr => .ok d fr
  | .nx _ _ => .ok .non false
  | .ex c as _ _ => if pureL as then .ex c as else .bad
  | _ => .bad
def vO (o : Option (Option D)) : Res := match o with
  | some (some d) => .ok d false
  | _ => .bad
def newK (i : Nat) (σ : Sl) (S : List SO) (d : D) (fr : Bool) : RS := match fr with
  | true => match d with
    | .lst xs => .nx (setD σ i (.loc S.length)) (S ++ [.lst xs])
    | .dct ks ws => .nx (setD σ i (.loc S.length)) (S ++ [.dct ks ws])
    | _ => .bad
  | false => .bad
def trO (o : Option Bool) (k : Bool → Res) : Res := match o with
  | some b => k b
  | none => .bad
def oD (o : Option D) : Res := match o with
  | some d => .ok d false
  | none => .bad
def oL (o : Option (List D)) (k : List D → Res) : Res := match o with
  | some d => k d
  | none => .bad
section
variable {d : D} {f : Bool} {k : D → Res} {kb : Bool → Res} {c : Nat} {as : List D} {ka : D → ResL} {kl : List D → Res} {kll : List D → ResL} {ki : List D → ResI} {ks : List D → RS} {kv : D → Bool → RS} {ds : List D} {σ σ1 : Sl} {S S1 : List SO} {r s : SC} {kg : Sl → RS}
  {ki2 : Bool → RS} {b : Bool} {A : TgF} {it : List SO → Option (List D)}
@[simp] theorem rB_ok : rB (.ok d f) k = k d := id rfl
@[simp] theorem rB_ex : rB (.ex c as) k = .ex c as := id rfl
@[simp] theorem rB_bad : rB .bad k = .bad := id rfl
@[simp] theorem aB_ok : aB (.ok d f) ka = ka d := id rfl
@[simp] theorem aB_ex : aB (.ex c as) ka = .ex c as := id rfl
@[simp] theorem aB_bad : aB .bad ka = .bad := id rfl
@[simp] theorem lB_ok : lB (.ok ds) kl = kl ds := id rfl
@[simp] theorem lB_ex : lB (.ex c as) kl = .ex c as := id rfl
@[simp] theorem lB_bad : lB .bad kl = .bad := id rfl
@[simp] theorem llB_ok : llB (.ok ds) kll = kll ds := id rfl
@[simp] theorem llB_ex : llB (.ex c as) kll = .ex c as := id rfl
@[simp] theorem llB_bad : llB .bad kll = .bad := id rfl
@[simp] theorem liB_ok : liB (.ok ds) ki = ki ds := id rfl
@[simp] theorem liB_ex : liB (.ex c as) ki = .ex c as := id rfl
@[simp] theorem liB_bad : liB .bad ki = .bad := id rfl
@[simp] theorem lsB_ok : lsB (.ok ds) σ S ks = ks ds := id rfl
@[simp] theorem lsB_ex : lsB (.ex c as) σ S ks = .ex c as σ S := id rfl
@[simp] theorem lsB_bad : lsB .bad σ S ks = .bad := id rfl
@[simp] theorem vB_ok : vB (.ok d f) σ S kv = kv d f := id rfl
@[simp] theorem vB_ex : vB (.ex c as) σ S kv = .ex c as σ S := id rfl
@[simp] theorem vB_bad : vB .bad σ S kv = .bad := id rfl
@[simp] theorem sB_nx : sB (.nx σ S) r = r σ S := id rfl
@[simp] theorem sB_rt : sB (.rt d f) r = .rt d f := id rfl
@[simp] theorem sB_bk : sB (.bk σ S) r = .bk σ S := id rfl
@[simp] theorem sB_ct : sB (.ct σ S) r = .ct σ S := id rfl
@[simp] theorem sB_ex : sB (.ex c as σ S) r = .ex c as σ S := id rfl
@[simp] theorem sB_bad : sB .bad r = .bad := id rfl
@[simp] theorem tB_ok : tB (.ok (.bl b) f) kb = kb b := id rfl
@[simp] theorem tB_ex : tB (.ex c as) kb = .ex c as := id rfl
@[simp] theorem tB_bad : tB .bad kb = .bad := id rfl
@[simp] theorem iS_ok : iS (.ok (.bl b) f) σ S ki2 = ki2 b := id rfl
@[simp] theorem iS_ex : iS (.ex c as) σ S ki2 = .ex c as σ S := id rfl
@[simp] theorem iS_bad : iS .bad σ S ki2 = .bad := id rfl
@[simp] theorem fB_st : fB (.st ds) A r σ S = forL A r ds σ S := id rfl
@[simp] theorem fB_dy : fB (.dy it) A r σ S = forD A r it fuel 0 σ S := id rfl
@[simp] theorem fB_ex : fB (.ex c as) A r σ S = .ex c as σ S := id rfl
@[simp] theorem fB_bad : fB .bad A r σ S = .bad := id rfl
@[simp] theorem oS_nx : oS (.nx σ S) r = r σ S := id rfl
@[simp] theorem oS_ct : oS (.ct σ S) r = r σ S := id rfl
@[simp] theorem oS_bk : oS (.bk σ S) r = .nx σ S := id rfl
@[simp] theorem oS_rt : oS (.rt d f) r = .rt d f := id rfl
@[simp] theorem oS_ex : oS (.ex c as σ S) r = .ex c as σ S := id rfl
@[simp] theorem oS_bad : oS .bad r = .bad := id rfl
@[simp] theorem gB_s : gB (some σ) kg = kg σ := id rfl
@[simp] theorem gB_n : gB none kg = .bad := id rfl
@[simp] theorem fin_rt : fin (.rt d f) = .ok d f := id rfl
@[simp] theorem fin_nx : fin (.nx σ S) = .ok .non false := id rfl
@[simp] theorem fin_ex : fin (.ex c as σ S) = if pureL as then .ex c as else .bad := id rfl
@[simp] theorem fin_bad : fin .bad = .bad := id rfl
@[simp] theorem vO_s : vO (some (some d)) = .ok d false := id rfl
@[simp] theorem trO_s : trO (some b) kb = kb b := id rfl
@[simp] theorem oD_s : oD (some d) = .ok d false := id rfl
@[simp] theorem oL_s : oL (some ds) kl = kl ds := id rfl
@[simp] theorem newK_l : newK c σ S (.lst ds) true = .nx (setD σ c (.loc S.length)) (S ++ [.lst ds]) := id rfl
@[simp] theorem newK_d : newK c σ S (.dct as ds) true = .nx (setD σ c (.loc S.length)) (S ++ [.dct as ds]) := id rfl
variable {p : Prop} [Decidable p] {x y : Res} {xl yl : ResL} {xs ys : RS} {xi yi : ResI}
@[simp] theorem rB_if : rB (if p then x else y) k = if p then rB x k else rB y k := apply_ite (rB · k) ..
@[simp] theorem aB_if : aB (if p then x else y) ka = if p then aB x ka else aB y ka := apply_ite (aB · ka) ..
@[simp] theorem lB_if : lB (if p then xl else yl) kl = if p then lB xl kl else lB yl kl := apply_ite (lB · kl) ..
@[simp] theorem llB_if : llB (if p then xl else yl) kll = if p then llB xl kll else llB yl kll := apply_ite (llB · kll) ..
@[simp] theorem liB_if : liB (if p then xl else yl) ki = if p then liB xl ki else liB yl ki := apply_ite (liB · ki) ..
@[simp] theorem lsB_if : lsB (if p then xl else yl) σ S ks = if p then lsB xl σ S ks else lsB yl σ S ks := apply_ite (lsB · σ S ks) ..
@[simp] theorem vB_if : vB (if p then x else y) σ S kv = if p then vB x σ S kv else vB y σ S kv := apply_ite (vB · σ S kv) ..
@[simp] theorem sB_if : sB (if p then xs else ys) r = if p then sB xs r else sB ys r := apply_ite (sB · r) ..
@[simp] theorem oS_if : oS (if p then xs else ys) r = if p then oS xs r else oS ys r := apply_ite (oS · r) ..
@[simp] theorem tB_if : tB (if p then x else y) kb = if p then tB x kb else tB y kb := apply_ite (tB · kb) ..
@[simp] theorem iS_if : iS (if p then x else y) σ S ki2 = if p then iS x σ S ki2 else iS y σ S ki2 := apply_ite (iS · σ S ki2) ..
@[simp] theorem fin_if : fin (if p then xs else ys) = if p then fin xs else fin ys := apply_ite fin ..
end

section
variable {f r a b : SC} {e e1 e2 e3 t : CE} {σ : Sl} {S : List SO} {i n np : Nat} {d x y : D} {fr : Bool} {ca : CA} {ds xs : List D} {op : List SO → D → D → Res} {fn : List SO → List D → Res} {fi : List SO → List D → ResI} {m : FnS} {ci : CI} {A : TgF} {As : TgsF} {lm : LM} {ix ws : List Nat} {o : SO}
@[simp] theorem gets_z {α : Type} {q : α} {l : List α} : gets (q :: l) 0 = some q := id rfl
@[simp] theorem gets_s {α : Type} {q : α} {l : List α} : gets (q :: l) (n + 1) = gets l n := id rfl
@[simp] theorem gets_n {α : Type} : gets ([] : List α) n = none := id rfl
@[simp] theorem cVar_e : cVar i σ S = vO (gets σ i) := id rfl
@[simp] theorem cD_e : cD d σ S = .ok d false := id rfl
@[simp] theorem cTrue_e : cTrue σ S = .ok (.bl true) false := id rfl
@[simp] theorem cBin_e : cBin op e1 e2 σ S = rB (e1 σ S) fun x => rB (e2 σ S) fun y => op S x y := by unfold cBin; cases e1 σ S <;> first | rfl | (dsimp only [rB]; cases e2 σ S <;> rfl)
@[simp] theorem cTru_e : cTru e σ S = rB (e σ S) fun d => trO (truth S d) fun b => .ok (.bl b) false := by unfold cTru; cases e σ S <;> first | rfl | (dsimp only [rB]; cases truth S _ <;> rfl)
@[simp] theorem cNot_e : cNot e σ S = rB (e σ S) fun d => trO (truth S d) fun b => .ok (.bl (!b)) false := by unfold cNot; cases e σ S <;> first | rfl | (dsimp only [rB]; cases truth S _ <;> rfl)
@[simp] theorem cAnd_e : cAnd e1 e2 σ S = rB (e1 σ S) fun d => trO (truth S d) fun b => if b = true then e2 σ S else .ok d false := by
  unfold cAnd; cases e1 σ S <;> first | rfl | (dsimp only [rB]; cases truth S _ with | none => rfl | some b => cases b <;> rfl)
@[simp] theorem cOr_e : cOr e1 e2 σ S = rB (e1 σ S) fun d => trO (truth S d) fun b => if b = true then .ok d false else e2 σ S := by
  unfold cOr; cases e1 σ S <;> first | rfl | (dsimp only [rB]; cases truth S _ with | none => rfl | some b => cases b <;> rfl)
theorem two_e {kt kf : Res} (r : Res) : (match r with | .ok (.bl true) _ => kt | .ok (.bl false) _ => kf | .ok _ _ => .bad | .ex c as => .ex c as | .bad => .bad) = tB r fun b => if b = true then kt else kf := by
  cases r with
  | ok d f => cases d with
    | bl b => cases b <;> rfl
    | _ => rfl
  | _ => rfl
@[simp] theorem cIf_e : cIf t e1 e2 σ S = tB (t σ S) fun b => if b = true then e1 σ S else e2 σ S := two_e _
@[simp] theorem cAndB_e : cAndB e1 e2 σ S = tB (e1 σ S) fun b => if b = true then e2 σ S else .ok (.bl false) false := two_e _
@[simp] theorem cOrB_e : cOrB e1 e2 σ S = tB (e1 σ S) fun b => if b = true then .ok (.bl true) false else e2 σ S := two_e _
@[simp] theorem cNotB_e : cNotB e σ S = tB (e σ S) fun b => .ok (.bl (!b)) false := by
  unfold cNotB; cases e σ S with
  | ok d f => cases d <;> rfl
  | _ => rfl
@[simp] theorem cNeg_i {j : Int} (h : e σ S = .ok (.int j) fr) : cNeg e σ S = .ok (.int (-j)) false := by unfold cNeg; rw [h]
@[simp] theorem cNil_e : cNil σ S = .ok [] := id rfl
@[simp] theorem cCons_e : cCons e ca σ S = aB (e σ S) fun d => llB (ca σ S) fun ds => .ok (d :: ds) := by unfold cCons; cases e σ S <;> first | rfl | (dsimp only [aB]; cases ca σ S <;> rfl)
@[simp] theorem cApp_e : cApp fn ca σ S = lB (ca σ S) (fn S) := by unfold cApp; cases ca σ S <;> rfl
@[simp] theorem iApp_e : iApp fi ca σ S = liB (ca σ S) (fi S) := by unfold iApp; cases ca σ S <;> rfl
@[simp] theorem sSkip_e : sSkip σ S = .nx σ S := id rfl
@[simp] theorem sBreak_e : sBreak σ S = .bk σ S := id rfl
@[simp] theorem sCont_e : sCont σ S = .ct σ S := id rfl
@[simp] theorem sRetN_e : sRetN σ S = .rt .non false := id rfl
@[simp] theorem sSeq_e : sSeq f r σ S = sB (f σ S) r := by unfold sSeq; cases f σ S <;> rfl
@[simp] theorem sAsg_e : sAsg i e σ S = vB (e σ S) σ S fun d _ => .nx (setD σ i d) S := by unfold sAsg sVal; cases e σ S <;> rfl
@[simp] theorem sNew_e : sNew i e σ S = vB (e σ S) σ S (newK i σ S) := by unfold sNew sVal; cases e σ S <;> rfl
@[simp] theorem sExpr_e : sExpr e σ S = vB (e σ S) σ S fun _ _ => .nx σ S := by unfold sExpr sVal; cases e σ S <;> rfl
@[simp] theorem sRet_e : sRet e σ S = vB (e σ S) σ S (retD S) := by unfold sRet sVal; cases e σ S <;> rfl
@[simp] theorem sIf_e : sIf t a b σ S = iS (t σ S) σ S fun c => if c = true then a σ S else b σ S := by
  unfold sIf; cases t σ S with
  | ok d f => cases d with
    | bl c => cases c <;> rfl
    | _ => rfl
  | _ => rfl
@[simp] theorem sAsgT_e : sAsgT A e σ S = vB (e σ S) σ S fun d _ => gB (A d σ) fun σ1 => .nx σ1 S := by unfold sAsgT sVal; cases e σ S <;> first | rfl | (dsimp only [vB]; cases A _ σ <;> rfl)
@[simp] theorem sFor_e : sFor ci A f σ S = fB (ci σ S) A f σ S := by unfold sFor; cases ci σ S <;> rfl
@[simp] theorem sWhile_e : sWhile t f σ S = whileF t f fuel σ S := id rfl
theorem whileF_s {k : Nat} : whileF t f (k + 1) σ S = iS (t σ S) σ S fun c => if c = true then oS (f σ S) (whileF t f k) else .nx σ S := by
  conv => lhs; unfold whileF
  cases t σ S with
  | ok d fr => cases d with
    | bl c => cases c with
      | true => show _ = oS (f σ S) _; dsimp only; cases f σ S <;> rfl
      | false => rfl
    | _ => rfl
  | _ => rfl
@[simp] theorem forL_n : forL A f [] σ S = .nx σ S := id rfl
@[simp] theorem forL_c : forL A f (d :: ds) σ S = gB (A d σ) fun σ1 => oS (f σ1 S) (forL A f ds) := by
  conv => lhs; unfold forL
  cases A d σ with
  | none => rfl
  | some σ1 => show _ = oS (f σ1 S) _; dsimp only; cases f σ1 S <;> rfl
@[simp] theorem setD_e : setD σ i d = σ.set i (some d) := id rfl
@[simp] theorem tgName_e : tgName i d σ = some (σ.set i (some d)) := id rfl
@[simp] theorem tgTup_e : tgTup n As (.tup ds) σ = if ds.length = n then As ds σ else none := id rfl
def tB2 (o : Option Sl) (k : Sl → Option Sl) : Option Sl := match o with
  | some σ => k σ
  | none => none
@[simp] theorem tB2_s {k : Sl → Option Sl} : tB2 (some σ) k = k σ := id rfl
@[simp] theorem tgCons_e : tgCons A As (d :: ds) σ = tB2 (A d σ) (As ds) := id rfl
@[simp] theorem tgNil_e : tgNil [] σ = some σ := id rfl
@[simp] theorem runF_e : runF np n f ds = if ds.length = np then fin (f (startD n ds) []) else .bad := by unfold runF fin; rfl
@[simp] theorem startD_e : startD n ds = ds.map some ++ List.replicate (n - ds.length) none := id rfl
@[simp] theorem callD_e (h : pureL ds = true) : callD m S ds = m ds := call_p h
@[simp] theorem callKw_e (h : ds.length = n) : callKw ix n m S ds = callD m S (pick .non ix ds) := by unfold callKw; rw [if_pos h]
@[simp] theorem pick_e {α : Type} {z : α} {xs : List α} : pick z ix xs = ix.map fun i => xs.getD i z := id rfl
@[simp] theorem pureL_n : pureL [] = true := id rfl
@[simp] theorem pureL_c : pureL (d :: ds) = (d.pure && pureL ds) := id rfl
@[simp] theorem pure_non : D.pure .non = true := id rfl
@[simp] theorem pure_bl {b : Bool} : D.pure (.bl b) = true := id rfl
@[simp] theorem pure_int {j : Int} : D.pure (.int j) = true := id rfl
@[simp] theorem pure_str {j : PySem.Str} : D.pure (.str j) = true := id rfl
@[simp] theorem pure_tup : D.pure (.tup xs) = true := id rfl
@[simp] theorem pure_lst : D.pure (.lst xs) = true := id rfl
@[simp] theorem pure_rol : D.pure (.rol xs) = true := id rfl
@[simp] theorem pure_dct : D.pure (.dct ds xs) = true := id rfl
@[simp] theorem pure_obj : D.pure (.obj n xs) = true := id rfl
@[simp] theorem pureL_its' {ns : List Int} : pureL (List.map D.int ns) = true := pure_its ns
/-! operators -/
variable {j k : Int}
@[simp] theorem bAdd_i : bAdd S (.int j) (.int k) = .ok (.int (j + k)) false := id rfl
@[simp] theorem bAdd_t : bAdd S (.tup ds) (.tup xs) = if ds.length + xs.length ≤ lim then .ok (.tup (ds ++ xs)) false else .bad := id rfl
@[simp] theorem bAdd_l : bAdd S (.lst ds) (.lst xs) = if ds.length + xs.length ≤ lim then (if pureL ds && pureL xs then .ok (.lst (ds ++ xs)) true else .bad) else .bad := id rfl
@[simp] theorem bSub_i : bSub S (.int j) (.int k) = .ok (.int (j - k)) false := id rfl
@[simp] theorem bMod_i : bMod S (.int j) (.int k) = if 0 < k then .ok (.int (j % k)) false else .bad := id rfl
@[simp] theorem bCmp_i {p : Int → Int → Bool} : bCmp p S (.int j) (.int k) = .ok (.bl (p j k)) false := id rfl
@[simp] theorem bEq_i : bEq S (.int j) (.int k) = .ok (.bl (decide (j = k))) false := id rfl
@[simp] theorem bNe_i : bNe S (.int j) (.int k) = .ok (.bl (!decide (j = k))) false := id rfl
@[simp] theorem bEq_s {j k : PySem.Str} : bEq S (.str j) (.str k) = .ok (.bl (decide (j = k))) false := id rfl
@[simp] theorem bNe_s {j k : PySem.Str} : bNe S (.str j) (.str k) = .ok (.bl (!decide (j = k))) false := id rfl
@[simp] theorem bEq_b {j k : Bool} : bEq S (.bl j) (.bl k) = .ok (.bl (decide (j = k))) false := id rfl
@[simp] theorem iAdd_i : iAdd S (.int j) (.int k) = .ok (.int (j + k)) false := id rfl
@[simp] theorem bIs_n : bIs S x .non = .ok (.bl (isNon x)) false := id rfl
@[simp] theorem bIsNot_n : bIsNot S x .non = .ok (.bl (!isNon x)) false := id rfl
@[simp] theorem bIs_b {b c : Bool} : bIs S (.bl b) (.bl c) = .ok (.bl (decide (b = c))) false := id rfl
@[simp] theorem bIsNot_b {b c : Bool} : bIsNot S (.bl b) (.bl c) = .ok (.bl (!decide (b = c))) false := id rfl
@[simp] theorem isNon_n : isNon .non = true := id rfl
@[simp] theorem isNon_b {b : Bool} : isNon (.bl b) = false := id rfl
@[simp] theorem isNon_i : isNon (.int j) = false := id rfl
@[simp] theorem isNon_t : isNon (.tup ds) = false := id rfl
@[simp] theorem isNon_l : isNon (.lst ds) = false := id rfl
@[simp] theorem truth_b {b : Bool} : truth S (.bl b) = some b := id rfl
@[simp] theorem truth_n : truth S .non = some false := id rfl
@[simp] theorem truth_i : truth S (.int j) = some (decide (j ≠ 0)) := by show some (j != 0) = _; by_cases h : j = 0 <;> simp [h, bne]
@[simp] theorem truth_t : truth S (.tup xs) = some (!xs.isEmpty) := id rfl
/-! lists that are read -/
def locO (o : Option SO) : Option (List D) := match o with
  | some (.lst xs) => some xs
  | _ => none
@[simp] theorem locO_l : locO (some (.lst xs)) = some xs := id rfl
@[simp] theorem lstOf_l : lstOf S (.lst xs) = some xs := id rfl
@[simp] theorem lstOf_o : lstOf S (.loc n) = locO (gets S n) := id rfl
@[simp] theorem rdOf_r : rdOf S (.rol xs) = some xs := id rfl
@[simp] theorem rdOf_l : rdOf S (.lst xs) = some xs := id rfl
@[simp] theorem rdOf_o : rdOf S (.loc n) = locO (gets S n) := id rfl
@[simp] theorem rdOf_t : rdOf S (.tup xs) = none := id rfl
@[simp] theorem seqOf_t : seqOf S (.tup xs) = some xs := id rfl
@[simp] theorem seqOf_r : seqOf S (.rol xs) = some xs := id rfl
@[simp] theorem seqOf_l : seqOf S (.lst xs) = some xs := id rfl
@[simp] theorem seqOf_o : seqOf S (.loc n) = locO (gets S n) := id rfl
@[simp] theorem fLen_s (h : seqOf S d = some xs) : fLen S [d] = .ok (.int xs.length) false := by dsimp only [fLen]; rw [h]
@[simp] theorem fInt_i : fInt S [.int j] = .ok (.int j) false := id rfl
@[simp] theorem fTuple_t : fTuple S [.tup xs] = .ok (.tup xs) false := id rfl
@[simp] theorem fTuple_l (p : pureL xs = true) : fTuple S [.lst xs] = .ok (.tup xs) false := by show (if pureL xs then _ else _) = _; rw [if_pos p]
theorem fTuple_o' (h : gets S n = some (.lst xs)) (p : pureL xs = true) : fTuple S [.loc n] = .ok (.tup xs) false := by
  show (match (match gets S n with | some (.lst xs) => some xs | _ => none) with | some xs => if pureL xs then _ else _ | none => _) = _
  rw [h]; dsimp only; rw [if_pos p]
def lO (o : Option (List D)) : Res := match o with
  | some xs => if pureL xs then .ok (.lst xs) true else .bad
  | none => .bad
def tO (o : Option (List D)) : Res := match o with
  | some xs => if pureL xs then .ok (.tup xs) false else .bad
  | none => .bad
@[simp] theorem lO_s : lO (some xs) = if pureL xs then .ok (.lst xs) true else .bad := id rfl
@[simp] theorem tO_s : tO (some xs) = if pureL xs then .ok (.tup xs) false else .bad := id rfl
@[simp] theorem fTuple_o : fTuple S [.loc n] = tO (locO (gets S n)) := id rfl
@[simp] theorem fList_e : fList S [d] = lO (seqOf S d) := id rfl
@[simp] theorem fSum_s {ns : List Int} (h : seqOf S d = some (its ns)) : fSum S [d] = .ok (.int (sumI ns)) false := by dsimp only [fSum]; rw [h]; dsimp only; rw [ints_its]
theorem fMax2_e : fMax2 S [.int j, .int k] = .ok (.int (if k > j then k else j)) false := id rfl
theorem fMin2_e : fMin2 S [.int j, .int k] = .ok (.int (if k < j then k else j)) false := id rfl
@[simp] theorem fMax2_n {a b : Nat} : fMax2 S [.int (a : Int), .int (b : Int)] = .ok (.int ((max a b : Nat) : Int)) false := by
  rw [fMax2_e]; congr 2; split <;> omega
@[simp] theorem fMin2_n {a b : Nat} : fMin2 S [.int (a : Int), .int (b : Int)] = .ok (.int ((min a b : Nat) : Int)) false := by
  rw [fMin2_e]; congr 2; split <;> omega
@[simp] theorem fTup_e : fTup S ds = if pureL ds && decide (ds.length ≤ lim) then .ok (.tup ds) false else .bad := id rfl
@[simp] theorem fLst_e : fLst S ds = if pureL ds && decide (ds.length ≤ lim) then .ok (.lst ds) true else .bad := id rfl
@[simp] theorem fIsi_e {cs : List Tg} : fIsi cs S [d] = (match tgD S d with | some t => .ok (.bl (cs.any (isa t))) false | none => .bad) := id rfl
@[simp] theorem tgD_non : tgD S .non = some .non := id rfl
@[simp] theorem tgD_bl {b : Bool} : tgD S (.bl b) = some .bool := id rfl
@[simp] theorem tgD_int : tgD S (.int j) = some .int := id rfl
@[simp] theorem tgD_str {j : PySem.Str} : tgD S (.str j) = some .str := id rfl
@[simp] theorem tgD_tup : tgD S (.tup xs) = some .tup := id rfl
@[simp] theorem tgD_lst : tgD S (.lst xs) = some .lst := id rfl
@[simp] theorem tgD_rol : tgD S (.rol xs) = some .lst := id rfl
@[simp] theorem tgD_dct : tgD S (.dct ds xs) = some .dct := id rfl
def iVo (n : Nat) (o : Option (List D)) : ResI := match o with
  | some _ => .dy fun S => lstOf S (.loc n)
  | none => .bad
def iV (r : Res) (S : List SO) : ResI := match r with
  | .ok (.tup xs) _ => .st xs
  | .ok (.lst xs) _ => .st xs
  | .ok (.rol xs) _ => .st xs
  | .ok (.loc n) _ => iVo n (lstOf S (.loc n))
  | .ok _ _ => .bad
  | .ex c as => .ex c as
  | .bad => .bad
@[simp] theorem iVo_s : iVo n (some xs) = .dy fun S => lstOf S (.loc n) := id rfl
@[simp] theorem iV_t {f : Bool} : iV (.ok (.tup xs) f) S = .st xs := id rfl
@[simp] theorem iV_l {f : Bool} : iV (.ok (.lst xs) f) S = .st xs := id rfl
@[simp] theorem iV_r {f : Bool} : iV (.ok (.rol xs) f) S = .st xs := id rfl
@[simp] theorem iV_o {f : Bool} : iV (.ok (.loc n) f) S = iVo n (lstOf S (.loc n)) := id rfl
@[simp] theorem iVal_e : iVal e σ S = iV (e σ S) S := by
  unfold iVal
  cases e σ S with
  | ok d f => cases d with
    | loc n => dsimp only [iV]; unfold iVo; cases lstOf S (.loc n) <;> rfl
    | _ => rfl
  | _ => rfl
@[simp] theorem enI_t : enI S [.tup xs] = .st (enumD 0 xs) := id rfl
@[simp] theorem enI_l : enI S [.lst xs] = .st (enumD 0 xs) := id rfl
@[simp] theorem enumD_n : enumD j [] = [] := id rfl
@[simp] theorem enumD_c : enumD j (d :: ds) = .tup [.int j, d] :: enumD (j + 1) ds := id rfl
@[simp] theorem rangeD_z : rangeD j 0 = [] := id rfl
@[simp] theorem rangeD_s : rangeD j (n + 1) = .int j :: rangeD (j + 1) n := id rfl
theorem rg1_nat (h : n ≤ 1000000) : rg1 S [.int n] = .st (rangeD 0 n) := by
  rw [rg1_n (by omega) (by omega)]; rfl
def retO (o : Option SO) : RS := match o with
  | some (.lst xs) => if pureL xs then .rt (.lst xs) true else .bad
  | some (.dct ks ws) => if pureL ws then .rt (.dct ks ws) true else .bad
  | _ => .bad
@[simp] theorem retO_l : retO (some (.lst xs)) = if pureL xs then .rt (.lst xs) true else .bad := id rfl
@[simp] theorem retO_d : retO (some (.dct ds xs)) = if pureL xs then .rt (.dct ds xs) true else .bad := id rfl
@[simp] theorem retD_non : retD S .non fr = .rt .non fr := id rfl
@[simp] theorem retD_bl {b : Bool} : retD S (.bl b) fr = .rt (.bl b) fr := id rfl
@[simp] theorem retD_int : retD S (.int j) fr = .rt (.int j) fr := id rfl
@[simp] theorem retD_str {j : PySem.Str} : retD S (.str j) fr = .rt (.str j) fr := id rfl
@[simp] theorem retD_tup : retD S (.tup xs) fr = .rt (.tup xs) fr := id rfl
@[simp] theorem retD_lst : retD S (.lst xs) fr = .rt (.lst xs) fr := id rfl
@[simp] theorem retD_rol : retD S (.rol xs) fr = .rt (.rol xs) fr := id rfl
@[simp] theorem retD_dct : retD S (.dct ds xs) fr = .rt (.dct ds xs) fr := id rfl
@[simp] theorem retD_obj : retD S (.obj n xs) fr = .rt (.obj n xs) fr := id rfl
@[simp] theorem retD_loc : retD S (.loc n) fr = retO (gets S n) := id rfl
/-! methods -/
def lcB (o : Option SO) (k : List D → RS) : RS := match o with
  | some (.lst xs) => k xs
  | _ => .bad
def lS (S : List SO) (d : D) (k : Nat → List D → RS) : RS := match d with
  | .loc n => lcB (gets S n) (k n)
  | _ => .bad
def pO (o : Option (List D × D)) (k : List D → D → RS) : RS := match o with
  | some (ys, r) => k ys r
  | none => .bad
@[simp] theorem lcB_s {k : List D → RS} : lcB (some (.lst xs)) k = k xs := id rfl
@[simp] theorem lS_l {k : Nat → List D → RS} : lS S (.loc n) k = lcB (gets S n) (k n) := id rfl
@[simp] theorem pO_s {k : List D → D → RS} : pO (some (xs, d)) k = k xs d := id rfl
@[simp] theorem locL_e {k : Nat → List D → RS} : locL S d k = lS S d k := by
  cases d <;> first | rfl | (unfold locL lS lcB; rfl)
theorem kMeth_e {k : Sl → List SO → D → RS} : kMeth lm n k σ S ds = lcB (gets S n) fun xs => pO (lm xs ds) fun ys r => k σ (putL S n ys) r := by
  unfold kMeth lcB
  cases gets S n with
  | none => rfl
  | some o => cases o with
    | lst xs => dsimp only; cases lm xs ds with
      | none => rfl
      | some p => rfl
    | _ => rfl
@[simp] theorem putL_e : putL S n xs = S.set n (.lst xs) := id rfl
theorem sMeth_e {k : Sl → List SO → D → RS} : sMeth lm e ca k σ S = vB (e σ S) σ S fun x _ => lS S x fun n _ => lsB (ca σ S) σ S fun ds => lcB (gets S n) fun xs => pO (lm xs ds) fun ys r => k σ (S.set n (.lst ys)) r := by
  unfold sMeth sVal
  cases e σ S with
  | ok d f =>
    dsimp only [vB]
    rw [locL_e]
    congr 1
  | _ => rfl
@[simp] theorem sMethE_e : sMethE lm e ca σ S = vB (e σ S) σ S fun x _ => lS S x fun n _ => lsB (ca σ S) σ S fun ds => lcB (gets S n) fun xs => pO (lm xs ds) fun ys _ => .nx σ (S.set n (.lst ys)) := sMeth_e
@[simp] theorem sMethA_e : sMethA i lm e ca σ S = vB (e σ S) σ S fun x _ => lS S x fun n _ => lsB (ca σ S) σ S fun ds => lcB (gets S n) fun xs => pO (lm xs ds) fun ys r => .nx (setD σ i r) (S.set n (.lst ys)) := sMeth_e
@[simp] theorem mAppend_e (h : xs.length < lim) : mAppend xs [d] = some (xs ++ [d], .non) := by dsimp only [mAppend]; rw [if_pos h]
def kS (S : List SO) (σ : Sl) (n : Nat) (o : Option (List D)) : RS := match o with
  | some ys => .nx σ (S.set n (.lst ys))
  | none => .bad
@[simp] theorem kS_s : kS S σ n (some xs) = .nx σ (S.set n (.lst xs)) := id rfl
@[simp] theorem kSub_e : kSub d σ S x (.int j) = lS S x fun n xs => kS S σ n (setI xs j d) := by
  show (locL S x fun n xs => match setI xs j d with | some ys => RS.nx σ (putL S n ys) | none => .bad) = _
  rw [locL_e]
  congr 1
@[simp] theorem sSub_e : sSub e e1 e2 σ S = vB (e σ S) σ S fun y _ => vB (e1 σ S) σ S fun x _ => vB (e2 σ S) σ S fun i _ => kSub y σ S x i := by
  unfold sSub sTwo sVal
  cases e σ S with
  | ok d f => first
    | rfl
    | (dsimp only [vB]; cases e1 σ S with
      | ok d f => (try dsimp only) <;> (cases e2 σ S <;> rfl)
      | _ => rfl)
  | _ => rfl
@[simp] theorem setI_n (h : n < xs.length) : setI xs (n : Int) d = some (xs.set n d) := by show (if n < xs.length then _ else _) = _; rw [if_pos h]
def augK (i : Nat) (σ : Sl) (S : List SO) (r : Res) : RS := match r with
  | .ok d false => .nx (setD σ i d) S
  | _ => .bad
def vOS (o : Option (Option D)) (k : D → RS) : RS := match o with
  | some (some d) => k d
  | _ => .bad
@[simp] theorem vOS_s {k : D → RS} : vOS (some (some d)) k = k d := id rfl
@[simp] theorem augK_s : augK i σ S (.ok d false) = .nx (σ.set i (some d)) S := id rfl
@[simp] theorem sAug_e : sAug i op e σ S = vOS (gets σ i) fun x => vB (e σ S) σ S fun y _ => augK i σ S (op S x y) := by
  unfold sAug vOS sVal
  cases gets σ i with
  | none => rfl
  | some o => cases o with
    | none => rfl
    | some x =>
      dsimp only
      cases e σ S with
      | ok d f => dsimp only [vB]; unfold augK; rfl
      | _ => rfl
/-! slices, subscripts, comprehensions -/
@[simp] theorem cTwo_e {k : Sl → List SO → D → Res} : cTwo e k σ S = rB (e σ S) (k σ S) := by unfold cTwo; cases e σ S <;> rfl
@[simp] theorem kInt_i {k : Int → Res} : kInt k (.int j) = k j := id rfl
@[simp] theorem cCutLH_e : cCutLH e e1 e2 σ S = rB (e σ S) fun x => rB (e1 σ S) (kInt fun i => rB (e2 σ S) (kInt fun j => fCut S x (some i) (some j))) := by
  unfold cCutLH; simp only [cTwo_e]
@[simp] theorem cCutL_e : cCutL e e1 σ S = rB (e σ S) fun x => rB (e1 σ S) (kInt fun i => fCut S x (some i) none) := by unfold cCutL; simp only [cTwo_e]
@[simp] theorem cCutH_e : cCutH e e1 σ S = rB (e σ S) fun x => rB (e1 σ S) (kInt fun i => fCut S x none (some i)) := by unfold cCutH; simp only [cTwo_e]
@[simp] theorem cCutA_e : cCutA e σ S = rB (e σ S) fun x => fCut S x none none := by unfold cCutA; rw [cTwo_e]
@[simp] theorem fCut_t {lo hi : Option Int} : fCut S (.tup xs) lo hi = .ok (.tup (cutD xs lo hi)) false := id rfl
def cutO (o : Option (List D)) (lo hi : Option Int) : Res := match o with
  | some xs => if pureL xs then .ok (.lst (cutD xs lo hi)) true else .bad
  | none => .bad
@[simp] theorem cutO_s {lo hi : Option Int} : cutO (some xs) lo hi = if pureL xs then .ok (.lst (cutD xs lo hi)) true else .bad := id rfl
@[simp] theorem fCut_l {lo hi : Option Int} : fCut S (.lst xs) lo hi = if pureL xs then .ok (.lst (cutD xs lo hi)) true else .bad := id rfl
@[simp] theorem fCut_r {lo hi : Option Int} : fCut S (.rol xs) lo hi = if pureL xs then .ok (.lst (cutD xs lo hi)) true else .bad := id rfl
@[simp] theorem fCut_o {lo hi : Option Int} : fCut S (.loc n) lo hi = cutO (locO (gets S n)) lo hi := id rfl
theorem cutD_map {α : Type} (g : α → D) (ys : List α) (a b : Nat) : cutD (ys.map g) (some (a : Int)) (some (b : Int)) = ((ys.drop a).take (b - a)).map g := by rw [cut_lh, List.map_take, List.map_drop]
@[simp] theorem cutD_h {k : Nat} : cutD xs none (some (k : Int)) = xs.take k := cut_h xs k
@[simp] theorem cutD_l {k : Nat} : cutD xs (some (k : Int)) none = xs.drop k := cut_l xs k
@[simp] theorem cutD_lh {a b : Nat} : cutD xs (some (a : Int)) (some (b : Int)) = (xs.drop a).take (b - a) := cut_lh xs a b
def ixO (o : Option (List D)) (i : Int) : Res := match o with
  | some xs => oD (atD xs i)
  | none => .bad
@[simp] theorem ixO_s : ixO (some xs) j = oD (atD xs j) := id rfl
@[simp] theorem bIx_t : bIx S (.tup xs) (.int j) = oD (atD xs j) := id rfl
@[simp] theorem bIx_l : bIx S (.lst xs) (.int j) = oD (atD xs j) := id rfl
@[simp] theorem bIx_r : bIx S (.rol xs) (.int j) = oD (atD xs j) := id rfl
@[simp] theorem bIx_o (h : gets S n = some (.lst xs)) : bIx S (.loc n) (.int j) = oD (atD xs j) := by
  show (match (match gets S n with | some (.lst xs) => some xs | _ => none) with | some xs => _ | none => _) = _
  rw [h]; rfl
@[simp] theorem atD_n {k : Nat} : atD xs (k : Int) = xs[k]? := gets_eq xs k
def cB (r : ResI) (S : List SO) (k : List D → Res) : Res := match r with
  | .st ds => k ds
  | .dy i => oL (i S) k
  | .ex c as => .ex c as
  | .bad => .bad
def coB (o : Option (List D)) : Res := match o with
  | some r => .ok (.lst r) true
  | none => .bad
@[simp] theorem cB_st {k : List D → Res} : cB (.st ds) S k = k ds := id rfl
@[simp] theorem cB_dy {k : List D → Res} {i : List SO → Option (List D)} : cB (.dy i) S k = oL (i S) k := id rfl
@[simp] theorem coB_s : coB (some xs) = .ok (.lst xs) true := id rfl
@[simp] theorem cComp_e : cComp ci A ws t e σ S = cB (ci σ S) S fun ds => coB (compL A t e (wipeD σ ws) S ds) := by
  unfold cComp kComp
  cases ci σ S with
  | st ds => dsimp only [cB]; unfold coB; rfl
  | dy i => dsimp only [cB]; cases i S with
    | none => rfl
    | some ds => dsimp only [oL]; unfold coB; rfl
  | _ => rfl
@[simp] theorem wipeD_n : wipeD σ [] = σ := id rfl
@[simp] theorem wipeD_c : wipeD σ (n :: ws) = (wipeD σ ws).set n none := id rfl
end
/-- a comprehension, each turn told: all are kept -/
theorem comp_all {α : Type} {A : TgF} {t f : CE} {σ : Sl} {S : List SO} (u : α → D) (g : α → D) : ∀ ys : List α, (∀ y ∈ ys, ∃ σ1 fr f2, A (u y) σ = some σ1 ∧ t σ1 S = .ok (.bl true) fr ∧ f σ1 S = .ok (g y) f2 ∧ (g y).pure = true) → compL A t f σ S (ys.map u) = some (ys.map g)
  | [], _ => rfl
  | y :: ys, w => by
    obtain ⟨σ1, fr, f2, h1, h2, h3, h4⟩ := w y (List.mem_cons_self ..)
    have ih := comp_all u g ys fun y hy => w y (List.mem_cons_of_mem _ hy)
    show (match A (u y) σ with | some σ1 => _ | none => _) = _
    simp only [h1, h2, h3, h4, if_true]
    rw [show compL A t f σ S (List.map u ys) = some (ys.map g) from ih]
    rfl
/-- .. some are kept -/
theorem comp_some {α : Type} {A : TgF} {t f : CE} {σ : Sl} {S : List SO} (u : α → D) (p : α → Bool) (g : α → D) : ∀ ys : List α, (∀ y ∈ ys, ∃ σ1 fr, A (u y) σ = some σ1 ∧ t σ1 S = .ok (.bl (p y)) fr ∧ (p y = true → ∃ f2, f σ1 S = .ok (g y) f2 ∧ (g y).pure = true)) →
    compL A t f σ S (ys.map u) = some ((ys.filter p).map g)
  | [], _ => rfl
  | y :: ys, w => by
    obtain ⟨σ1, fr, h1, h2, h3⟩ := w y (List.mem_cons_self ..)
    have ih := comp_some u p g ys fun y hy => w y (List.mem_cons_of_mem _ hy)
    show (match A (u y) σ with | some σ1 => _ | none => _) = _
    simp only [h1, h2]
    cases e : p y with
    | true =>
      obtain ⟨f2, h4, h5⟩ := h3 e
      simp only [h4, h5, if_true]
      rw [show compL A t f σ S (List.map u ys) = _ from ih, List.filter_cons_of_pos e]
      rfl
    | false =>
      simp only []
      rw [List.filter_cons_of_neg (by rw [e]; exact Bool.false_ne_true)]
      exact ih
end HC

set_option maxRecDepth 100000
namespace HC
open PySem PySem.W PySem.Calls PyProof.Rows PySem.HandSPX
/-- what the written part says of an own exception class C whose __init__ says super().__init__('..') and keeps one argument -/
structure XSup (K : PySem.W.Frag) (prog : Program) (C fI : Addr) (attr p : Str) where
  qual : Str
  name : Str
  params : Arguments
  scope : Scope
  dV : Value
  kV : Value
  doc : Value
  pm : Value
  ct : Value
  oc : Value
  ccl : Value
  cl : Value
  an : Option Addr
  od : Option Addr
  cdd : Option Addr
  cld : Option Addr
  dd : Option Addr
  osl : Array (Option Value)
  ccs : Array (Option Value)
  csl : Array (Option Value)
  vs : Array Value
  cc : Addr
  cda : Addr
  N : Addr
  msg : Str
  jt : Nat
  nm : Str
  q : Str
  file : Str
  tf : Tok
  bs : List Value
  bm : List Value
  sn : List Str
  sub : List Value
  ab : Bool
  col : Option Bool
  k0 : Option Value
  k1 : Option Value
  k2 : Option Value
  k3 : Option Value
  k5 : Option Value
  p0 : Pos
  p1 : Pos
  p2 : Pos
  p3 : Pos
  p4 : Pos
  p5 : Pos
  p6 : Pos
  p7 : Pos
  p8 : Pos
  p9 : Pos
  a0 : Arg
  lf : K.lookup fI = some ⟨oc, od, .func (ksFn name qual params [.Expr (.Call (.Attribute (.Call (.Name "super" p0) [] [] p1) "__init__" p2) [.Constant (.str msg) jt p3] [] p4) p5, .Assign [.Attribute (.Name "self" p6) attr p7] (.Name p p8) p9] scope dV kV doc pm an (.ref cda) ct cc), osl⟩
  hC : K.lookup C = some (excClassObj nm q C N bs bm true sn sub ab col dd k0 k1 k2 k3 k5 "ValueError.__new__")
  hbm : refsVE bm = true
  hcd : codeIn K (.ref cda) qual = true
  hcode : K.lookup cda = some ⟨ccl, cdd, .fields vs, ccs⟩
  hvs : vs[2]? = some (.str file tf)
  hfile : ((prog.main.file : Str) == file) = true
  hcell : K.lookup cc = some ⟨cl, cld, .cell (some (.ref C)), csl⟩
  hsub : mroIn K C (.ref C) = some true
  hB : subIn K (.ref C) (.type "ValueError") = some true
  hsup : ks_superIn K C C "__init__" = some (some (.builtin "ValueError.__init__"))
  ho : nsIn K cStatics "thirdparty.any" = some none
  sa : findIn K (.ref C) "__setattr__" = some (some (.builtin "object.__setattr__"))
  exC : subIn K (.ref C) (.type "BaseException") = some true
  tyC : typeIn K (.ref C) = some (.type "type")
  kC : keepIn K (.ref C) = true
  iC : findIn K (.ref C) "__init__" = some (some (.ref fI))
  tI : typeIn K (.ref fI) = some (.type "function")
  noA : findIn K (.ref C) attr = some none
  hks : scope.names.lookup ("super" : Str) = some .globalImplicit
  hkc : scope.names.lookup ("__class__" : Str) = some .free
  hka : scope.names.lookup ("self" : Str) = some .local
  hkp : scope.names.lookup p = some .local
  hk : scope.kind = .function
  hco : scope.isCoroutine = false
  hgen : scope.isGenerator = false
  hce : ∀ x ∈ scope.names, x.2 ≠ .cell
  hp : (params.posonlyargs ++ params.args).head? = some a0
  ha0 : a0.arg = "self"
  hps : (p == ("self" : Str)) = false
  hdp : (p == ("__debug__" : Str)) = false
  hev : ∀ env : Env, eval (.Call (.Attribute (.Call (.Name "super" p0) [] [] p1) "__init__" p2) [.Constant (.str msg) jt p3] [] p4) env = (do
    let ov ← attributeBase (.Call (.Name "super" p0) [] [] p1) "__init__" env (eval (.Call (.Name "super" p0) [] [] p1) env)
    standAt p2.atName
    let (f, first) ← holding [ov] (getMethod ov "__init__" (do return (← importBound (.Call (.Name "super" p0) [] [] p1) env).getD true))
    callWith p4 f first (backTo p4 (starEach [.Constant (.str msg) jt p3] env)) [])
  hsw1 : ∀ env : Env, swapsWith (.Call (.Attribute (.Call (.Name "super" p0) [] [] p1) "__init__" p2) [.Constant (.str msg) jt p3] [] p4) none p5.line env = pure false
  hsw2 : ∀ env : Env, swapsWith (.Name p p8) (some (.Attribute (.Name "self" p6) attr p7)) p9.line env = pure false
  htop : (prog.main.scope.names.lookup ("super" : Str)).isSome = false
  bind : ∀ (s : Shared) (u v : Value), BindsTo s (ksFn name qual params [.Expr (.Call (.Attribute (.Call (.Name "super" p0) [] [] p1) "__init__" p2) [.Constant (.str msg) jt p3] [] p4) p5, .Assign [.Attribute (.Name "self" p6) attr p7] (.Name p p8) p9] scope dV kV doc pm an (.ref cda) ct cc) ⟨[u, v], []⟩ [("self", u), (p, v)]

/-- .. made -/
def xsup_of {K : PySem.W.Frag} {prog : Program} {C fI : Addr} {attr p : Str} {qual : Str} {name : Str} {params : Arguments} {scope : Scope} {dV : Value} {kV : Value} {doc : Value} {pm : Value} {ct : Value} {oc : Value} {ccl : Value} {cl : Value} {an : Option Addr} {od : Option Addr} {cdd : Option Addr} {cld : Option Addr} {dd : Option Addr} {osl : Array (Option Value)} {ccs : Array (Option Value)} {csl : Array (Option Value)} {vs : Array Value} {cc : Addr} {cda : Addr} {N : Addr} {msg : Str} {jt : Nat} {nm : Str} {q : Str} {file : Str} {tf : Tok} {bs : List Value} {bm : List Value} {sn : List Str} {sub : List Value} {ab : Bool} {col : Option Bool} {k0 : Option Value} {k1 : Option Value} {k2 : Option Value} {k3 : Option Value} {k5 : Option Value} {p0 : Pos} {p1 : Pos} {p2 : Pos} {p3 : Pos} {p4 : Pos} {p5 : Pos} {p6 : Pos} {p7 : Pos} {p8 : Pos} {p9 : Pos} {a0 : Arg}
    (lf : K.lookup fI = some ⟨oc, od, .func (ksFn name qual params [.Expr (.Call (.Attribute (.Call (.Name "super" p0) [] [] p1) "__init__" p2) [.Constant (.str msg) jt p3] [] p4) p5, .Assign [.Attribute (.Name "self" p6) attr p7] (.Name p p8) p9] scope dV kV doc pm an (.ref cda) ct cc), osl⟩)
    (hC : K.lookup C = some (excClassObj nm q C N bs bm true sn sub ab col dd k0 k1 k2 k3 k5 "ValueError.__new__"))
    (hbm : refsVE bm = true)
    (hcd : codeIn K (.ref cda) qual = true)
    (hcode : K.lookup cda = some ⟨ccl, cdd, .fields vs, ccs⟩)
    (hvs : vs[2]? = some (.str file tf))
    (hfile : ((prog.main.file : Str) == file) = true)
    (hcell : K.lookup cc = some ⟨cl, cld, .cell (some (.ref C)), csl⟩)
    (hsub : mroIn K C (.ref C) = some true)
    (hB : subIn K (.ref C) (.type "ValueError") = some true)
    (hsup : ks_superIn K C C "__init__" = some (some (.builtin "ValueError.__init__")))
    (ho : nsIn K cStatics "thirdparty.any" = some none)
    (sa : findIn K (.ref C) "__setattr__" = some (some (.builtin "object.__setattr__")))
    (exC : subIn K (.ref C) (.type "BaseException") = some true)
    (tyC : typeIn K (.ref C) = some (.type "type"))
    (kC : keepIn K (.ref C) = true)
    (iC : findIn K (.ref C) "__init__" = some (some (.ref fI)))
    (tI : typeIn K (.ref fI) = some (.type "function"))
    (noA : findIn K (.ref C) attr = some none)
    (hks : scope.names.lookup ("super" : Str) = some .globalImplicit)
    (hkc : scope.names.lookup ("__class__" : Str) = some .free)
    (hka : scope.names.lookup ("self" : Str) = some .local)
    (hkp : scope.names.lookup p = some .local)
    (hk : scope.kind = .function)
    (hco : scope.isCoroutine = false)
    (hgen : scope.isGenerator = false)
    (hce : ∀ x ∈ scope.names, x.2 ≠ .cell)
    (hp : (params.posonlyargs ++ params.args).head? = some a0)
    (ha0 : a0.arg = "self")
    (hps : (p == ("self" : Str)) = false)
    (hdp : (p == ("__debug__" : Str)) = false)
    (hev : ∀ env : Env, eval (.Call (.Attribute (.Call (.Name "super" p0) [] [] p1) "__init__" p2) [.Constant (.str msg) jt p3] [] p4) env = (do
    let ov ← attributeBase (.Call (.Name "super" p0) [] [] p1) "__init__" env (eval (.Call (.Name "super" p0) [] [] p1) env)
    standAt p2.atName
    let (f, first) ← holding [ov] (getMethod ov "__init__" (do return (← importBound (.Call (.Name "super" p0) [] [] p1) env).getD true))
    callWith p4 f first (backTo p4 (starEach [.Constant (.str msg) jt p3] env)) []))
    (hsw1 : ∀ env : Env, swapsWith (.Call (.Attribute (.Call (.Name "super" p0) [] [] p1) "__init__" p2) [.Constant (.str msg) jt p3] [] p4) none p5.line env = pure false)
    (hsw2 : ∀ env : Env, swapsWith (.Name p p8) (some (.Attribute (.Name "self" p6) attr p7)) p9.line env = pure false)
    (htop : (prog.main.scope.names.lookup ("super" : Str)).isSome = false)
    (bind : ∀ (s : Shared) (u v : Value), BindsTo s (ksFn name qual params [.Expr (.Call (.Attribute (.Call (.Name "super" p0) [] [] p1) "__init__" p2) [.Constant (.str msg) jt p3] [] p4) p5, .Assign [.Attribute (.Name "self" p6) attr p7] (.Name p p8) p9] scope dV kV doc pm an (.ref cda) ct cc) ⟨[u, v], []⟩ [("self", u), (p, v)]) : XSup K prog C fI attr p :=
  ⟨qual, name, params, scope, dV, kV, doc, pm, ct, oc, ccl, cl, an, od, cdd, cld, dd, osl, ccs, csl, vs, cc, cda, N, msg, jt, nm, q, file, tf, bs, bm, sn, sub, ab, col, k0, k1, k2, k3, k5, p0, p1, p2, p3, p4, p5, p6, p7, p8, p9, a0, lf, hC, hbm, hcd, hcode, hvs, hfile, hcell, hsub, hB, hsup, ho, sa, exC, tyC, kC, iC, tI, noA, hks, hkc, hka, hkp, hk, hco, hgen, hce, hp, ha0, hps, hdp, hev, hsw1, hsw2, htop, bind⟩

section
variable {prog : Program} {w : World} {A : Around} {R : Result → Shared → Prop} {hp : Heap} {g : Array GenState} {d : Drawn} {t : Nat} {os : OsState}
theorem call_mw {E : Value → Shared → Prop} {u e t0 C N : Addr} {nm q : Str} {bs bm : List Value} {hdct : Bool} {sn : List Str} {sub : List Value} {ab : Bool} {col : Option Bool} {dd : Option Addr} {k0 k1 k2 k3 k5 : Option Value} {rest : List Value} {Q : Value → Shared → Prop}
    (hu : hp.get? u = some (kxs_mw "ValueError.__init__" e)) (he : hp.get? e = some (excO C t0)) (hC : hp.get? C = some (excClassObj nm q C N bs bm hdct sn sub ab col dd k0 k1 k2 k3 k5 "ValueError.__new__")) (hrest : rest.length ≤ sizeLine)
    (hq : ∀ h', (∀ b o, b ≠ e → hp.get? b = some o → h'.get? b = some o) → h'.get? e = some (excO C hp.objs.size) → Q .none ⟨h', g, d, t, os⟩) : wpAny (model prog w) A (call (.ref u) rest) Q E ⟨hp, g, d, t, os⟩ := by
  refine wpAny_call (codeAny_of_tree ?_)
  show wpAny _ A.in1 (callAny (.ref u) ⟨rest, []⟩) _ _ _
  simp only [callAny]
  refine wpAny_bind (wpAny_load hu ?_)
  simp only [kxs_mw, show (Value.type "method-wrapper" == Value.type "method" || Value.type "method-wrapper" == Value.type "builtin_function_or_method" || Value.type "method-wrapper" == Value.type "method-wrapper") = true by decide, if_true]
  refine KFB.if_so (by decide) ?_
  refine wpAny_bind (check_bound_init PySem.F.excBase_ValueError.toExcCallFacts hC he rfl ?_)
  refine wpAny_bind (wpAny_pure (wpAny_pure ?_))
  refine ⟨plainId_quiet PySem.F.excBase_ValueError.init.plain _, codeAny_builtin PySem.F.excBase_ValueError.initEntry ?_⟩
  exact exc_init_tree (cls := .ref C) (t0 := t0) (dv := none) (c2 := .none) (c3 := .none) (b4 := .bool false) he hrest fun h' k e1 _ => hq h' k e1
theorem init_sup {K : Frag} {mg mb : Str → Option Value} {fI C e t0 : Addr} {attr p : Str} {u : Value} (T : XSup K prog C fI attr p)
    (X : K.In hp) (top : hp.Ns mainGlobals mg) (boot : hp.Ns builtinsNs mb) (hboot : mb "super" = some (.type "super")) (hsup : mg "super" = none) (lim : hp.NoLimit) (room : A.depth < recursionLimit)
    (he : hp.get? e = some (excO C t0)) (hKe : K.lookup e = none)
    (hq : ∀ (h' : Heap) (tk : Nat) (dx t1 : Addr), (∀ b o, b ≠ e → hp.get? b = some o → h'.get? b = some o) → hp.get? dx = none → dx ≠ e → h'.get? e = some ({ cls := .ref C, dict := some dx, data := .fields #[.ref t1, .none, .none, .none, .bool false, .none] } : Obj) →
      h'.Ns1 dx (fun y => if y = attr then some u else none) → R (.ok (.ret .none)) ⟨h', g, d, tk, os⟩) :
    codeAny (model prog w) A (.call (.ref fI) ⟨[.ref e, u], []⟩) R ⟨hp, g, d, t, os⟩ := by
  obtain ⟨qual, name, params, scope, dV, kV, doc, pm, ct, oc, ccl, cl, an, od, cdd, cld, dd, osl, ccs, csl, vs, cc, cda, N, msg, jt, nm, q, file, tf, bs, bm, sn, sub, ab, col, k0, k1, k2, k3, k5, p0, p1, p2, p3, p4, p5, p6, p7, p8, p9, a0,
    lf, hC, hbm, hcd, hcode, hvs, hfile, hcell, hsub, hB, hsupI, ho, sa, exC, tyC, kC, iC, tI, noA, hks, hkc, hka, hkp, hk, hco, hgen, hce, hpp, ha0, hps, hdp, hev, hsw1, hsw2, htop, bind⟩ := T
  refine ks_codeAny_call_defAt (binds := [("self", .ref e), (p, u)]) room (X _ _ lf) rfl lim (codeRec_of X hcd) rfl (bind _ _ _) hce (fun y hy => ?_) (fun h1 hns hk1 => ?_) hco hgen hk
  · rcases List.mem_cons.mp hy with rfl | hy
    · exact hka
    · rw [List.mem_singleton.mp hy]; exact hkp
  have X1 : K.In h1 := X.keeps hk1
  have hself : (fun x => ([("self", Value.ref e), (p, u)] : List (Str × Value)).reverse.lookup x) a0.arg = some (.ref e) := by
    rw [ha0]
    show ([(p, u), ("self", Value.ref e)] : List (Str × Value)).lookup ("self" : Str) = _
    have e1 : (("self" : Str) == p) = false := by
      cases z : (("self" : Str) == p) with
      | false => rfl
      | true => rw [← eq_of_beq z] at hps; exact absurd hps (by decide)
    simp only [List.lookup, e1]
    rfl
  have hpv : (fun x => ([("self", Value.ref e), (p, u)] : List (Str × Value)).reverse.lookup x) p = some u := by
    show ([(p, u), ("self", Value.ref e)] : List (Str × Value)).lookup p = _
    simp only [List.lookup, beq_self_eq_true]
  obtain ⟨oD, hD1, hD2⟩ : ∃ oD : Obj, h1.get? C = some oD ∧ oD.data = (excClassObj nm q C N bs bm true sn sub ab col dd k0 k1 k2 k3 k5 "ValueError.__new__").data := ⟨_, X1 _ _ hC, rfl⟩
  have hcl : clsIn K C = some { name := nm, bases := bs, mro := .ref C :: bm, ns := N, qualname := q, hasDict := true, slotNames := sn, subclasses := sub, abstract := ab, collection := col, hasDel := false } := by unfold clsIn; rw [hC] <;> rfl
  have he1 := hk1 _ _ he
  have hxC : e ≠ C := fun z => by
    rw [z] at he1
    have := (X1 _ _ hC).symm.trans he1
    cases this
  refine ks_wpAt_execs_cons (ks_wpAt_Expr_any (ks_wpAt_MethodCall (ks_wpAt_super_base (fd := ksFn name qual params [.Expr (.Call (.Attribute (.Call (.Name "super" p0) [] [] p1) "__init__" p2) [.Constant (.str msg) jt p3] [] p4) p5, .Assign [.Attribute (.Name "self" p6) attr p7] (.Name p p8) p9] scope dV kV doc pm an (.ref cda) ct cc)
    hks hkc (by decide) rfl (X1 _ _ lf) rfl hpp rfl (X1 _ _ hcode) rfl hvs hfile htop ?_) (hev _)) (by unfold interactive; show (scope.kind == .module && _) = false; rw [hk]; rfl) (hsw1 _))
  refine ks_loadName_global hk hks (loadGlobal_builtin (top.keeps hk1) hsup (boot.keeps hk1) hboot ⟨rfl, ?_⟩)
  refine wpAny_loadName_free hk hkc rfl ⟨_, X1 _ _ hcell, rfl⟩ ?_
  refine wpAny_loadName_local hk (by rw [ha0]; exact hka) hns hself ?_
  refine ks_wpAny_isType_cls hD1 hD2 ⟨rfl, ?_⟩
  refine ks_wpAny_call_super hD1 hD2 he1 rfl (fun c z => by cases z) (looks_mroIn X1 hsub) fun h2 so2 k2 => ?_
  have X2 : K.In h2 := X1.keeps k2
  have he2 := k2 _ _ he1
  have I2 : InstAt h2 e (excO C t0) C none := ⟨he2, rfl, rfl, trivial⟩
  have hI : ∀ {h : Heap}, K.In h → InstAt h e (excO C t0) C none → Looks (model prog w) h (isInstance (.ref e) (.type "ValueError")) true := fun Xh I => I.type.andThen (looks_subIn Xh hB)
  refine kxs_getMethod kxs_ValueError so2 (looks_opaque X2 ho) (l₀ := .ref C :: bm) ?_ rfl X2 ?_ (hI X2 I2) hxC (by decide) ?_
  · exact fun A Q E s k q => wpAny_bind ((looks_clsIn X2 hcl) A _ E s k (wpAny_pure q))
  · unfold ks_superIn at hsupI
    rw [hcl] at hsupI
    exact hsupI
  have hu3 : (h2.push (kxs_mw "ValueError.__init__" e)).get? h2.objs.size = some (kxs_mw "ValueError.__init__" e) := Heap.get?_push_at rfl rfl
  have k3 : ∀ b o, h2.get? b = some o → (h2.push (kxs_mw "ValueError.__init__" e)).get? b = some o := fun b o z => Heap.get?_push_of_some _ z
  refine kxs_callWith (i := "ValueError.__init__") (x := e) rfl ?_
  refine evalArgs_plain (spliced_cons ?_)
  refine wpAny_mono (Q := fun v s' => (∃ tk, v = .str msg tk) ∧ s'.heap = h2.push (kxs_mw "ValueError.__init__" e) ∧ s'.gens = g ∧ s'.drawn = d ∧ s'.os = os) (E := fun _ _ => False) ?_ (fun v s3 hv => ?_) fun _ _ z => z.elim
  · exact Calls.Constant_str (pos := p3) (k := jt) ⟨⟨_, rfl⟩, rfl, rfl, rfl, rfl⟩
  obtain ⟨⟨tk, rfl⟩, e1, e2, e3, e4⟩ := hv
  obtain ⟨h3, g3, d3, t3, os3⟩ := s3
  dsimp only at e1 e2 e3 e4
  subst e1 e2 e3 e4
  have he3 := k3 _ _ he2
  refine spliced_nil ⟨hu3, ?_⟩
  have X3 := X2.keeps k3
  refine call_mw hu3 he3 (X3 _ _ hC) (by show 1 ≤ sizeLine; rw [sizeLine_eq]; omega) fun h4 k4 e4 => ?_
  -- self.attr = p
  have kk : ∀ b o, b ≠ e → hp.get? b = some o → h4.get? b = some o := fun b o hb z => k4 b o hb (k3 _ _ (k2 _ _ (hk1 _ _ z)))
  have eC : ∀ {b : Addr} {o : Obj}, K.lookup b = some o → b ≠ e := fun {b o} z y => by
    rw [y, hKe] at z
    cases z
  have X4 : K.In h4 := fun b o z => kk b o (eC z) (X b o z)
  have hns4 : h4.Ns hp.objs.size (fun x => ([("self", Value.ref e), (p, u)] : List (Str × Value)).reverse.lookup x) := by
    obtain ⟨o, es, ep, eo, r⟩ := hns
    have ne : hp.objs.size ≠ e := Nat.ne_of_gt (Heap.lt_size he)
    exact ⟨o, es, ep, k4 _ _ ne (k3 _ _ (k2 _ _ eo)), r⟩
  refine PySem.wpAt_of_wpAny (wpAny_execs_cons (plainObj_wpAny_Assign_Attribute ?_ (hsw2 _)))
  refine wpAny_Name (wpAny_loadName_local hk hkp hns4 hpv ?_) hdp
  refine wpAny_Name (wpAny_loadName_local hk hka hns4 (by rw [ha0] at hself; exact hself) ?_) (by decide)
  refine set_plain (s := ⟨h4, _, _, _, _⟩) X4 (ox := excO C _) (od := none) ⟨e4, rfl, rfl, trivial⟩ sa ?_
  refine exc_osa X4 e4 hcl (show refsVE (.ref C :: bm) = true from hbm) rfl noA fun h5 tk5 dx k5' n5 ne5 e5 ns5 => ?_
  refine wpAny_execs_nil ?_
  refine hq h5 _ dx _ (fun b o hb z => k5' b o hb (kk b o hb z)) ?_ ne5 e5 ns5
  cases z : hp.get? dx with
  | none => rfl
  | some o => exact absurd (Heap.lt_size (kk _ _ ne5 z)) (Nat.not_lt.mpr n5)
end
end HC
namespace HC
open PySem PySem.Spec L2
open PyProof.Rows hiding St
/-- C(e) is made -/
def tMkS (C : Addr) (attr : Str) (ta : TA) : St → Hp → XK → Prop := fun σ H Q => ta σ H fun vs H1 => ∃ v, vs = [v] ∧ ∀ dx, H1 dx = none → Q (.ref C) (some dx) (upd H1 dx (.xd [(attr, v)]))
section
variable {X : Cx} {e : Expr} {es : List Expr} {ta : TA} {pp pos : Pos}
theorem mk_sup {pins : List (Addr × Obj)} {σ : St} {H1 : Hp} {Q : XK} {hp h' : Heap} {g : Array GenState} {d : Drawn} {t t' : Nat} {os : OsState} {a C dx t1 : Addr} {attr : Str} {v : V} {u : Value} (r : Raises X (.ref C)) (I1 : Inv X pins σ H1 ⟨hp, g, d, t, os⟩)
    (ha : hp.objs.size ≤ a) (k : ∀ b o, hp.get? b = some o → h'.get? b = some o) (hoe : h'.get? a = some ({ cls := .ref C, dict := some dx, data := .fields #[.ref t1, .none, .none, .none, .bool false, .none] } : Obj))
    (hns : h'.Ns1 dx (fun y => if y = attr then some u else none)) (rv : RelV v u) (hdx : hp.get? dx = none) (hda : dx ≠ a) (q : Q (.ref C) (some dx) (upd H1 dx (.xd [(attr, v)]))) : MkP X pins σ Q (.ref a) ⟨h', g, d, t', os⟩ := by
  have hn : H1 a = none := I1.hok.fresh ha
  have hd1 : H1 dx = none := I1.hok.gone hdx
  obtain ⟨G, g1', g2'⟩ := restrict h' fun b => decide (b ≠ a)
  have gk : ∀ b, b ≠ a → G.get? b = h'.get? b := fun b hb => g1' b (decide_eq_true hb)
  have ge : G.get? a = none := g2' a (by simp)
  have nha : ∀ {b : Addr} {o : Obj}, hp.get? b = some o → b ≠ a := fun {b o} z => Nat.ne_of_lt (Nat.lt_of_lt_of_le (Heap.lt_size z) ha)
  have nd : ∀ {b : Addr} {o : Obj}, hp.get? b = some o → b ≠ dx := fun {b o} z e => by rw [e, hdx] at z; cases z
  have kG : ∀ {b : Addr} {o : Obj}, hp.get? b = some o → G.get? b = some o := fun {b o} z => (gk b (nha z)).trans (k b o z)
  have U : Un (frs X.stack) [] H1 (upd H1 dx (.xd [(attr, v)])) hp G := {
    keep := fun b o z n hf hx => kG z
    slot := fun b o z n hf hx => ⟨o.slots, kG z⟩
    free := fun b o z n hx => by rw [upd_ne (nd z)]; exact n
    there := fun b o z hx => ⟨o, kG z⟩
    tups := fun b xs z => by rw [upd_ne (ne_of_none z hd1)]; exact z
    frzs := fun b o v z => by rw [upd_ne (ne_of_none z hd1)]; exact z
    tbls := fun b ps z => ⟨#[], by rw [upd_ne (ne_of_none z hd1), z]; simp⟩ }
  have hok3 : HOk X.prog X.w (upd H1 dx (.xd [(attr, v)])) G := fun b o z => by
    by_cases hbd : b = dx
    · subst hbd
      rw [upd_same] at z
      cases z
      exact ⟨_, hns.at fun o y => (gk b hda).trans y, relO_put (fs := []) rv fun g => True.intro⟩
    · rw [upd_ne hbd] at z
      exact (I1.hok b o z).stay (fun c v hc y => kG y) (fun c hc => by rw [upd_ne (ne_of_none hc hd1)]; exact hc) (fun c xs hc => by rw [upd_ne (ne_of_none hc hd1)]; exact hc)
  have J : Inv X pins σ (upd H1 dx (.xd [(attr, v)])) ⟨G, g, d, t', os⟩ := I1.call' (ch := []) rfl U hok3 I1.bare (fun b z => absurd z (by simp))
  refine ⟨a, _, _, ⟨G, g, d, t', os⟩, _, .ref C, some dx, rfl, J, fun b o z => ?_, ge, hoe, ⟨rfl, rfl⟩, rfl, rfl, ?_, rfl, I1.bare, r, q⟩
  · by_cases hba : b = a
    · rw [hba, ge] at z
      cases z
    · exact (gk b hba).symm.trans z
  · rw [upd_ne (Ne.symm hda)]; exact hn
theorem pmk_sup {x : Str} {C fI : Addr} {attr p : Str} {k : Nat} (T : XSup X.K X.prog C fI attr p) (hg : Gl X x) (hm : X.mg x = some (.ref C)) (hsm : X.mg "super" = none) (hr : RG (k + 1) X.A) (ha : PA X (e :: es) ta)
    (hdb : (x == ("__debug__" : Str)) = false := by decide) (he : starEach (e :: es) X.env = (false, eval e X.env) :: starEach es X.env := by rfl) (hpl : (backTo pos (starEach es X.env)).any (·.1) = false := by rfl) :
    PMk X (.Call (.Name x pp) (e :: es) [] pos) (tMkS C attr ta) := by
  intro pins s σ H Q I h
  refine wpAny_Call_Name_kw (ld_glob I hg hm ?_ hdb)
  refine PySem.W.callWith_K (h₀ := X.base) I.ok.mod.kin T.kC (thn (ha.run pos pins s σ H _ I h) fun us s1 ⟨vs, H1, I1, r1, v, ev, q1⟩ => ⟨I1.kIn, ?_⟩) he hpl
  subst ev
  cases r1 with
  | @cons _ u _ _ ru rn =>
    cases rn
    show wpAny _ _ (call (.ref C) [u]) _ _ _
    obtain ⟨hp, g, dr, tk, os⟩ := s1
    have kk : ∀ b o, hp.get? b = some o → ((hp.push (PySem.W.kdv_tup [u])).push (PySem.HandSPX.excO C hp.objs.size)).get? b = some o := fun b o e => Heap.get?_push_of_some _ (Heap.get?_push_of_some _ e)
    have hget : ((hp.push (PySem.W.kdv_tup [u])).push (PySem.HandSPX.excO C hp.objs.size)).get? (hp.objs.size + 1) = some (PySem.HandSPX.excO C hp.objs.size) := by heap_get
    have hKe : X.K.lookup (hp.objs.size + 1) = none := by
      cases z : X.K.lookup (hp.objs.size + 1) with
      | none => rfl
      | some o => exact absurd (Heap.lt_size (I1.kIn _ _ z)) (Nat.not_lt.mpr (Nat.le_succ _))
    obtain ⟨mb, hmb, hboot⟩ := I1.ok.mod.blt
    have kb : ∀ b o, X.base.get? b = some o → ((hp.push (PySem.W.kdv_tup [u])).push (PySem.HandSPX.excO C hp.objs.size)).get? b = some o := fun b o z => kk b o (I1.bk b o z)
    refine wpAny_call (PySem.HandSPX.call_own PySem.F.excBase_ValueError (fun Y => PySem.HandSPX.refsVE_contains Y T.bm T.hbm) (I1.kIn _ _ T.hC) (PySem.W.looks_findIn I1.kIn T.iC) (fun self => PySem.W.bind_fn I1.kIn self T.tI) (by show 1 ≤ sizeLine; rw [sizeLine_eq]; omega)
      (init_sup T (t0 := hp.objs.size) (I1.kIn.keeps kk) (I1.ok.mod.glob.keeps kb) (hmb.keeps kb) ((hboot _ (by decide +kernel)).trans (by first | boot_by_name | rfl | kernel_rfl)) hsm (I1.ok.mod.nolimit.keeps kb) ?_ hget hKe fun h' tk' dx t1 k1 hd1 hda hoe hns => ?_))
    · exact (Room.mono hr.1 (Nat.le_refl _)).make C [u] [] |>.depth
    · refine ⟨rfl, ?_⟩
      have hdx : hp.get? dx = none := by
        cases z : hp.get? dx with
        | none => rfl
        | some o => rw [kk _ _ z] at hd1; cases hd1
      exact mk_sup (t1 := t1) (raises_own T.exC T.tyC) I1 (Nat.le_succ _) (fun b o z => k1 b o (Nat.ne_of_lt (Nat.lt_succ_of_lt (Heap.lt_size z))) (kk b o z)) hoe hns ru hdx hda (q1 dx (I1.hok.gone hdx))
end
end HC

set_option maxRecDepth 100000
namespace HC
open PySem PySem.Spec L2
open PyProof.Rows hiding St

/-! ## data within an except suite -/
abbrev XcT := Addr × Nat × List D × Value × Option Addr
def gxc (g : GX) (p : XcT) : GX := { g with xc := some p }
mutual
/-- the held exception is not in it -/
def noE : D → Bool
  | .err => false
  | .tup xs => noEs xs
  | .lst xs => noEs xs
  | .rol xs => noEs xs
  | .dct _ xs => noEs xs
  | .obj _ xs => noEs xs
  | _ => true
def noEs : List D → Bool
  | [] => true
  | d :: r => noE d && noEs r
end
section
variable {g : GX} {H : Hp} {F : FZ} {p : XcT}
mutual
theorem RepP.toX (hx : g.xc = none) : ∀ (d : D) (v : V), RepP g H F d v → RepP (gxc g p) H F d v
  | .non, _, h => h
  | .bl _, _, h => h
  | .int _, _, h => h
  | .str _, _, h => h
  | .tup ds, v, h => by
    obtain ⟨a, vs, e, h1, h2⟩ := h
    exact ⟨a, vs, e, h1, RepL.toX hx ds vs h2⟩
  | .lst ds, v, h => by
    obtain ⟨a, vs, e, h1, h2⟩ := h
    exact ⟨a, vs, e, h1, RepL.toX hx ds vs h2⟩
  | .rol ds, v, h => by
    obtain ⟨a, vs, e, h1, h2⟩ := h
    exact ⟨a, vs, e, h1, RepL.toX hx ds vs h2⟩
  | .dct ks ds, v, h => by
    obtain ⟨a, vs, e, h1, h2, h3⟩ := h
    exact ⟨a, vs, e, h1, RepL.toX hx ds vs h2, h3⟩
  | .obj c ds, v, h => by
    obtain ⟨a, dx, fs, vs, e, h1, h2, h3, h4, h5⟩ := h
    exact ⟨a, dx, fs, vs, e, h1, h2, h3, h4, RepL.toX hx ds vs h5⟩
  | .loc _, _, h => h
  | .err, _, h => by
    obtain ⟨q, e, _⟩ := h
    rw [hx] at e
    cases e
theorem RepL.toX (hx : g.xc = none) : ∀ (ds : List D) (vs : List V), RepL g H F ds vs → RepL (gxc g p) H F ds vs
  | [], _, h => h
  | d :: ds, vs, h => by
    obtain ⟨v, ws, e, h1, h2⟩ := h
    exact ⟨v, ws, e, RepP.toX hx d v h1, RepL.toX hx ds ws h2⟩
end
mutual
theorem RepP.ofX : ∀ (d : D) (v : V), noE d = true → RepP (gxc g p) H F d v → RepP g H F d v
  | .non, _, _, h => h
  | .bl _, _, _, h => h
  | .int _, _, _, h => h
  | .str _, _, _, h => h
  | .tup ds, v, n, h => by
    obtain ⟨a, vs, e, h1, h2⟩ := h
    exact ⟨a, vs, e, h1, RepL.ofX ds vs n h2⟩
  | .lst ds, v, n, h => by
    obtain ⟨a, vs, e, h1, h2⟩ := h
    exact ⟨a, vs, e, h1, RepL.ofX ds vs n h2⟩
  | .rol ds, v, n, h => by
    obtain ⟨a, vs, e, h1, h2⟩ := h
    exact ⟨a, vs, e, h1, RepL.ofX ds vs n h2⟩
  | .dct ks ds, v, n, h => by
    obtain ⟨a, vs, e, h1, h2, h3⟩ := h
    exact ⟨a, vs, e, h1, RepL.ofX ds vs n h2, h3⟩
  | .obj c ds, v, n, h => by
    obtain ⟨a, dx, fs, vs, e, h1, h2, h3, h4, h5⟩ := h
    exact ⟨a, dx, fs, vs, e, h1, h2, h3, h4, RepL.ofX ds vs n h5⟩
  | .loc _, _, _, h => h
  | .err, _, n, _ => by cases n
theorem RepL.ofX : ∀ (ds : List D) (vs : List V), noEs ds = true → RepL (gxc g p) H F ds vs → RepL g H F ds vs
  | [], _, _, h => h
  | d :: ds, vs, n, h => by
    obtain ⟨v, ws, e, h1, h2⟩ := h
    have n2 : (noE d && noEs ds) = true := n
    rw [Bool.and_eq_true] at n2
    exact ⟨v, ws, e, RepP.ofX d v n2.1 h1, RepL.ofX ds ws n2.2 h2⟩
end
variable {μ : List Addr}
theorem RepV.toX (hx : g.xc = none) {d : D} {v : V} (h : RepV g H F μ d v) : RepV (gxc g p) H F μ d v := h.imp id (RepP.toX hx d v)
theorem RepVs.toX (hx : g.xc = none) {ds : List D} {vs : List V} (h : RepVs g H F μ ds vs) : RepVs (gxc g p) H F μ ds vs := Paired.mapP h fun _ _ => RepV.toX hx
theorem RepO.toX (hx : g.xc = none) : ∀ {o : SO} {a : Addr}, RepO g H F μ o a → RepO (gxc g p) H F μ o a
  | .lst _, _, ⟨vs, h1, h2, h3⟩ => ⟨vs, h1, h2, h3.toX hx⟩
  | .dct _ _, _, ⟨vs, h1, h2⟩ => ⟨vs, h1.toX hx, h2⟩
  | .ins _ _, _, ⟨dx, fs, vs, h1, h2, h3, h4⟩ => ⟨dx, fs, vs, h1, h2, h3, h4.toX hx⟩
theorem RepX.toX (hx : g.xc = none) {c : Nat} {as : List D} {cls : Value} {dx : Option Addr} : RepX g H F μ c as cls dx → RepX (gxc g p) H F μ c as cls dx :=
  fun ⟨h1, x, vs, h2, h3, fs, h4, h5⟩ => ⟨h1, x, vs, h2, h3.toX hx, fs, h4, h5⟩
theorem RepN.ofX : ∀ {d : D} {a : Addr}, noE d = true → RepN (gxc g p) H F d a → RepN g H F d a
  | .lst _, _, n, ⟨vs, h1, h2, h3⟩ => ⟨vs, h1, h2, RepL.ofX _ _ n h3⟩
  | .dct _ _, _, n, ⟨vs, h1, h2⟩ => ⟨vs, RepL.ofX _ _ n h1, h2⟩
  | .obj _ _, _, n, ⟨dx, fs, vs, h1, h2, h3, h4⟩ => ⟨dx, fs, vs, h1, h2, h3, RepL.ofX _ _ n h4⟩
  | .non, _, _, h => h.elim | .bl _, _, _, h => h.elim | .int _, _, _, h => h.elim | .str _, _, _, h => h.elim | .tup _, _, _, h => h.elim | .rol _, _, _, h => h.elim | .loc _, _, _, h => h.elim | .err, _, _, h => h.elim
theorem Rel.toX {σ : Sl} {S : List SO} {σc : St} {a : Addr} {c i : Nat} {as : List D} {cls : Value} {dx : Option Addr} (R : Rel g μ F σ S σc H) (hx : g.xc = none) (rx : RepX g H F μ c as cls dx) :
    Rel (gxc g (a, c, as, cls, dx)) μ F (setD σ i .err) S (σc.set i (some (.ref a))) H := by
  have R2 : Rel (gxc g (a, c, as, cls, dx)) μ F σ S σc H := ⟨fun j d h => let ⟨v, h1, h2⟩ := R.env j d h; ⟨v, h1, h2.toX hx⟩, R.len, fun n o h => let ⟨b, h1, h2⟩ := R.st n o h; ⟨b, h1, h2.toX hx⟩, R.ml, R.nd, R.ap, R.dom,
    fun q e => by cases (Option.some.inj e); exact rx.toX hx⟩
  exact R2.set (.inr ⟨_, rfl, rfl⟩)
end

/-! ## raise -/
def sRaise (c : Nat) (fa : CA) : SC := fun σ S => match fa σ S with
  | .ok ds => match ds with
    | [d] => .ex c [d] σ S
    | _ => .bad
  | .ex c as => .ex c as σ S
  | .bad => .bad
section
variable {X : Cx} {g : GX} {W : WX} {e : Expr} {es : List Expr} {fa : CA} {pp pos pos' : Pos} {x attr p : Str} {C fI : Addr} {k c : Nat}
theorem s_raise (hc : X.calm = true) (tk : Takes X W) (T : XSup X.K X.prog C fI attr p) (hC : g.cl c = C) (hf : g.fn c = [attr]) (hg : Gl X x) (hm : X.mg x = some (.ref C)) (hsm : X.mg "super" = none) (hr : RG (k + 1) X.A) (ha : PA X (e :: es) (TL g W fa))
    (hdb : (x == ("__debug__" : Str)) = false := by decide) (he : starEach (e :: es) X.env = (false, eval e X.env) :: starEach es X.env := by rfl) (hpl : (backTo pos (starEach es X.env)).any (·.1) = false := by rfl) :
    PS X (.Raise (some (.Call (.Name x pp) (e :: es) [] pos)) none pos') (TSt g W (sRaise c fa)) :=
  (ps_raise hc tk (pmk_sup (k := k) T hg hm hsm hr ha hdb he hpl)).hc fun Dn σc H ⟨μ, F, σ, S, R, q⟩ => by
    refine ⟨μ, F, σ, S, R, ?_⟩
    unfold sRaise at q
    cases ea : fa σ S with
    | bad => rw [ea] at q; exact q
    | ex c as =>
      rw [ea] at q
      exact fun cls dx H' F' s x rx => q cls dx σc μ F' H' (.of s x) (R.mono s x) rx
    | ok ds =>
      rw [ea] at q
      match ds, q with
      | [d], q =>
        intro vs H1 F1 s1 x1 r1
        cases r1 with
        | @cons _ v _ _ rv rn =>
          cases rn
          refine ⟨v, rfl, fun dx hd => ?_⟩
          have sm : Same H1 (upd H1 dx (.xd [(attr, v)])) := same_new hd
          have R1 := R.mono s1 x1
          have fx : FX F1 H1 F1 (upd H1 dx (.xd [(attr, v)])) := ⟨fun _ h => h, fun _ h => .inl h, fun a h => let ⟨o, e⟩ := R1.dom a h; ⟨o, sm _ _ e⟩⟩
          refine q _ _ σc μ F1 _ (.of (s1.trans sm) (x1.trans s1 fx)) (R1.mono sm fx) ⟨by rw [hC], dx, [v], rfl, .cons (rv.mono sm fun _ h => h) .nil, _, upd_same, fun i f w h1 h2 => ?_⟩
          rw [hf] at h1
          match i, h1, h2 with
          | 0, h1, h2 =>
            cases h1; cases h2
            rw [lookup_put, if_pos rfl]
      | [], q => exact q.elim
      | _ :: _ :: _, q => exact q.elim
end
end HC

set_option maxRecDepth 100000
namespace HC
open PySem PySem.Spec L2
open PyProof.Rows hiding St

/-! ## try: .. except A as n: .. except B as n: .. (a suite returns) -/
def onlyRt (D : Ends) : Ends := { nx := fun _ _ => False, rt := D.rt, bk := fun _ _ => False, ct := fun _ _ => False }
abbrev HL := List (Value × (Addr → Value → Option Addr → TS))
def wNm (K : PySem.W.Frag) (i : Nat) (Wo : WX) (D : Ends) : HL → WX
  | [] => Wo
  | (c, ts) :: r => fun cls d σ H => ∃ b, PySem.W.exmOne K cls c = some b ∧ (b = true → ∀ a, H a = none → ts a cls d (onlyRt D) (σ.set i (some (.ref a))) H) ∧ (b = false → wNm K i Wo D r cls d σ H)
inductive Hd2 (X : Cx) (n : Str) : List ExceptHandler → HL → Prop
  | nil : Hd2 X n [] []
  | cons {x : Str} {c : Value} {ts : Addr → Value → Option Addr → TS} {b0 : Stmt} {su : List Stmt} {np ps : Pos} {hds : List ExceptHandler} {l : HL} (nm : Names X x c)
      (go : ∀ (a : Addr) (o : Obj) (cls : Value) (d : Option Addr) (pn : List (Addr × Obj)), Zc cls d o → (∃ vs, o.data = .fields vs) → PSs (X.suite a ((a, o) :: pn)) (b0 :: su) (ts a cls d)) (rest : Hd2 X n hds l) :
      Hd2 X n (.ExceptHandler (some (.Name x np)) (some n) (b0 :: su) ps :: hds) ((c, ts) :: l)
section
variable {X : Cx} {n : Str} {i : Nat} {pins : List (Addr × Obj)} {σ : St} {H : Hp} {s0 s : Shared} {a : Addr} {B : Heap} {cls : Value} {d : Option Addr} {D : Ends} {Wo : WX}
/-- the clauses, one behind the other, for an exception that has landed -/
theorem clauses (hs : X.stack = X.env :: X.outer) (hf : X.env.frame = some X.env.locals) (hN : X.N.Nodup) (hi : X.N[i]? = some n) (hln : X.env.kindOf n = some .local) (tk : Takes X Wo)
    (J0 : Inv X pins σ H s0) (fl : HandSPX.FlyingZ B (X.env :: X.outer) a (Zc cls d) s.heap) (na : H a = none)
    (nb : ∀ b o, s0.heap.get? b = some o → b ∉ frs X.stack → B.get? b = some o) (up : s0.heap.UpToSlots s.heap) (os : s.os = s0.os) (ag : AllBare s.gens) :
    ∀ {hds : List ExceptHandler} {l : HL}, Hd2 X n hds l → wNm X.K i Wo D l cls d σ H → wpAny (model X.prog X.w) X.A (handleBy (.ref a) X.env hds) (SP X pins D) X.xe s := by
  have land : ∀ {h : Heap}, HandSPX.FlyingZ B (X.env :: X.outer) a (Zc cls d) h → s0.heap.UpToSlots h → Inv X pins σ H { s with heap := h } := fun f u => J0.landed (s' := { s with heap := _ }) nb f.1 u os ag
  have put : ∀ {h : Heap}, HandSPX.FlyingZ B (X.env :: X.outer) a (Zc cls d) h → s0.heap.UpToSlots h → ∃ o, Zc cls d o ∧ (∃ vs, o.data = .fields vs) ∧ h.get? a = some o ∧ Inv (X.suite a ((a, o) :: (X.pn ++ pins))) [] σ H { s with heap := h } := fun {h} f u => by
    obtain ⟨o, vs, ho, hz, hd⟩ := f.there
    have nf : a ∉ frs (X.env :: X.outer) := fun hm => by
      obtain ⟨_, o2, e2, q⟩ := f.2.2.1.mem hm
      cases ho.symm.trans e2
      exact q _ hd
    exact ⟨o, hz, ⟨vs, hd⟩, ho, (land f u).suite ho hd na (fun z => nf (List.mem_filterMap.mpr ⟨X.env, List.mem_cons_self, by rw [hf, z]⟩)) fun hm => by
      obtain ⟨y, hy, q⟩ := List.mem_filterMap.mp hm
      exact nf (List.mem_filterMap.mpr ⟨y, List.mem_cons_of_mem _ hy, q⟩)⟩
  intro hds l hk
  induction hk with
  | nil =>
    intro w
    refine wpAny_handleBy_nil ?_
    obtain ⟨_, _, _, o, vs, T, oT, _, ho, _, hd, h1, _⟩ := id fl
    unfold PySem.passOn
    refine wpAny_bind (wpAny_field ho hd h1 ?_)
    rw [if_neg (by simp : ¬ ((Value.ref T == Value.none) = true))]
    have last : wpAny (model X.prog X.w) X.A (setFlight (.ref a) X.env.frame) (fun _ s4 => wpAny (model X.prog X.w) X.A (throw (.ref a) : Sem Flow) (SP X pins D) X.xe s4) X.xe s := by
      rw [hf]
      exact HandSPX.setFlight_upZ fl fun h4 hh u4 => wpAny_throw (tk _ _ ⟨a, B, s0, pins, σ, H, cls, d, rfl, J0, nb, up.trans u4, .inr (.inr (by rw [hs]; exact hh)), na, os, ag, w⟩)
    first
      | exact wpAny_bind (wpAny_pure (wpAny_bind last))
      | exact wpAny_bind last
  | @cons x c ts b0 su np ps hds l nm go rest ih =>
    intro ⟨b, eb, yes, no⟩
    obtain ⟨o, hz, hv, ho, S⟩ := put fl up
    refine wpAny_handleBy_cons (codeAny_handlers_test ?_) (by intro q; cases q)
    have ty : PySem.W.Looks (model X.prog X.w) s.heap (typeOf (.ref a)) cls := fun A Q E s2 k q => wpAny_typeOf_ref (k _ _ ho) (by rw [hz.1]; exact q)
    have ask := PySem.W.exm_one (M := model X.prog X.w) (land fl up).kIn ty eb
    have name : ∀ {Q : Value → Shared → Prop} {E : Value → Shared → Prop}, Q c s → wpAny (model X.prog X.w) (X.A.mark (some (.ref a))) (eval (.Name x np) X.env) Q E s := fun {Q E} q => by
      obtain ⟨gl, db, m | ⟨m, bv, nn⟩⟩ := nm
      · exact ld_glob S gl m q db
      · exact ld_blt S gl m bv q nn db
    refine name (ask.here ?_)
    cases b with
    | false => exact ih (no rfl)
    | true =>
      refine codeAny_handlers_suite_as (HandSPX.lands_againZ fl fun h4 f4 u4 => ?_)
      obtain ⟨o4, hz4, hv4, _, S4⟩ := put f4 (up.trans u4)
      refine store_ok (X := X.suite a ((a, o4) :: (X.pn ++ pins))) (v := .ref a) S4 hN hi (.inl hln) rfl (fun s5 S5 => ?_) (.inr hln)
      refine wpAny_mono ((go a o4 cls d _ hz4 hv4).run [] s5 _ H _ S5 (yes rfl a na)) (fun f s6 out => ?_) fun _ _ z => z.elim
      cases f with
      | ret u =>
        obtain ⟨v6, σ6, H6, S6, r6, q6⟩ := out
        exact gone_ok (S6.unsuite J0.ok) hN hi hln fun s7 J7 => ⟨_, _, _, J7, r6, q6⟩
      | next => obtain ⟨_, _, _, q6⟩ := out; exact q6.elim
      | brk => obtain ⟨_, _, _, q6⟩ := out; exact q6.elim
      | cont => obtain ⟨_, _, _, q6⟩ := out; exact q6.elim
variable {body : List Stmt} {h0 : ExceptHandler} {hds : List ExceptHandler} {l : HL} {pos : Pos} {tb : WX → TS}
theorem ps_try_nm (hs : X.stack = X.env :: X.outer) (hf : X.env.frame = some X.env.locals) (hN : X.N.Nodup) (hi : X.N[i]? = some n) (hln : X.env.kindOf n = some .local) (tk : Takes X Wo)
    (hb : ∀ (W : WX) (pn : List (Addr × Obj)) (xe : Value → Shared → Prop), Takes (X.tr pn xe) W → PassesOwn (model X.prog X.w) X.A X.env xe → PSs (X.tr pn xe) body (tb W)) (hh : Hd2 X n (h0 :: hds) l) :
    PS X (.Try body (h0 :: hds) [] [] pos) (fun D σ H => tb (wNm X.K i Wo D l) D σ H) := by
  refine ⟨fun pins s σ H D I h => wpAny_Try_except ?_⟩
  have fr : X.A.frames = some (X.env :: X.outer) := by rw [I.ok.frames, hs]
  refine wpAny_mono ((hb (wNm X.K i Wo D l) (X.pn ++ pins) (fun e s1 => wpAny (model X.prog X.w) X.A (noteFrame e X.env) (fun _ s2 => wpAny (model X.prog X.w) X.A (setFlight e none) (fun _ s3 =>
    wpAny (model X.prog X.w) X.A (handleBy e X.env (h0 :: hds)) (SP X pins D) X.xe s3) X.xe s2) X.xe s1) (fun u s2 xx => ?_) PassesOwn.looking).run [] s σ H D (I.toTry _) h) (fun f s1 out => ?_) fun e s1 he => he
  · obtain ⟨a, B, sI, pins2, σ2, H2, cls, d, rfl, J2, nb, up, sky, na, os, ag, w⟩ := xx
    have sky2 : Sky B (X.env :: X.outer) a (Zc cls d) X.env.locals s2.heap := by rw [← hs]; exact sky
    exact Sky.land Zc.steady fr hf sky2 fun h3 fl3 up3 => clauses (s := { s2 with heap := h3 }) hs hf hN hi hln tk (J2.ofTry I.ok) fl3 na nb (up.trans up3) os ag hh w
  · cases f with
    | next =>
      obtain ⟨σ2, H2, J2, q⟩ := out
      exact wpAny_execs_nil ⟨σ2, H2, J2.ofTry I.ok, q⟩
    | ret u =>
      obtain ⟨v, σ2, H2, J2, r, q⟩ := out
      exact ⟨v, σ2, H2, J2.ofTry I.ok, r, q⟩
    | brk =>
      obtain ⟨σ2, H2, J2, q⟩ := out
      exact ⟨σ2, H2, J2.ofTry I.ok, q⟩
    | cont =>
      obtain ⟨σ2, H2, J2, q⟩ := out
      exact ⟨σ2, H2, J2.ofTry I.ok, q⟩
end
end HC

set_option maxRecDepth 100000
namespace HC
open PySem PySem.Spec L2
open PyProof.Rows hiding St

/-! ## try with clauses -/
abbrev HF := List ((Nat → Option Bool) × (Nat → List D → SC))
def runH (i c : Nat) (as : List D) : HF → SC
  | [], σ, S => .ex c as σ S
  | (t, f) :: r, σ, S => match t c with
    | some true => match f c as (setD σ i .err) S with
      | .rt d fr => if noE d then .rt d fr else .bad
      | _ => .bad
    | some false => runH i c as r σ S
    | none => .bad
def sTry (i : Nat) (fb : SC) (hs : HF) : SC := fun σ S => match fb σ S with
  | .ex c as σ1 S1 => runH i c as hs σ1 S1
  | r => r
inductive HdD (X : Cx) (g : GX) (n : Str) : List ExceptHandler → HF → Prop
  | nil : HdD X g n [] []
  | cons {x : Str} {u : Value} {t : Nat → Option Bool} {f : Nat → List D → SC} {b0 : Stmt} {su : List Stmt} {np ps : Pos} {hds : List ExceptHandler} {l : HF} (nm : Names X x u) (sb : ∀ c b, t c = some b → PySem.W.exmOne X.K (.ref (g.cl c)) u = some b)
      (go : ∀ (a : Addr) (o : Obj) (d : Option Addr) (pn : List (Addr × Obj)) (c : Nat) (as : List D), Zc (.ref (g.cl c)) d o → (∃ vs, o.data = .fields vs) → PSs (X.suite a ((a, o) :: pn)) (b0 :: su) (TSt (gxc g (a, c, as, .ref (g.cl c), d)) (fun _ _ _ _ => False) (f c as)))
      (rest : HdD X g n hds l) : HdD X g n (.ExceptHandler (some (.Name x np)) (some n) (b0 :: su) ps :: hds) ((t, f) :: l)
section
variable {X : Cx} {g : GX} {W : WX} {n : Str} {i : Nat}
def tsOf (g : GX) (f : Nat → List D → SC) : Addr → Value → Option Addr → TS := fun a cls d D σ H => ∃ c as, cls = .ref (g.cl c) ∧ TSt (gxc g (a, c, as, .ref (g.cl c), d)) (fun _ _ _ _ => False) (f c as) D σ H
theorem back_of {p : XcT} {H : Hp} {μ : List Addr} {H' : Hp} {F' : FZ} {d : D} {fr : Bool} {v : V} (n : noE d = true) (b : Back (gxc g p) H μ H' F' d fr v) : Back g H μ H' F' d fr v :=
  b.imp (fun ⟨e, h⟩ => ⟨e, RepP.ofX d v n h⟩) fun ⟨e, a, ev, h1, h2, h3⟩ => ⟨e, a, ev, h1, h2, RepN.ofX n h3⟩
theorem HdD.hd (hx : g.xc = none) {hds : List ExceptHandler} {l : HF} (h : HdD X g n hds l) : ∃ m : HL, Hd2 X n hds m ∧
    ∀ (c : Nat) (as : List D) (Dn : Ends) (μ : List Addr) (F : FZ) (H : Hp) (σ : Sl) (S : List SO) (σc : St) (dx : Option Addr), Rel g μ F σ S σc H → RepX g H F μ c as (.ref (g.cl c)) dx → OkS g W μ F H (runH i c as l σ S) Dn → wNm X.K i W Dn m (.ref (g.cl c)) dx σc H := by
  induction h with
  | nil => exact ⟨[], .nil, fun c as Dn μ F H σ S σc dx R rx q => q _ dx σc μ F H .refl R rx⟩
  | @cons x u t f b0 su np ps hds l nm sb go rest ih =>
    obtain ⟨m, h1, h2⟩ := ih
    refine ⟨(u, tsOf g f) :: m, .cons nm (fun a o cls d pn hz hv => ⟨fun pins s σ H D I ⟨c, as, e, h⟩ => ?_⟩) h1, fun c as Dn μ F H σ S σc dx R rx q => ?_⟩
    · subst e
      exact (go a o d pn c as hz hv).run pins s σ H D I h
    · unfold runH at q
      cases e : t c with
      | none => rw [e] at q; exact q.elim
      | some b =>
        rw [e] at q
        refine ⟨b, sb c b e, fun hb a na => ?_, fun hb => ?_⟩
        · subst hb
          refine ⟨c, as, rfl, μ, F, setD σ i .err, S, R.toX hx rx, ?_⟩
          dsimp only at q
          cases ef : f c as (setD σ i .err) S with
          | rt d fr =>
            rw [ef] at q
            dsimp only at q
            split at q
            · rename_i hn
              exact fun v μ' F' H' l' b dm => q v μ' F' H' l' (back_of hn b) dm
            · exact q.elim
          | nx _ _ => rw [ef] at q; exact q.elim
          | bk _ _ => rw [ef] at q; exact q.elim
          | ct _ _ => rw [ef] at q; exact q.elim
          | ex _ _ _ _ => rw [ef] at q; exact q.elim
          | bad => rw [ef] at q; exact q.elim
        · subst hb
          exact h2 c as Dn μ F H σ S σc dx R rx q
variable {body : List Stmt} {h0 : ExceptHandler} {hds : List ExceptHandler} {l : HF} {pos : Pos} {fb : SC}
theorem s_try (hx : g.xc = none) (hs : X.stack = X.env :: X.outer) (hf : X.env.frame = some X.env.locals) (hN : X.N.Nodup) (hi : X.N[i]? = some n) (hln : X.env.kindOf n = some .local) (tk : Takes X W)
    (hb : ∀ (W : WX) (pn : List (Addr × Obj)) (xe : Value → Shared → Prop), Takes (X.tr pn xe) W → PassesOwn (model X.prog X.w) X.A X.env xe → PSs (X.tr pn xe) body (TSt g W fb)) (hh : HdD X g n (h0 :: hds) l) :
    PS X (.Try body (h0 :: hds) [] [] pos) (TSt g W (sTry i fb l)) := by
  obtain ⟨m, h1, h2⟩ := hh.hd (W := W) (i := i) hx
  refine (ps_try_nm (tb := fun W => TSt g W fb) hs hf hN hi hln tk hb h1).hc fun Dn σc H ⟨μ, F, σ, S, R, q⟩ => ⟨μ, F, σ, S, R, ?_⟩
  unfold sTry at q
  cases e : fb σ S with
  | ex c as σ1 S1 =>
    rw [e] at q
    intro cls dx σc' μ' F' H' l' R' rx
    obtain rfl : cls = .ref (g.cl c) := rx.1
    exact h2 c as Dn μ' F' H' σ1 S1 σc' dx R' rx (q.from l')
  | nx _ _ => rw [e] at q; exact q
  | bk _ _ => rw [e] at q; exact q
  | ct _ _ => rw [e] at q; exact q
  | rt _ _ => rw [e] at q; exact q
  | bad => rw [e] at q; exact q
end

/-! ## in a suite: e.f, isinstance(e, ..) -/
/-- what the written part says of an own exception class -/
structure XcK (K : PySem.W.Frag) (C : Addr) : Prop where
  ga : PySem.W.findIn K (.ref C) "__getattribute__" = some (some (.builtin "BaseException.__getattribute__"))
  gg : PySem.W.findIn K (.ref C) "__getattr__" = some none
  sb : PySem.W.subIn K (.ref C) (.type "BaseException") = some true
  hd : PySem.W.hasDictIn K C = true
  ha : PySem.W.findIn K (.ref C) "__class__" = some (some (.builtin "object.__class__"))
  hn : PySem.W.specialIn K (.builtin "object.__class__") "__get__" = some (some (.builtin "getset_descriptor.__get__"))
  ht : PySem.W.takesIn K (.builtin "object.__class__") = some true
  hm : PySem.W.mroIn K C (.type "object") = some true
def cErr (i : Nat) (k : Res) : CE := fun σ _ => match gets σ i with
  | some (some .err) => k
  | _ => .bad
def atR (at_ : Nat → Option Nat) (c : Nat) (as : List D) : Res := match at_ c with
  | some j => match gets as j with
    | some d => .ok d false
    | none => .bad
  | none => .bad
def isR (tab : Nat → Option Bool) (c : Nat) : Res := match tab c with
  | some b => .ok (.bl b) false
  | none => .bad
section
variable {X : Cx} {g : GX} {W : WX} {a : Addr} {o : Obj} {d : Option Addr} {pn : List (Addr × Obj)} {c i : Nat} {as : List D} {n f : Str} {p1 pos p p2 : Pos}
theorem err_at {μ : List Addr} {F : FZ} {σ : Sl} {S : List SO} {σc : St} {H : Hp} (R : Rel (gxc g (a, c, as, .ref (g.cl c), d)) μ F σ S σc H) (h : gets σ i = some (some .err)) : σc[i]? = some (some (.ref a)) := by
  obtain ⟨v, h1, h2⟩ := R.get h
  rcases h2 with ⟨_, _, z, _⟩ | h2
  · cases z
  · obtain ⟨q, e, ev⟩ := h2
    cases (Option.some.inj e)
    rw [h1, ev]
theorem cErr_q {Wx : XK} {μ : List Addr} {F : FZ} {σ : Sl} {S : List SO} {H : Hp} {k : Res} {Q : VK} (q : Ok g Wx H F μ (cErr i k σ S) Q) : gets σ i = some (some .err) ∧ Ok g Wx H F μ k Q := by
  unfold cErr at q
  split at q
  · rename_i h
    exact ⟨h, q⟩
  · exact q.elim
theorem q_xat {at_ : Nat → Option Nat} (hz : Zc (.ref (g.cl c)) d o) (hv : ∃ vs, o.data = .fields vs) (hN : X.N[i]? = some n) (hvis : Vis X.env.scope n) (hnd : (n == ("__debug__" : Str)) = false) (hcd : (n == ("__classdict__" : Str)) = false)
    (hK : ∀ c j, at_ c = some j → XcK X.K (g.cl c) ∧ PySem.W.findIn X.K (.ref (g.cl c)) f = some none ∧ (g.fn c)[j]? = some f)
    (hb : attributeBase (.Name n p1) f X.env (eval (.Name n p1) X.env) = eval (.Name n p1) X.env := by rfl) :
    PE (X.suite a ((a, o) :: pn)) (.Attribute (.Name n p1) f pos) (T (gxc g (a, c, as, .ref (g.cl c), d)) W (cErr i (atR at_ c as))) := by
  cases e : at_ c with
  | none =>
    refine ⟨fun pins s σ H Q I h => ?_⟩
    obtain ⟨μ, F, σd, S, R, q⟩ := h
    have q2 := (cErr_q q).2
    unfold atR at q2
    rw [e] at q2
    exact q2.elim
  | some j =>
    obtain ⟨k1, k2, k3⟩ := hK c j e
    refine (pe_xf (C := g.cl c) ⟨k1.ga, k1.gg, k1.sb, k1.hd⟩ k2 hz hv (pe_var (X := X.suite a ((a, o) :: pn)) hN hvis hnd hcd) hb).hc fun σc H Q ⟨μ, F, σ, S, R, q⟩ => ?_
    obtain ⟨q1, q2⟩ := cErr_q q
    refine ⟨.ref a, err_at R q1, rfl, rfl, ?_⟩
    obtain ⟨_, dd, vs, hd, rv, fs, h1, h2⟩ := R.xc _ rfl
    unfold atR at q2
    rw [e] at q2
    dsimp only at q2
    split at q2
    · rename_i d0 e0
      obtain ⟨v, hv1, hv2⟩ := rv.get (by rw [← gets_eq]; exact e0)
      exact ⟨dd, fs, v, hd, h1, h2 j f v k3 hv1, q2 v H F (Same.refl H) R.fx (.val hv2)⟩
    · exact q2.elim
/-- isinstance(e, c) -/
def rIsX (K : PySem.W.Frag) (C a : Addr) (d : Option Addr) : List V → Hp → VK → Prop := fun xs H Q => ∃ (c : V) (u : Value) (b : Bool), xs = [.ref a, c] ∧ ClsV c u ∧ PySem.W.kitOne K (.ref C) u = some b ∧ (∃ dd fs, d = some dd ∧ H dd = some (.xd fs)) ∧ Q (.bl b) H
def rIsXN (K : PySem.W.Frag) (C a : Addr) (d : Option Addr) : List V → Hp → VK → Prop := fun xs H Q => ∃ (tp : Addr) (cs : List V) (us : List Value) (b : Bool), xs = [.ref a, .ref tp] ∧ H tp = some (.tup cs) ∧ Paired ClsV cs us ∧ PySem.W.kitAny K (.ref C) us = some b ∧ (∃ dd fs, d = some dd ∧ H dd = some (.xd fs)) ∧ Q (.bl b) H
theorem xinst {pins : List (Addr × Obj)} {σ : St} {H : Hp} {s : Shared} {C : Addr} (hz : Zc (.ref C) d o) (hv : ∃ vs, o.data = .fields vs) (I : Inv (X.suite a ((a, o) :: pn)) pins σ H s) (h : ∃ dd fs, d = some dd ∧ H dd = some (.xd fs)) :
    ∃ od, PySem.W.InstAt s.heap a o C od := by
  obtain ⟨ho, _⟩ := I.pin (a, o) (List.mem_append_left _ List.mem_cons_self)
  obtain ⟨dd, fs, e, hd⟩ := h
  obtain ⟨vs, hv⟩ := hv
  obtain ⟨mA, hns, _⟩ := (show ObjOk X.prog X.w H s.heap dd (.xd fs) from I.hok dd _ hd)
  obtain ⟨od, hod, _⟩ := lookIn_ns hns
  exact ⟨some od, ho, hz.1, by unfold PySem.W.notCls; rw [hv] <;> rfl, by rw [hz.2, e]; exact hod⟩
theorem XcK.kit {K : PySem.W.Frag} {C : Addr} (T : XcK K C) (od : Option Obj) : PySem.W.KitX K (.ref a) (.ref C) (fun h => PySem.W.InstAt h a o C od) := by
  obtain ⟨cd, hcd, _⟩ := PySem.W.any_some T.hd
  exact PySem.W.kitx_exc (by rw [hcd]; rfl) T.ga T.gg T.sb T.ha T.hn T.ht T.hm
theorem call_isX {C : Addr} (T : XcK X.K C) (hz : Zc (.ref C) d o) (hv : ∃ vs, o.data = .fields vs) : CallR (X.suite a ((a, o) :: pn)) (.builtin "isinstance") (rIsX X.K C a d) := by
  intro pins s σ H xs us Q I r ⟨c, u, b, e1, k, e, hd, q⟩
  subst e1
  obtain ⟨u1, u2, rfl, r1, r2⟩ := vals2 r
  obtain rfl := k.eq r2
  obtain rfl : u1 = Value.ref a := r1
  obtain ⟨od, J⟩ := xinst hz hv I hd
  exact PySem.W.kia_one (T.kit od) I.kIn J e (fun z => nomatch z) fun tk => ⟨.bl b, H, I.tok tk, rfl, q⟩
theorem call_isXN {C : Addr} (T : XcK X.K C) (hz : Zc (.ref C) d o) (hv : ∃ vs, o.data = .fields vs) : CallR (X.suite a ((a, o) :: pn)) (.builtin "isinstance") (rIsXN X.K C a d) := by
  intro pins s σ H xs us Q I r ⟨tp, cs, ws, b, e1, hT, k, e, hd, q⟩
  subst e1
  obtain ⟨u1, u2, rfl, r1, r2⟩ := vals2 r
  obtain rfl : u1 = Value.ref a := r1
  obtain rfl : u2 = Value.ref tp := r2
  obtain ⟨od, J⟩ := xinst hz hv I hd
  obtain ⟨_, its, rv, ot, h1, h2, nn, h3⟩ := (show ObjOk X.prog X.w H s.heap tp (.tup cs) from I.hok tp _ hT)
  obtain rfl := ClsV.all k rv
  obtain ⟨oc, od2, dt, sl⟩ := ot
  simp only at h2 h3
  subst h2 h3
  exact PySem.W.kia_tup (T.kit od) I.kIn J h1 e (fun z => nomatch z) fun tk => ⟨.bl b, H, I.tok tk, rfl, q⟩
/-- a class by its name, own or built in -/
structure NmC (X : Cx) (x : Str) (v : V) (u : Value) : Prop where
  pe : ∀ (a : Addr) (pn : List (Addr × Obj)) (p : Pos), PE (X.suite a pn) (.Name x p) (tC v)
  cl : ClsV v u
theorem nmc_own {x : Str} {C : Addr} (hg : Gl X x) (hm : X.mg x = some (.ref C)) (hd : (x == ("__debug__" : Str)) = false := by decide) : NmC X x (.ref C) (.ref C) := ⟨fun a pn p => pe_glob (X := X.suite a pn) hg hm rfl hd, .own C⟩
theorem nmc_blt {x : Str} {t : String} (hg : Gl X x) (hm : X.mg x = none) (hv : bootBuiltins x = some (.type t)) (hn : x ≠ "__name__" := by decide) (hd : (x == ("__debug__" : Str)) = false := by decide) : NmC X x (.ty t) (.type t) :=
  ⟨fun a pn p => pe_bltn (X := X.suite a pn) hg hm hv rfl hn hd, .ty t⟩
theorem q_isX {tab : Nat → Option Bool} {x : Str} {v : V} {u : Value} (hz : Zc (.ref (g.cl c)) d o) (hv : ∃ vs, o.data = .fields vs) (hN : X.N[i]? = some n) (hvis : Vis X.env.scope n) (hnd : (n == ("__debug__" : Str)) = false) (hcd : (n == ("__classdict__" : Str)) = false)
    (hg : Gl X "isinstance") (hm : X.mg "isinstance" = none) (hc : NmC X x v u) (hK : ∀ c b, tab c = some b → XcK X.K (g.cl c) ∧ PySem.W.kitOne X.K (.ref (g.cl c)) u = some b)
    (hs1 : starEach [.Name n p1, .Name x p2] X.env = (false, eval (.Name n p1) X.env) :: starEach [.Name x p2] X.env := by rfl) (hs2 : starEach [.Name x p2] X.env = (false, eval (.Name x p2) X.env) :: starEach [] X.env := by rfl)
    (hpl : (backTo pos (starEach [.Name x p2] X.env)).any (·.1) = false := by rfl) :
    PE (X.suite a ((a, o) :: pn)) (.Call (.Name "isinstance" p) [.Name n p1, .Name x p2] [] pos) (T (gxc g (a, c, as, .ref (g.cl c), d)) W (cErr i (isR tab c))) := by
  cases e : tab c with
  | none =>
    refine ⟨fun pins s σ H Q I h => ?_⟩
    obtain ⟨μ, F, σd, S, R, q⟩ := h
    have q2 := (cErr_q q).2
    unfold isR at q2
    rw [e] at q2
    exact q2.elim
  | some b =>
    obtain ⟨k1, k2⟩ := hK c b e
    refine (pe_callB (X := X.suite a ((a, o) :: pn)) (call_isX k1 hz hv) hg hm (by decide +kernel) (pa_cons (pe_var (X := X.suite a ((a, o) :: pn)) hN hvis hnd hcd) (pa_cons (hc.pe a _ p2) pa_nil hs2) hs1) (by decide) (by decide) hs1 hpl).hc fun σc H Q ⟨μ, F, σ, S, R, q⟩ => ?_
    obtain ⟨q1, q2⟩ := cErr_q q
    unfold isR at q2
    rw [e] at q2
    obtain ⟨_, dd, vs, hd, rv, fs, h1, h2⟩ := R.xc _ rfl
    exact ⟨.ref a, err_at R q1, v, u, b, rfl, hc.cl, k2, ⟨dd, fs, hd, h1⟩, q2 _ H F (Same.refl H) R.fx (.val (.inr rfl))⟩
/-- several classes -/
inductive NmCs (X : Cx) : List Expr → List V → List Value → Prop
  | nil : NmCs X [] [] []
  | cons {x : Str} {v : V} {u : Value} {p : Pos} {es : List Expr} {vs : List V} {us : List Value} (h : NmC X x v u) (r : NmCs X es vs us) (hs : starEach (.Name x p :: es) X.env = (false, eval (.Name x p) X.env) :: starEach es X.env := by rfl) : NmCs X (.Name x p :: es) (v :: vs) (u :: us)
theorem NmCs.pa {es : List Expr} {vs : List V} {us : List Value} (h : NmCs X es vs us) (a : Addr) (pn : List (Addr × Obj)) : PA (X.suite a pn) es (fun _ H Q => Q vs H) := by
  induction h with
  | nil => exact pa_nil
  | @cons x v u p es vs us h r hs ih => exact (pa_cons (X := X.suite a pn) (h.pe a pn p) ih hs).hc fun _ _ _ q => q
theorem NmCs.cl {es : List Expr} {vs : List V} {us : List Value} (h : NmCs X es vs us) : Paired ClsV vs us := by
  induction h with
  | nil => exact .nil
  | cons h r hs ih => exact .cons h.cl ih
theorem q_isXN {tab : Nat → Option Bool} {n1 : Nat} {pc : Pos} {es : List Expr} {vs : List V} {us : List Value} (hz : Zc (.ref (g.cl c)) d o) (hv : ∃ vs, o.data = .fields vs) (hN : X.N[i]? = some n) (hvis : Vis X.env.scope n) (hnd : (n == ("__debug__" : Str)) = false)
    (hcd : (n == ("__classdict__" : Str)) = false) (hg : Gl X "isinstance") (hm : X.mg "isinstance" = none) (hc : NmCs X es vs us) (hl : vs.length ≤ 1000) (hK : ∀ c b, tab c = some b → XcK X.K (g.cl c) ∧ PySem.W.kitAny X.K (.ref (g.cl c)) us = some b)
    (hs1 : starEach [.Name n p1, .Tuple es n1 pc] X.env = (false, eval (.Name n p1) X.env) :: starEach [.Tuple es n1 pc] X.env := by rfl) (hs2 : starEach [.Tuple es n1 pc] X.env = (false, eval (.Tuple es n1 pc) X.env) :: starEach [] X.env := by rfl)
    (hpl : (backTo pos (starEach [.Tuple es n1 pc] X.env)).any (·.1) = false := by rfl) :
    PE (X.suite a ((a, o) :: pn)) (.Call (.Name "isinstance" p) [.Name n p1, .Tuple es n1 pc] [] pos) (T (gxc g (a, c, as, .ref (g.cl c), d)) W (cErr i (isR tab c))) := by
  cases e : tab c with
  | none =>
    refine ⟨fun pins s σ H Q I h => ?_⟩
    obtain ⟨μ, F, σd, S, R, q⟩ := h
    have q2 := (cErr_q q).2
    unfold isR at q2
    rw [e] at q2
    exact q2.elim
  | some b =>
    obtain ⟨k1, k2⟩ := hK c b e
    refine (pe_callB (X := X.suite a ((a, o) :: pn)) (call_isXN k1 hz hv) hg hm (by decide +kernel) (pa_cons (pe_var (X := X.suite a ((a, o) :: pn)) hN hvis hnd hcd) (pa_cons (pe_tup (X := X.suite a ((a, o) :: pn)) (hc.pa a _)) pa_nil hs2) hs1) (by decide) (by decide) hs1 hpl).hc fun σc H Q ⟨μ, F, σ, S, R, q⟩ => ?_
    obtain ⟨q1, q2⟩ := cErr_q q
    unfold isR at q2
    rw [e] at q2
    obtain ⟨_, dd, ws, hd, rv, fs, h1, h2⟩ := R.xc _ rfl
    refine ⟨.ref a, err_at R q1, by rw [sizeLine_eq]; omega, fun tp no => ⟨tp, vs, us, b, rfl, upd_same, hc.cl, k2, ⟨dd, fs, hd, ?_⟩, ?_⟩⟩
    · rw [upd_ne (ne_of_none h1 no)]; exact h1
    · have sm : Same H (upd H tp (.tup vs)) := same_new no
      exact q2 _ _ F sm ⟨fun _ h => h, fun _ h => .inl h, fun a h => let ⟨o, e⟩ := R.dom a h; ⟨o, sm _ _ e⟩⟩ (.val (.inr rfl))
end
end HC
namespace HC
open PySem PySem.Spec L2
theorem kitAny_mk {K : PySem.W.Frag} {t : Value} : ∀ l : List (Value × Bool), (∀ p ∈ l, PySem.W.kitOne K t p.1 = some p.2) → PySem.W.kitAny K t (l.map (·.1)) = some (l.any (·.2))
  | [], _ => rfl
  | (c, b) :: l, h => by
    have ih := kitAny_mk l fun p hp => h p (List.mem_cons_of_mem _ hp)
    have e : PySem.W.kitOne K t c = some b := h (c, b) (List.mem_cons_self ..)
    exact kitAny_cons e (fun z => by rw [List.any_cons, z]; exact ih) fun z => by rw [List.any_cons, z]; rfl
/-- the law's walk, the classes' places told by the text -/
theorem walk_hx {l : PySem.W.OpenLaw} {n k : Nat} {q : Program} {loose : List Str} {XP : (Str → Option Value) → Heap → Prop} {YP : World → Heap → Prop} {d : DefRec} {K : Params → PySem.W.Frag} {m : FnS} {x : Str}
    (hn : l.most = some n) (hn2 : n ≤ sizeLine) (hdf : d.params.defaults = []) (hr : RG k callerA) (inY : ∀ (w : World) (h : Heap), YP w h → (K w.params).In h)
    (Fo : ∀ (w : World) (mg : Str → Option Value) (fa : Addr) (h : Heap), (K w.params).In h → h.Ns mainGlobals mg → mg d.name = some (.ref fa) → ∃ (fd : FuncData) (g : GX), g.K = K w.params ∧ (∀ (s : Shared) (u : Value), BindsTo s fd ⟨[u], []⟩ [(x, u)]) ∧
        ∀ B : Heap, (K w.params).In B → B.Ns mainGlobals mg → FnG l.prog w (K w.params) mg B (L2.CX l.prog w) k fa fd [x] (fnSp g m))
    (say : ∀ ns : List Int, ns.length ≤ n → m [.rol (ns.map D.int)] = .ok (.bl true) false)
    (noX : ∀ (w : World) (H : Hp) (s : Shared) (e : Value) (s' : Shared), L2.CX l.prog w [] H s (fun _ _ _ => False) e s' → False) :
    PySem.W.WalkO q loose XP YP l.row.toRowW d [] (fun f vs => PySem.call f vs) := by
  refine Att.attach_call hn hdf fun w s₀ s₁ mg mb fa o pm cd doc a vs ns G Y ho hd hcd hmg hobj hints hlen nog => ?_
  have inK := inY w _ Y
  obtain ⟨fd, g, hg, hb, hF⟩ := Fo w mg fa _ inK G.T.g hmg
  exact head_call hr inK G.T.g G.T.b G.T.builtins G.T.nolimit nog hobj hints (Nat.le_trans hlen hn2) hF hb (fun H o sq => law_sp o (by rw [hg]; exact sq) (Nat.le_trans hlen hn2) (say ns hlen)) fun H e s' => noX w H s₁ e s'
end HC

set_option maxRecDepth 100000
namespace HC
open PySem
theorem kit_same {K : PySem.W.Frag} {C : Addr} : PySem.W.kitOne K (.ref C) (.ref C) = some true := by
  unfold PySem.W.kitOne
  rw [if_pos (beq_self_eq_true _)]
theorem kit_own {K : PySem.W.Frag} {C E : Addr} {b : Bool} (n : ((Value.ref E) == Value.ref C) = false) (h1 : PySem.W.hasDictIn K C = true) (h2 : PySem.W.typeIn K (.ref C) = some (.type "type")) (h3 : PySem.W.subIn K (.ref E) (.ref C) = some b) : PySem.W.kitOne K (.ref E) (.ref C) = some b := by
  obtain ⟨cd, hcd, _⟩ := PySem.W.any_some h1
  unfold PySem.W.kitOne
  rw [if_neg (by rw [n]; exact Bool.false_ne_true)]
  show (if ((PySem.W.clsIn K C).isSome && PySem.W.typeIn K (.ref C) == some (.type "type")) = true then _ else _) = _
  rw [if_pos (by rw [hcd, h2] <;> rfl)]
  exact h3
theorem kit_typ {K : PySem.W.Frag} {E : Addr} {t : String} {b : Bool} (h2 : PySem.W.kitMeta t = true) (h3 : PySem.W.subIn K (.ref E) (.type t) = some b) : PySem.W.kitOne K (.ref E) (.type t) = some b := by
  unfold PySem.W.kitOne
  rw [if_neg (by simp)]
  show (if PySem.W.kitMeta t = true then _ else _) = _
  rw [if_pos h2]
  exact h3
end HC

set_option maxRecDepth 100000
namespace HC
open PySem PySem.Spec L2
open PyProof.Rows hiding St

/-! ## a < b < c -/
def cChain (o1 o2 : List SO → D → D → Res) (a b c : CE) : CE := fun σ S => match a σ S with
  | .ok x _ => match b σ S with
    | .ok y _ => match o1 S x y with
      | .ok (.bl true) _ => match c σ S with
        | .ok z _ => o2 S y z
        | .ex c as => .ex c as
        | .bad => .bad
      | .ok (.bl false) _ => .ok (.bl false) false
      | .ok _ _ => .bad
      | .ex c as => .ex c as
      | .bad => .bad
    | .ex c as => .ex c as
    | .bad => .bad
  | .ex c as => .ex c as
  | .bad => .bad
section
variable {X : Cx} {g : GX} {E : WX} {a b c : Expr} {fa fb fc : CE} {pos : Pos} {r r' : R2} {f1 f2 : List SO → D → D → Res}
theorem chain_of (l1 : Lk2 g r f1) (l2 : Lk2 g r' f2) {σc : St} {H : Hp} {Q : VK} (h : T g E (cChain f1 f2 fa fb fc) σc H Q) : tChain r r' (T g E fa) (T g E fb) (T g E fc) σc H Q := by
  obtain ⟨μ, F, σ, S, R, q⟩ := h
  refine ⟨μ, F, σ, S, R, ?_⟩
  unfold cChain at q
  cases ea : fa σ S with
  | bad => rw [ea] at q; exact q
  | ex c as => rw [ea] at q; exact q
  | ok x fx =>
    rw [ea] at q
    intro vx H1 F1 s1 x1 r1
    obtain ⟨F2, x2, u2, rx⟩ := r1.frz x1
    have R2 := R.mono s1 x2
    refine ⟨μ, F2, σ, S, R2, ?_⟩
    dsimp only at q
    cases eb : fb σ S with
    | bad => rw [eb] at q; exact q
    | ex c as => rw [eb] at q; exact (q.from s1 x2).x
    | ok y fy =>
      rw [eb] at q
      intro vy H3 F3 s3 x3 r3
      obtain ⟨F4, x4, u4, ry⟩ := r3.frz x3
      have R4 := R2.mono s3 x4
      refine l1 (wat E σc) μ F4 σ S σc H3 x y vx vy _ R4 (rx.mono s3 x4.up) ry ?_
      dsimp only at q
      have q4 := (q.from s1 x2).from s3 x4
      cases eo : f1 S x y with
      | bad => rw [eo] at q4; exact q4
      | ex c as => rw [eo] at q4; exact q4.x
      | ok z fz =>
        rw [eo] at q4
        cases z with
        | bl k =>
          intro vz H5 F5 s5 x5 r5
          obtain ⟨F6, x6, u6, rz⟩ := r5.frz x5
          have R6 := R4.mono s5 x6
          refine ⟨k, rz.bl, ?_⟩
          cases k with
          | false => exact iteF ((q4.from s5 x6).here R6.dom (.inr rfl))
          | true =>
            refine iteT ⟨μ, F6, σ, S, R6, ?_⟩
            have q6 := q4.from s5 x6
            dsimp only at q6
            cases ec : fc σ S with
            | bad => rw [ec] at q6; exact q6
            | ex c as => rw [ec] at q6; exact q6.x
            | ok w fw =>
              rw [ec] at q6
              intro vw H7 F7 s7 x7 r7
              obtain ⟨F8, x8, u8, rw'⟩ := r7.frz x7
              exact l2 (wat E σc) μ F8 σ S σc H7 y w vy vw Q (R6.mono s7 x8) ((ry.mono s5 x6.up).mono s7 x8.up) rw' (q6.from s7 x8)
        | _ => exact q4.elim
theorem q_chain {op op' : CmpOp} (ho : OpR X (compareOp op) r) (l1 : Lk2 g r f1) (ho' : OpR X (compareOp op') r') (l2 : Lk2 g r' f2) (ha : PE X a (T g E fa)) (hb : PE X b (T g E fb)) (hc : PE X c (T g E fc))
    (hm : lastMarks [op, op'] [b, c] = false := by with_unfolding_all rfl) : PE X (.Compare a [op, op'] [b, c] pos) (T g E (cChain f1 f2 fa fb fc)) := (pe_chain ho ho' ha hb hc hm).hc fun σc H Q h => chain_of l1 l2 h
theorem q_chainT {op op' : CmpOp} (ho : OpR X (compareOp op) r) (l1 : Lk2 g r f1) (ho' : OpR X (compareOp op') r') (l2 : Lk2 g r' f2) (ha : PE X a (T g E fa)) (hb : PE X b (T g E fb)) (hc : PE X c (T g E fc))
    (hm : lastMarks [op, op'] [b, c] = false := by with_unfolding_all rfl) : PT X (.Compare a [op, op'] [b, c] pos) (TB g E (cChain f1 f2 fa fb fc)) := (pt_chain ho ho' ha hb hc hm).hc fun σc H Q h => chain_of l1 l2 h
end
/-! ## a, b = x, y -/
def sPar2 (i j : Nat) (fa : CA) : SC := fun σ S => match fa σ S with
  | .ok [x, y] => .nx (setD (setD σ i x) j y) S
  | .ok _ => .bad
  | .ex c as => .ex c as σ S
  | .bad => .bad
def sPar3 (i j l : Nat) (fa : CA) : SC := fun σ S => match fa σ S with
  | .ok [x, y, z] => .nx (setD (setD (setD σ i x) j y) l z) S
  | .ok _ => .bad
  | .ex c as => .ex c as σ S
  | .bad => .bad
section
variable {X : Cx} {g : GX} {W : WX} {a b c : Expr} {fa : CA} {pos px py pz pt : Pos} {x y z : Str} {i j l : Nat} {kt k2 : Nat} {pt2 : Pos}
theorem s_par2 (hc : X.calm = true) (hN : X.N.Nodup) (hi : X.N[i]? = some x) (hj : X.N[j]? = some y) (hij : i ≠ j) (hx : X.env.scope.names.lookup x = some .local) (hy : X.env.scope.names.lookup y = some .local) (ha : PA X [a, b] (TL g W fa))
    (hw : swappedStores [.Tuple [.Name x px, .Name y py] kt pt] (.Tuple [a, b] k2 pt2) X.env = pure (some [x, y]))
    (hs : swapsWithSole [.Tuple [.Name x px, .Name y py] kt pt] (.Tuple [a, b] k2 pt2) pos.line X.env = pure false := by rfl) :
    PS X (.Assign [.Tuple [.Name x px, .Name y py] kt pt] (.Tuple [a, b] k2 pt2) pos) (TSt g W (sPar2 i j fa)) :=
  (ps_par hc hN hi hj hij hx hy ha hw hs).hc fun Dn σc H ⟨μ, F, σ, S, R, q⟩ => by
    refine ⟨μ, F, σ, S, R, ?_⟩
    unfold sPar2 at q
    cases ea : fa σ S with
    | bad => rw [ea] at q; exact q
    | ex c as => rw [ea] at q; exact fun cls dx H' F' s x rx => q cls dx σc μ F' H' (.of s x) (R.mono s x) rx
    | ok ds =>
      rw [ea] at q
      intro vs H1 F1 s1 x1 r1
      match ds, q, r1 with
      | [d1, d2], q, r1 =>
        cases r1 with
        | cons ra rr =>
          cases rr with
          | cons r2 rr =>
            cases rr
            exact ⟨_, _, rfl, q _ μ F1 H1 (.of s1 x1) (((R.mono s1 x1).set ra).set r2)⟩
      | [], q, _ => exact q.elim
      | [_], q, _ => exact q.elim
      | _ :: _ :: _ :: _, q, _ => exact q.elim
theorem s_par3 (hc : X.calm = true) (hN : X.N.Nodup) (hi : X.N[i]? = some x) (hj : X.N[j]? = some y) (hl : X.N[l]? = some z) (hij : i ≠ j) (hil : i ≠ l) (hjl : j ≠ l) (hx : X.env.scope.names.lookup x = some .local) (hy : X.env.scope.names.lookup y = some .local)
    (hz : X.env.scope.names.lookup z = some .local) (ha : PA X [a, b, c] (TL g W fa)) (hw : swappedStores [.Tuple [.Name x px, .Name y py, .Name z pz] kt pt] (.Tuple [a, b, c] k2 pt2) X.env = pure (some [x, y, z]))
    (hs : swapsWithSole [.Tuple [.Name x px, .Name y py, .Name z pz] kt pt] (.Tuple [a, b, c] k2 pt2) pos.line X.env = pure false := by rfl) :
    PS X (.Assign [.Tuple [.Name x px, .Name y py, .Name z pz] kt pt] (.Tuple [a, b, c] k2 pt2) pos) (TSt g W (sPar3 i j l fa)) :=
  (ps_par3 hc hN hi hj hl hij hil hjl hx hy hz ha hw hs).hc fun Dn σc H ⟨μ, F, σ, S, R, q⟩ => by
    refine ⟨μ, F, σ, S, R, ?_⟩
    unfold sPar3 at q
    cases ea : fa σ S with
    | bad => rw [ea] at q; exact q
    | ex c as => rw [ea] at q; exact fun cls dx H' F' s x rx => q cls dx σc μ F' H' (.of s x) (R.mono s x) rx
    | ok ds =>
      rw [ea] at q
      intro vs H1 F1 s1 x1 r1
      match ds, q, r1 with
      | [d1, d2, d3], q, r1 =>
        cases r1 with
        | cons ra rr =>
          cases rr with
          | cons r2 rr =>
            cases rr with
            | cons r3 rr =>
              cases rr
              exact ⟨_, _, _, rfl, q _ μ F1 H1 (.of s1 x1) ((((R.mono s1 x1).set ra).set r2).set r3)⟩
      | [], q, _ => exact q.elim
      | [_], q, _ => exact q.elim
      | [_, _], q, _ => exact q.elim
      | _ :: _ :: _ :: _ :: _, q, _ => exact q.elim
end
/-! to run -/
def par2K (i j : Nat) (σ : Sl) (S : List SO) : List D → RS
  | [x, y] => .nx (setD (setD σ i x) j y) S
  | _ => .bad
def par3K (i j l : Nat) (σ : Sl) (S : List SO) : List D → RS
  | [x, y, z] => .nx (setD (setD (setD σ i x) j y) l z) S
  | _ => .bad
@[simp] theorem par2K_e {i j : Nat} {σ : Sl} {S : List SO} {x y : D} : par2K i j σ S [x, y] = .nx (setD (setD σ i x) j y) S := id rfl
@[simp] theorem par3K_e {i j l : Nat} {σ : Sl} {S : List SO} {x y z : D} : par3K i j l σ S [x, y, z] = .nx (setD (setD (setD σ i x) j y) l z) S := id rfl
@[simp] theorem sPar2_e {i j : Nat} {fa : CA} {σ : Sl} {S : List SO} : sPar2 i j fa σ S = lsB (fa σ S) σ S (par2K i j σ S) := by
  unfold sPar2 par2K
  cases fa σ S with
  | ok ds => match ds with
    | [] => rfl
    | [_] => rfl
    | [_, _] => rfl
    | _ :: _ :: _ :: _ => rfl
  | _ => rfl
@[simp] theorem sPar3_e {i j l : Nat} {fa : CA} {σ : Sl} {S : List SO} : sPar3 i j l fa σ S = lsB (fa σ S) σ S (par3K i j l σ S) := by
  unfold sPar3 par3K
  cases fa σ S with
  | ok ds => match ds with
    | [] => rfl
    | [_] => rfl
    | [_, _] => rfl
    | [_, _, _] => rfl
    | _ :: _ :: _ :: _ :: _ => rfl
  | _ => rfl
@[simp] theorem cChain_e {o1 o2 : List SO → D → D → Res} {a b c : CE} {σ : Sl} {S : List SO} : cChain o1 o2 a b c σ S = rB (a σ S) fun x => rB (b σ S) fun y => tB (o1 S x y) fun k => if k = true then rB (c σ S) fun z => o2 S y z else .ok (.bl false) false := by
  unfold cChain
  cases a σ S with
  | ok x _ =>
    dsimp only [rB]
    cases b σ S with
    | ok y _ =>
      dsimp only
      cases o1 S x y with
      | ok z _ => cases z with
        | bl k => cases k with
          | true => dsimp only [tB]; (rw [if_pos rfl]) <;> (cases c σ S <;> rfl)
          | false => rfl
        | _ => rfl
      | _ => rfl
    | _ => rfl
  | _ => rfl
/-! raise, try -/
def raiseK (c : Nat) (σ : Sl) (S : List SO) : List D → RS
  | [d] => .ex c [d] σ S
  | _ => .bad
@[simp] theorem raiseK_e {c : Nat} {σ : Sl} {S : List SO} {d : D} : raiseK c σ S [d] = .ex c [d] σ S := id rfl
@[simp] theorem sRaise_e {c : Nat} {fa : CA} {σ : Sl} {S : List SO} : sRaise c fa σ S = lsB (fa σ S) σ S (raiseK c σ S) := by
  unfold sRaise raiseK
  cases fa σ S with
  | ok ds => match ds with
    | [] => rfl
    | [_] => rfl
    | _ :: _ :: _ => rfl
  | _ => rfl
def tryB (r : RS) (k : Nat → List D → SC) : RS := match r with
  | .ex c as σ S => k c as σ S
  | r => r
def hdK (o : Option Bool) (y n : RS) : RS := match o with
  | some true => match y with
    | .rt d fr => if noE d then .rt d fr else .bad
    | _ => .bad
  | some false => n
  | none => .bad
section
variable {c i : Nat} {as : List D} {σ : Sl} {S : List SO} {k : Nat → List D → SC} {d : D} {fr : Bool} {y n : RS} {fb : SC} {hs : HF}
@[simp] theorem tryB_ex : tryB (.ex c as σ S) k = k c as σ S := id rfl
@[simp] theorem tryB_nx : tryB (.nx σ S) k = .nx σ S := id rfl
@[simp] theorem tryB_rt : tryB (.rt d fr) k = .rt d fr := id rfl
@[simp] theorem tryB_bad : tryB .bad k = .bad := id rfl
@[simp] theorem hdK_t : hdK (some true) (.rt d fr) n = if noE d then .rt d fr else .bad := id rfl
@[simp] theorem hdK_f : hdK (some false) y n = n := id rfl
@[simp] theorem sTry_e : sTry i fb hs σ S = tryB (fb σ S) fun c as => runH i c as hs := by unfold sTry tryB; cases fb σ S <;> rfl
@[simp] theorem runH_n : runH i c as [] σ S = .ex c as σ S := id rfl
@[simp] theorem runH_c {t : Nat → Option Bool} {f : Nat → List D → SC} : runH i c as ((t, f) :: hs) σ S = hdK (t c) (f c as (setD σ i .err) S) (runH i c as hs σ S) := by
  conv => lhs; unfold runH
  unfold hdK
  cases t c with
  | none => rfl
  | some b => cases b <;> rfl
@[simp] theorem cErr_e {k : Res} {σ : Sl} : cErr i k σ S = match gets σ i with | some (some .err) => k | _ => .bad := id rfl
@[simp] theorem noE_non : noE .non = true := id rfl
@[simp] theorem noE_bl {b : Bool} : noE (.bl b) = true := id rfl
@[simp] theorem noE_int {b : Int} : noE (.int b) = true := id rfl
@[simp] theorem noE_str {b : PySem.Str} : noE (.str b) = true := id rfl
@[simp] theorem noE_tup {ds : List D} : noE (.tup ds) = noEs ds := id rfl
@[simp] theorem noE_lst {ds : List D} : noE (.lst ds) = noEs ds := id rfl
@[simp] theorem noEs_n : noEs [] = true := id rfl
@[simp] theorem noEs_c {ds : List D} : noEs (d :: ds) = (noE d && noEs ds) := id rfl
end
end HC

set_option maxRecDepth 2000
namespace HC
open PySem

/-! ## what repr shows is a text of characters -/
theorem strOk_of (s : String) : PyData.strOk (Str.ofString s) = true := by
  unfold PyData.strOk
  rw [Str.ofString_eq_toList]
  simp only [Array.all_eq_true']
  intro x hx
  simp only [List.mem_toArray, List.mem_map] at hx
  obtain ⟨c, _, rfl⟩ := hx
  have h : c.toNat.isValidChar := c.valid
  simp only [decide_eq_true_eq]
  rcases h with h | ⟨_, h⟩ <;> omega
theorem strOk_app (a b : Str) : PyData.strOk (a ++ b) = (PyData.strOk a && PyData.strOk b) := by
  unfold PyData.strOk
  rw [Str.cps_append, Array.all_append]
theorem strOk_from : ∀ (ts : List Str) (k : Nat) (acc : Str), PyData.strOk acc = true → (∀ t ∈ ts, PyData.strOk t = true) → PyData.strOk (PySem.textFrom k acc ts) = true
  | [], k, acc, h, _ => h
  | t :: r, k, acc, h, ht => by
    refine strOk_from r (k + 1) _ ?_ fun u hu => ht u (List.mem_cons_of_mem _ hu)
    rw [strOk_app, strOk_app, h, ht t (List.mem_cons_self ..), strOk_of]
    rfl
theorem strOk_join : ∀ ts : List Str, (∀ t ∈ ts, PyData.strOk t = true) → PyData.strOk (Str.join ", " ts) = true
  | [], _ => by
    show PyData.strOk Str.empty = true
    unfold PyData.strOk Str.empty
    simp
  | [t], h => h t (List.mem_cons_self ..)
  | t :: u :: r, h => by
    show PyData.strOk (t ++ _ ++ Str.join ", " (u :: r)) = true
    rw [strOk_app, strOk_app, h t (List.mem_cons_self ..), strOk_of, strOk_join (u :: r) fun v hv => h v (List.mem_cons_of_mem _ hv)]
    rfl
mutual
def txOk : PyData → Bool
  | .str x => PyData.strOk (PyData.shown (.str x))
  | .list xs => txOks xs
  | .tuple xs => txOks xs
  | .dict _ => false
  | _ => true
def txOks : List PyData → Bool
  | [] => true
  | x :: r => txOk x && txOks r
end
mutual
theorem shown_ok : ∀ x : PyData, txOk x = true → PyData.strOk x.shown = true
  | .none, _ => strOk_of _
  | .bool b, _ => by cases b <;> exact strOk_of _
  | .int i, _ => strOk_of _
  | .str x, h => h
  | .list xs, h => by
    show PyData.strOk (PySem.textFrom 0 "[" (PyData.shownAll xs) ++ _) = true
    rw [strOk_app, strOk_from _ _ _ (strOk_of _) (shown_oks xs h), strOk_of]
    rfl
  | .tuple xs, h => by
    show PyData.strOk (_ ++ Str.join ", " (PyData.shownAll xs) ++ _) = true
    rw [strOk_app, strOk_app, strOk_of, strOk_join _ (shown_oks xs h), strOk_of]
    rfl
  | .dict _, h => nomatch h
theorem shown_oks : ∀ xs : List PyData, txOks xs = true → ∀ t ∈ PyData.shownAll xs, PyData.strOk t = true
  | [], _, _, h => nomatch h
  | x :: r, h, t, ht => by
    have h2 : (txOk x && txOks r) = true := h
    rw [Bool.and_eq_true] at h2
    rcases List.mem_cons.mp ht with ht | ht
    · rw [ht]
      exact shown_ok x h2.1
    · exact shown_oks r h2.2 t ht
end
end HC

set_option maxRecDepth 100000
namespace HC
open PySem PySem.Spec L2
open PyProof.Rows hiding St
/-! ## the last list of the store is frozen -/
def subD (n : Nat) (x : D) : D → D
  | .loc k => if k = n then x else .loc k
  | d => d
def subO (n : Nat) (x : D) : SO → SO
  | .lst xs => .lst (xs.map (subD n x))
  | .dct ks ws => .dct ks (ws.map (subD n x))
  | .ins c ws => .ins c (ws.map (subD n x))
def subS (n : Nat) (x : D) (σ : Sl) : Sl := σ.map fun o => o.map (subD n x)
def frzR (n : Nat) (r : RS) : RS := match r with
  | .nx σ S => if S.length = n + 1 then (match gets S n with
    | some (.lst xs) => if pureL xs then .nx (subS n (.lst xs) σ) ((S.take n).map (subO n (.lst xs))) else .bad
    | _ => .bad) else .nx σ S
  | r => r
/-- f, and what list it has made beyond the ones of the store is frozen -/
def sFrz (f : SC) : SC := fun σ S => frzR S.length (f σ S)
section
variable {g : GX} {W : WX} {f : SC} {μ : List Addr} {F : FZ} {σ : Sl} {S : List SO} {σc : St} {H : Hp}
theorem subD_rep {xs : List D} {a : Addr} {vs : List V} (hH : H a = some (.lst vs)) (hz : vs.length ≤ sizeLine) (rl : RepL g H F xs vs) {d : D} {v : V} (r : RepV g H F (μ ++ [a]) d v) : RepV g H (fun b => F b ∨ b = a) μ (subD μ.length (.lst xs) d) v := by
  have up : ∀ b, F b → F b ∨ b = a := fun b h => .inl h
  rcases r with ⟨k, b, rfl, hk, rfl⟩ | r
  · by_cases e : k = μ.length
    · subst e
      rw [List.getElem?_append_right (Nat.le_refl _), Nat.sub_self] at hk
      cases hk
      have es : subD μ.length (.lst xs) (.loc μ.length) = .lst xs := if_pos rfl
      rw [es]
      exact .inr ⟨a, vs, rfl, ⟨.inr rfl, hH, hz⟩, RepL.mono (Same.refl H) up _ _ rl⟩
    · have es : subD μ.length (.lst xs) (.loc k) = .loc k := if_neg e
      rw [es]
      have hl := (List.getElem?_eq_some_iff.mp hk).1
      rw [List.length_append] at hl
      have hl2 : k < μ.length := by
        have : [a].length = 1 := rfl
        omega
      rw [List.getElem?_append_left hl2] at hk
      exact .inl ⟨k, b, rfl, hk, rfl⟩
  · have es : subD μ.length (.lst xs) d = d := by
      cases d <;> first | rfl | exact r.elim
    rw [es]
    exact .inr (RepP.mono (Same.refl H) up _ _ r)
theorem subDs_rep {xs : List D} {a : Addr} {vs : List V} (hH : H a = some (.lst vs)) (hz : vs.length ≤ sizeLine) (rl : RepL g H F xs vs) : ∀ {ds : List D} {us : List V}, RepVs g H F (μ ++ [a]) ds us → RepVs g H (fun b => F b ∨ b = a) μ (ds.map (subD μ.length (.lst xs))) us
  | _, _, .nil => .nil
  | _, _, .cons r t => .cons (subD_rep hH hz rl r) (subDs_rep hH hz rl t)
theorem frz_of {Dn : Ends} (h : TSt g W (sFrz f) Dn σc H) : TSt g W f Dn σc H := by
  obtain ⟨μ, F, σ, S, R, q⟩ := h
  refine ⟨μ, F, σ, S, R, ?_⟩
  unfold sFrz at q
  cases e : f σ S with
  | nx σ' S' =>
    rw [e] at q
    unfold frzR at q
    dsimp only at q
    by_cases hl : S'.length = S.length + 1
    · rw [if_pos hl] at q
      cases eg : gets S' S.length with
      | none => rw [eg] at q; exact q.elim
      | some o =>
        rw [eg] at q
        cases o with
        | lst xs =>
          dsimp only at q
          by_cases hp : pureL xs = true
          · rw [if_pos hp] at q
            intro σc' μ' F' H' l R'
            obtain ⟨ν, eν, nν⟩ := l.mu
            have h1 := R'.ml
            have h2 := R.ml
            rw [eν, List.length_append] at h1
            obtain ⟨a, ea⟩ : ∃ a, ν = [a] := by
              cases ν with
              | nil => simp at h1; omega
              | cons a t => cases t with
                | nil => exact ⟨a, rfl⟩
                | cons _ _ => simp at h1; omega
            subst ea
            subst eν
            rw [gets_eq] at eg
            obtain ⟨b, hb, vs, k1, k2, k3⟩ := R'.st _ _ eg
            rw [← h2, List.getElem?_append_right (Nat.le_refl _), Nat.sub_self] at hb
            cases hb
            have rl := k3.pure hp
            have na : H a = none := nν a (List.mem_cons_self ..)
            have nm : a ∉ μ := fun hm => by
              have := List.nodup_append.mp R'.nd
              exact this.2.2 a hm a (List.mem_cons_self ..) rfl
            have l2 : Later μ F H μ (fun b => F' b ∨ b = a) H' := ⟨⟨[], by simp, fun x h => (nomatch h)⟩, fun x h => .inl (l.up x h), l.keep, l.dom, fun x h => h.elim (l.nw x) fun h => .inr (by rw [h]; exact na)⟩
            refine q σc' μ _ H' l2 ?_
            have hsub := fun {d v} (r : RepV g H' F' (μ ++ [a]) d v) => subD_rep (g := g) (xs := xs) k1 k2 rl r
            have hsubs := fun {ds us} (r : RepVs g H' F' (μ ++ [a]) ds us) => subDs_rep (g := g) (xs := xs) k1 k2 rl r
            rw [← h2]
            refine ⟨fun i d h => ?_, ?_, fun k o h => ?_, ?_, (List.nodup_append.mp R'.nd).1, fun b hb hF => ?_, fun b hb => ?_, fun p hp2 => RepX.later R l2 (R.xc p hp2)⟩
            · unfold subS at h
              rw [List.getElem?_map] at h
              cases es : σ'[i]? with
              | none => rw [es] at h; cases h
              | some od =>
                rw [es] at h
                cases od with
                | none => cases h
                | some d0 =>
                  cases h
                  obtain ⟨v, q1, q2⟩ := R'.env i d0 es
                  exact ⟨v, q1, hsub q2⟩
            · unfold subS
              rw [List.length_map]
              exact R'.len
            · rw [List.getElem?_map] at h
              cases es : (S'.take μ.length)[k]? with
              | none => rw [es] at h; cases h
              | some o0 =>
                rw [es] at h
                cases h
                rw [List.getElem?_take] at es
                split at es
                · rename_i hk
                  obtain ⟨b, q1, q2⟩ := R'.st k o0 es
                  rw [List.getElem?_append_left hk] at q1
                  refine ⟨b, q1, ?_⟩
                  have up : ∀ b, F' b → F' b ∨ b = a := fun b h => .inl h
                  cases o0 with
                  | lst zs => obtain ⟨ws, z1, z2, z3⟩ := q2; exact ⟨ws, z1, z2, hsubs z3⟩
                  | dct ks zs => obtain ⟨ws, z1, z2⟩ := q2; exact ⟨ws, hsubs z1, z2⟩
                  | ins c zs => obtain ⟨dx, fs, ws, z1, z2, z3, z4⟩ := q2; exact ⟨dx, fs, ws, z1, z2, z3, hsubs z4⟩
                · cases es
            · rw [List.length_map, List.length_take]
              omega
            · rcases hF with hF | hF
              · exact R'.ap b (List.mem_append.mpr (.inl hb)) hF
              · exact nm (hF ▸ hb)
            · rcases hb with hb | hb
              · exact R'.dom b hb
              · exact ⟨_, by rw [hb]; exact k1⟩
          · rw [if_neg hp] at q
            exact q.elim
        | _ => exact q.elim
    · rw [if_neg hl] at q
      exact q
  | _ => rw [e] at q; exact q
theorem s_frz {X : Cx} {st : Stmt} (h : PS X st (TSt g W f)) : PS X st (TSt g W (sFrz f)) := h.hc fun Dn σc H h => frz_of h
theorem ss_frz {X : Cx} {st : List Stmt} (h : PSs X st (TSt g W f)) : PSs X st (TSt g W (sFrz f)) := h.hc fun Dn σc H h => frz_of h
end
section
variable {σ : Sl} {S : List SO} {f : SC}
@[simp] theorem sFrz_e : sFrz f σ S = frzR S.length (f σ S) := id rfl
theorem frzR_e {n : Nat} {xs : List D} (hp : pureL xs = true) (hS : S.length = n) : frzR n (.nx σ (S ++ [.lst xs])) = .nx (subS n (.lst xs) σ) (S.map (subO n (.lst xs))) := by
  unfold frzR
  have h1 : (S ++ [SO.lst xs]).length = n + 1 := by rw [List.length_append, hS]; rfl
  have h2 : gets (S ++ [SO.lst xs]) n = some (.lst xs) := by rw [gets_eq, List.getElem?_append_right (by omega), hS, Nat.sub_self]; rfl
  dsimp only
  rw [if_pos h1, h2]
  dsimp only
  rw [if_pos hp, List.take_left' hS]
theorem frzR_i {n : Nat} (hS : S.length = n) : frzR n (.nx σ S) = .nx σ S := by
  unfold frzR
  dsimp only
  rw [if_neg (by omega)]
theorem subL_pure {n : Nat} {x : D} : ∀ {ds : List D}, pureL ds = true → ds.map (subD n x) = ds
  | [], _ => rfl
  | d :: ds, h => by
    have h : (d.pure && pureL ds) = true := h
    rw [Bool.and_eq_true] at h
    rw [List.map_cons, subL_pure h.2]
    have e : subD n x d = d := by
      cases d <;> first | rfl | (exact nomatch h.1)
    rw [e]
end
/-! ## a list that is put into another one -/
end HC

set_option maxRecDepth 100000
namespace HC
open PySem PySem.Spec L2
open PyProof.Rows hiding St
/-! ## a list made on the way is put into another one, both may be written -/
def kAppN (n : Nat) (xs : List D) : Sl → List SO → D → Bool → RS := fun σ S d fr => match fr with
  | true => match d with
    | .lst ys => if xs.length < lim then .nx σ (S.set n (.lst (xs ++ [.loc S.length])) ++ [.lst ys]) else .bad
    | _ => .bad
  | false => .bad
def sAppN (fo fe : CE) : SC := sVal fo fun σ S x _ => locL S x fun n xs => sVal fe (kAppN n xs) σ S
section
variable {g : GX} {μ : List Addr} {F : FZ} {σ : Sl} {S : List SO} {σc : St} {H : Hp} {W : WX} {Dn : Ends}
theorem Rel.grow {a : Addr} {o : SO} (R1 : Rel g μ F σ S σc H) (nf : ¬ F a) (nm : a ∉ μ) (ro : RepO g H F (μ ++ [a]) o a) : Rel g (μ ++ [a]) F σ (S ++ [o]) σc H := by
  have up : ∀ {d v}, RepV g H F μ d v → RepV g H F (μ ++ [a]) d v := fun {d v} h => h.imp (fun ⟨n, b, e, hb, ev⟩ => ⟨n, b, e, by rw [List.getElem?_append_left (List.getElem?_eq_some_iff.mp hb).1]; exact hb, ev⟩) fun h => h
  have ups : ∀ {ds vs}, RepVs g H F μ ds vs → RepVs g H F (μ ++ [a]) ds vs := fun {ds vs} h => Paired.mapP h fun _ _ => up
  refine ⟨fun j d h => let ⟨v, h1, h2⟩ := R1.env j d h; ⟨v, h1, up h2⟩, R1.len, fun n o2 h => ?_, by rw [List.length_append, List.length_append, R1.ml]; rfl, ?_, fun b hb => ?_, R1.dom, fun p hp => ?_⟩
  · by_cases hn : n < S.length
    · rw [List.getElem?_append_left hn] at h
      obtain ⟨b, h1, h2⟩ := R1.st n o2 h
      refine ⟨b, by rw [List.getElem?_append_left (by rw [R1.ml]; exact hn)]; exact h1, ?_⟩
      cases o2 with
      | lst xs => obtain ⟨vs, k1, k2, k3⟩ := h2; exact ⟨vs, k1, k2, ups k3⟩
      | dct ks ws => obtain ⟨vs, k1, k2⟩ := h2; exact ⟨vs, ups k1, k2⟩
      | ins c ws => obtain ⟨dx, fs, vs, k1, k2, k3, k4⟩ := h2; exact ⟨dx, fs, vs, k1, k2, k3, ups k4⟩
    · have hn2 : n = S.length := by
        have := (List.getElem?_eq_some_iff.mp h).1
        rw [List.length_append] at this
        simp at this
        omega
      subst hn2
      rw [List.getElem?_append_right (Nat.le_refl _), Nat.sub_self] at h
      cases h
      refine ⟨a, ?_, ro⟩
      rw [← R1.ml, List.getElem?_append_right (Nat.le_refl _), Nat.sub_self]
      rfl
  · rw [List.nodup_append]
    exact ⟨R1.nd, by simp, fun b hb c hc => by
      rw [List.mem_singleton.mp hc]
      intro z
      rw [z] at hb
      exact nm hb⟩
  · rcases List.mem_append.mp hb with hb | hb
    · exact R1.ap b hb
    · rw [List.mem_singleton.mp hb]
      exact nf
  · obtain ⟨h1, x, vs, h2, h3, r⟩ := R1.xc p hp
    exact ⟨h1, x, vs, h2, ups h3, r⟩
theorem appN_of {X : Cx} {fo fe : CE} (hg : X.K = g.K) (h : TSt g W (sAppN fo fe) Dn σc H) : tBM X.K "list" rAppend (T g W fo) (tCons (T g W fe) tNil) σc H fun _ H' => Dn.nx σc H' := by
  obtain ⟨μ, F, σ, S, R, q⟩ := h
  refine R.svalF q fun d fr v H1 F1 s1 x1 R1 r1 q1 => ?_
  obtain ⟨n, xs, b, vs, rfl, e, rfl, hm, hb, hz, rx, q2⟩ := locL_ok R1 r1 q1
  refine ⟨.inl ⟨rfl, vs, SqL.of hb⟩, ?_⟩
  refine R1.sval q2 fun d fr v H2 F2 s2 x2 R2 r2 q3 => ?_
  unfold kAppN at q3
  split at q3
  · rcases r2 with ⟨z, _⟩ | ⟨_, a, rfl, h0, nf, nm, rn⟩
    · cases z
    · split at q3
      · rename_i ys
        split at q3
        · rename_i hl
          obtain ⟨ws, k1, k2, k3⟩ := rn
          have hbn : n < S.length := by rw [gets_eq] at e; exact (List.getElem?_eq_some_iff.mp e).1
          have R3 : Rel g (μ ++ [a]) F2 σ (S ++ [.lst ys]) σc H2 := R2.grow nf nm ⟨ws, k1, k2, k3.vs⟩
          have l1 : Later μ F1 H1 (μ ++ [a]) F2 H2 := ⟨⟨[a], rfl, fun b hb => by rw [List.mem_singleton.mp hb]; exact h0⟩, x2.up, fun b o _ h => s2 b o h, fun b h => same_none s2 h, x2.nw⟩
          have e3 : gets (S ++ [SO.lst ys]) n = some (.lst xs) := by rw [gets_eq, List.getElem?_append_left hbn, ← gets_eq]; exact e
          have hm3 : (μ ++ [a])[n]? = some b := by rw [List.getElem?_append_left (List.getElem?_eq_some_iff.mp hm).1]; exact hm
          obtain ⟨b2, vs2, z1, z2, z3, z4, z5⟩ := R3.locl (v := .ref b) (.inl ⟨n, b, rfl, hm3, rfl⟩) e3
          cases z1
          have hlen := z5.length
          have h1 : vs2.length < sizeLine := by rw [lim_eq, ← hlen]; exact hl
          have ha : (μ ++ [a])[S.length]? = some a := by rw [← R2.ml, List.getElem?_append_right (Nat.le_refl _), Nat.sub_self]; rfl
          obtain ⟨R4, l2⟩ := R3.put (ys := xs ++ [.loc S.length]) (ws := vs2 ++ [.ref a]) e3 hm3 (by rw [List.length_append]; exact h1) (z5.app (.cons (.inl ⟨S.length, a, rfl, ha, rfl⟩) .nil))
          refine ⟨b, vs2, .ref a, rfl, rfl, z3, h1, ?_⟩
          have es : (S ++ [SO.lst ys]).set n (.lst (xs ++ [.loc S.length])) = S.set n (.lst (xs ++ [.loc S.length])) ++ [.lst ys] := List.set_append_left _ _ hbn
          rw [es] at R4
          exact q3 σc _ _ _ (l1.trans l2) R4
        · exact q3.elim
      · exact q3.elim
  · exact q3.elim
end
section
variable {X : Cx} {g : GX} {W : WX} {o e : Expr} {fo fe : CE} {pos apos cpos : Pos}
theorem s_appN (ho : PE X o (T g W fo)) (he : PE X e (T g W fe)) (hg : X.K = g.K := by rfl)
    (hbase : attributeBase o (Str.ofString "append") X.env (eval o X.env) = eval o X.env := by rfl) (hs : swapsWith (.Call (.Attribute o (Str.ofString "append") apos) [e] [] cpos) none pos.line X.env = pure false := by rfl)
    (hfew : ((backTo cpos (starEach [e] X.env)).all (fun x => !x.1) && (backToKw cpos (keywordEach [] X.env)).all (fun x => x.1.isSome) && decide ([e].length + ([] : List Keyword).length + (if ([] : List Keyword).isEmpty then 0 else 1) < 30)) = true := by rfl)
    (hline : (apos.endLine == cpos.line) = true := by rfl) (hst : starEach [e] X.env = (false, eval e X.env) :: starEach [] X.env := by rfl) (hplain : (backTo cpos (starEach [] X.env)).any (·.1) = false := by rfl) :
    PS X (.Expr (.Call (.Attribute o (Str.ofString "append") apos) [e] [] cpos) pos) (TSt g W (sAppN fo fe)) :=
  (ps_expr (pe_bm PySem.F.plainAttrs_list PySem.F.slot_list_append PySem.F.type_list_append mt_append ho (pa_cons he pa_nil hst) hbase hfew hline hst hplain) hs).hc fun Dn σc H h => appN_of hg h
end
section
variable {σ : Sl} {S : List SO} {fo fe : CE} {xs ys : List D} {n : Nat}
@[simp] theorem sAppN_e : sAppN fo fe σ S = vB (fo σ S) σ S fun x _ => lS S x fun n xs => vB (fe σ S) σ S (kAppN n xs σ S) := by
  unfold sAppN sVal
  cases fo σ S with
  | ok d f =>
    show locL S d _ = lS S d _
    rw [locL_e]
    exact congrArg (lS S d) (funext fun n => funext fun xs => by
      show (match fe σ S with | .ok d fr => kAppN n xs σ S d fr | .ex c as => RS.ex c as σ S | .bad => .bad) = vB (fe σ S) σ S (kAppN n xs σ S)
      cases fe σ S <;> rfl)
  | _ => rfl
@[simp] theorem kAppN_e (h : xs.length < lim) : kAppN n xs σ S (.lst ys) true = .nx σ (S.set n (.lst (xs ++ [.loc S.length])) ++ [.lst ys]) := by
  unfold kAppN
  dsimp only
  rw [if_pos h]
end
end HC

set_option maxRecDepth 100000
namespace HC
/-! a comprehension over few items, for simp -/
def gO (o : Option Sl) (k : Sl → Option (List D)) : Option (List D) := match o with
  | some σ => k σ
  | none => none
def tO2 (r : Res) (k : Bool → Option (List D)) : Option (List D) := match r with
  | .ok (.bl b) _ => k b
  | _ => none
def vO2 (r : Res) (k : D → Option (List D)) : Option (List D) := match r with
  | .ok y _ => k y
  | _ => none
def cO (y : D) (o : Option (List D)) : Option (List D) := match o with
  | some r => some (y :: r)
  | none => none
section
variable {A : TgF} {t f : CE} {σ : Sl} {S : List SO} {d : D} {ds : List D} {b fr : Bool} {kg : Sl → Option (List D)} {kb : Bool → Option (List D)} {kd : D → Option (List D)} {r : List D}
theorem gO_s : gO (some σ) kg = kg σ := id rfl
theorem tO2_s : tO2 (.ok (.bl b) fr) kb = kb b := id rfl
theorem vO2_s : vO2 (.ok d fr) kd = kd d := id rfl
theorem cO_s : cO d (some r) = some (d :: r) := id rfl
theorem compL_n : compL A t f σ S [] = some [] := id rfl
theorem compL_c : compL A t f σ S (d :: ds) = gO (A d σ) fun σ1 => tO2 (t σ1 S) fun b => if b = true then (vO2 (f σ1 S) fun y => if y.pure = true then cO y (compL A t f σ S ds) else none) else compL A t f σ S ds := by
  conv => lhs; unfold compL
  cases A d σ with
  | none => rfl
  | some σ1 =>
    show _ = tO2 (t σ1 S) _
    dsimp only
    cases t σ1 S with
    | ok x _ => cases x with
      | bl b => cases b with
        | true =>
          rw [tO2_s, if_pos rfl]
          cases f σ1 S <;> rfl
        | false => rfl
      | _ => rfl
    | _ => rfl
end
end HC

set_option maxRecDepth 100000
namespace HC
open PySem PySem.Spec L2
open PyProof.Rows hiding St
/-! ## sorted of pairs of numbers -/
def leP2 (p q : Int × Int) : Bool := !SrtO.lexB q p
def insP (x : Int × Int) : List (Int × Int) → List (Int × Int)
  | [] => [x]
  | y :: r => if leP2 x y then x :: y :: r else y :: insP x r
def sortP : List (Int × Int) → List (Int × Int)
  | [] => []
  | x :: r => insP x (sortP r)
theorem insP_perm (x : Int × Int) : ∀ l : List (Int × Int), (insP x l).Perm (x :: l)
  | [] => .refl _
  | y :: r => by
    unfold insP
    split
    · exact .refl _
    · exact ((insP_perm x r).cons y).trans (.swap x y r)
theorem sortP_perm : ∀ l : List (Int × Int), (sortP l).Perm l
  | [] => .refl _
  | x :: r => (insP_perm x _).trans ((sortP_perm r).cons x)
theorem leP2_iff {p q : Int × Int} : leP2 p q = true ↔ p.1 < q.1 ∨ (p.1 = q.1 ∧ p.2 ≤ q.2) := by
  unfold leP2
  rw [Bool.not_eq_true', SrtO.lexB_no]
  omega
abbrev Ord2 (l : List (Int × Int)) : Prop := l.Pairwise fun p q => leP2 p q = true
theorem insP_ord (x : Int × Int) : ∀ {l : List (Int × Int)}, Ord2 l → Ord2 (insP x l)
  | [], _ => List.pairwise_singleton _ _
  | y :: r, h => by
    have h2 := List.pairwise_cons.mp h
    unfold insP
    split
    · rename_i hx
      refine List.pairwise_cons.mpr ⟨fun z hz => ?_, h⟩
      rcases List.mem_cons.mp hz with rfl | hz
      · exact hx
      · have a := leP2_iff.mp hx
        have b := leP2_iff.mp (h2.1 z hz)
        exact leP2_iff.mpr (by omega)
    · rename_i hx
      refine List.pairwise_cons.mpr ⟨fun z hz => ?_, insP_ord x h2.2⟩
      rcases List.mem_cons.mp ((insP_perm x r).mem_iff.mp hz) with e | hz
      · have a : ¬ (x.1 < y.1 ∨ (x.1 = y.1 ∧ x.2 ≤ y.2)) := fun h => hx (leP2_iff.mpr h)
        rw [e]
        exact leP2_iff.mpr (by omega)
      · exact h2.1 z hz
theorem sortP_ord : ∀ l : List (Int × Int), Ord2 (sortP l)
  | [] => .nil
  | x :: r => insP_ord x (sortP_ord r)
theorem sortP_of {a b : List (Int × Int)} (p : a.Perm b) (o : Ord2 a) : a = sortP b :=
  (p.trans (sortP_perm b).symm).eq_of_pairwise (fun x y _ _ h1 h2 => by
    have a := leP2_iff.mp h1
    have b := leP2_iff.mp h2
    exact Prod.ext (by omega) (by omega)) o (sortP_ord b)
def prD (p : Int × Int) : D := .tup [.int p.1, .int p.2]
def prOf : D → Option (Int × Int)
  | .tup [.int a, .int b] => some (a, b)
  | _ => none
def prsOf : List D → Option (List (Int × Int))
  | [] => some []
  | d :: r => match prOf d, prsOf r with
    | some p, some ps => some (p :: ps)
    | _, _ => none
def fSortedP (S : List SO) (ds : List D) : Res := match ds with
  | [d] => match rdOf S d with
    | some xs => match prsOf xs with
      | some ps => .ok (.lst ((sortP ps).map prD)) true
      | none => .bad
    | none => .bad
  | _ => .bad
theorem prOf_is {d : D} {p : Int × Int} (h : prOf d = some p) : d = prD p := by
  unfold prOf at h
  split at h
  · cases h; rfl
  · cases h
theorem prsOf_is : ∀ {ds : List D} {ps : List (Int × Int)}, prsOf ds = some ps → ds = ps.map prD
  | [], ps, h => by cases h; rfl
  | d :: r, ps, h => by
    unfold prsOf at h
    split at h
    · rename_i p qs e1 e2
      cases h
      rw [List.map_cons, ← prOf_is e1, ← prsOf_is e2]
    · cases h
theorem prsOf_map : ∀ ps : List (Int × Int), prsOf (ps.map prD) = some ps
  | [] => rfl
  | p :: ps => by
    show (match prOf (prD p), prsOf (ps.map prD) with | some p, some ps => some (p :: ps) | _, _ => none) = _
    rw [prsOf_map ps]
    rfl
/-- a value that is this pair -/
def PrV (K : PySem.W.Frag) (H : Hp) (x : V) (p : Int × Int) : Prop := ∃ t, x = V.ref t ∧ SqT K H t [.int p.1, .int p.2]
def rSortedPS (K : PySem.W.Frag) : List V → Hp → VK → Prop := fun vs H Q => ∃ (a : Addr) (xs : List V) (ps : List (Int × Int)), vs = [V.ref a] ∧ SqL K H a xs ∧ Paired (PrV K H) xs ps ∧
  ∀ (zs : List (V × (Int × Int))) (p : Addr), Ord2 (zs.map (·.2)) → zs.Perm (xs.zip ps) → H p = none → Q (.ref p) (upd H p (.lst (zs.map (·.1))))
theorem isPair_inj {h : Heap} {v : Value} {p q : Int × Int} (a : Srt.IsPair h v p.1 p.2) (b : Srt.IsPair h v q.1 q.2) : p = q := by
  obtain ⟨a1, o, t, u, n, rfl, h1, _, h2⟩ := a
  obtain ⟨b1, o2, t2, u2, n2, e, h3, _, h4⟩ := b
  cases e
  rw [h1] at h3
  cases h3
  rw [h2] at h4
  injection h4 with h5 h6
  have := congrArg Array.toList h5
  simp only [List.cons.injEq, Value.int.injEq, and_true] at this
  exact Prod.ext this.1.1 this.2.1
open Classical in
noncomputable def pairAt (h : Heap) (v : Value) : Int × Int := if e : ∃ p : Int × Int, Srt.IsPair h v p.1 p.2 then Classical.choose e else (0, 0)
theorem pairAt_is {h : Heap} {v : Value} {p : Int × Int} (a : Srt.IsPair h v p.1 p.2) : pairAt h v = p := by
  have e : ∃ p : Int × Int, Srt.IsPair h v p.1 p.2 := ⟨p, a⟩
  unfold pairAt
  rw [dif_pos e]
  exact isPair_inj (Classical.choose_spec e) a
theorem cr_sortedPS {X : Cx} : CallR X (.builtin "sorted") (rSortedPS X.K) := by
  intro pins s σ H vs us Q I r h
  obtain ⟨a, xs, ps, rfl, hs, hx, q⟩ := h
  obtain ⟨its, rv, hl, hz⟩ := I.list hs
  obtain ⟨u, rfl, ru⟩ := vals1 r
  obtain rfl : u = Value.ref a := ru
  have hpr : ∀ {x : V} {p : Int × Int} {v : Value}, PrV X.K H x p → RelV x v → Srt.IsPair s.heap v p.1 p.2 ∧ ∃ t, v = Value.ref t ∧ x = V.ref t := fun {x p v} hp rx => by
    obtain ⟨t, rfl, ht⟩ := hp
    obtain rfl : v = Value.ref t := rx
    obtain ⟨its2, r2, ⟨o, ho, hc, n, hd⟩, _⟩ := I.tuple ht
    obtain ⟨u1, u2, rfl, ri, rj⟩ := vals2 r2
    obtain ⟨t1, rfl⟩ := ri
    obtain ⟨t2, rfl⟩ := rj
    exact ⟨⟨t, o, t1, t2, n, rfl, ho, hc, hd⟩, t, rfl, rfl⟩
  have all : ∀ {xs : List V} {ps : List (Int × Int)} {its : List Value}, Paired (PrV X.K H) xs ps → Vals xs its → (∀ v ∈ its, Srt.IsPair s.heap v (pairAt s.heap v).1 (pairAt s.heap v).2 ∧ ∃ t, v = Value.ref t) ∧ xs.zip ps = its.map fun v => (backV v, pairAt s.heap v) := by
    intro xs ps its hx
    induction hx generalizing its with
    | nil => intro rv; cases rv; exact ⟨fun v h => (nomatch h), rfl⟩
    | cons hp t ih =>
      intro rv
      cases rv with
      | cons rx rt =>
        obtain ⟨h1, t0, e1, e2⟩ := hpr hp rx
        obtain ⟨i1, i2⟩ := ih rt
        have e3 := pairAt_is h1
        refine ⟨fun v hv => ?_, ?_⟩
        · rcases List.mem_cons.mp hv with rfl | hv
          · rw [e3]
            exact ⟨h1, t0, e1⟩
          · exact i1 v hv
        · rw [List.zip_cons_cons, List.map_cons, i2, e3, e1, e2]
          rfl
  obtain ⟨k1, k2⟩ := all hx rv
  refine SrtO.sorted_pairsO (k := pairAt s.heap) hl.isList (by rw [← rv.length]; exact hz) (fun v hv => (k1 v hv).1) fun h' d out h1 h2 kp hd hn => ?_
  have h3 : ∀ u ∈ out, ∃ a, u = Value.ref a := fun u hu => (k1 u (h2.perm.mem_iff.mp hu)).2
  obtain ⟨n, hn⟩ := hn
  have eb : (out.map fun v => (backV v, pairAt s.heap v)).map (·.1) = out.map backV := by rw [List.map_map]; rfl
  have ep : (out.map fun v => (backV v, pairAt s.heap v)).map (·.2) = out.map (pairAt s.heap) := by rw [List.map_map]; rfl
  have hq := q (out.map fun v => (backV v, pairAt s.heap v)) d (by
    rw [ep]
    refine List.pairwise_map.mpr (h1.imp fun {x y} h => ?_)
    unfold leP2
    rw [show SrtO.lexB (pairAt s.heap y) (pairAt s.heap x) = false from h]
    rfl) (by rw [k2]; exact h2.perm.map _) (I.hok.fresh hd)
  rw [eb] at hq
  refine ⟨.ref d, upd H d (.lst (out.map backV)), I.laid (t' := s.toks) kp hd ⟨?_, out, n, vals_back h3, hn⟩, rfl, hq⟩
  rw [List.length_map, h2.perm.length_eq, ← rv.length]
  exact hz
theorem prs_rep {g : GX} {H : Hp} {F : FZ} {μ : List Addr} : ∀ {ps : List (Int × Int)} {ws : List V}, RepVs g H F μ (ps.map prD) ws → Paired (PrV g.K H) ws ps
  | [], _, h => by cases h; exact .nil
  | p :: ps, _, h => by
    cases h with
    | cons r t =>
      refine .cons ?_ (prs_rep t)
      obtain ⟨a, vs, rfl, h1, h2⟩ := r.pure rfl
      obtain ⟨v1, w1, rfl, q1, v2, w2, rfl, q2, rfl⟩ := h2
      cases (show v1 = _ from q1)
      cases (show v2 = _ from q2)
      exact ⟨a, rfl, h1.1⟩
theorem prs_back {g : GX} {H : Hp} {F : FZ} {μ : List Addr} : ∀ {ps : List (Int × Int)} {ws : List V}, RepVs g H F μ (ps.map prD) ws → ∀ z ∈ ws.zip ps, RepP g H F (prD z.2) z.1
  | [], _, h => by cases h; exact fun z hz => (nomatch hz)
  | p :: ps, _, h => by
    cases h with
    | cons r t =>
      intro z hz
      rw [List.zip_cons_cons] at hz
      rcases List.mem_cons.mp hz with rfl | hz
      · exact r.pure rfl
      · exact prs_back t z hz
theorem repl_of {g : GX} {H : Hp} {F : FZ} : ∀ {zs : List (V × (Int × Int))}, (∀ z ∈ zs, RepP g H F (prD z.2) z.1) → RepL g H F ((zs.map (·.2)).map prD) (zs.map (·.1))
  | [], _ => rfl
  | z :: zs, h => ⟨_, _, rfl, h z (List.mem_cons_self ..), repl_of fun y hy => h y (List.mem_cons_of_mem _ hy)⟩
theorem lk_sortedP {g : GX} : LkC g (rSortedPS g.K) fSortedP := by
  intro E μ F σ S σc H ds vs Q R r q
  unfold fSortedP at q
  split at q
  · obtain ⟨v, rfl, rv⟩ := r.one
    split at q
    · rename_i xs ex
      split at q
      · rename_i ps en
        obtain ⟨a, ws, rfl, h1, h2, h3⟩ := R.rd rv ex
        rw [prsOf_is en] at h3
        have hl := h3.length
        rw [List.length_map] at hl
        refine ⟨a, ws, ps, rfl, h1, prs_rep h3, fun zs p ho hp hn => ?_⟩
        have e1 : zs.map (·.2) = sortP ps := by
          refine sortP_of ((hp.map (·.2)).trans ?_) ho
          rw [List.map_snd_zip (by omega)]
        have e2 := repl_of (g := g) (H := H) (F := F) (zs := zs) fun z hz => prs_back h3 z (hp.mem_iff.mp hz)
        rw [e1] at e2
        refine q.lst R.dom (fun a h => R.mu_there h) hn ?_ e2
        rw [List.length_map, hp.length_eq, List.length_zip]
        omega
      · exact q.elim
    · exact q.elim
  · exact q.elim
end HC

set_option maxRecDepth 100000
namespace HC
open PySem PySem.Spec L2
open PyProof.Rows hiding St
open SrtO SrtR
/-! ## sorted of a tuple of numbers -/
section
variable {prog : Program} {w : World} {A : Around} {s : Shared} {E : Value → Shared → Prop}
theorem collect_tup {l : Addr} {vs : List Value} {Q : List Value → Shared → Prop} (hl : IsTup s.heap l vs.toArray)
    (h : Q vs { s with heap := (s.heap.push (seqObj "list" #[] 0)).update s.heap.objs.size (Obj.mapSeq (· ++ vs.toArray)) }) (hsz : vs.length ≤ sizeLine) :
    wpAny (model prog w) A (collect (.ref l)) Q E s := by
  obtain ⟨o, ho, hc, n, hd⟩ := id hl
  unfold collect
  refine wpAny_bind (wpAny_runValue (codeAny_builtin entry_proto_collect' ?_))
  show wpAny _ _ (do again (.builtin "list.__iadd__" ⟨[← newList [], .ref l], []⟩)) _ _ s
  refine wpAny_bind (wpAny_newList (wpAny_pure ⟨Code.quiet_builtin _ (by decide +kernel), codeAny_builtin entry_list_iadd' ?_⟩))
  show wpAny _ _ (Builtin.List.listExtendWith (.ref s.heap.objs.size) (.ref l) (.ref s.heap.objs.size)) _ _ { s with heap := s.heap.push (seqObj "list" #[] 0) }
  unfold Builtin.List.listExtendWith
  have ho' : (s.heap.push (seqObj "list" #[] 0)).get? l = some o := Heap.get?_push_of_some _ ho
  refine wpAny_bind (wpAny_typeOf (T := "tuple") ⟨o, ho', hc⟩ ?_)
  have ht : (Value.type "tuple" == Value.type "tuple") = true := by rfl
  rw [if_pos (by rw [ht]; simp)]
  refine wpAny_bind (listItems_at ho' hd ?_)
  refine wpAny_bind (listItems_at (xs := #[]) (n := 0) (Heap.get?_push_size _ rfl) rfl ?_)
  rw [if_neg (by simp)]
  refine wpAny_bind (listUpdate_at (xs := #[]) (n := 0) (Heap.get?_push_size _ rfl) rfl ?_ (Nat.zero_le _) (by show (#[] ++ vs.toArray).size ≤ sizeLine + 1; simp only [Array.size_append, List.size_toArray, List.length_nil]; omega))
  refine wpAny_pure ?_
  show wpAny (model prog w) A (do
      let o ← load s.heap.objs.size
      match o.data with
      | .seq xs _ => pure xs.toList
      | _ => unsupported "internal:collect") Q E { s with heap := (s.heap.push (seqObj "list" #[] 0)).update s.heap.objs.size (Obj.mapSeq (· ++ vs.toArray)) }
  refine wpAny_bind (wpAny_load (get?_update_seq (Heap.get?_push_size _ rfl) _) ?_)
  show wpAny _ _ (pure ((#[] : Array Value) ++ vs.toArray).toList) Q E _
  rw [show ((#[] : Array Value) ++ vs.toArray).toList = vs by simp]
  exact wpAny_pure h
theorem sorted_tupK {l : Addr} {vs : List Value} {b : Bool} {kw : List (Str × Value)} {ltv : Value → Value → Bool} {Q : Value → Shared → Prop} (hk : ∀ a, Builtin.«list.sort» ⟨[.ref a], kw⟩ = Builtin.«list.sort» ⟨[.ref a], [(Str.ofString "reverse", .bool b)]⟩)
    (ha1 : argsOk "sorted" ⟨[.ref l], kw⟩) (ha2 : ∀ a, argsOk "list.sort" ⟨[a], kw⟩) (O : Swo ltv) (hl : IsTup s.heap l vs.toArray) (hz : vs.length ≤ sizeLine)
    (hS : 2 ≤ vs.length → ∀ (h₁ : Heap) (a : Addr), h₁.get? a = some (seqObj "list" vs.toArray 0) → (∀ b o, s.heap.get? b = some o → b ≠ a ∧ h₁.get? b = some o) → SortableO prog w A.in1.in1 { s with heap := h₁ } a vs ltv)
    (h : ∀ out : List Value, Srtd ltv out → Stb ltv out (if b = true then vs.reverse else vs) → Q (.ref (s.heap.objs.size + 1)) { s with heap := sortedAll s.heap vs (if b = true then out.toArray.reverse else out.toArray) }) :
    wpAny (model prog w) A (call (.builtin "sorted") [.ref l] kw) Q E s := by
  refine call_function_entry_kw kind_sorted plain_sorted entry_sorted ha1 ?_
  unfold Builtin.«sorted»
  refine wpAny_bind (m := checkCount "sorted" 1 1 _) (wpAny_pure ?_)
  refine wpAny_bind (collect_tup hl ?_ hz)
  refine wpAny_bind (wpAny_newList ?_ hz)
  have hsz : ((s.heap.push (seqObj "list" #[] 0)).update s.heap.objs.size (Obj.mapSeq (· ++ vs.toArray))).objs.size = s.heap.objs.size + 1 := by
    rw [Heap.size_update, size_push']
  have hoL : (((s.heap.push (seqObj "list" #[] 0)).update s.heap.objs.size (Obj.mapSeq (· ++ vs.toArray))).push (seqObj "list" vs.toArray 0)).get? (s.heap.objs.size + 1) = some (seqObj "list" vs.toArray 0) := by
    rw [← hsz]; exact Heap.get?_push_size _ rfl
  have keep : ∀ b o, s.heap.get? b = some o → b ≠ s.heap.objs.size + 1 ∧ (((s.heap.push (seqObj "list" #[] 0)).update s.heap.objs.size (Obj.mapSeq (· ++ vs.toArray))).push (seqObj "list" vs.toArray 0)).get? b = some o := fun b o q => by
    have hlt : b < s.heap.objs.size := Heap.lt_size q
    refine ⟨Nat.ne_of_lt (Nat.lt_succ_of_lt hlt), Heap.get?_push_of_some _ ?_⟩
    rw [Heap.get?_update_ne _ _ _ _ (Nat.ne_of_lt hlt)]
    exact Heap.get?_push_of_some _ q
  show wpAny _ _ _ _ _ { s with heap := ((s.heap.push (seqObj "list" #[] 0)).update s.heap.objs.size (Obj.mapSeq (· ++ vs.toArray))).push (seqObj "list" vs.toArray 0) }
  rw [hsz]
  refine wpAny_bind (wpAny_holding (wpAny_call_entry_kw slot_list_sort ⟨_, hoL, rfl⟩ entry_list_sort ?_ (ha2 _)))
  rw [hk]
  refine list_sort_ordR O hoL hz (fun h2 => hS h2 _ _ hoL keep) fun out hs hb => ⟨_, rfl, ?_⟩
  exact wpAny_pure ⟨_, rfl, h out hs hb⟩
end
def rSortedS (K : PySem.W.Frag) (b : Bool) (zs0 : List V) : List V → List V → Hp → VK → Prop := fun vs zs H Q => ∃ (a : Addr) (ns : List Int), vs = [V.ref a] ∧ zs = zs0 ∧ (SqL K H a (ns.map V.int) ∨ SqT K H a (ns.map V.int)) ∧
  ∀ (ns' : List Int) (p : Addr), ns'.Perm ns → OrdB b ns' → H p = none → Q (.ref p) (upd H p (.lst (ns'.map V.int)))
theorem cr_sortedS2 {X : Cx} {b : Bool} : CallRK X (.builtin "sorted") [Str.ofString "reverse"] (rSortedS X.K b [.bl b]) := by
  intro pins s σ H vs zs us ws Q I r rz h
  obtain ⟨a, ns, rfl, rfl, hs, q⟩ := h
  rcases hs with hs | hs
  · exact cr_sortedRev pins s σ H _ _ us ws Q I r rz ⟨a, ns, rfl, rfl, hs, q⟩
  · obtain rfl := Vals.ref1 r
    obtain ⟨w1, rfl, e1⟩ := vals1 rz
    obtain rfl : w1 = Value.bool b := e1
    obtain ⟨its, rv, hl, hz⟩ := I.tuple hs
    have hi := rv.ints
    refine sorted_tupK (fun _ => rfl) (PyProof.Rows.args_sorted_rev _ _) (fun _ => PyProof.Rows.args_list_sort_rev _ _) SrtO.swo_int hl (by rw [← rv.length]; exact hz) (fun h2 h₁ a' _ _ => SrtO.ints_sortable hi h2) fun out h1 h2 => ?_
    obtain ⟨ns', k1, k2, k3⟩ := SrtR.ints_outR hi h1 h2
    obtain ⟨ep, he'⟩ := PyProof.Rows.sortedAll_at s.heap its (if b = true then out.toArray.reverse else out.toArray)
    have hlen : (ns'.map V.int).length ≤ sizeLine := by
      rw [List.length_map, k2.length_eq]
      rw [List.length_map] at hz
      exact hz
    have e0 : ((if b = true then out.toArray.reverse else out.toArray).toList).toArray = (if b = true then out.toArray.reverse else out.toArray) := by rw [Array.toArray_toList]
    exact ⟨.ref _, upd H (s.heap.objs.size + 1) (.lst (ns'.map V.int)), I.laid (t' := s.toks) (fun _ _ => PyProof.Rows.sortedAll_old) (Nat.le_succ _) ⟨hlen, _, ep, vals_of_ints k1, by rw [e0]; exact he'⟩, rfl, q _ _ k2 k3 (I.hok.fresh (Nat.le_succ _))⟩
def fSortedS (k : Bool) (S : List SO) (ds : List D) : Res := match ds with
  | [d] => match seqOf S d with
    | some xs => match intsOf xs with
      | some ns => .ok (.lst ((sortI k ns).map .int)) true
      | none => .bad
    | none => .bad
  | _ => .bad
theorem fSortedS_run {g : GX} {k : Bool} {E : XK} {μ : List Addr} {F : FZ} {σ : Sl} {S : List SO} {σc : St} {H : Hp} {ds : List D} {vs : List V} {Q : VK} (R : Rel g μ F σ S σc H) (r : RepVs g H F μ ds vs) (q : Ok g E H F μ (fSortedS k S ds) Q) :
    ∃ (a : Addr) (ns : List Int), vs = [V.ref a] ∧ (SqL g.K H a (ns.map V.int) ∨ SqT g.K H a (ns.map V.int)) ∧ ∀ (ns' : List Int) (p : Addr), ns'.Perm ns → OrdB k ns' → H p = none → Q (.ref p) (upd H p (.lst (ns'.map V.int))) := by
  unfold fSortedS at q
  split at q
  · obtain ⟨v, rfl, rv⟩ := r.one
    split at q
    · rename_i xs ex
      split at q
      · rename_i ns en
        rcases seqOf_cases ex with et | el
        · obtain ⟨a, ws, rfl, h1, h2, h3⟩ := rv.tup et
          have e := (h3.vs (μ := μ)).ints en
          subst e
          refine ⟨a, ns, rfl, .inr h1, fun ns' p hp ho hn => ?_⟩
          have e2 := sortI_of hp ho
          subst e2
          exact q.lst R.dom (fun a h => R.mu_there h) hn (by rw [List.length_map, hp.length_eq, ← List.length_map (f := V.int)]; exact h2) (reps_ints _)
        · obtain ⟨a, ws, rfl, h1, h2, h3⟩ := R.rd rv el
          have e := h3.ints en
          subst e
          refine ⟨a, ns, rfl, .inl h1, fun ns' p hp ho hn => ?_⟩
          have e2 := sortI_of hp ho
          subst e2
          exact q.lst R.dom (fun a h => R.mu_there h) hn (by rw [List.length_map, hp.length_eq, ← List.length_map (f := V.int)]; exact h2) (reps_ints _)
      · exact q.elim
    · exact q.elim
  · exact q.elim
section
variable {X : Cx} {g : GX} {W : WX} {e : Expr} {f : CA} {p pos kpos pp : Pos} {j : Nat}
theorem q_sortedS {k : Bool} (hK : X.K = g.K) (hg : Gl X "sorted") (hm : X.mg "sorted" = none) (ha : PA X [e] (TL g W f))
    (he : backTo pos (starEach [e] X.env) = (false, eval e X.env) :: backTo pos (starEach [] X.env) := by rfl) (hpl : (backTo pos (starEach [e] X.env)).any (·.1) = false := by rfl)
    (hall : (backToKw pos (keywordEach [⟨some "reverse", .Constant (.bool k) j pp, kpos⟩] X.env)).all (·.1.isSome) = true := by rfl) (hnone : (backToKw pos (keywordEach [⟨some "reverse", .Constant (.bool k) j pp, kpos⟩] X.env)).any (·.1.isNone) = false := by rfl)
    (hks : (backToKw pos (keywordEach [⟨some "reverse", .Constant (.bool k) j pp, kpos⟩] X.env)).filterMap (·.1) = [Str.ofString "reverse"] := by rfl) :
    PE X (.Call (.Name "sorted" p) [e] [⟨some "reverse", .Constant (.bool k) j pp, kpos⟩] pos) (T g W (cApp (fSortedS k) f)) :=
  (pe_callBK (cr_sortedS2 (b := k)) hg hm (by decide +kernel) ha (pk_cons pe_bl pk_nil) (by decide) (by decide) he hpl hall hnone hks).hc fun σc H Q h => TL.app h fun μ F σ S H1 ds vs R r q => by
    obtain ⟨a, ns, h1, h2, h3⟩ := fSortedS_run R r q
    exact ⟨a, ns, h1, rfl, by rw [hK]; exact h2, h3⟩
end
end HC

set_option maxRecDepth 100000
namespace HC
open PySem PySem.Spec L2
open PyProof.Rows hiding St
section
variable {X : Cx} {g : GX} {W : WX} {s1 s2 : Stmt} {rest : List Stmt} {f1 f2 fr : SC}
/-- two statements as a block, at whose end the new list is frozen -/
theorem s_blk2 (h1 : PS X s1 (TSt g W f1)) (h2 : PS X s2 (TSt g W f2)) (hr : PSs X rest (TSt g W fr)) : PSs X (s1 :: s2 :: rest) (TSt g W (sSeq (sFrz (sSeq f1 f2)) fr)) :=
  (pss_cons h1 (pss_cons h2 hr)).hc fun Dn σ H h => seq_of (frz_of (seq_of h))
end
end HC

set_option maxRecDepth 100000
namespace HC
open PySem PySem.Spec L2 PySem.W
open PyProof.Rows hiding St
/-! ## sorted of data: tuples of numbers, and what is made of them -/
def encD (d : D) : PyData := match pyD true d with
  | some x => x
  | none => .none
def tupC : PyData → Bool
  | .tuple (_ :: _) => true
  | _ => false
def noC : PyData → Bool
  | .none => false
  | _ => true
def othC : PyData → Bool
  | .tuple _ => false
  | .none => false
  | _ => true
def okSort (xs : List D) : Bool := xs.all (fun d => (pyD true d).isSome && decide ((encD d).depth ≤ 60) && noC (encD d)) && xs.all (fun d => xs.all fun e => alike (encD d) (encD e)) &&
  (xs.all (fun d => tupC (encD d)) || xs.all (fun d => othC (encD d)) || decide (xs.length ≤ 1))
def leD (r : Bool) : D → D → Bool := dataLe r encD
def srtD (r : Bool) (xs : List D) : List D := xs.mergeSort (leD r)
def fSortedD (r : Bool) (S : List SO) (ds : List D) : Res := match ds with
  | [d] => match rdOf S d with
    | some xs => if okSort xs then .ok (.lst (srtD r xs)) true else .bad
    | none => .bad
  | _ => .bad
theorem pyDs_enc : ∀ {xs : List D}, (∀ d ∈ xs, (pyD true d).isSome = true) → pyDs true xs = some (xs.map encD)
  | [], _ => rfl
  | d :: r, h => by
    have h1 := h d (List.mem_cons_self ..)
    obtain ⟨y, hy⟩ := Option.isSome_iff_exists.mp h1
    unfold pyDs
    rw [hy, pyDs_enc fun e he => h e (List.mem_cons_of_mem _ he)]
    show some (y :: r.map encD) = some (encD d :: r.map encD)
    unfold encD
    rw [hy]
theorem okSort_of {xs : List D} (h : okSort xs = true) : (∀ d ∈ xs, (pyD true d).isSome = true ∧ (encD d).depth ≤ 60 ∧ noC (encD d) = true) ∧ AllAlike (xs.map encD) ∧ (Sortable (xs.map encD) ∨ xs.length ≤ 1) := by
  unfold okSort at h
  rw [Bool.and_eq_true, Bool.and_eq_true, Bool.or_eq_true, Bool.or_eq_true, List.all_eq_true, List.all_eq_true, List.all_eq_true, List.all_eq_true, decide_eq_true_eq] at h
  obtain ⟨⟨h1, h2⟩, h3⟩ := h
  refine ⟨fun d hd => ?_, fun a ha b hb => ?_, ?_⟩
  · have := h1 d hd
    rw [Bool.and_eq_true, Bool.and_eq_true, decide_eq_true_eq] at this
    exact ⟨this.1.1, this.1.2, this.2⟩
  · obtain ⟨a', ha', rfl⟩ := List.mem_map.mp ha
    obtain ⟨b', hb', rfl⟩ := List.mem_map.mp hb
    exact List.all_eq_true.mp (h2 a' ha') b' hb'
  · rcases h3 with (h3 | h3) | h3
    · refine .inl (.inl fun d hd => ?_)
      obtain ⟨d', hd', rfl⟩ := List.mem_map.mp hd
      have := h3 d' hd'
      unfold tupC at this
      split at this
      · rename_i x r e; exact ⟨x, r, e⟩
      · cases this
    · refine .inl (.inr fun d hd => ?_)
      obtain ⟨d', hd', rfl⟩ := List.mem_map.mp hd
      have := h3 d' hd'
      unfold othC at this
      split at this
      · cases this
      · cases this
      · rename_i h1 h2; exact ⟨fun e => h2 e, fun ys e => h1 _ e⟩
    · exact .inr h3
theorem sorts_short {prog : Program} {w : World} {A : Around} {s : Shared} {vs : List Value} {ds : List PyData} (e : EachIs (fun v d => ∃ as, Reads s.heap v d as) vs ds) (hal : AllAlike ds) (hn : ∀ d ∈ ds, d ≠ .none) (hu : ∀ d, d ∈ ds → A.units + d.depth < cLine) (h1 : vs.length ≤ 1) : SortsAt prog w A s (dataKind s.heap ds) vs := by
  refine ⟨fun v hv => ?_, general', ?_, fun h2 => by omega⟩
  · obtain ⟨d, hd, as, r⟩ := e.left v hv
    exact ⟨_, dataKind_some hal hd r⟩
  · intro E x y a b Q ha hb hq
    obtain ⟨d, as, hd, ra, rfl⟩ := dataKind_inv ha
    obtain ⟨d', as', hd', rb, rfl⟩ := dataKind_inv hb
    show wpAny (model prog w) A (oneLt' false x y) Q E s
    exact oneLt_alike (fun z => by cases z) ra rb (hal d hd d' hd') (hn d hd) (Nat.lt_of_le_of_lt (Nat.add_le_add_left (Nat.min_le_left _ _) _) (hu d hd)) hq
def RD (g : GX) (H : Hp) (F : FZ) (v : Value) (d : D) : Prop := ∃ x : V, RelV x v ∧ RepP g H F d x
theorem each_rd {g : GX} {H : Hp} {F : FZ} : ∀ {xs : List D} {ws : List V} {vs : List Value}, RepL g H F xs ws → Vals ws vs → EachIs (RD g H F) vs xs
  | [], _, _, h, r => by cases (show _ = [] from h); cases r; exact .nil
  | d :: xs, _, _, h, r => by
    obtain ⟨v, ws, rfl, h1, h2⟩ := h
    cases r with
    | cons r1 r2 => exact .cons ⟨v, r1, h1⟩ (each_rd h2 r2)
theorem rd_each {g : GX} {H : Hp} {F : FZ} : ∀ {xs : List D} {vs : List Value}, EachIs (RD g H F) vs xs → ∃ ws, RepL g H F xs ws ∧ Vals ws vs
  | _, _, .nil => ⟨[], rfl, .nil⟩
  | _, _, .cons ⟨x, r1, h1⟩ t => by
    obtain ⟨ws, h2, r2⟩ := rd_each t
    exact ⟨x :: ws, ⟨x, ws, rfl, h1, h2⟩, .cons r1 r2⟩
section
variable {X : Cx} {g : GX}
def rSortedDat (g : GX) (r : Bool) : List V → Hp → VK → Prop := fun vs H Q => ∃ (F : FZ) (a : Addr) (ws : List V) (xs : List D), vs = [V.ref a] ∧ SqL g.K H a ws ∧ ws.length ≤ sizeLine ∧ RepL g H F xs ws ∧ okSort xs = true ∧
  ∀ (ws' : List V) (p : Addr), RepL g H F (srtD r xs) ws' → H p = none → Q (.ref p) (upd H p (.lst ws'))
theorem sortedD_run {r : Bool} {pins : List (Addr × Obj)} {s : Shared} {σ : St} {H : Hp} {vs : List V} {us : List Value} {Q : VK} (hK : X.K = g.K) (hr : X.A.units + 70 < cLine ∧ X.A.guards = some []) (I : Inv X pins σ H s) (rv : Vals vs us) (h : rSortedDat g r vs H Q) :
    ∃ (l : Addr) (its : List Value) (xs : List D) (F : FZ), us = [Value.ref l] ∧ s.heap.IsList l its.toArray ∧ EachIs (RD g H F) its xs ∧ EachIs (fun v b => ∃ as, Reads s.heap v (encD b) as) its xs ∧ okSort xs = true ∧ xs.length ≤ sizeLine ∧
      ∀ out : List Value, out.length = xs.length → EachIs (RD g H F) out (srtD r xs) → ∃ v H', Inv X pins σ H' { s with heap := sortedAll s.heap its out.toArray } ∧ RelV v (.ref (s.heap.objs.size + 1)) ∧ Q v H' := by
  obtain ⟨F, a, ws, xs, rfl, hs, hl, hx, ok, q⟩ := h
  rw [← hK] at hs
  obtain ⟨its, rv2, hl2, hz⟩ := I.list hs
  obtain ⟨u, rfl, ru⟩ := vals1 rv
  obtain rfl : u = Value.ref a := ru
  have hok := okSort_of ok
  obtain ⟨as, hr2, _⟩ := reads_all (l := true) I hK xs ws its (xs.map encD) hx rv2 (pyDs_enc fun d hd => (hok.1 d hd).1)
  refine ⟨a, its, xs, F, rfl, hl2.isList, each_rd hx rv2, readsAll_each encD hr2, ok, by rw [hx.length]; exact hl, fun out ho eo => ?_⟩
  obtain ⟨ws', h1, h2⟩ := rd_each eo
  obtain ⟨n, hn⟩ := sortedAll_at s.heap its out.toArray
  refine ⟨.ref _, upd H (s.heap.objs.size + 1) (.lst ws'), I.laid (t' := s.toks) (fun _ _ => sortedAll_old) (Nat.le_succ _) ⟨?_, out, n, h2, hn⟩, rfl, q _ _ h1 (I.hok.fresh (Nat.le_succ _))⟩
  rw [h2.length, ho, hx.length]
  exact hl
theorem cr_sortedDat (hK : X.K = g.K) (hr : X.A.units + 70 < cLine ∧ X.A.guards = some []) : CallR X (.builtin "sorted") (rSortedDat g false) := by
  intro pins s σ H vs us Q I rv h
  obtain ⟨l, its, xs, F, rfl, hl, e, er, ok, hz, go⟩ := sortedD_run hK hr I rv h
  obtain ⟨h1, h2, h3⟩ := okSort_of ok
  have hu : ∀ b, b ∈ xs → X.A.units + 2 + (encD b).depth < cLine := fun b hb => by have := (h1 b hb).2.1; omega
  rcases h3 with h3 | h3
  · exact sorted_data hl e er h2 h3 hz hu fun out ho eo => go out ho eo
  · have er' : EachIs (fun v b => ∃ as, Reads (sortingHeap (copyHeap s.heap its) (s.heap.objs.size + 1) its) v (encD b) as) its xs := er.mono fun _ _ ⟨as, r⟩ => ⟨as, PyProof.Rows.Reads.keeps (fun _ _ => sorting_copy_old) r⟩
    refine sorted_vals hl (sorts_short (s := { s with heap := sortingHeap (copyHeap s.heap its) (s.heap.objs.size + 1) its }) (each_map (R := fun v d => ∃ as, Reads (sortingHeap (copyHeap s.heap its) (s.heap.objs.size + 1) its) v d as) encD er') h2 (fun d hd => ?_) (bound_map hu) (by rw [e.length]; exact h3)) (by rw [e.length]; exact hz) (go _ (by rw [sortVals_length false rfl]; exact e.length) (sortVals_data false e er' h2))
    obtain ⟨d', hd', rfl⟩ := List.mem_map.mp hd
    have := (h1 d' hd').2.2
    intro z
    rw [z] at this
    cases this
def rSortedDK (g : GX) (b : Bool) : List V → List V → Hp → VK → Prop := fun vs zs H Q => zs = [.bl b] ∧ rSortedDat g b vs H Q
theorem cr_sortedDatR {b : Bool} (hK : X.K = g.K) (hr : X.A.units + 70 < cLine ∧ X.A.guards = some []) : CallRK X (.builtin "sorted") [Str.ofString "reverse"] (rSortedDK g b) := by
  intro pins s σ H vs zs us ws Q I rv rz h
  obtain ⟨rfl, h⟩ := h
  obtain ⟨w1, rfl, e1⟩ := vals1 rz
  obtain rfl : w1 = Value.bool b := e1
  obtain ⟨l, its, xs, F, rfl, hl, e, er, ok, hz, go⟩ := sortedD_run hK hr I rv h
  obtain ⟨h1, h2, h3⟩ := okSort_of ok
  have hu : ∀ b, b ∈ xs → X.A.units + 2 + (encD b).depth < cLine := fun b hb => by have := (h1 b hb).2.1; omega
  rcases h3 with h3 | h3
  · exact sorted_rev_data hl e er h2 h3 hz hu fun out ho eo => go out ho eo
  · have er' : EachIs (fun v b => ∃ as, Reads (sortingHeap (copyHeap s.heap its) (s.heap.objs.size + 1) its) v (encD b) as) its xs := er.mono fun _ _ ⟨as, r⟩ => ⟨as, PyProof.Rows.Reads.keeps (fun _ _ => sorting_copy_old) r⟩
    refine sorted_rev_vals hl (sorts_short (s := { s with heap := sortingHeap (copyHeap s.heap its) (s.heap.objs.size + 1) its }) (each_map (R := fun v d => ∃ as, Reads (sortingHeap (copyHeap s.heap its) (s.heap.objs.size + 1) its) v d as) encD er') h2 (fun d hd => ?_) (bound_map hu) (by rw [e.length]; exact h3)) (by rw [e.length]; exact hz) (go _ (by rw [sortVals_length b rfl]; exact e.length) (sortVals_data b e er' h2))
    obtain ⟨d', hd', rfl⟩ := List.mem_map.mp hd
    have := (h1 d' hd').2.2
    intro z
    rw [z] at this
    cases this
theorem repvs_pure {g : GX} {H : Hp} {F : FZ} {μ : List Addr} : ∀ {xs : List D} {ws : List V}, RepVs g H F μ xs ws → (∀ d ∈ xs, (pyD true d).isSome = true) → RepL g H F xs ws
  | [], _, h, _ => by cases h; rfl
  | d :: xs, _, h, hp => by
    cases h with
    | cons r t =>
      refine ⟨_, _, rfl, r.pure ?_, repvs_pure t fun e he => hp e (List.mem_cons_of_mem _ he)⟩
      have := hp d (List.mem_cons_self ..)
      cases d <;> first | rfl | exact nomatch this
theorem srtD_run {r : Bool} {E : XK} {μ : List Addr} {F : FZ} {σ : Sl} {S : List SO} {σc : St} {H : Hp} {ds : List D} {vs : List V} {Q : VK} (R : Rel g μ F σ S σc H) (rv : RepVs g H F μ ds vs) (q : Ok g E H F μ (fSortedD r S ds) Q) : rSortedDat g r vs H Q := by
  unfold fSortedD at q
  split at q
  · obtain ⟨v, rfl, rv1⟩ := rv.one
    split at q
    · rename_i xs ex
      split at q
      · rename_i ok
        obtain ⟨a, ws, rfl, h1, h2, h3⟩ := R.rd rv1 ex
        have hok := okSort_of ok
        refine ⟨F, a, ws, xs, rfl, h1, h2, repvs_pure h3 fun d hd => (hok.1 d hd).1, ok, fun ws' p hp hn => ?_⟩
        refine q.lst R.dom (fun a h => R.mu_there h) hn ?_ hp
        have e1 := hp.length
        have e2 := h3.length
        unfold srtD at e1
        rw [List.length_mergeSort] at e1
        omega
      · exact q.elim
    · exact q.elim
  · exact q.elim
theorem lk_sortedD {g : GX} : LkC g (rSortedDat g false) (fSortedD false) := fun E μ F σ S σc H ds vs Q R r q => srtD_run R r q
end
section
variable {X : Cx} {g : GX} {W : WX} {e : Expr} {f : CA} {p pos kpos pp : Pos} {j : Nat}
theorem q_sortedDRev {k : Bool} (hr : X.A.units + 70 < cLine ∧ X.A.guards = some []) (hK : X.K = g.K) (hg : Gl X "sorted") (hm : X.mg "sorted" = none) (ha : PA X [e] (TL g W f))
    (he : backTo pos (starEach [e] X.env) = (false, eval e X.env) :: backTo pos (starEach [] X.env) := by rfl) (hpl : (backTo pos (starEach [e] X.env)).any (·.1) = false := by rfl)
    (hall : (backToKw pos (keywordEach [⟨some "reverse", .Constant (.bool k) j pp, kpos⟩] X.env)).all (·.1.isSome) = true := by rfl) (hnone : (backToKw pos (keywordEach [⟨some "reverse", .Constant (.bool k) j pp, kpos⟩] X.env)).any (·.1.isNone) = false := by rfl)
    (hks : (backToKw pos (keywordEach [⟨some "reverse", .Constant (.bool k) j pp, kpos⟩] X.env)).filterMap (·.1) = [Str.ofString "reverse"] := by rfl) :
    PE X (.Call (.Name "sorted" p) [e] [⟨some "reverse", .Constant (.bool k) j pp, kpos⟩] pos) (T g W (cApp (fSortedD k) f)) :=
  (pe_callBK (cr_sortedDatR (b := k) hK hr) hg hm (by decide +kernel) ha (pk_cons pe_bl pk_nil) (by decide) (by decide) he hpl hall hnone hks).hc fun σc H Q h => TL.app h fun μ F σ S H1 ds vs R r q => ⟨rfl, srtD_run R r q⟩
end
end HC

set_option maxRecDepth 100000
namespace HC
open PySem PySem.Spec L2
open PyProof.Rows hiding St
/-! ## the last object of the store is frozen, if it is a new one -/
def frzO : SO → Option D
  | .lst xs => if pureL xs then some (.lst xs) else none
  | .dct ks ws => if pureL ws then some (.dct ks ws) else none
  | .ins _ _ => none
def fzK (σ : Sl) (S : List SO) (o : Option SO) : RS := match o with
  | some o => match frzO o with
    | some x => .nx (subS (S.length - 1) x σ) ((S.take (S.length - 1)).map (subO (S.length - 1) x))
    | none => .bad
  | none => .bad
def fz1 (n : Nat) (r : RS) : RS := match r with
  | .nx σ S => if n < S.length then fzK σ S (gets S (S.length - 1)) else .nx σ S
  | r => r
def sFz (f : SC) : SC := fun σ S => fz1 S.length (f σ S)
section
variable {g : GX} {W : WX} {f : SC} {μ : List Addr} {F : FZ} {σ : Sl} {S : List SO} {σc : St} {H : Hp}
theorem frz_rep {o : SO} {x : D} {a : Addr} (e : frzO o = some x) (r : RepO g H F μ o a) : x.pure = true ∧ RepP g H (fun b => F b ∨ b = a) x (.ref a) := by
  have up : ∀ b, F b → F b ∨ b = a := fun b h => .inl h
  cases o with
  | lst xs =>
    have e : (if pureL xs = true then some (D.lst xs) else none) = some x := e
    by_cases hp : pureL xs = true
    · rw [if_pos hp] at e
      cases e
      obtain ⟨vs, h1, h2, h3⟩ := r
      exact ⟨rfl, a, vs, rfl, ⟨.inr rfl, h1, h2⟩, RepL.mono (Same.refl H) up _ _ (h3.pure hp)⟩
    · rw [if_neg hp] at e; cases e
  | dct ks ws =>
    have e : (if pureL ws = true then some (D.dct ks ws) else none) = some x := e
    by_cases hp : pureL ws = true
    · rw [if_pos hp] at e
      cases e
      obtain ⟨vs, h1, h2⟩ := r
      exact ⟨rfl, a, vs, rfl, .inr rfl, RepL.mono (Same.refl H) up _ _ (h1.pure hp), h2.imp (fun ⟨kvs, q1, q2⟩ => ⟨kvs, .inl q1, q2⟩) fun ⟨kvs, q1, q2⟩ => ⟨kvs, .inl q1, q2⟩⟩
    · rw [if_neg hp] at e; cases e
  | ins c ws => cases e
theorem sub_rep {x : D} {a : Addr} (rx : RepP g H (fun b => F b ∨ b = a) x (.ref a)) {d : D} {v : V} (r : RepV g H F (μ ++ [a]) d v) : RepV g H (fun b => F b ∨ b = a) μ (subD μ.length x d) v := by
  have up : ∀ b, F b → F b ∨ b = a := fun b h => .inl h
  rcases r with ⟨k, b, rfl, hk, rfl⟩ | r
  · by_cases e : k = μ.length
    · subst e
      rw [List.getElem?_append_right (Nat.le_refl _), Nat.sub_self] at hk
      cases hk
      have es : subD μ.length x (.loc μ.length) = x := if_pos rfl
      rw [es]
      exact .inr rx
    · have es : subD μ.length x (.loc k) = .loc k := if_neg e
      rw [es]
      have hl := (List.getElem?_eq_some_iff.mp hk).1
      rw [List.length_append] at hl
      have hl2 : k < μ.length := by
        have : [a].length = 1 := rfl
        omega
      rw [List.getElem?_append_left hl2] at hk
      exact .inl ⟨k, b, rfl, hk, rfl⟩
  · have es : subD μ.length x d = d := by
      cases d <;> first | rfl | exact r.elim
    rw [es]
    exact .inr (RepP.mono (Same.refl H) up _ _ r)
theorem subs_rep {x : D} {a : Addr} (rx : RepP g H (fun b => F b ∨ b = a) x (.ref a)) : ∀ {ds : List D} {us : List V}, RepVs g H F (μ ++ [a]) ds us → RepVs g H (fun b => F b ∨ b = a) μ (ds.map (subD μ.length x)) us
  | _, _, .nil => .nil
  | _, _, .cons r t => .cons (sub_rep rx r) (subs_rep rx t)
theorem fz_of {Dn : Ends} (h : TSt g W (sFz f) Dn σc H) : TSt g W f Dn σc H := by
  obtain ⟨μ, F, σ, S, R, q⟩ := h
  refine ⟨μ, F, σ, S, R, ?_⟩
  unfold sFz at q
  cases e : f σ S with
  | nx σ' S' =>
    rw [e] at q
    unfold fz1 at q
    dsimp only at q
    by_cases hl : S.length < S'.length
    · rw [if_pos hl] at q
      unfold fzK at q
      cases eg : gets S' (S'.length - 1) with
      | none => rw [eg] at q; exact q.elim
      | some o =>
        rw [eg] at q
        dsimp only at q
        cases eo : frzO o with
        | none => rw [eo] at q; exact q.elim
        | some x =>
          rw [eo] at q
          dsimp only at q
          intro σc' μ' F' H' l R'
          obtain ⟨ν, eν, nν⟩ := l.mu
          have h1 := R'.ml
          have h2 := R.ml
          have hν : ν ≠ [] := fun z => by rw [eν, z, List.append_nil] at h1; omega
          obtain ⟨μ1, a, ea, em⟩ : ∃ μ1 a, ν = μ1 ++ [a] ∧ μ' = (μ ++ μ1) ++ [a] := ⟨ν.dropLast, ν.getLast hν, (List.dropLast_concat_getLast hν).symm, by rw [eν, List.append_assoc, List.dropLast_concat_getLast hν]⟩
          have hm : (μ ++ μ1).length = S'.length - 1 := by rw [em, List.length_append] at h1; have : [a].length = 1 := rfl; omega
          rw [gets_eq] at eg
          obtain ⟨b, hb, k1⟩ := R'.st _ _ eg
          rw [← hm, em, List.getElem?_append_right (Nat.le_refl _), Nat.sub_self] at hb
          cases hb
          obtain ⟨px, rx⟩ := frz_rep eo k1
          have ha : ∃ u, H' a = some u := k1.there
          have na : H a = none := nν a (by rw [ea]; exact List.mem_append.mpr (.inr (List.mem_cons_self ..)))
          have nd' := R'.nd
          rw [em] at nd'
          have nm : a ∉ μ ++ μ1 := fun hm => (List.nodup_append.mp nd').2.2 a hm a (List.mem_cons_self ..) rfl
          have l2 : Later μ F H (μ ++ μ1) (fun b => F' b ∨ b = a) H' := ⟨⟨μ1, rfl, fun x h => nν x (by rw [ea]; exact List.mem_append.mpr (.inl h))⟩, fun x h => .inl (l.up x h), l.keep, l.dom, fun x h => h.elim (l.nw x) fun h => .inr (by rw [h]; exact na)⟩
          refine q σc' (μ ++ μ1) _ H' l2 ?_
          have hsub := fun {d v} (r : RepV g H' F' ((μ ++ μ1) ++ [a]) d v) => sub_rep (g := g) (x := x) rx r
          have hsubs := fun {ds us} (r : RepVs g H' F' ((μ ++ μ1) ++ [a]) ds us) => subs_rep (g := g) (x := x) rx r
          rw [← hm]
          refine ⟨fun i d h => ?_, ?_, fun k o h => ?_, ?_, (List.nodup_append.mp nd').1, fun b hb hF => ?_, fun b hb => ?_, fun p hp2 => RepX.later R l2 (R.xc p hp2)⟩
          · unfold subS at h
            rw [List.getElem?_map] at h
            cases es : σ'[i]? with
            | none => rw [es] at h; cases h
            | some od =>
              rw [es] at h
              cases od with
              | none => cases h
              | some d0 =>
                cases h
                obtain ⟨v, q1, q2⟩ := R'.env i d0 es
                rw [em] at q2
                exact ⟨v, q1, hsub q2⟩
          · unfold subS
            rw [List.length_map]
            exact R'.len
          · rw [List.getElem?_map] at h
            cases es : (S'.take (μ ++ μ1).length)[k]? with
            | none => rw [es] at h; cases h
            | some o0 =>
              rw [es] at h
              cases h
              rw [List.getElem?_take] at es
              split at es
              · rename_i hk
                obtain ⟨b, q1, q2⟩ := R'.st k o0 es
                rw [em] at q1 q2
                rw [List.getElem?_append_left hk] at q1
                refine ⟨b, q1, ?_⟩
                cases o0 with
                | lst zs => obtain ⟨ws, z1, z2, z3⟩ := q2; exact ⟨ws, z1, z2, hsubs z3⟩
                | dct ks zs => obtain ⟨ws, z1, z2⟩ := q2; exact ⟨ws, hsubs z1, z2⟩
                | ins c zs => obtain ⟨dx, fs, ws, z1, z2, z3, z4⟩ := q2; exact ⟨dx, fs, ws, z1, z2, z3, hsubs z4⟩
              · cases es
          · rw [List.length_map, List.length_take]
            omega
          · rcases hF with hF | hF
            · exact R'.ap b (by rw [em]; exact List.mem_append.mpr (.inl hb)) hF
            · exact nm (hF ▸ hb)
          · rcases hb with hb | hb
            · exact R'.dom b hb
            · rw [hb]; exact ha
    · rw [if_neg hl] at q
      exact q
  | _ => rw [e] at q; exact q
end
section
variable {X : Cx} {g : GX} {W : WX} {s1 s2 s3 s4 s5 s6 : Stmt} {rest : List Stmt} {f1 f2 f3 f4 f5 f6 fz fr : SC}
/-- some statements as a block: fz is what is told of the block -/
theorem s_bk1 (F : ∀ (Dn : Ends) σc H, TSt g W fz Dn σc H → TSt g W f1 Dn σc H) (h1 : PS X s1 (TSt g W f1)) (hr : PSs X rest (TSt g W fr)) : PSs X (s1 :: rest) (TSt g W (sSeq fz fr)) :=
  (pss_cons h1 hr).hc fun Dn σc H h => F _ _ _ (seq_of h)
theorem s_bk2 (F : ∀ (Dn : Ends) σc H, TSt g W fz Dn σc H → TSt g W (sSeq f1 f2) Dn σc H) (h1 : PS X s1 (TSt g W f1)) (h2 : PS X s2 (TSt g W f2)) (hr : PSs X rest (TSt g W fr)) : PSs X (s1 :: s2 :: rest) (TSt g W (sSeq fz fr)) :=
  (pss_cons h1 (pss_cons h2 hr)).hc fun Dn σc H h => seq_of (F _ _ _ (seq_of h))
theorem s_bk3 (F : ∀ (Dn : Ends) σc H, TSt g W fz Dn σc H → TSt g W (sSeq (sSeq f1 f2) f3) Dn σc H) (h1 : PS X s1 (TSt g W f1)) (h2 : PS X s2 (TSt g W f2)) (h3 : PS X s3 (TSt g W f3)) (hr : PSs X rest (TSt g W fr)) : PSs X (s1 :: s2 :: s3 :: rest) (TSt g W (sSeq fz fr)) :=
  (pss_cons h1 (pss_cons h2 (pss_cons h3 hr))).hc fun Dn σc H h => seq_of (seq_of (F _ _ _ (seq_of h)))
theorem s_bk4 (F : ∀ (Dn : Ends) σc H, TSt g W fz Dn σc H → TSt g W (sSeq (sSeq (sSeq f1 f2) f3) f4) Dn σc H) (h1 : PS X s1 (TSt g W f1)) (h2 : PS X s2 (TSt g W f2)) (h3 : PS X s3 (TSt g W f3)) (h4 : PS X s4 (TSt g W f4)) (hr : PSs X rest (TSt g W fr)) : PSs X (s1 :: s2 :: s3 :: s4 :: rest) (TSt g W (sSeq fz fr)) :=
  (pss_cons h1 (pss_cons h2 (pss_cons h3 (pss_cons h4 hr)))).hc fun Dn σc H h => seq_of (seq_of (seq_of (F _ _ _ (seq_of h))))
theorem s_bk5 (F : ∀ (Dn : Ends) σc H, TSt g W fz Dn σc H → TSt g W (sSeq (sSeq (sSeq (sSeq f1 f2) f3) f4) f5) Dn σc H) (h1 : PS X s1 (TSt g W f1)) (h2 : PS X s2 (TSt g W f2)) (h3 : PS X s3 (TSt g W f3)) (h4 : PS X s4 (TSt g W f4)) (h5 : PS X s5 (TSt g W f5)) (hr : PSs X rest (TSt g W fr)) : PSs X (s1 :: s2 :: s3 :: s4 :: s5 :: rest) (TSt g W (sSeq fz fr)) :=
  (pss_cons h1 (pss_cons h2 (pss_cons h3 (pss_cons h4 (pss_cons h5 hr))))).hc fun Dn σc H h => seq_of (seq_of (seq_of (seq_of (F _ _ _ (seq_of h)))))
theorem s_bk6 (F : ∀ (Dn : Ends) σc H, TSt g W fz Dn σc H → TSt g W (sSeq (sSeq (sSeq (sSeq (sSeq f1 f2) f3) f4) f5) f6) Dn σc H) (h1 : PS X s1 (TSt g W f1)) (h2 : PS X s2 (TSt g W f2)) (h3 : PS X s3 (TSt g W f3)) (h4 : PS X s4 (TSt g W f4)) (h5 : PS X s5 (TSt g W f5)) (h6 : PS X s6 (TSt g W f6)) (hr : PSs X rest (TSt g W fr)) : PSs X (s1 :: s2 :: s3 :: s4 :: s5 :: s6 :: rest) (TSt g W (sSeq fz fr)) :=
  (pss_cons h1 (pss_cons h2 (pss_cons h3 (pss_cons h4 (pss_cons h5 (pss_cons h6 hr)))))).hc fun Dn σc H h => seq_of (seq_of (seq_of (seq_of (seq_of (F _ _ _ (seq_of h))))))
end
section
variable {σ : Sl} {S : List SO} {f : SC} {n : Nat} {xs ks : List D}
@[simp] theorem sFz_e : sFz f σ S = fz1 S.length (f σ S) := id rfl
@[simp] theorem fz1_e : fz1 n (.nx σ S) = if n < S.length then fzK σ S (gets S (S.length - 1)) else .nx σ S := id rfl
@[simp] theorem fzK_l : fzK σ S (some (.lst xs)) = if pureL xs then .nx (subS (S.length - 1) (.lst xs) σ) ((S.take (S.length - 1)).map (subO (S.length - 1) (.lst xs))) else .bad := by
  unfold fzK frzO
  by_cases h : pureL xs = true
  · simp only [h, if_true]
  · simp only [h, if_false, Bool.false_eq_true]
@[simp] theorem fzK_d : fzK σ S (some (.dct ks xs)) = if pureL xs then .nx (subS (S.length - 1) (.dct ks xs) σ) ((S.take (S.length - 1)).map (subO (S.length - 1) (.dct ks xs))) else .bad := by
  unfold fzK frzO
  by_cases h : pureL xs = true
  · simp only [h, if_true]
  · simp only [h, if_false, Bool.false_eq_true]
@[simp] theorem subS_e {x : D} : subS n x σ = σ.map (Option.map (subD n x)) := id rfl
end
end HC

set_option maxRecDepth 100000
namespace PM
/-! stairs as lists of numbers -/
structure Stair (s : List Nat) : Prop where
  dn : s.Pairwise (· ≥ ·)
  pos : ∀ x ∈ s, 0 < x
/-- how many rows are greater than j -/
def cnt (s : List Nat) (j : Nat) : Nat := s.countP fun x => decide (j < x)
def conj (s : List Nat) : List Nat := (List.range (s.headD 0)).map (cnt s)
def add (a b : List Nat) : List Nat := (List.range (max a.length b.length)).map fun i => a.getD i 0 + b.getD i 0
theorem Stair.tail {x : Nat} {s : List Nat} (h : Stair (x :: s)) : Stair s := ⟨(List.pairwise_cons.mp h.dn).2, fun y hy => h.pos y (List.mem_cons_of_mem _ hy)⟩
theorem stair_nil : Stair [] := ⟨.nil, fun _ h => nomatch h⟩
theorem cnt_le (s : List Nat) (j : Nat) : cnt s j ≤ s.length := List.countP_le_length
theorem cnt_cons (x : Nat) (s : List Nat) (j : Nat) : cnt (x :: s) j = cnt s j + if j < x then 1 else 0 := by
  unfold cnt
  rw [List.countP_cons]
  simp
/-- the k-th row is greater than j exactly if more than k rows are -/
theorem cnt_gt : ∀ {s : List Nat}, Stair s → ∀ (i j : Nat), i < cnt s j ↔ j < s.getD i 0
  | [], _, i, j => by simp [cnt]
  | x :: s, h, i, j => by
    have ih := cnt_gt h.tail
    rw [cnt_cons]
    cases i with
    | zero =>
      have h0 : j < x ∨ cnt s j = 0 := by
        by_cases hx : j < x
        · exact .inl hx
        · right
          cases hc : cnt s j with
          | zero => rfl
          | succ n =>
            have h1 : 0 < cnt s j := by omega
            rw [ih 0 j] at h1
            cases s with
            | nil => simp at h1
            | cons y t =>
              have := (List.pairwise_cons.mp h.dn).1 y (List.mem_cons_self ..)
              simp at h1
              omega
      simp only [List.getD_cons_zero]
      split <;> omega
    | succ n =>
      simp only [List.getD_cons_succ]
      rw [← ih n j]
      split
      · omega
      · rename_i hx
        have hz : cnt s j = 0 := by
          cases hc : cnt s j with
          | zero => rfl
          | succ n =>
            have h1 : 0 < cnt s j := by omega
            rw [ih 0 j] at h1
            cases s with
            | nil => simp at h1
            | cons y t =>
              have := (List.pairwise_cons.mp h.dn).1 y (List.mem_cons_self ..)
              simp at h1
              omega
        omega
theorem getD_le {s : List Nat} (h : Stair s) (i : Nat) : s.getD i 0 ≤ s.headD 0 := by
  cases s with
  | nil => simp
  | cons x s =>
    cases i with
    | zero => simp
    | succ n =>
      simp only [List.getD_cons_succ, List.headD_cons]
      rw [List.getD_eq_getElem?_getD]
      cases e : s[n]? with
      | none => simp
      | some y =>
        have := (List.pairwise_cons.mp h.dn).1 y (List.mem_of_getElem? e)
        simpa using this
theorem getD_pos {s : List Nat} (h : Stair s) (i : Nat) : 0 < s.getD i 0 ↔ i < s.length := by
  rw [List.getD_eq_getElem?_getD]
  by_cases hi : i < s.length
  · rw [List.getElem?_eq_getElem hi]
    simp [hi]
    exact h.pos _ (List.getElem_mem hi)
  · rw [List.getElem?_eq_none (by omega)]
    simp [hi]
theorem conj_len (s : List Nat) : (conj s).length = s.headD 0 := by simp [conj]
theorem conj_getD (s : List Nat) (hs : Stair s) (j : Nat) : (conj s).getD j 0 = cnt s j := by
  rw [List.getD_eq_getElem?_getD]
  unfold conj
  rw [List.getElem?_map]
  by_cases h : j < s.headD 0
  · rw [List.getElem?_range h]
    rfl
  · rw [List.getElem?_eq_none (by simpa using h)]
    have : ¬ 0 < cnt s j := by
      rw [cnt_gt hs 0 j]
      cases s with
      | nil => simp
      | cons x s => simpa using h
    simp
    omega
theorem cnt_anti (s : List Nat) {i j : Nat} (h : i ≤ j) : cnt s j ≤ cnt s i := by
  unfold cnt
  refine List.countP_mono_left fun x _ hx => ?_
  simp at hx ⊢
  omega
theorem conj_stair {s : List Nat} (hs : Stair s) : Stair (conj s) := by
  constructor
  · unfold conj
    rw [List.pairwise_map]
    exact List.pairwise_lt_range.imp fun h => cnt_anti s (Nat.le_of_lt h)
  · intro x hx
    unfold conj at hx
    obtain ⟨j, hj, rfl⟩ := List.mem_map.mp hx
    rw [cnt_gt hs 0 j]
    cases s with
    | nil => simp at hj
    | cons y t => simpa using hj
theorem ext_getD {a b : List Nat} (hl : a.length = b.length) (h : ∀ i, a.getD i 0 = b.getD i 0) : a = b := by
  refine List.ext_getElem? fun i => ?_
  have := h i
  rw [List.getD_eq_getElem?_getD, List.getD_eq_getElem?_getD] at this
  by_cases hi : i < a.length
  · rw [List.getElem?_eq_getElem hi, List.getElem?_eq_getElem (by omega)] at this ⊢
    simpa using this
  · rw [List.getElem?_eq_none (by omega), List.getElem?_eq_none (by omega)]
/-- two stairs with the same rows -/
theorem stair_ext {a b : List Nat} (ha : Stair a) (hb : Stair b) (h : ∀ i, a.getD i 0 = b.getD i 0) : a = b := by
  refine ext_getD ?_ h
  have key : ∀ i, i < a.length ↔ i < b.length := fun i => by rw [← getD_pos ha, ← getD_pos hb, h]
  have h1 := key a.length
  have h2 := key b.length
  omega
theorem countP_range (p : Nat → Bool) (m : Nat) : ∀ n, (∀ j, j < n → (p j = true ↔ j < m)) → (List.range n).countP p = min n m
  | 0, _ => by simp
  | n + 1, h => by
    rw [List.range_succ, List.countP_append, countP_range p m n fun j hj => h j (by omega)]
    have := h n (by omega)
    cases e : p n with
    | true =>
      have := this.mp e
      simp [e]
      omega
    | false =>
      rw [e] at this
      simp at this
      simp [e]
      omega
theorem conj_conj {s : List Nat} (hs : Stair s) : conj (conj s) = s := by
  have hc := conj_stair hs
  refine stair_ext (conj_stair hc) hs fun i => ?_
  rw [conj_getD _ hc]
  unfold cnt
  rw [show conj s = (List.range (s.headD 0)).map (cnt s) from rfl, List.countP_map]
  rw [countP_range _ (s.getD i 0) _ fun j hj => by simp only [Function.comp, decide_eq_true_eq]; exact cnt_gt hs i j]
  have := getD_le hs i
  omega
theorem add_len (a b : List Nat) : (add a b).length = max a.length b.length := by simp [add]
theorem add_getD (a b : List Nat) (i : Nat) : (add a b).getD i 0 = a.getD i 0 + b.getD i 0 := by
  rw [List.getD_eq_getElem?_getD]
  unfold add
  rw [List.getElem?_map]
  by_cases h : i < max a.length b.length
  · rw [List.getElem?_range h]
    rfl
  · rw [List.getElem?_eq_none (by simpa using h)]
    rw [List.getD_eq_getElem?_getD, List.getD_eq_getElem?_getD, List.getElem?_eq_none (by omega), List.getElem?_eq_none (by omega)]
    rfl
theorem getD_anti {a : List Nat} (ha : Stair a) {i j : Nat} (h : i ≤ j) : a.getD j 0 ≤ a.getD i 0 := by
  have key : ∀ x, x < a.getD j 0 → x < a.getD i 0 := fun x hx => by
    rw [← cnt_gt ha] at hx ⊢
    omega
  have := key (a.getD j 0 - 1)
  omega
theorem add_stair {a b : List Nat} (ha : Stair a) (hb : Stair b) : Stair (add a b) := by
  constructor
  · unfold add
    rw [List.pairwise_map]
    refine List.pairwise_lt_range.imp fun {i j} h => ?_
    have h1 := getD_anti ha (Nat.le_of_lt h)
    have h2 := getD_anti hb (Nat.le_of_lt h)
    omega
  · intro x hx
    unfold add at hx
    obtain ⟨i, hi, rfl⟩ := List.mem_map.mp hx
    have hi : i < max a.length b.length := by simpa using hi
    have h1 := getD_pos ha i
    have h2 := getD_pos hb i
    omega
theorem cnt_perm {a b : List Nat} (h : a.Perm b) (j : Nat) : cnt a j = cnt b j := h.countP_eq _
theorem cnt_append (a b : List Nat) (j : Nat) : cnt (a ++ b) j = cnt a j + cnt b j := List.countP_append
/-- the stairs' rows together, turned: the sum of the turned -/
theorem conj_join {a b c : List Nat} (ha : Stair a) (hb : Stair b) (hc : Stair c) (h : c.Perm (a ++ b)) : conj c = add (conj a) (conj b) := by
  refine stair_ext (conj_stair hc) (add_stair (conj_stair ha) (conj_stair hb)) fun i => ?_
  rw [conj_getD c hc, add_getD, conj_getD a ha, conj_getD b hb, cnt_perm h, cnt_append]
theorem sorted_eq : ∀ {a b : List Nat}, a.Perm b → a.Pairwise (· ≥ ·) → b.Pairwise (· ≥ ·) → a = b := fun h ha hb => h.eq_of_pairwise (fun x y _ _ h1 h2 => by have h1 : x ≥ y := h1; have h2 : y ≥ x := h2; omega) ha hb
theorem conj_add {a b c : List Nat} (ha : Stair a) (hb : Stair b) (hc : Stair c) (h : c.Perm (conj a ++ conj b)) : conj (add a b) = c := by
  have e := conj_join (conj_stair ha) (conj_stair hb) hc h
  rw [conj_conj ha, conj_conj hb] at e
  rw [← e, conj_conj hc]
end PM

set_option maxRecDepth 100000
namespace PM
/-! ## which stair is above which -/
def psum (l : List Nat) (m : Nat) : Nat := (l.take m).sum
theorem psum_zero (l : List Nat) : psum l 0 = 0 := by simp [psum]
theorem psum_succ (l : List Nat) (m : Nat) : psum l (m + 1) = psum l m + l.getD m 0 := by
  unfold psum
  rw [List.getD_eq_getElem?_getD]
  by_cases h : m < l.length
  · rw [List.take_succ, List.sum_append, List.getElem?_eq_getElem h]
    simp
  · rw [List.take_of_length_le (by omega), List.take_of_length_le (by omega), List.getElem?_eq_none (by omega)]
    simp
theorem psum_all (l : List Nat) (m : Nat) (h : l.length ≤ m) : psum l m = l.sum := by unfold psum; rw [List.take_of_length_le h]
theorem psum_le (l : List Nat) : ∀ {m n : Nat}, m ≤ n → psum l m ≤ psum l n := fun {m n} h => by
  induction h with
  | refl => exact Nat.le_refl _
  | step _ ih => rw [psum_succ]; omega
theorem psum_sum (l : List Nat) (m : Nat) : psum l m ≤ l.sum := by
  rw [← psum_all l (max m l.length) (by omega)]
  exact psum_le l (by omega)
def above (a b : List Nat) : Prop := ∀ m, psum b m ≤ psum a m
theorem above_refl (a : List Nat) : above a a := fun _ => Nat.le_refl _
theorem above_trans {a b c : List Nat} (h1 : above a b) (h2 : above b c) : above a c := fun m => Nat.le_trans (h2 m) (h1 m)
theorem psum_ext {a b : List Nat} (h : ∀ m, psum a m = psum b m) : ∀ i, a.getD i 0 = b.getD i 0 := fun i => by
  have h1 := h i
  have h2 := h (i + 1)
  rw [psum_succ, psum_succ] at h2
  omega
theorem above_anti {a b : List Nat} (ha : Stair a) (hb : Stair b) (h1 : above a b) (h2 : above b a) : a = b :=
  stair_ext ha hb (psum_ext fun m => Nat.le_antisymm (h2 m) (h1 m))
/-! ## a step down -/
theorem set_getD (c : List Nat) (j i x : Nat) (hj : j < c.length) : (c.set j x).getD i 0 = if i = j then x else c.getD i 0 := by
  rw [List.getD_eq_getElem?_getD, List.getElem?_set, List.getD_eq_getElem?_getD]
  by_cases h : j = i
  · subst h
    simp [hj]
  · rw [if_neg h, if_neg (Ne.symm h)]
/-- one box from row f to a later row t -/
def mv (l : List Nat) (f t : Nat) : List Nat := (l.set f (l.getD f 0 - 1)).set t (l.getD t 0 + 1)
theorem mv_len (l : List Nat) (f t : Nat) : (mv l f t).length = l.length := by simp [mv]
theorem mv_getD (l : List Nat) {f t : Nat} (hf : f < l.length) (ht : t < l.length) (hft : f ≠ t) (i : Nat) : (mv l f t).getD i 0 = if i = t then l.getD t 0 + 1 else if i = f then l.getD f 0 - 1 else l.getD i 0 := by
  unfold mv
  rw [set_getD _ _ _ _ (by simpa using ht), set_getD _ _ _ _ hf]
theorem mv_psum (l : List Nat) {f t : Nat} (hf : f < t) (ht : t < l.length) (hp : 0 < l.getD f 0) : ∀ m, psum (mv l f t) m + (if f < m ∧ m ≤ t then 1 else 0) = psum l m
  | 0 => by simp [psum_zero]
  | m + 1 => by
    have ih := mv_psum l hf ht hp m
    rw [psum_succ, psum_succ, mv_getD l (by omega) ht (by omega)]
    by_cases h1 : m = t
    · subst h1
      rw [if_pos ⟨by omega, Nat.le_refl _⟩] at ih
      rw [if_pos rfl, if_neg (by omega)]
      omega
    · rw [if_neg h1]
      by_cases h2 : m = f
      · subst h2
        rw [if_neg (by omega)] at ih
        rw [if_pos rfl, if_pos (by omega)]
        omega
      · rw [if_neg h2]
        by_cases h3 : f < m ∧ m ≤ t
        · rw [if_pos h3] at ih
          rw [if_pos (by omega)]
          omega
        · rw [if_neg h3] at ih
          rw [if_neg (by omega)]
          omega
/-- where the step goes from and to -/
structure StepAt (l g : List Nat) (f t : Nat) : Prop where
  ft : f < t
  tl : t < l.length
  hf : g.getD f 0 < l.getD f 0
  last : ∀ i, f < i → i < l.length → l.getD i 0 ≤ g.getD i 0
  ht : l.getD t 0 < g.getD t 0
  mid : ∀ i, f < i → i < t → l.getD i 0 = g.getD i 0
theorem last_of (p : Nat → Prop) [DecidablePred p] : ∀ n, (∃ i, i < n ∧ p i) → ∃ i, i < n ∧ p i ∧ ∀ j, i < j → j < n → ¬ p j
  | 0, ⟨i, h, _⟩ => absurd h (Nat.not_lt_zero _)
  | n + 1, ⟨i, h, hp⟩ => by
    by_cases hn : p n
    · exact ⟨n, by omega, hn, fun j h1 h2 => by omega⟩
    · have hi : i ≠ n := fun e => hn (e ▸ hp)
      obtain ⟨k, h1, h2, h3⟩ := last_of p n ⟨i, by omega, hp⟩
      refine ⟨k, by omega, h2, fun j hj hjn => ?_⟩
      by_cases e : j = n
      · rw [e]; exact hn
      · exact h3 j hj (by omega)
theorem first_of (p : Nat → Prop) [DecidablePred p] (n : Nat) (h : p n) : ∃ i, i ≤ n ∧ p i ∧ ∀ j, j < i → ¬ p j := by
  induction n using Nat.strongRecOn with
  | _ n ih =>
    by_cases hx : ∃ j, j < n ∧ p j
    · obtain ⟨j, h1, h2⟩ := hx
      obtain ⟨i, h3, h4, h5⟩ := ih j h1 h2
      exact ⟨i, by omega, h4, h5⟩
    · exact ⟨n, Nat.le_refl _, h, fun j hj hp => hx ⟨j, hj, hp⟩⟩
theorem step_at {l g : List Nat} (hl : l.length = g.length) (hs : l.sum = g.sum) (ha : above l g) (hn : l ≠ g) : ∃ f t, StepAt l g f t := by
  have ex : ∃ i, i < l.length ∧ g.getD i 0 < l.getD i 0 := by
    refine Classical.byContradiction fun hx => hn ?_
    have hle : ∀ i, l.getD i 0 ≤ g.getD i 0 := fun i => by
      by_cases hi : i < l.length
      · exact Nat.not_lt.mp fun h => hx ⟨i, hi, h⟩
      · rw [List.getD_eq_getElem?_getD, List.getElem?_eq_none (by omega)]
        simp
    have key : ∀ m, psum l m ≤ psum g m := fun m => by
      induction m with
      | zero => simp [psum_zero]
      | succ m ih => rw [psum_succ, psum_succ]; have := hle m; omega
    exact ext_getD hl (psum_ext fun m => Nat.le_antisymm (key m) (ha m))
  obtain ⟨f, hf, h1, h2⟩ := last_of (fun i => g.getD i 0 < l.getD i 0) l.length ex
  have h2 : ∀ j, f < j → j < l.length → l.getD j 0 ≤ g.getD j 0 := fun j a b => Nat.not_lt.mp (h2 j a b)
  have ex2 : ∃ j, f < j ∧ j < l.length ∧ l.getD j 0 < g.getD j 0 := by
    refine Classical.byContradiction fun hx => ?_
    have he : ∀ j, f < j → j < l.length → l.getD j 0 = g.getD j 0 := fun j a b => Nat.le_antisymm (h2 j a b) (Nat.not_lt.mp fun h => hx ⟨j, a, b, h⟩)
    have key : ∀ m, f < m → m ≤ l.length → psum g m < psum l m := fun m => by
      induction m with
      | zero => intro h; omega
      | succ m ih =>
        intro a b
        rw [psum_succ, psum_succ]
        by_cases e : f = m
        · subst e
          have := ha f
          omega
        · have := ih (by omega) (by omega)
          have := he m (by omega) (by omega)
          omega
    have := key l.length hf (Nat.le_refl _)
    rw [psum_all l _ (Nat.le_refl _), psum_all g _ (by omega), hs] at this
    omega
  obtain ⟨n, hn1, hn2, hn3⟩ := ex2
  obtain ⟨t, _, ⟨h3, h4, h5⟩, h6⟩ := first_of (fun j => f < j ∧ j < l.length ∧ l.getD j 0 < g.getD j 0) n ⟨hn1, hn2, hn3⟩
  exact ⟨f, t, h3, h4, h1, h2, h5, fun i a b => Nat.le_antisymm (h2 i a (by omega)) (Nat.not_lt.mp fun h => h6 i b ⟨a, by omega, h⟩)⟩
theorem down_getD {l : List Nat} (h : l.Pairwise (· ≥ ·)) {i j : Nat} (hij : i ≤ j) : l.getD j 0 ≤ l.getD i 0 := by
  rw [List.getD_eq_getElem?_getD, List.getD_eq_getElem?_getD]
  by_cases hj : j < l.length
  · rw [List.getElem?_eq_getElem hj, List.getElem?_eq_getElem (by omega)]
    by_cases e : i = j
    · subst e; exact Nat.le_refl _
    · exact List.pairwise_iff_getElem.mp h i j (by omega) hj (by omega)
  · rw [List.getElem?_eq_none (by omega)]
    simp
theorem getD_down {l : List Nat} (h : ∀ i, i + 1 < l.length → l.getD (i + 1) 0 ≤ l.getD i 0) : l.Pairwise (· ≥ ·) := by
  rw [List.pairwise_iff_getElem]
  intro i j hi hj hij
  have key : ∀ k, i + k < l.length → l.getD (i + k) 0 ≤ l.getD i 0 := fun k => by
    induction k with
    | zero => intro _; exact Nat.le_refl _
    | succ k ih => intro a; exact Nat.le_trans (h (i + k) a) (ih (by omega))
  have := key (j - i) (by omega)
  rw [show i + (j - i) = j by omega, List.getD_eq_getElem?_getD, List.getD_eq_getElem?_getD, List.getElem?_eq_getElem hi, List.getElem?_eq_getElem hj] at this
  exact this
/-- the step's stair is one, it is above the goal -/
theorem StepAt.ok {l g : List Nat} {f t : Nat} (s : StepAt l g f t) (hl : l.Pairwise (· ≥ ·)) (hg : g.Pairwise (· ≥ ·)) (ha : above l g) : (mv l f t).Pairwise (· ≥ ·) ∧ above (mv l f t) g ∧ (mv l f t).sum = l.sum := by
  have ft := s.ft
  have tl := s.tl
  have hf := s.hf
  have ht := s.ht
  have mp := mv_psum l ft tl (by omega)
  refine ⟨getD_down fun i hi => ?_, fun m => ?_, ?_⟩
  · rw [mv_len] at hi
    rw [mv_getD l (by omega) tl (by omega), mv_getD l (by omega) tl (by omega)]
    have d := down_getD hl (i := i) (j := i + 1) (by omega)
    have dg := down_getD hg (i := i) (j := i + 1) (by omega)
    by_cases h1 : i + 1 = t
    · rw [if_pos h1, if_neg (by omega)]
      rw [h1] at d dg
      by_cases h2 : i = f
      · subst h2
        rw [if_pos rfl]
        omega
      · rw [if_neg h2]
        have := s.mid i (by omega) (by omega)
        omega
    · rw [if_neg h1]
      by_cases h2 : i + 1 = f
      · subst h2
        rw [if_pos rfl, if_neg (by omega), if_neg (by omega)]
        omega
      · rw [if_neg h2]
        by_cases h3 : i = t
        · subst h3
          rw [if_pos rfl]
          omega
        · rw [if_neg h3]
          by_cases h4 : i = f
          · subst h4
            rw [if_pos rfl]
            have := s.last (i + 1) (by omega) (by omega)
            omega
          · rw [if_neg h4]
            exact d
  · have := mp m
    have hm := ha m
    by_cases h : f < m ∧ m ≤ t
    · rw [if_pos h] at this
      have key : ∀ k, f < k → k ≤ t → psum g k < psum l k := fun k => by
        induction k with
        | zero => intro h; omega
        | succ k ih =>
          intro a b
          rw [psum_succ, psum_succ]
          by_cases e : f = k
          · subst e
            have := ha f
            omega
          · have := ih (by omega) (by omega)
            have := s.mid k (by omega) (by omega)
            omega
      have := key m h.1 h.2
      omega
    · rw [if_neg h] at this
      omega
  · have := mp l.length
    rw [if_neg (by omega), psum_all _ _ (by rw [mv_len]; exact Nat.le_refl _), psum_all _ _ (Nat.le_refl _)] at this
    omega
/-- the sum of all sums of first rows -/
def height (l : List Nat) : Nat → Nat
  | 0 => 0
  | n + 1 => height l n + psum l (n + 1)
theorem height_mono {l g : List Nat} (h : above l g) : ∀ n, height g n ≤ height l n
  | 0 => Nat.le_refl _
  | n + 1 => by
    have := height_mono h n
    have := h (n + 1)
    simp only [height]
    omega
theorem height_le (l : List Nat) : ∀ n, height l n ≤ n * l.sum
  | 0 => by simp [height]
  | n + 1 => by
    have := height_le l n
    have := psum_sum l (n + 1)
    simp only [height, Nat.succ_mul]
    omega
theorem StepAt.less {l g : List Nat} {f t : Nat} (s : StepAt l g f t) : ∀ n, t ≤ n → height (mv l f t) n < height l n := by
  have mp := mv_psum l s.ft s.tl (by have := s.hf; omega)
  have ft := s.ft
  have key : ∀ n, height (mv l f t) n + (if t ≤ n then 1 else 0) ≤ height l n := fun n => by
    induction n with
    | zero => simp only [height]; rw [if_neg (by omega)]; exact Nat.le_refl _
    | succ n ih =>
      have := mp (n + 1)
      simp only [height]
      by_cases h1 : t ≤ n
      · rw [if_pos h1] at ih
        rw [if_pos (by omega)]
        split at this <;> omega
      · rw [if_neg h1] at ih
        by_cases h2 : t ≤ n + 1
        · rw [if_pos h2]
          rw [if_pos (by omega)] at this
          omega
        · rw [if_neg h2]
          split at this <;> omega
  intro n hn
  have := key n
  rw [if_pos hn] at this
  omega
end PM

set_option maxRecDepth 2000
namespace PM
/-- how many stairs of n boxes have at most h rows, none greater than w -/
def cw : Nat → Nat → Nat → Nat
  | 0, _, n => if n = 0 then 1 else 0
  | w + 1, 0, n => cw w 0 n
  | w + 1, h + 1, n => cw w (h + 1) n + (if w + 1 ≤ n then cw (w + 1) h (n - (w + 1)) else 0)
termination_by w h => (w, h)
theorem cw_w0 (h n : Nat) : cw 0 h n = if n = 0 then 1 else 0 := by rw [cw]
theorem cw_h0 : ∀ (w n : Nat), cw w 0 n = if n = 0 then 1 else 0
  | 0, n => by rw [cw]
  | w + 1, n => by rw [cw, cw_h0 w n]
theorem cw_s (w h n : Nat) : cw (w + 1) (h + 1) n = cw w (h + 1) n + (if w + 1 ≤ n then cw (w + 1) h (n - (w + 1)) else 0) := by rw [cw]
theorem cw_n0 : ∀ (w h : Nat), cw w h 0 = 1
  | 0, h => by rw [cw_w0, if_pos rfl]
  | w + 1, 0 => by rw [cw_h0, if_pos rfl]
  | w + 1, h + 1 => by rw [cw_s, cw_n0 w (h + 1), if_neg (by omega)]
/-- no more columns than boxes -/
theorem cw_wide {w n : Nat} (h : Nat) (hw : n ≤ w) : cw w h n = cw n h n := by
  obtain ⟨k, rfl⟩ := Nat.exists_eq_add_of_le hw
  clear hw
  induction k with
  | zero => rfl
  | succ k ih =>
    cases h with
    | zero => rw [cw_h0, cw_h0]
    | succ h => rw [← Nat.add_assoc, cw_s, if_neg (by omega), Nat.add_zero, ih]
/-- no more rows than boxes -/
theorem cw_high : ∀ (w n h : Nat), n ≤ h → cw w h n = cw w n n
  | 0, n, h, _ => by rw [cw_w0, cw_w0]
  | w + 1, 0, h, _ => by rw [cw_n0, cw_n0]
  | w + 1, n + 1, 0, hn => absurd hn (by omega)
  | w + 1, n + 1, h + 1, hn => by
    rw [cw_s, cw_s, cw_high w (n + 1) (h + 1) hn]
    by_cases k : w + 1 ≤ n + 1
    · rw [if_pos k, if_pos k, cw_high (w + 1) (n + 1 - (w + 1)) h (by omega), cw_high (w + 1) (n + 1 - (w + 1)) n (by omega)]
    · rw [if_neg k, if_neg k]
theorem cw_zero : ∀ (w h n : Nat), h * w < n → cw w h n = 0
  | 0, h, n, hn => by rw [cw_w0, if_neg (by omega)]
  | w + 1, 0, n, hn => by rw [cw_h0, if_neg (by omega)]
  | w + 1, h + 1, n, hn => by
    have e : (h + 1) * (w + 1) = (h + 1) * w + (h + 1) := Nat.mul_succ ..
    have e2 : (h + 1) * (w + 1) = h * (w + 1) + (w + 1) := Nat.succ_mul ..
    rw [cw_s, cw_zero w (h + 1) n (by omega)]
    by_cases k : w + 1 ≤ n
    · rw [if_pos k, cw_zero (w + 1) h (n - (w + 1)) (by omega)]
    · rw [if_neg k]
theorem cw_mono : ∀ (w h n : Nat), cw w h n ≤ cw (w + 1) h n
  | w, 0, n => by rw [cw_h0, cw_h0]; exact Nat.le_refl _
  | w, h + 1, n => by rw [cw_s]; exact Nat.le_add_right ..
/-! the product -/
def cz (w h : Nat) : Nat → Int := fun n => (cw w h n : Int)
def sh (k : Nat) (f : Nat → Int) : Nat → Int := fun n => if k ≤ n then f (n - k) else 0
def df (k : Nat) (f : Nat → Int) : Nat → Int := fun n => f n - sh k f n
theorem sh_sh (a b : Nat) (f : Nat → Int) (n : Nat) : sh a (sh b f) n = sh (a + b) f n := by
  unfold sh
  by_cases h1 : a ≤ n
  · by_cases h2 : b ≤ n - a
    · rw [if_pos h1, if_pos h2, if_pos (by omega), Nat.sub_sub]
    · rw [if_pos h1, if_neg h2, if_neg (by omega)]
  · rw [if_neg h1, if_neg (by omega)]
theorem sh_congr {a : Nat} {f g : Nat → Int} (h : ∀ n, f n = g n) (n : Nat) : sh a f n = sh a g n := by
  unfold sh
  rw [h]
theorem sh_add (a : Nat) (f g : Nat → Int) (n : Nat) : sh a (fun n => f n + g n) n = sh a f n + sh a g n := by
  unfold sh
  split <;> rfl
theorem sh_df (a k : Nat) (f : Nat → Int) (n : Nat) : sh a (df k f) n = sh a f n - sh (a + k) f n := by
  have e : sh a (df k f) n = sh a f n - sh a (sh k f) n := by
    unfold sh df
    split <;> rfl
  rw [e, sh_sh]
theorem cz_s (w h n : Nat) : cz (w + 1) (h + 1) n = cz w (h + 1) n + sh (w + 1) (cz (w + 1) h) n := by
  unfold cz sh
  rw [cw_s]
  split
  · rw [Int.natCast_add]
  · rw [Int.natCast_add]; rfl
theorem df_s (k w h n : Nat) : df k (cz (w + 1) (h + 1)) n = df k (cz w (h + 1)) n + sh (w + 1) (df k (cz (w + 1) h)) n := by
  unfold df
  rw [cz_s, sh_congr (g := fun n => cz w (h + 1) n + sh (w + 1) (cz (w + 1) h) n) (cz_s w h) n, sh_add, sh_sh]
  have := sh_df (w + 1) k (cz (w + 1) h) n
  unfold df at this
  rw [this, Nat.add_comm k (w + 1)]
  omega
theorem cz_Q {w : Nat} (P : ∀ h n, df (h + 1) (cz w (h + 1)) n = df (w + (h + 1)) (cz w h) n) : ∀ h n, df (w + 1) (cz (w + 1) h) n = df (w + 1 + h) (cz w h) n
  | 0, n => by
    have e : cz (w + 1) 0 = cz w 0 := by funext n; unfold cz; rw [cw_h0, cw_h0]
    rw [e, Nat.add_zero]
  | h + 1, n => by
    have e : ∀ n, df (w + 1) (cz (w + 1) h) n = df (h + 1) (cz w (h + 1)) n := fun n => by rw [cz_Q P h n, P h n, show w + 1 + h = w + (h + 1) by omega]
    rw [df_s, sh_congr e, sh_df]
    unfold df
    omega
theorem cz_P : ∀ w h n, df (h + 1) (cz w (h + 1)) n = df (w + (h + 1)) (cz w h) n
  | 0, h, n => by
    have e : cz 0 (h + 1) = cz 0 h := by funext n; unfold cz; rw [cw_w0, cw_w0]
    rw [e, Nat.zero_add]
  | w + 1, h, n => by
    rw [df_s, cz_P w h n, sh_df]
    have q := cz_Q (cz_P w) h n
    have e1 : w + 1 + h = w + (h + 1) := by omega
    rw [e1] at q
    rw [← q]
    unfold df
    omega
/-- (1 - q^i) times the counts of i rows is (1 - q^(w+i)) times those of a row less -/
theorem cz_prod (w h n : Nat) : cz w (h + 1) n = cz w h n - sh (w + (h + 1)) (cz w h) n + sh (h + 1) (cz w (h + 1)) n := by
  have := cz_P w h n
  unfold df at this
  omega
end PM

set_option maxRecDepth 2000
namespace PM
/-- s is the stair at the place p -/
inductive Unr : Nat → Nat → Nat → Nat → List Nat → Prop where
  | nil (h w : Nat) : Unr 0 h w 0 []
  | take {n h w p v : Nat} {s : List Nat} (hn : 0 < n) (hv : v = min w n) (h0 : 0 < v) (hp : p < cw v h (n - v)) (u : Unr (n - v) h v p s) : Unr n (h + 1) w p (v :: s)
  | skip {n h w p v : Nat} {s : List Nat} (hn : 0 < n) (hv : v = min w n) (h0 : 0 < v) (hp : cw v h (n - v) ≤ p) (u : Unr n (h + 1) (v - 1) (p - cw v h (n - v)) s) : Unr n (h + 1) w p s
theorem cw_min (w h n : Nat) : cw w h n = cw (min w n) h n := by
  by_cases k : n ≤ w
  · rw [Nat.min_eq_right k, cw_wide h k]
  · rw [Nat.min_eq_left (by omega)]
theorem cw_minh (w h n : Nat) : cw w h n = cw w (min h n) n := by
  by_cases k : n ≤ h
  · rw [Nat.min_eq_right k, cw_high w n h k]
  · rw [Nat.min_eq_left (by omega)]
theorem unr_ex : ∀ (k n h w p : Nat), n + w ≤ k → p < cw w h n → ∃ s, Unr n h w p s
  | k, 0, h, w, p, _, hp => by
    rw [cw_n0] at hp
    obtain rfl : p = 0 := by omega
    exact ⟨[], .nil h w⟩
  | k, n + 1, 0, w, p, _, hp => by rw [cw_h0, if_neg (by omega)] at hp; omega
  | k, n + 1, h + 1, 0, p, _, hp => by rw [cw_w0, if_neg (by omega)] at hp; omega
  | 0, n + 1, h + 1, w + 1, p, hk, hp => by omega
  | k + 1, n + 1, h + 1, w + 1, p, hk, hp => by
    obtain ⟨v, hv⟩ : ∃ v, v + 1 = min (w + 1) (n + 1) := ⟨min w n, by omega⟩
    rw [cw_min, ← hv, cw_s, if_pos (by omega)] at hp
    by_cases q : p < cw (v + 1) h (n + 1 - (v + 1))
    · obtain ⟨s, u⟩ := unr_ex k (n + 1 - (v + 1)) h (v + 1) p (by omega) q
      exact ⟨_, .take (by omega) hv (by omega) q u⟩
    · obtain ⟨s, u⟩ := unr_ex k (n + 1) (h + 1) v (p - cw (v + 1) h (n + 1 - (v + 1))) (by omega) (by omega)
      exact ⟨s, .skip (by omega) hv (by omega) (by omega) u⟩
structure Box (n h w : Nat) (s : List Nat) : Prop where
  st : Stair s
  su : s.sum = n
  le : s.length ≤ h
  wd : ∀ x ∈ s, x ≤ w
theorem Unr.box {n h w p : Nat} {s : List Nat} (u : Unr n h w p s) : Box n h w s := by
  induction u with
  | nil h w => exact ⟨stair_nil, rfl, Nat.zero_le _, fun x h => nomatch h⟩
  | take hn hv h0 hp u ih =>
    refine ⟨⟨List.pairwise_cons.mpr ⟨fun y hy => ih.wd y hy, ih.st.dn⟩, fun x hx => ?_⟩, ?_, ?_, fun x hx => ?_⟩
    · rcases List.mem_cons.mp hx with h | h
      · omega
      · exact ih.st.pos x h
    · rw [List.sum_cons, ih.su]
      omega
    · rw [List.length_cons]
      have := ih.le
      omega
    · rcases List.mem_cons.mp hx with h | h
      · omega
      · have := ih.wd x h
        omega
  | skip hn hv h0 hp u ih => exact ⟨ih.st, ih.su, ih.le, fun x hx => by have := ih.wd x hx; omega⟩
theorem stair_len : ∀ {s : List Nat}, Stair s → s.length ≤ s.sum
  | [], _ => Nat.le_refl _
  | x :: s, h => by
    have h1 := h.pos x (List.mem_cons_self ..)
    have h2 := stair_len h.tail
    rw [List.length_cons, List.sum_cons]
    omega
theorem Unr.high {n h w p : Nat} {s : List Nat} (u : Unr n h w p s) : n ≤ h → ∀ h2, n ≤ h2 → Unr n h2 w p s := by
  induction u with
  | nil h w => exact fun _ h2 _ => .nil h2 w
  | @take n h w p v s hn hv h0 hp u ih =>
    intro k h2 k2
    obtain ⟨m, rfl⟩ : ∃ m, h2 = m + 1 := ⟨h2 - 1, by omega⟩
    exact .take hn hv h0 (by rw [cw_high _ _ m (by omega), ← cw_high _ _ h (by omega)]; exact hp) (ih (by omega) m (by omega))
  | @skip n h w p v s hn hv h0 hp u ih =>
    intro k h2 k2
    obtain ⟨m, rfl⟩ : ∃ m, h2 = m + 1 := ⟨h2 - 1, by omega⟩
    have e : cw v m (n - v) = cw v h (n - v) := by rw [cw_high _ _ m (by omega), ← cw_high _ _ h (by omega)]
    exact .skip hn hv h0 (by rw [e]; exact hp) (by rw [e]; exact ih k (m + 1) k2)
theorem Unr.minh {n h w p : Nat} {s : List Nat} (u : Unr n h w p s) : Unr n (min h n) w p s := by
  by_cases k : n ≤ h
  · rw [Nat.min_eq_right k]
    exact u.high k n (Nat.le_refl _)
  · rw [Nat.min_eq_left (by omega)]
    exact u
theorem Unr.minw {n h w p : Nat} {s : List Nat} (u : Unr n h w p s) : Unr n h (min w n) p s := by
  cases u with
  | nil h w => exact .nil h _
  | take hn hv h0 hp u => exact .take hn (by omega) h0 hp u
  | skip hn hv h0 hp u => exact .skip hn (by omega) h0 hp u
/-- the place, reckoned from the stair -/
def skipped (h n : Nat) (x k : Nat) : Nat := ((List.range' (x + 1) k).map fun f => cw f h (n - f)).sum
def rk : Nat → Nat → Nat → List Nat → Nat
  | _, _, _, [] => 0
  | n, h, w, x :: s => skipped (h - 1) n x (min w n - x) + rk (n - x) (h - 1) x s
theorem skipped_s (h n x k : Nat) : skipped h n x (k + 1) = skipped h n x k + cw (x + 1 + k) h (n - (x + 1 + k)) := by
  unfold skipped
  rw [List.range'_concat, List.map_append, List.sum_append]
  simp
theorem Unr.rank {n h w p : Nat} {s : List Nat} (u : Unr n h w p s) : rk n h w s = p := by
  induction u with
  | nil h w => rfl
  | @take n h w p v s hn hv h0 hp u ih =>
    unfold rk
    rw [← hv, Nat.sub_self, Nat.add_sub_cancel, ih]
    simp [skipped]
  | @skip n h w p v s hn hv h0 hp u ih =>
    have b := u.box
    cases s with
    | nil => have := b.su; simp at this; omega
    | cons x s =>
      have hx := b.wd x (List.mem_cons_self ..)
      unfold rk at ih ⊢
      rw [← hv]
      have e : v - x = (min (v - 1) n - x) + 1 := by omega
      rw [e, skipped_s, Nat.add_sub_cancel] at *
      have e2 : x + 1 + (min (v - 1) n - x) = v := by omega
      rw [e2]
      omega
theorem Unr.lt {n h w p : Nat} {s : List Nat} (u : Unr n h w p s) : p < cw w h n := by
  induction u with
  | nil h w => rw [cw_n0]; omega
  | @take n h w p v s hn hv h0 hp u ih =>
    obtain ⟨m, rfl⟩ : ∃ m, v = m + 1 := ⟨v - 1, by omega⟩
    rw [cw_min, ← hv, cw_s, if_pos (by omega)]
    omega
  | @skip n h w p v s hn hv h0 hp u ih =>
    obtain ⟨m, rfl⟩ : ∃ m, v = m + 1 := ⟨v - 1, by omega⟩
    rw [cw_min, ← hv, cw_s, if_pos (by omega)]
    rw [Nat.add_sub_cancel] at ih
    omega
end PM

set_option maxRecDepth 2000
namespace PM
/-! ## rows in order, as tuples are compared -/
def ltN : List Nat → List Nat → Bool
  | [], [] => false
  | [], _ :: _ => true
  | _ :: _, [] => false
  | x :: xs, y :: ys => if x = y then ltN xs ys else decide (x < y)
theorem ltN_irr : ∀ a : List Nat, ltN a a = false
  | [] => rfl
  | x :: a => by unfold ltN; rw [if_pos rfl]; exact ltN_irr a
theorem ltN_trans : ∀ {a b c : List Nat}, ltN a b = true → ltN b c = true → ltN a c = true
  | [], [], _, h, _ => nomatch h
  | _ :: _, [], _, h, _ => nomatch h
  | _, _ :: _, [], _, h => nomatch h
  | [], _ :: _, _ :: _, _, _ => rfl
  | x :: a, y :: b, z :: c, h1, h2 => by
    unfold ltN at h1 h2 ⊢
    by_cases e1 : x = y
    · by_cases e2 : y = z
      · rw [if_pos e1] at h1
        rw [if_pos e2] at h2
        rw [if_pos (e1.trans e2)]
        exact ltN_trans h1 h2
      · rw [if_neg e2, decide_eq_true_eq] at h2
        rw [if_neg (by omega), decide_eq_true_eq]
        omega
    · rw [if_neg e1, decide_eq_true_eq] at h1
      by_cases e2 : y = z
      · rw [if_neg (by omega), decide_eq_true_eq]
        omega
      · rw [if_neg e2, decide_eq_true_eq] at h2
        rw [if_neg (by omega), decide_eq_true_eq]
        omega
theorem ltN_asym {a b : List Nat} (h : ltN a b = true) : ltN b a = false := by
  cases e : ltN b a with
  | false => rfl
  | true => have := ltN_trans h e; rw [ltN_irr] at this; exact nomatch this
theorem ltN_tri : ∀ {a b : List Nat}, ltN a b = false → ltN b a = false → a = b
  | [], [], _, _ => rfl
  | [], _ :: _, h, _ => nomatch h
  | _ :: _, [], _, h => nomatch h
  | x :: a, y :: b, h1, h2 => by
    unfold ltN at h1 h2
    by_cases e : x = y
    · rw [if_pos e] at h1
      rw [if_pos e.symm] at h2
      rw [e, ltN_tri h1 h2]
    · rw [if_neg e, decide_eq_false_iff_not] at h1
      rw [if_neg (fun z => e z.symm), decide_eq_false_iff_not] at h2
      omega
/-! ## places of stairs -/
theorem Unr.order {n h w p : Nat} {s : List Nat} (u : Unr n h w p s) : ∀ {q : Nat} {t : List Nat}, Unr n h w q t → p < q → ltN t s = true := by
  induction u with
  | nil h w => intro q t u2 hq; cases u2 <;> omega
  | @take n h w p v s hn hv h0 hp u ih =>
    intro q t u2 hq
    cases u2 with
    | take _ hv2 _ hp2 u2 =>
      subst hv2
      subst hv
      unfold ltN
      rw [if_pos rfl]
      exact ih u2 hq
    | skip _ hv2 _ hp2 u2 =>
      subst hv2
      subst hv
      have b := u2.box
      cases t with
      | nil => have := b.su; simp at this; omega
      | cons y t =>
        have := b.wd y (List.mem_cons_self ..)
        unfold ltN
        rw [if_neg (by omega), decide_eq_true_eq]
        omega
    | nil => omega
  | @skip n h w p v s hn hv h0 hp u ih =>
    intro q t u2 hq
    cases u2 with
    | take _ hv2 _ hp2 u2 =>
      subst hv2
      subst hv
      omega
    | skip _ hv2 _ hp2 u2 =>
      subst hv2
      subst hv
      exact ih u2 (by omega)
    | nil => omega
theorem Unr.same {n h w p : Nat} {s : List Nat} (u : Unr n h w p s) : ∀ {t : List Nat}, Unr n h w p t → s = t := by
  induction u with
  | nil h w => intro t u2; cases u2 <;> first | rfl | omega
  | @take n h w p v s hn hv h0 hp u ih =>
    intro t u2
    cases u2 with
    | take _ hv2 _ hp2 u2 => subst hv2; subst hv; rw [ih u2]
    | skip _ hv2 _ hp2 u2 => subst hv2; subst hv; omega
    | nil => omega
  | @skip n h w p v s hn hv h0 hp u ih =>
    intro t u2
    cases u2 with
    | take _ hv2 _ hp2 u2 => subst hv2; subst hv; omega
    | skip _ hv2 _ hp2 u2 => subst hv2; subst hv; exact ih u2
    | nil => omega
theorem box_unr : ∀ (k n h w : Nat) (s : List Nat), n + w ≤ k → Box n h w s → ∃ p, Unr n h w p s
  | k, n, h, w, [], _, b => by
    have : n = 0 := by have := b.su; simp at this; omega
    subst this
    exact ⟨0, .nil h w⟩
  | 0, n, h, w, x :: s, hk, b => by
    have h1 := b.st.pos x (List.mem_cons_self ..)
    have h2 := b.wd x (List.mem_cons_self ..)
    omega
  | k + 1, n, h, w, x :: s, hk, b => by
    have h1 := b.st.pos x (List.mem_cons_self ..)
    have h2 := b.wd x (List.mem_cons_self ..)
    have h3 := b.su
    rw [List.sum_cons] at h3
    have h4 := b.le
    rw [List.length_cons] at h4
    obtain ⟨h', rfl⟩ : ∃ h', h = h' + 1 := ⟨h - 1, by omega⟩
    by_cases e : x = min w n
    · have hs : Box (n - x) h' x s := ⟨⟨(List.pairwise_cons.mp b.st.dn).2, fun y hy => b.st.pos y (List.mem_cons_of_mem _ hy)⟩, by omega, by omega, (List.pairwise_cons.mp b.st.dn).1⟩
      obtain ⟨p, u⟩ := box_unr k (n - x) h' x s (by omega) hs
      exact ⟨p, .take (by omega) e h1 u.lt u⟩
    · have hs : Box n (h' + 1) (min w n - 1) (x :: s) := ⟨b.st, b.su, by rw [List.length_cons]; omega, fun y hy => by
        rcases List.mem_cons.mp hy with rfl | hy
        · omega
        · have := (List.pairwise_cons.mp b.st.dn).1 y hy; omega⟩
      obtain ⟨p, u⟩ := box_unr k n (h' + 1) (min w n - 1) (x :: s) (by omega) hs
      exact ⟨p + cw (min w n) h' (n - min w n), .skip (by omega) rfl (by omega) (by omega) (by rw [Nat.add_sub_cancel]; exact u)⟩
open Classical in
noncomputable def atP (n h w p : Nat) : List Nat := if e : ∃ s, Unr n h w p s then Classical.choose e else []
theorem atP_unr {n h w p : Nat} (hp : p < cw w h n) : Unr n h w p (atP n h w p) := by
  have e := unr_ex (n + w) n h w p (Nat.le_refl _) hp
  unfold atP
  rw [dif_pos e]
  exact Classical.choose_spec e
noncomputable def allP (n h w : Nat) : List (List Nat) := (List.range (cw w h n)).map (atP n h w)
theorem allP_down (n h w : Nat) : (allP n h w).Pairwise fun a b => ltN b a = true := by
  unfold allP
  refine List.pairwise_map.mpr ((List.pairwise_lt_range).imp_of_mem fun {p q} hp hq h => ?_)
  exact (atP_unr (List.mem_range.mp hp)).order (atP_unr (List.mem_range.mp hq)) h
theorem mem_allP {n h w : Nat} {s : List Nat} : s ∈ allP n h w ↔ Box n h w s := by
  unfold allP
  rw [List.mem_map]
  constructor
  · rintro ⟨p, hp, rfl⟩
    exact (atP_unr (List.mem_range.mp hp)).box
  · intro b
    obtain ⟨p, u⟩ := box_unr (n + w) n h w s (Nat.le_refl _) b
    refine ⟨p, List.mem_range.mpr u.lt, ?_⟩
    have u2 := atP_unr u.lt
    exact Unr.same u2 u
theorem allP_nodup (n h w : Nat) : (allP n h w).Nodup := (allP_down n h w).imp fun {a b} h e => by rw [e, ltN_irr] at h; cases h
end PM

set_option maxRecDepth 100000
namespace PL
open PySem HC
def b_is_integer : SC := (sRet (cAnd (cApp (fIsi [.int]) (cCons (cVar 0) cNil)) (cNot (cApp (fIsi [.bool]) (cCons (cVar 0) cNil)))))
theorem b_is_integer_e {σ : Sl} {S : List SO} : b_is_integer σ S = (sRet (cAnd (cApp (fIsi [.int]) (cCons (cVar 0) cNil)) (cNot (cApp (fIsi [.bool]) (cCons (cVar 0) cNil))))) σ S := id rfl
def m_is_integer : FnS := runF 1 1 b_is_integer
theorem r_is_integer {a0 : D} : m_is_integer [a0] = fin (b_is_integer [some a0] []) := id rfl
def b_is_positive : SC := (sRet (cAnd (cApp (callD m_is_integer) (cCons (cVar 0) cNil)) (cBin bGe (cVar 0) (cD (.int 1)))))
theorem b_is_positive_e {σ : Sl} {S : List SO} : b_is_positive σ S = (sRet (cAnd (cApp (callD m_is_integer) (cCons (cVar 0) cNil)) (cBin bGe (cVar 0) (cD (.int 1))))) σ S := id rfl
def m_is_positive : FnS := runF 1 1 b_is_positive
theorem r_is_positive {a0 : D} : m_is_positive [a0] = fin (b_is_positive [some a0] []) := id rfl
def b_row_of : SC := (sSeq (sIf (cBin bLt (cVar 1) (cApp fLen (cCons (cVar 0) cNil))) (sRet (cBin bIx (cVar 0) (cVar 1))) sSkip)
    (sRet (cD (.int 0))))
theorem b_row_of_e {σ : Sl} {S : List SO} : b_row_of σ S = (sSeq (sIf (cBin bLt (cVar 1) (cApp fLen (cCons (cVar 0) cNil))) (sRet (cBin bIx (cVar 0) (cVar 1))) sSkip)
    (sRet (cD (.int 0)))) σ S := id rfl
def m_row_of : FnS := runF 2 2 b_row_of
theorem r_row_of {a0 a1 : D} : m_row_of [a0, a1] = fin (b_row_of [some a0, some a1] []) := id rfl
def L_is_stair_1 : SC := (sSeq (sIf (cNotB (cTru (cApp (callD m_is_positive) (cCons (cVar 2) cNil)))) (sRet (cD (.bl false))) sSkip)
    (sIf (cAndB (cBin bGt (cVar 1) (cD (.int 0))) (cBin bGt (cVar 2) (cBin bIx (cVar 0) (cBin bSub (cVar 1) (cD (.int 1)))))) (sRet (cD (.bl false))) sSkip))
theorem L_is_stair_1_e {σ : Sl} {S : List SO} : L_is_stair_1 σ S = (sSeq (sIf (cNotB (cTru (cApp (callD m_is_positive) (cCons (cVar 2) cNil)))) (sRet (cD (.bl false))) sSkip)
    (sIf (cAndB (cBin bGt (cVar 1) (cD (.int 0))) (cBin bGt (cVar 2) (cBin bIx (cVar 0) (cBin bSub (cVar 1) (cD (.int 1)))))) (sRet (cD (.bl false))) sSkip)) σ S := id rfl
def b_is_stair : SC := (sSeq (sIf (cNotB (cTru (cApp (fIsi [.tup]) (cCons (cVar 0) cNil)))) (sRet (cD (.bl false))) sSkip)
    (sSeq (sFor (iApp enI (cCons (cVar 0) cNil)) (tgTup 2 (tgCons (tgName 1) (tgCons (tgName 2) tgNil))) L_is_stair_1)
    (sRet (cD (.bl true)))))
theorem b_is_stair_e {σ : Sl} {S : List SO} : b_is_stair σ S = (sSeq (sIf (cNotB (cTru (cApp (fIsi [.tup]) (cCons (cVar 0) cNil)))) (sRet (cD (.bl false))) sSkip)
    (sSeq (sFor (iApp enI (cCons (cVar 0) cNil)) (tgTup 2 (tgCons (tgName 1) (tgCons (tgName 2) tgNil))) L_is_stair_1)
    (sRet (cD (.bl true))))) σ S := id rfl
def m_is_stair : FnS := runF 1 3 b_is_stair
theorem r_is_stair {a0 : D} : m_is_stair [a0] = fin (b_is_stair [some a0, none, none] []) := id rfl
def b_need_stair : SC := (sIf (cNotB (cTru (cApp (callD m_is_stair) (cCons (cVar 0) cNil)))) (sRaise 2 (cCons (cVar 0) cNil)) sSkip)
theorem b_need_stair_e {σ : Sl} {S : List SO} : b_need_stair σ S = (sIf (cNotB (cTru (cApp (callD m_is_stair) (cCons (cVar 0) cNil)))) (sRaise 2 (cCons (cVar 0) cNil)) sSkip) σ S := id rfl
def m_need_stair : FnS := runF 1 1 b_need_stair
theorem r_need_stair {a0 : D} : m_need_stair [a0] = fin (b_need_stair [some a0] []) := id rfl
def W_turned_1 : CE := (cBin bLe (cBin bIx (cVar 0) (cBin bSub (cVar 2) (cD (.int 1)))) (cVar 3))
theorem W_turned_1_e {σ : Sl} {S : List SO} : W_turned_1 σ S = (cBin bLe (cBin bIx (cVar 0) (cBin bSub (cVar 2) (cD (.int 1)))) (cVar 3)) σ S := id rfl
def L_turned_1 : SC := (sAug 2 bSub (cD (.int 1)))
theorem L_turned_1_e {σ : Sl} {S : List SO} : L_turned_1 σ S = (sAug 2 bSub (cD (.int 1))) σ S := id rfl
def L_turned_2 : SC := (sSeq (sWhile W_turned_1 L_turned_1)
    (sMethE mAppend (cVar 1) (cCons (cVar 2) cNil)))
theorem L_turned_2_e {σ : Sl} {S : List SO} : L_turned_2 σ S = (sSeq (sWhile W_turned_1 L_turned_1)
    (sMethE mAppend (cVar 1) (cCons (cVar 2) cNil))) σ S := id rfl
def b_turned : SC := (sSeq (sExpr (cApp (callD m_need_stair) (cCons (cVar 0) cNil)))
    (sSeq (sNew 1 (cApp fLst cNil))
    (sSeq (sAsg 2 (cApp fLen (cCons (cVar 0) cNil)))
    (sSeq (sFor (iApp rg1 (cCons (cApp (callD m_row_of) (cCons (cVar 0) (cCons (cD (.int 0)) cNil))) cNil)) (tgName 3) L_turned_2)
    (sRet (cApp fTuple (cCons (cVar 1) cNil)))))))
theorem b_turned_e {σ : Sl} {S : List SO} : b_turned σ S = (sSeq (sExpr (cApp (callD m_need_stair) (cCons (cVar 0) cNil)))
    (sSeq (sNew 1 (cApp fLst cNil))
    (sSeq (sAsg 2 (cApp fLen (cCons (cVar 0) cNil)))
    (sSeq (sFor (iApp rg1 (cCons (cApp (callD m_row_of) (cCons (cVar 0) (cCons (cD (.int 0)) cNil))) cNil)) (tgName 3) L_turned_2)
    (sRet (cApp fTuple (cCons (cVar 1) cNil))))))) σ S := id rfl
def m_turned : FnS := runF 1 4 b_turned
theorem r_turned {a0 : D} : m_turned [a0] = fin (b_turned [some a0, none, none, none] []) := id rfl
def E_added_1 : CE := (cBin bAdd (cApp (callD m_row_of) (cCons (cVar 0) (cCons (cVar 2) cNil))) (cApp (callD m_row_of) (cCons (cVar 1) (cCons (cVar 2) cNil))))
theorem E_added_1_e {σ : Sl} {S : List SO} : E_added_1 σ S = (cBin bAdd (cApp (callD m_row_of) (cCons (cVar 0) (cCons (cVar 2) cNil))) (cApp (callD m_row_of) (cCons (cVar 1) (cCons (cVar 2) cNil)))) σ S := id rfl
def b_added : SC := (sSeq (sExpr (cApp (callD m_need_stair) (cCons (cVar 0) cNil)))
    (sSeq (sExpr (cApp (callD m_need_stair) (cCons (cVar 1) cNil)))
    (sRet (cApp fTuple (cCons (cComp (iApp rg1 (cCons (cApp fMax2 (cCons (cApp fLen (cCons (cVar 0) cNil)) (cCons (cApp fLen (cCons (cVar 1) cNil)) cNil))) cNil)) (tgName 2) [2] cTrue E_added_1) cNil)))))
theorem b_added_e {σ : Sl} {S : List SO} : b_added σ S = (sSeq (sExpr (cApp (callD m_need_stair) (cCons (cVar 0) cNil)))
    (sSeq (sExpr (cApp (callD m_need_stair) (cCons (cVar 1) cNil)))
    (sRet (cApp fTuple (cCons (cComp (iApp rg1 (cCons (cApp fMax2 (cCons (cApp fLen (cCons (cVar 0) cNil)) (cCons (cApp fLen (cCons (cVar 1) cNil)) cNil))) cNil)) (tgName 2) [2] cTrue E_added_1) cNil))))) σ S := id rfl
def m_added : FnS := runF 2 3 b_added
theorem r_added {a0 a1 : D} : m_added [a0, a1] = fin (b_added [some a0, some a1, none] []) := id rfl
def E_times_1 : CE := (cBin bMul (cVar 2) (cVar 1))
theorem E_times_1_e {σ : Sl} {S : List SO} : E_times_1 σ S = (cBin bMul (cVar 2) (cVar 1)) σ S := id rfl
def b_times : SC := (sSeq (sExpr (cApp (callD m_need_stair) (cCons (cVar 0) cNil)))
    (sSeq (sIf (cNotB (cTru (cApp (callD m_is_positive) (cCons (cVar 1) cNil)))) (sRaise 1 (cCons (cVar 1) cNil)) sSkip)
    (sRet (cApp fTuple (cCons (cComp (iVal (cVar 0)) (tgName 2) [2] cTrue E_times_1) cNil)))))
theorem b_times_e {σ : Sl} {S : List SO} : b_times σ S = (sSeq (sExpr (cApp (callD m_need_stair) (cCons (cVar 0) cNil)))
    (sSeq (sIf (cNotB (cTru (cApp (callD m_is_positive) (cCons (cVar 1) cNil)))) (sRaise 1 (cCons (cVar 1) cNil)) sSkip)
    (sRet (cApp fTuple (cCons (cComp (iVal (cVar 0)) (tgName 2) [2] cTrue E_times_1) cNil))))) σ S := id rfl
def m_times : FnS := runF 2 3 b_times
theorem r_times {a0 a1 : D} : m_times [a0, a1] = fin (b_times [some a0, some a1, none] []) := id rfl
def b_joined : SC := (sSeq (sExpr (cApp (callD m_need_stair) (cCons (cVar 0) cNil)))
    (sSeq (sExpr (cApp (callD m_need_stair) (cCons (cVar 1) cNil)))
    (sRet (cApp fTuple (cCons (cApp (fSorted true) (cCons (cBin bAdd (cApp fList (cCons (cVar 0) cNil)) (cApp fList (cCons (cVar 1) cNil))) cNil)) cNil)))))
theorem b_joined_e {σ : Sl} {S : List SO} : b_joined σ S = (sSeq (sExpr (cApp (callD m_need_stair) (cCons (cVar 0) cNil)))
    (sSeq (sExpr (cApp (callD m_need_stair) (cCons (cVar 1) cNil)))
    (sRet (cApp fTuple (cCons (cApp (fSorted true) (cCons (cBin bAdd (cApp fList (cCons (cVar 0) cNil)) (cApp fList (cCons (cVar 1) cNil))) cNil)) cNil))))) σ S := id rfl
def m_joined : FnS := runF 2 2 b_joined
theorem r_joined {a0 a1 : D} : m_joined [a0, a1] = fin (b_joined [some a0, some a1] []) := id rfl
def b__law_cell : SC := (sSeq (sIf (cBin bLt (cVar 1) (cApp fLen (cCons (cVar 0) cNil))) (sRet (cApp fInt (cCons (cBin bIx (cVar 0) (cVar 1)) cNil))) sSkip)
    (sSeq (sIf (cBin bEq (cApp fLen (cCons (cVar 0) cNil)) (cD (.int 0))) (sRet (cVar 1)) sSkip)
    (sRet (cBin bAdd (cBin bFdiv (cApp fInt (cCons (cBin bIx (cVar 0) (cBin bMod (cVar 1) (cApp fLen (cCons (cVar 0) cNil)))) cNil)) (cBin bAdd (cVar 1) (cD (.int 2)))) (cVar 1)))))
theorem b__law_cell_e {σ : Sl} {S : List SO} : b__law_cell σ S = (sSeq (sIf (cBin bLt (cVar 1) (cApp fLen (cCons (cVar 0) cNil))) (sRet (cApp fInt (cCons (cBin bIx (cVar 0) (cVar 1)) cNil))) sSkip)
    (sSeq (sIf (cBin bEq (cApp fLen (cCons (cVar 0) cNil)) (cD (.int 0))) (sRet (cVar 1)) sSkip)
    (sRet (cBin bAdd (cBin bFdiv (cApp fInt (cCons (cBin bIx (cVar 0) (cBin bMod (cVar 1) (cApp fLen (cCons (cVar 0) cNil)))) cNil)) (cBin bAdd (cVar 1) (cD (.int 2)))) (cVar 1))))) σ S := id rfl
def m__law_cell : FnS := runF 2 2 b__law_cell
theorem r__law_cell {a0 a1 : D} : m__law_cell [a0, a1] = fin (b__law_cell [some a0, some a1] []) := id rfl
def b__law_draw : SC := (sSeq (sAsg 3 (cBin bMod (cApp fInt (cCons (cBin bAdd (cBin bAdd (cBin bMul (cVar 0) (cD (.int 48271))) (cBin bMul (cBin bAdd (cVar 1) (cD (.int 1))) (cD (.int 69621)))) (cD (.int 7))) cNil)) (cD (.int 2147483647))))
    (sSeq (sAsg 3 (cBin bMod (cApp fInt (cCons (cBin bAdd (cBin bAdd (cBin bMul (cVar 3) (cVar 3)) (cBin bMul (cD (.int 7919)) (cVar 1))) (cD (.int 104729))) cNil)) (cD (.int 2147483629))))
    (sSeq (sAsg 3 (cBin bMod (cApp fInt (cCons (cBin bAdd (cBin bMul (cVar 3) (cBin bAdd (cBin bMod (cApp fInt (cCons (cVar 3) cNil)) (cD (.int 65521))) (cD (.int 3)))) (cD (.int 40692))) cNil)) (cD (.int 2147483587))))
    (sRet (cBin bMod (cBin bFdiv (cApp fInt (cCons (cVar 3) cNil)) (cD (.int 7))) (cVar 2))))))
theorem b__law_draw_e {σ : Sl} {S : List SO} : b__law_draw σ S = (sSeq (sAsg 3 (cBin bMod (cApp fInt (cCons (cBin bAdd (cBin bAdd (cBin bMul (cVar 0) (cD (.int 48271))) (cBin bMul (cBin bAdd (cVar 1) (cD (.int 1))) (cD (.int 69621)))) (cD (.int 7))) cNil)) (cD (.int 2147483647))))
    (sSeq (sAsg 3 (cBin bMod (cApp fInt (cCons (cBin bAdd (cBin bAdd (cBin bMul (cVar 3) (cVar 3)) (cBin bMul (cD (.int 7919)) (cVar 1))) (cD (.int 104729))) cNil)) (cD (.int 2147483629))))
    (sSeq (sAsg 3 (cBin bMod (cApp fInt (cCons (cBin bAdd (cBin bMul (cVar 3) (cBin bAdd (cBin bMod (cApp fInt (cCons (cVar 3) cNil)) (cD (.int 65521))) (cD (.int 3)))) (cD (.int 40692))) cNil)) (cD (.int 2147483587))))
    (sRet (cBin bMod (cBin bFdiv (cApp fInt (cCons (cVar 3) cNil)) (cD (.int 7))) (cVar 2)))))) σ S := id rfl
def m__law_draw : FnS := runF 3 4 b__law_draw
theorem r__law_draw {a0 a1 a2 : D} : m__law_draw [a0, a1, a2] = fin (b__law_draw [some a0, some a1, some a2, none] []) := id rfl
def L__law_digits_1 : SC := (sIf (cBin bGe (cVar 0) (cBin bPow (cD (.int 10)) (cD (.int 18)))) (sSeq (sMethE mAppend (cVar 3) (cCons (cBin bMod (cApp fInt (cCons (cVar 4) cNil)) (cVar 2)) cNil))
    (sAsg 4 (cBin bFdiv (cVar 4) (cVar 2)))) (sMethE mAppend (cVar 3) (cCons (cApp (callD m__law_draw) (cCons (cVar 0) (cCons (cVar 5) (cCons (cVar 2) cNil)))) cNil)))
theorem L__law_digits_1_e {σ : Sl} {S : List SO} : L__law_digits_1 σ S = (sIf (cBin bGe (cVar 0) (cBin bPow (cD (.int 10)) (cD (.int 18)))) (sSeq (sMethE mAppend (cVar 3) (cCons (cBin bMod (cApp fInt (cCons (cVar 4) cNil)) (cVar 2)) cNil))
    (sAsg 4 (cBin bFdiv (cVar 4) (cVar 2)))) (sMethE mAppend (cVar 3) (cCons (cApp (callD m__law_draw) (cCons (cVar 0) (cCons (cVar 5) (cCons (cVar 2) cNil)))) cNil))) σ S := id rfl
def b__law_digits : SC := (sSeq (sNew 3 (cApp fLst cNil))
    (sSeq (sAsg 4 (cBin bSub (cVar 0) (cBin bPow (cD (.int 10)) (cD (.int 18)))))
    (sSeq (sFor (iApp rg1 (cCons (cVar 1) cNil)) (tgName 5) L__law_digits_1)
    (sRet (cVar 3)))))
theorem b__law_digits_e {σ : Sl} {S : List SO} : b__law_digits σ S = (sSeq (sNew 3 (cApp fLst cNil))
    (sSeq (sAsg 4 (cBin bSub (cVar 0) (cBin bPow (cD (.int 10)) (cD (.int 18)))))
    (sSeq (sFor (iApp rg1 (cCons (cVar 1) cNil)) (tgName 5) L__law_digits_1)
    (sRet (cVar 3))))) σ S := id rfl
def m__law_digits : FnS := runF 3 6 b__law_digits
theorem r__law_digits {a0 a1 a2 : D} : m__law_digits [a0, a1, a2] = fin (b__law_digits [some a0, some a1, some a2, none, none, none] []) := id rfl
def T__law_stair_1 : CE := (cBin bGt (cVar 3) (cD (.int 0)))
theorem T__law_stair_1_e {σ : Sl} {S : List SO} : T__law_stair_1 σ S = (cBin bGt (cVar 3) (cD (.int 0))) σ S := id rfl
def b__law_stair : SC := (sRet (cApp fTuple (cCons (cComp (iVal (cApp (fSorted true) (cCons (cApp (callD m__law_digits) (cCons (cVar 0) (cCons (cVar 1) (cCons (cBin bAdd (cVar 2) (cD (.int 1))) cNil)))) cNil))) (tgName 3) [3] T__law_stair_1 (cVar 3)) cNil)))
theorem b__law_stair_e {σ : Sl} {S : List SO} : b__law_stair σ S = (sRet (cApp fTuple (cCons (cComp (iVal (cApp (fSorted true) (cCons (cApp (callD m__law_digits) (cCons (cVar 0) (cCons (cVar 1) (cCons (cBin bAdd (cVar 2) (cD (.int 1))) cNil)))) cNil))) (tgName 3) [3] T__law_stair_1 (cVar 3)) cNil))) σ S := id rfl
def m__law_stair : FnS := runF 3 4 b__law_stair
theorem r__law_stair {a0 a1 a2 : D} : m__law_stair [a0, a1, a2] = fin (b__law_stair [some a0, some a1, some a2, none] []) := id rfl
def L__law_is_row_1 : SC := (sIf (cOrB (cNotB (cTru (cApp (fIsi [.int]) (cCons (cBin bIx (cVar 0) (cVar 2)) cNil)))) (cOrB (cTru (cApp (fIsi [.bool]) (cCons (cBin bIx (cVar 0) (cVar 2)) cNil))) (cBin bNe (cBin bIx (cVar 0) (cVar 2)) (cBin bIx (cVar 1) (cVar 2))))) (sRet (cD (.bl false))) sSkip)
theorem L__law_is_row_1_e {σ : Sl} {S : List SO} : L__law_is_row_1 σ S = (sIf (cOrB (cNotB (cTru (cApp (fIsi [.int]) (cCons (cBin bIx (cVar 0) (cVar 2)) cNil)))) (cOrB (cTru (cApp (fIsi [.bool]) (cCons (cBin bIx (cVar 0) (cVar 2)) cNil))) (cBin bNe (cBin bIx (cVar 0) (cVar 2)) (cBin bIx (cVar 1) (cVar 2))))) (sRet (cD (.bl false))) sSkip) σ S := id rfl
def b__law_is_row : SC := (sSeq (sIf (cOrB (cNotB (cTru (cApp (fIsi [.tup]) (cCons (cVar 0) cNil)))) (cBin bNe (cApp fLen (cCons (cVar 0) cNil)) (cApp fLen (cCons (cVar 1) cNil)))) (sRet (cD (.bl false))) sSkip)
    (sSeq (sFor (iApp rg1 (cCons (cApp fLen (cCons (cVar 1) cNil)) cNil)) (tgName 2) L__law_is_row_1)
    (sRet (cD (.bl true)))))
theorem b__law_is_row_e {σ : Sl} {S : List SO} : b__law_is_row σ S = (sSeq (sIf (cOrB (cNotB (cTru (cApp (fIsi [.tup]) (cCons (cVar 0) cNil)))) (cBin bNe (cApp fLen (cCons (cVar 0) cNil)) (cApp fLen (cCons (cVar 1) cNil)))) (sRet (cD (.bl false))) sSkip)
    (sSeq (sFor (iApp rg1 (cCons (cApp fLen (cCons (cVar 1) cNil)) cNil)) (tgName 2) L__law_is_row_1)
    (sRet (cD (.bl true))))) σ S := id rfl
def m__law_is_row : FnS := runF 2 3 b__law_is_row
theorem r__law_is_row {a0 a1 : D} : m__law_is_row [a0, a1] = fin (b__law_is_row [some a0, some a1, none] []) := id rfl
def W_strip_1 : CE := (cAndB (cBin bGt (cVar 1) (cD (.int 0))) (cBin bEq (cBin bIx (cVar 0) (cBin bSub (cVar 1) (cD (.int 1)))) (cD (.int 0))))
theorem W_strip_1_e {σ : Sl} {S : List SO} : W_strip_1 σ S = (cAndB (cBin bGt (cVar 1) (cD (.int 0))) (cBin bEq (cBin bIx (cVar 0) (cBin bSub (cVar 1) (cD (.int 1)))) (cD (.int 0)))) σ S := id rfl
def L_strip_1 : SC := (sAug 1 bSub (cD (.int 1)))
theorem L_strip_1_e {σ : Sl} {S : List SO} : L_strip_1 σ S = (sAug 1 bSub (cD (.int 1))) σ S := id rfl
def b_strip : SC := (sSeq (sAsg 1 (cApp fLen (cCons (cVar 0) cNil)))
    (sSeq (sWhile W_strip_1 L_strip_1)
    (sRet (cApp fTuple (cCons (cCutH (cVar 0) (cVar 1)) cNil)))))
theorem b_strip_e {σ : Sl} {S : List SO} : b_strip σ S = (sSeq (sAsg 1 (cApp fLen (cCons (cVar 0) cNil)))
    (sSeq (sWhile W_strip_1 L_strip_1)
    (sRet (cApp fTuple (cCons (cCutH (cVar 0) (cVar 1)) cNil))))) σ S := id rfl
def m_strip : FnS := runF 1 2 b_strip
theorem r_strip {a0 : D} : m_strip [a0] = fin (b_strip [some a0, none] []) := id rfl
def b__need_equal_sizes : SC := (sSeq (sExpr (cApp (callD m_need_stair) (cCons (cVar 0) cNil)))
    (sSeq (sExpr (cApp (callD m_need_stair) (cCons (cVar 1) cNil)))
    (sIf (cBin bNe (cApp fSum (cCons (cVar 0) cNil)) (cApp fSum (cCons (cVar 1) cNil))) (sRaise 10 (cCons (cD (.str (Str.ofString "sizes"))) cNil)) sSkip)))
theorem b__need_equal_sizes_e {σ : Sl} {S : List SO} : b__need_equal_sizes σ S = (sSeq (sExpr (cApp (callD m_need_stair) (cCons (cVar 0) cNil)))
    (sSeq (sExpr (cApp (callD m_need_stair) (cCons (cVar 1) cNil)))
    (sIf (cBin bNe (cApp fSum (cCons (cVar 0) cNil)) (cApp fSum (cCons (cVar 1) cNil))) (sRaise 10 (cCons (cD (.str (Str.ofString "sizes"))) cNil)) sSkip))) σ S := id rfl
def m__need_equal_sizes : FnS := runF 2 2 b__need_equal_sizes
theorem r__need_equal_sizes {a0 a1 : D} : m__need_equal_sizes [a0, a1] = fin (b__need_equal_sizes [some a0, some a1] []) := id rfl
def L_breach_1 : SC := (sSeq (sAug 2 iAdd (cBin bSub (cApp (callD m_row_of) (cCons (cVar 0) (cCons (cVar 3) cNil))) (cApp (callD m_row_of) (cCons (cVar 1) (cCons (cVar 3) cNil)))))
    (sIf (cBin bLt (cVar 2) (cD (.int 0))) (sRet (cBin bAdd (cVar 3) (cD (.int 1)))) sSkip))
theorem L_breach_1_e {σ : Sl} {S : List SO} : L_breach_1 σ S = (sSeq (sAug 2 iAdd (cBin bSub (cApp (callD m_row_of) (cCons (cVar 0) (cCons (cVar 3) cNil))) (cApp (callD m_row_of) (cCons (cVar 1) (cCons (cVar 3) cNil)))))
    (sIf (cBin bLt (cVar 2) (cD (.int 0))) (sRet (cBin bAdd (cVar 3) (cD (.int 1)))) sSkip)) σ S := id rfl
def b_breach : SC := (sSeq (sExpr (cApp (callD m__need_equal_sizes) (cCons (cVar 0) (cCons (cVar 1) cNil))))
    (sSeq (sAsg 2 (cD (.int 0)))
    (sSeq (sFor (iApp rg1 (cCons (cApp fMax2 (cCons (cApp fLen (cCons (cVar 0) cNil)) (cCons (cApp fLen (cCons (cVar 1) cNil)) cNil))) cNil)) (tgName 3) L_breach_1)
    (sRet (cD .non)))))
theorem b_breach_e {σ : Sl} {S : List SO} : b_breach σ S = (sSeq (sExpr (cApp (callD m__need_equal_sizes) (cCons (cVar 0) (cCons (cVar 1) cNil))))
    (sSeq (sAsg 2 (cD (.int 0)))
    (sSeq (sFor (iApp rg1 (cCons (cApp fMax2 (cCons (cApp fLen (cCons (cVar 0) cNil)) (cCons (cApp fLen (cCons (cVar 1) cNil)) cNil))) cNil)) (tgName 3) L_breach_1)
    (sRet (cD .non))))) σ S := id rfl
def m_breach : FnS := runF 2 4 b_breach
theorem r_breach {a0 a1 : D} : m_breach [a0, a1] = fin (b_breach [some a0, some a1, none, none] []) := id rfl
def b_is_above : SC := (sRet (cBin bIs (cApp (callD m_breach) (cCons (cVar 0) (cCons (cVar 1) cNil))) (cD .non)))
theorem b_is_above_e {σ : Sl} {S : List SO} : b_is_above σ S = (sRet (cBin bIs (cApp (callD m_breach) (cCons (cVar 0) (cCons (cVar 1) cNil))) (cD .non))) σ S := id rfl
def m_is_above : FnS := runF 2 2 b_is_above
theorem r_is_above {a0 a1 : D} : m_is_above [a0, a1] = fin (b_is_above [some a0, some a1] []) := id rfl
def T__step_1 : CE := (cBin bGt (cBin bIx (cVar 0) (cVar 5)) (cBin bIx (cVar 1) (cVar 5)))
theorem T__step_1_e {σ : Sl} {S : List SO} : T__step_1 σ S = (cBin bGt (cBin bIx (cVar 0) (cVar 5)) (cBin bIx (cVar 1) (cVar 5))) σ S := id rfl
def T__step_2 : CE := (cBin bLt (cBin bIx (cVar 0) (cVar 6)) (cBin bIx (cVar 1) (cVar 6)))
theorem T__step_2_e {σ : Sl} {S : List SO} : T__step_2 σ S = (cBin bLt (cBin bIx (cVar 0) (cVar 6)) (cBin bIx (cVar 1) (cVar 6))) σ S := id rfl
def b__step : SC := (sSeq (sAsg 2 (cApp fMaxL (cCons (cComp (iApp rg1 (cCons (cApp fLen (cCons (cVar 0) cNil)) cNil)) (tgName 5) [5] T__step_1 (cVar 5)) cNil)))
    (sSeq (sAsg 3 (cApp fMinL (cCons (cComp (iApp rg2 (cCons (cBin bAdd (cVar 2) (cD (.int 1))) (cCons (cApp fLen (cCons (cVar 0) cNil)) cNil))) (tgName 6) [6] T__step_2 (cVar 6)) cNil)))
    (sSeq (sNew 4 (cApp fList (cCons (cVar 0) cNil)))
    (sSeq (sAugS bSub (cVar 4) (cVar 2) (cD (.int 1)))
    (sSeq (sAugS iAdd (cVar 4) (cVar 3) (cD (.int 1)))
    (sRet (cVar 4)))))))
theorem b__step_e {σ : Sl} {S : List SO} : b__step σ S = (sSeq (sAsg 2 (cApp fMaxL (cCons (cComp (iApp rg1 (cCons (cApp fLen (cCons (cVar 0) cNil)) cNil)) (tgName 5) [5] T__step_1 (cVar 5)) cNil)))
    (sSeq (sAsg 3 (cApp fMinL (cCons (cComp (iApp rg2 (cCons (cBin bAdd (cVar 2) (cD (.int 1))) (cCons (cApp fLen (cCons (cVar 0) cNil)) cNil))) (tgName 6) [6] T__step_2 (cVar 6)) cNil)))
    (sSeq (sNew 4 (cApp fList (cCons (cVar 0) cNil)))
    (sSeq (sAugS bSub (cVar 4) (cVar 2) (cD (.int 1)))
    (sSeq (sAugS iAdd (cVar 4) (cVar 3) (cD (.int 1)))
    (sRet (cVar 4))))))) σ S := id rfl
def m__step : FnS := runF 2 7 b__step
theorem r__step {a0 a1 : D} : m__step [a0, a1] = fin (b__step [some a0, some a1, none, none, none, none, none] []) := id rfl
def E_steps_down_1 : CE := (cApp (callD m_row_of) (cCons (cVar 0) (cCons (cVar 6) cNil)))
theorem E_steps_down_1_e {σ : Sl} {S : List SO} : E_steps_down_1 σ S = (cApp (callD m_row_of) (cCons (cVar 0) (cCons (cVar 6) cNil))) σ S := id rfl
def E_steps_down_2 : CE := (cApp (callD m_row_of) (cCons (cVar 1) (cCons (cVar 6) cNil)))
theorem E_steps_down_2_e {σ : Sl} {S : List SO} : E_steps_down_2 σ S = (cApp (callD m_row_of) (cCons (cVar 1) (cCons (cVar 6) cNil))) σ S := id rfl
def W_steps_down_1 : CE := (cBin bNe (cVar 3) (cVar 4))
theorem W_steps_down_1_e {σ : Sl} {S : List SO} : W_steps_down_1 σ S = (cBin bNe (cVar 3) (cVar 4)) σ S := id rfl
def L_steps_down_1 : SC := (sSeq (sAsg 3 (cApp (callD m__step) (cCons (cVar 3) (cCons (cVar 4) cNil))))
    (sMethE mAppend (cVar 5) (cCons (cApp (callD m_strip) (cCons (cVar 3) cNil)) cNil)))
theorem L_steps_down_1_e {σ : Sl} {S : List SO} : L_steps_down_1 σ S = (sSeq (sAsg 3 (cApp (callD m__step) (cCons (cVar 3) (cCons (cVar 4) cNil))))
    (sMethE mAppend (cVar 5) (cCons (cApp (callD m_strip) (cCons (cVar 3) cNil)) cNil))) σ S := id rfl
def b_steps_down : SC := (sSeq (sIf (cNotB (cTru (cApp (callD m_is_above) (cCons (cVar 0) (cCons (cVar 1) cNil))))) (sRet (cD .non)) sSkip)
    (sSeq (sAsg 2 (cApp fMax2 (cCons (cApp fLen (cCons (cVar 0) cNil)) (cCons (cApp fLen (cCons (cVar 1) cNil)) cNil))))
    (sSeq (sAsg 3 (cComp (iApp rg1 (cCons (cVar 2) cNil)) (tgName 6) [6] cTrue E_steps_down_1))
    (sSeq (sAsg 4 (cComp (iApp rg1 (cCons (cVar 2) cNil)) (tgName 6) [6] cTrue E_steps_down_2))
    (sSeq (sNew 5 (cApp fLst (cCons (cApp (callD m_strip) (cCons (cVar 3) cNil)) cNil)))
    (sSeq (sWhile W_steps_down_1 L_steps_down_1)
    (sRet (cApp fTuple (cCons (cVar 5) cNil)))))))))
theorem b_steps_down_e {σ : Sl} {S : List SO} : b_steps_down σ S = (sSeq (sIf (cNotB (cTru (cApp (callD m_is_above) (cCons (cVar 0) (cCons (cVar 1) cNil))))) (sRet (cD .non)) sSkip)
    (sSeq (sAsg 2 (cApp fMax2 (cCons (cApp fLen (cCons (cVar 0) cNil)) (cCons (cApp fLen (cCons (cVar 1) cNil)) cNil))))
    (sSeq (sAsg 3 (cComp (iApp rg1 (cCons (cVar 2) cNil)) (tgName 6) [6] cTrue E_steps_down_1))
    (sSeq (sAsg 4 (cComp (iApp rg1 (cCons (cVar 2) cNil)) (tgName 6) [6] cTrue E_steps_down_2))
    (sSeq (sNew 5 (cApp fLst (cCons (cApp (callD m_strip) (cCons (cVar 3) cNil)) cNil)))
    (sSeq (sWhile W_steps_down_1 L_steps_down_1)
    (sRet (cApp fTuple (cCons (cVar 5) cNil))))))))) σ S := id rfl
def m_steps_down : FnS := runF 2 7 b_steps_down
theorem r_steps_down {a0 a1 : D} : m_steps_down [a0, a1] = fin (b_steps_down [some a0, some a1, none, none, none, none, none] []) := id rfl
def b_is_number : SC := (sRet (cAnd (cApp (callD m_is_integer) (cCons (cVar 0) cNil)) (cBin bGe (cVar 0) (cD (.int 0)))))
theorem b_is_number_e {σ : Sl} {S : List SO} : b_is_number σ S = (sRet (cAnd (cApp (callD m_is_integer) (cCons (cVar 0) cNil)) (cBin bGe (cVar 0) (cD (.int 0))))) σ S := id rfl
def m_is_number : FnS := runF 1 1 b_is_number
theorem r_is_number {a0 : D} : m_is_number [a0] = fin (b_is_number [some a0] []) := id rfl
def L__need_numbers_1 : SC := (sIf (cNotB (cTru (cApp (callD m_is_number) (cCons (cVar 1) cNil)))) (sRaise 1 (cCons (cVar 1) cNil)) sSkip)
theorem L__need_numbers_1_e {σ : Sl} {S : List SO} : L__need_numbers_1 σ S = (sIf (cNotB (cTru (cApp (callD m_is_number) (cCons (cVar 1) cNil)))) (sRaise 1 (cCons (cVar 1) cNil)) sSkip) σ S := id rfl
def b__need_numbers : SC := (sFor (iVal (cVar 0)) (tgName 1) L__need_numbers_1)
theorem b__need_numbers_e {σ : Sl} {S : List SO} : b__need_numbers σ S = (sFor (iVal (cVar 0)) (tgName 1) L__need_numbers_1) σ S := id rfl
def m__need_numbers : FnS := runF 1 2 b__need_numbers
theorem r__need_numbers {a0 : D} : m__need_numbers [a0] = fin (b__need_numbers [some a0, none] []) := id rfl
def L__next_counts_1 : SC := (sAugS iAdd (cVar 5) (cVar 6) (cBin bIx (cVar 4) (cBin bSub (cVar 6) (cVar 1))))
theorem L__next_counts_1_e {σ : Sl} {S : List SO} : L__next_counts_1 σ S = (sAugS iAdd (cVar 5) (cVar 6) (cBin bIx (cVar 4) (cBin bSub (cVar 6) (cVar 1)))) σ S := id rfl
def L__next_counts_2 : SC := (sFrz (sSeq (sAsg 4 (cBin bIx (cVar 2) (cBin bSub (cVar 3) (cD (.int 1)))))
    (sSeq (sNew 5 (cApp fList (cCons (cBin bIx (cVar 0) (cVar 3)) cNil)))
    (sSeq (sFor (iApp rg2 (cCons (cVar 1) (cCons (cApp fLen (cCons (cVar 5) cNil)) cNil))) (tgName 6) L__next_counts_1)
    (sMethE mAppend (cVar 2) (cCons (cVar 5) cNil))))))
theorem L__next_counts_2_e {σ : Sl} {S : List SO} : L__next_counts_2 σ S = (sFrz (sSeq (sAsg 4 (cBin bIx (cVar 2) (cBin bSub (cVar 3) (cD (.int 1)))))
    (sSeq (sNew 5 (cApp fList (cCons (cBin bIx (cVar 0) (cVar 3)) cNil)))
    (sSeq (sFor (iApp rg2 (cCons (cVar 1) (cCons (cApp fLen (cCons (cVar 5) cNil)) cNil))) (tgName 6) L__next_counts_1)
    (sMethE mAppend (cVar 2) (cCons (cVar 5) cNil)))))) σ S := id rfl
def b__next_counts : SC := (sSeq (sNew 2 (cApp fLst (cCons (cApp fList (cCons (cBin bIx (cVar 0) (cD (.int 0))) cNil)) cNil)))
    (sSeq (sFor (iApp rg2 (cCons (cD (.int 1)) (cCons (cApp fLen (cCons (cVar 0) cNil)) cNil))) (tgName 3) L__next_counts_2)
    (sRet (cVar 2))))
theorem b__next_counts_e {σ : Sl} {S : List SO} : b__next_counts σ S = (sSeq (sNew 2 (cApp fLst (cCons (cApp fList (cCons (cBin bIx (cVar 0) (cD (.int 0))) cNil)) cNil)))
    (sSeq (sFor (iApp rg2 (cCons (cD (.int 1)) (cCons (cApp fLen (cCons (cVar 0) cNil)) cNil))) (tgName 3) L__next_counts_2)
    (sRet (cVar 2)))) σ S := id rfl
def m__next_counts : FnS := runF 2 7 b__next_counts
theorem r__next_counts {a0 a1 : D} : m__next_counts [a0, a1] = fin (b__next_counts [some a0, some a1, none, none, none, none, none] []) := id rfl
def E__all_counts_1 : CE := (cBin bAdd (cApp fLst (cCons (cD (.int 1)) cNil)) (cBin bMul (cApp fLst (cCons (cD (.int 0)) cNil)) (cVar 0)))
theorem E__all_counts_1_e {σ : Sl} {S : List SO} : E__all_counts_1 σ S = (cBin bAdd (cApp fLst (cCons (cD (.int 1)) cNil)) (cBin bMul (cApp fLst (cCons (cD (.int 0)) cNil)) (cVar 0))) σ S := id rfl
def L__all_counts_1 : SC := (sMethE mAppend (cVar 3) (cCons (cApp (callD m__next_counts) (cCons (cBin bIx (cVar 3) (cBin bSub (cVar 4) (cD (.int 1)))) (cCons (cVar 4) cNil))) cNil))
theorem L__all_counts_1_e {σ : Sl} {S : List SO} : L__all_counts_1 σ S = (sMethE mAppend (cVar 3) (cCons (cApp (callD m__next_counts) (cCons (cBin bIx (cVar 3) (cBin bSub (cVar 4) (cD (.int 1)))) (cCons (cVar 4) cNil))) cNil)) σ S := id rfl
def b__all_counts : SC := (sSeq (sNew 3 (cApp fLst (cCons (cComp (iApp rg1 (cCons (cBin bAdd (cVar 1) (cD (.int 1))) cNil)) (tgName 5) [5] cTrue E__all_counts_1) cNil)))
    (sSeq (sFor (iApp rg2 (cCons (cD (.int 1)) (cCons (cBin bAdd (cVar 2) (cD (.int 1))) cNil))) (tgName 4) L__all_counts_1)
    (sRet (cVar 3))))
theorem b__all_counts_e {σ : Sl} {S : List SO} : b__all_counts σ S = (sSeq (sNew 3 (cApp fLst (cCons (cComp (iApp rg1 (cCons (cBin bAdd (cVar 1) (cD (.int 1))) cNil)) (tgName 5) [5] cTrue E__all_counts_1) cNil)))
    (sSeq (sFor (iApp rg2 (cCons (cD (.int 1)) (cCons (cBin bAdd (cVar 2) (cD (.int 1))) cNil))) (tgName 4) L__all_counts_1)
    (sRet (cVar 3)))) σ S := id rfl
def m__all_counts : FnS := runF 3 6 b__all_counts
theorem r__all_counts {a0 a1 a2 : D} : m__all_counts [a0, a1, a2] = fin (b__all_counts [some a0, some a1, some a2, none, none, none] []) := id rfl
def b_count_stairs : SC := (sSeq (sExpr (cApp (callD m__need_numbers) (cCons (cApp fTup (cCons (cVar 0) (cCons (cVar 1) (cCons (cVar 2) cNil)))) cNil)))
    (sSeq (sAsg 3 (cApp fMin2 (cCons (cVar 1) (cCons (cVar 0) cNil))))
    (sSeq (sAsg 4 (cApp fMin2 (cCons (cVar 2) (cCons (cVar 0) cNil))))
    (sSeq (sIf (cBin bGt (cVar 0) (cBin bMul (cVar 3) (cVar 4))) (sRet (cD (.int 0))) sSkip)
    (sRet (cBin bIx (cBin bIx (cBin bIx (cApp (callD m__all_counts) (cCons (cVar 0) (cCons (cVar 3) (cCons (cVar 4) cNil)))) (cVar 4)) (cVar 3)) (cVar 0)))))))
theorem b_count_stairs_e {σ : Sl} {S : List SO} : b_count_stairs σ S = (sSeq (sExpr (cApp (callD m__need_numbers) (cCons (cApp fTup (cCons (cVar 0) (cCons (cVar 1) (cCons (cVar 2) cNil)))) cNil)))
    (sSeq (sAsg 3 (cApp fMin2 (cCons (cVar 1) (cCons (cVar 0) cNil))))
    (sSeq (sAsg 4 (cApp fMin2 (cCons (cVar 2) (cCons (cVar 0) cNil))))
    (sSeq (sIf (cBin bGt (cVar 0) (cBin bMul (cVar 3) (cVar 4))) (sRet (cD (.int 0))) sSkip)
    (sRet (cBin bIx (cBin bIx (cBin bIx (cApp (callD m__all_counts) (cCons (cVar 0) (cCons (cVar 3) (cCons (cVar 4) cNil)))) (cVar 4)) (cVar 3)) (cVar 0))))))) σ S := id rfl
def m_count_stairs : FnS := runF 3 5 b_count_stairs
theorem r_count_stairs {a0 a1 a2 : D} : m_count_stairs [a0, a1, a2] = fin (b_count_stairs [some a0, some a1, some a2, none, none] []) := id rfl
def W_stair_at_1 : CE := (cBin bGt (cVar 7) (cD (.int 0)))
theorem W_stair_at_1_e {σ : Sl} {S : List SO} : W_stair_at_1 σ S = (cBin bGt (cVar 7) (cD (.int 0))) σ S := id rfl
def L_stair_at_1 : SC := (sSeq (sAsg 5 (cApp fMin2 (cCons (cVar 5) (cCons (cVar 7) cNil))))
    (sSeq (sAsg 9 (cBin bIx (cBin bIx (cBin bIx (cVar 6) (cVar 5)) (cBin bSub (cVar 4) (cD (.int 1)))) (cBin bSub (cVar 7) (cVar 5))))
    (sIf (cBin bLt (cVar 3) (cVar 9)) (sSeq (sMethE mAppend (cVar 8) (cCons (cVar 5) cNil))
    (sSeq (sAug 7 bSub (cVar 5))
    (sAug 4 bSub (cD (.int 1))))) (sSeq (sAug 3 bSub (cVar 9))
    (sAug 5 bSub (cD (.int 1)))))))
theorem L_stair_at_1_e {σ : Sl} {S : List SO} : L_stair_at_1 σ S = (sSeq (sAsg 5 (cApp fMin2 (cCons (cVar 5) (cCons (cVar 7) cNil))))
    (sSeq (sAsg 9 (cBin bIx (cBin bIx (cBin bIx (cVar 6) (cVar 5)) (cBin bSub (cVar 4) (cD (.int 1)))) (cBin bSub (cVar 7) (cVar 5))))
    (sIf (cBin bLt (cVar 3) (cVar 9)) (sSeq (sMethE mAppend (cVar 8) (cCons (cVar 5) cNil))
    (sSeq (sAug 7 bSub (cVar 5))
    (sAug 4 bSub (cD (.int 1))))) (sSeq (sAug 3 bSub (cVar 9))
    (sAug 5 bSub (cD (.int 1))))))) σ S := id rfl
def b_stair_at : SC := (sSeq (sExpr (cApp (callD m__need_numbers) (cCons (cApp fTup (cCons (cVar 0) (cCons (cVar 1) (cCons (cVar 2) (cCons (cVar 3) cNil))))) cNil)))
    (sSeq (sAsg 4 (cApp fMin2 (cCons (cVar 1) (cCons (cVar 0) cNil))))
    (sSeq (sAsg 5 (cApp fMin2 (cCons (cVar 2) (cCons (cVar 0) cNil))))
    (sSeq (sIf (cBin bGt (cVar 0) (cBin bMul (cVar 4) (cVar 5))) (sRaise 10 (cCons (cD (.str (Str.ofString "place"))) cNil)) sSkip)
    (sSeq (sAsg 6 (cApp (callD m__all_counts) (cCons (cVar 0) (cCons (cVar 4) (cCons (cVar 5) cNil)))))
    (sSeq (sIf (cBin bGe (cVar 3) (cBin bIx (cBin bIx (cBin bIx (cVar 6) (cVar 5)) (cVar 4)) (cVar 0))) (sRaise 10 (cCons (cD (.str (Str.ofString "place"))) cNil)) sSkip)
    (sSeq (sAsg 7 (cVar 0))
    (sSeq (sNew 8 (cApp fLst cNil))
    (sSeq (sWhile W_stair_at_1 L_stair_at_1)
    (sRet (cApp fTuple (cCons (cVar 8) cNil))))))))))))
theorem b_stair_at_e {σ : Sl} {S : List SO} : b_stair_at σ S = (sSeq (sExpr (cApp (callD m__need_numbers) (cCons (cApp fTup (cCons (cVar 0) (cCons (cVar 1) (cCons (cVar 2) (cCons (cVar 3) cNil))))) cNil)))
    (sSeq (sAsg 4 (cApp fMin2 (cCons (cVar 1) (cCons (cVar 0) cNil))))
    (sSeq (sAsg 5 (cApp fMin2 (cCons (cVar 2) (cCons (cVar 0) cNil))))
    (sSeq (sIf (cBin bGt (cVar 0) (cBin bMul (cVar 4) (cVar 5))) (sRaise 10 (cCons (cD (.str (Str.ofString "place"))) cNil)) sSkip)
    (sSeq (sAsg 6 (cApp (callD m__all_counts) (cCons (cVar 0) (cCons (cVar 4) (cCons (cVar 5) cNil)))))
    (sSeq (sIf (cBin bGe (cVar 3) (cBin bIx (cBin bIx (cBin bIx (cVar 6) (cVar 5)) (cVar 4)) (cVar 0))) (sRaise 10 (cCons (cD (.str (Str.ofString "place"))) cNil)) sSkip)
    (sSeq (sAsg 7 (cVar 0))
    (sSeq (sNew 8 (cApp fLst cNil))
    (sSeq (sWhile W_stair_at_1 L_stair_at_1)
    (sRet (cApp fTuple (cCons (cVar 8) cNil)))))))))))) σ S := id rfl
def m_stair_at : FnS := runF 4 10 b_stair_at
theorem r_stair_at {a0 a1 a2 a3 : D} : m_stair_at [a0, a1, a2, a3] = fin (b_stair_at [some a0, some a1, some a2, some a3, none, none, none, none, none, none] []) := id rfl
def L_place_of_1 : SC := (sAug 7 iAdd (cBin bIx (cBin bIx (cBin bIx (cVar 6) (cVar 9)) (cBin bSub (cVar 4) (cD (.int 1)))) (cBin bSub (cVar 3) (cVar 9))))
theorem L_place_of_1_e {σ : Sl} {S : List SO} : L_place_of_1 σ S = (sAug 7 iAdd (cBin bIx (cBin bIx (cBin bIx (cVar 6) (cVar 9)) (cBin bSub (cVar 4) (cD (.int 1)))) (cBin bSub (cVar 3) (cVar 9)))) σ S := id rfl
def L_place_of_2 : SC := (sSeq (sFor (iApp rg2 (cCons (cBin bAdd (cVar 8) (cD (.int 1))) (cCons (cBin bAdd (cApp fMin2 (cCons (cVar 5) (cCons (cVar 3) cNil))) (cD (.int 1))) cNil))) (tgName 9) L_place_of_1)
    (sSeq (sAsg 5 (cVar 8))
    (sSeq (sAug 3 bSub (cVar 8))
    (sAug 4 bSub (cD (.int 1))))))
theorem L_place_of_2_e {σ : Sl} {S : List SO} : L_place_of_2 σ S = (sSeq (sFor (iApp rg2 (cCons (cBin bAdd (cVar 8) (cD (.int 1))) (cCons (cBin bAdd (cApp fMin2 (cCons (cVar 5) (cCons (cVar 3) cNil))) (cD (.int 1))) cNil))) (tgName 9) L_place_of_1)
    (sSeq (sAsg 5 (cVar 8))
    (sSeq (sAug 3 bSub (cVar 8))
    (sAug 4 bSub (cD (.int 1)))))) σ S := id rfl
def b_place_of : SC := (sSeq (sExpr (cApp (callD m_need_stair) (cCons (cVar 0) cNil)))
    (sSeq (sIf (cOrB (cBin bGt (cApp fLen (cCons (cVar 0) cNil)) (cVar 1)) (cAndB (cBin bGt (cApp fLen (cCons (cVar 0) cNil)) (cD (.int 0))) (cBin bGt (cBin bIx (cVar 0) (cD (.int 0))) (cVar 2)))) (sRaise 10 (cCons (cD (.str (Str.ofString "box"))) cNil)) sSkip)
    (sSeq (sAsg 3 (cApp fSum (cCons (cVar 0) cNil)))
    (sSeq (sAsg 4 (cApp fMin2 (cCons (cVar 1) (cCons (cVar 3) cNil))))
    (sSeq (sAsg 5 (cApp fMin2 (cCons (cVar 2) (cCons (cVar 3) cNil))))
    (sSeq (sAsg 6 (cApp (callD m__all_counts) (cCons (cVar 3) (cCons (cVar 4) (cCons (cVar 5) cNil)))))
    (sSeq (sAsg 7 (cD (.int 0)))
    (sSeq (sFor (iVal (cVar 0)) (tgName 8) L_place_of_2)
    (sRet (cVar 7))))))))))
theorem b_place_of_e {σ : Sl} {S : List SO} : b_place_of σ S = (sSeq (sExpr (cApp (callD m_need_stair) (cCons (cVar 0) cNil)))
    (sSeq (sIf (cOrB (cBin bGt (cApp fLen (cCons (cVar 0) cNil)) (cVar 1)) (cAndB (cBin bGt (cApp fLen (cCons (cVar 0) cNil)) (cD (.int 0))) (cBin bGt (cBin bIx (cVar 0) (cD (.int 0))) (cVar 2)))) (sRaise 10 (cCons (cD (.str (Str.ofString "box"))) cNil)) sSkip)
    (sSeq (sAsg 3 (cApp fSum (cCons (cVar 0) cNil)))
    (sSeq (sAsg 4 (cApp fMin2 (cCons (cVar 1) (cCons (cVar 3) cNil))))
    (sSeq (sAsg 5 (cApp fMin2 (cCons (cVar 2) (cCons (cVar 3) cNil))))
    (sSeq (sAsg 6 (cApp (callD m__all_counts) (cCons (cVar 3) (cCons (cVar 4) (cCons (cVar 5) cNil)))))
    (sSeq (sAsg 7 (cD (.int 0)))
    (sSeq (sFor (iVal (cVar 0)) (tgName 8) L_place_of_2)
    (sRet (cVar 7)))))))))) σ S := id rfl
def m_place_of : FnS := runF 3 10 b_place_of
theorem r_place_of {a0 a1 a2 : D} : m_place_of [a0, a1, a2] = fin (b_place_of [some a0, some a1, some a2, none, none, none, none, none, none, none] []) := id rfl
def b__law_is_number : SC := (sRet (cAnd (cApp (fIsi [.int]) (cCons (cVar 0) cNil)) (cAnd (cNot (cApp (fIsi [.bool]) (cCons (cVar 0) cNil))) (cBin bEq (cVar 0) (cVar 1)))))
theorem b__law_is_number_e {σ : Sl} {S : List SO} : b__law_is_number σ S = (sRet (cAnd (cApp (fIsi [.int]) (cCons (cVar 0) cNil)) (cAnd (cNot (cApp (fIsi [.bool]) (cCons (cVar 0) cNil))) (cBin bEq (cVar 0) (cVar 1))))) σ S := id rfl
def m__law_is_number : FnS := runF 2 2 b__law_is_number
theorem r__law_is_number {a0 a1 : D} : m__law_is_number [a0, a1] = fin (b__law_is_number [some a0, some a1] []) := id rfl
def b_as_tuple : SC := (sSeq (sIf (cTru (cApp (fIsi [.lst, .tup]) (cCons (cVar 0) cNil))) (sRet (cApp fTuple (cCons (cVar 0) cNil))) sSkip)
    (sRet (cD .non)))
theorem b_as_tuple_e {σ : Sl} {S : List SO} : b_as_tuple σ S = (sSeq (sIf (cTru (cApp (fIsi [.lst, .tup]) (cCons (cVar 0) cNil))) (sRet (cApp fTuple (cCons (cVar 0) cNil))) sSkip)
    (sRet (cD .non))) σ S := id rfl
def m_as_tuple : FnS := runF 1 1 b_as_tuple
theorem r_as_tuple {a0 : D} : m_as_tuple [a0] = fin (b_as_tuple [some a0] []) := id rfl
def E_as_numbers_1 : CE := (cApp (callD m_is_number) (cCons (cVar 2) cNil))
theorem E_as_numbers_1_e {σ : Sl} {S : List SO} : E_as_numbers_1 σ S = (cApp (callD m_is_number) (cCons (cVar 2) cNil)) σ S := id rfl
def b_as_numbers : SC := (sSeq (sAsg 1 (cApp (callD m_as_tuple) (cCons (cVar 0) cNil)))
    (sSeq (sIf (cOrB (cBin bIs (cVar 1) (cD .non)) (cNotB (cTru (cApp fAll (cCons (cComp (iVal (cVar 1)) (tgName 2) [2] cTrue E_as_numbers_1) cNil))))) (sRet (cD .non)) sSkip)
    (sRet (cVar 1))))
theorem b_as_numbers_e {σ : Sl} {S : List SO} : b_as_numbers σ S = (sSeq (sAsg 1 (cApp (callD m_as_tuple) (cCons (cVar 0) cNil)))
    (sSeq (sIf (cOrB (cBin bIs (cVar 1) (cD .non)) (cNotB (cTru (cApp fAll (cCons (cComp (iVal (cVar 1)) (tgName 2) [2] cTrue E_as_numbers_1) cNil))))) (sRet (cD .non)) sSkip)
    (sRet (cVar 1)))) σ S := id rfl
def m_as_numbers : FnS := runF 1 3 b_as_numbers
theorem r_as_numbers {a0 : D} : m_as_numbers [a0] = fin (b_as_numbers [some a0, none, none] []) := id rfl
def b__sums_of : SC := (sSeq (sAsg 2 (cApp (callD m_as_numbers) (cCons (cVar 0) cNil)))
    (sSeq (sIf (cBin bIs (cVar 2) (cD .non)) (sRaise 5 (cCons (cD (.str (Str.ofString "rows"))) cNil)) sSkip)
    (sSeq (sAsg 3 (cApp (callD m_as_numbers) (cCons (cVar 1) cNil)))
    (sSeq (sIf (cBin bIs (cVar 3) (cD .non)) (sRaise 5 (cCons (cD (.str (Str.ofString "columns"))) cNil)) sSkip)
    (sRet (cApp fTup (cCons (cVar 2) (cCons (cVar 3) cNil))))))))
theorem b__sums_of_e {σ : Sl} {S : List SO} : b__sums_of σ S = (sSeq (sAsg 2 (cApp (callD m_as_numbers) (cCons (cVar 0) cNil)))
    (sSeq (sIf (cBin bIs (cVar 2) (cD .non)) (sRaise 5 (cCons (cD (.str (Str.ofString "rows"))) cNil)) sSkip)
    (sSeq (sAsg 3 (cApp (callD m_as_numbers) (cCons (cVar 1) cNil)))
    (sSeq (sIf (cBin bIs (cVar 3) (cD .non)) (sRaise 5 (cCons (cD (.str (Str.ofString "columns"))) cNil)) sSkip)
    (sRet (cApp fTup (cCons (cVar 2) (cCons (cVar 3) cNil)))))))) σ S := id rfl
def m__sums_of : FnS := runF 2 4 b__sums_of
theorem r__sums_of {a0 a1 : D} : m__sums_of [a0, a1] = fin (b__sums_of [some a0, some a1, none, none] []) := id rfl
def E__breach_1 : CE := (cApp fMin2 (cCons (cBin bAdd (cVar 3) (cD (.int 1))) (cCons (cVar 5) cNil)))
theorem E__breach_1_e {σ : Sl} {S : List SO} : E__breach_1 σ S = (cApp fMin2 (cCons (cBin bAdd (cVar 3) (cD (.int 1))) (cCons (cVar 5) cNil))) σ S := id rfl
def L__breach_1 : SC := (sSeq (sAug 2 iAdd (cVar 4))
    (sIf (cBin bGt (cVar 2) (cApp fSum (cCons (cComp (iVal (cVar 1)) (tgName 5) [5] cTrue E__breach_1) cNil))) (sRet (cBin bAdd (cVar 3) (cD (.int 1)))) sSkip))
theorem L__breach_1_e {σ : Sl} {S : List SO} : L__breach_1 σ S = (sSeq (sAug 2 iAdd (cVar 4))
    (sIf (cBin bGt (cVar 2) (cApp fSum (cCons (cComp (iVal (cVar 1)) (tgName 5) [5] cTrue E__breach_1) cNil))) (sRet (cBin bAdd (cVar 3) (cD (.int 1)))) sSkip)) σ S := id rfl
def b__breach : SC := (sSeq (sIf (cBin bNe (cApp fSum (cCons (cVar 0) cNil)) (cApp fSum (cCons (cVar 1) cNil))) (sRet (cD (.str (Str.ofString "sums")))) sSkip)
    (sSeq (sAsg 2 (cD (.int 0)))
    (sSeq (sFor (iApp enI (cCons (cApp (fSortedS true) (cCons (cVar 0) cNil)) cNil)) (tgTup 2 (tgCons (tgName 3) (tgCons (tgName 4) tgNil))) L__breach_1)
    (sRet (cD .non)))))
theorem b__breach_e {σ : Sl} {S : List SO} : b__breach σ S = (sSeq (sIf (cBin bNe (cApp fSum (cCons (cVar 0) cNil)) (cApp fSum (cCons (cVar 1) cNil))) (sRet (cD (.str (Str.ofString "sums")))) sSkip)
    (sSeq (sAsg 2 (cD (.int 0)))
    (sSeq (sFor (iApp enI (cCons (cApp (fSortedS true) (cCons (cVar 0) cNil)) cNil)) (tgTup 2 (tgCons (tgName 3) (tgCons (tgName 4) tgNil))) L__breach_1)
    (sRet (cD .non))))) σ S := id rfl
def m__breach : FnS := runF 2 6 b__breach
theorem r__breach {a0 a1 : D} : m__breach [a0, a1] = fin (b__breach [some a0, some a1, none, none, none, none] []) := id rfl
def b_grid_breach : SC := (sSeq (sAsgT (tgTup 2 (tgCons (tgName 2) (tgCons (tgName 3) tgNil))) (cApp (callD m__sums_of) (cCons (cVar 0) (cCons (cVar 1) cNil))))
    (sRet (cApp (callD m__breach) (cCons (cVar 2) (cCons (cVar 3) cNil)))))
theorem b_grid_breach_e {σ : Sl} {S : List SO} : b_grid_breach σ S = (sSeq (sAsgT (tgTup 2 (tgCons (tgName 2) (tgCons (tgName 3) tgNil))) (cApp (callD m__sums_of) (cCons (cVar 0) (cCons (cVar 1) cNil))))
    (sRet (cApp (callD m__breach) (cCons (cVar 2) (cCons (cVar 3) cNil))))) σ S := id rfl
def m_grid_breach : FnS := runF 2 4 b_grid_breach
theorem r_grid_breach {a0 a1 : D} : m_grid_breach [a0, a1] = fin (b_grid_breach [some a0, some a1, none, none] []) := id rfl
def E_grid_1 : CE := (cApp fTup (cCons (cNeg (cVar 11)) (cCons (cVar 10) cNil)))
theorem E_grid_1_e {σ : Sl} {S : List SO} : E_grid_1 σ S = (cApp fTup (cCons (cNeg (cVar 11)) (cCons (cVar 10) cNil))) σ S := id rfl
def L_grid_1 : SC := (sSeq (sSub (cD (.int 1)) (cVar 8) (cVar 10))
    (sAugS bSub (cVar 2) (cVar 10) (cD (.int 1))))
theorem L_grid_1_e {σ : Sl} {S : List SO} : L_grid_1 σ S = (sSeq (sSub (cD (.int 1)) (cVar 8) (cVar 10))
    (sAugS bSub (cVar 2) (cVar 10) (cD (.int 1)))) σ S := id rfl
def L_grid_2 : SC := (sFrz (sSeq (sAsg 7 (cApp fSortedP (cCons (cComp (iApp enI (cCons (cVar 2) cNil)) (tgTup 2 (tgCons (tgName 10) (tgCons (tgName 11) tgNil))) [10, 11] cTrue E_grid_1) cNil)))
    (sSeq (sNew 8 (cBin bMul (cApp fLst (cCons (cD (.int 0)) cNil)) (cApp fLen (cCons (cVar 2) cNil))))
    (sSeq (sFor (iVal (cCutH (cVar 7) (cVar 4))) (tgTup 2 (tgCons (tgName 9) (tgCons (tgName 10) tgNil))) L_grid_1)
    (sMethE mAppend (cVar 3) (cCons (cApp fTuple (cCons (cVar 8) cNil)) cNil))))))
theorem L_grid_2_e {σ : Sl} {S : List SO} : L_grid_2 σ S = (sFrz (sSeq (sAsg 7 (cApp fSortedP (cCons (cComp (iApp enI (cCons (cVar 2) cNil)) (tgTup 2 (tgCons (tgName 10) (tgCons (tgName 11) tgNil))) [10, 11] cTrue E_grid_1) cNil)))
    (sSeq (sNew 8 (cBin bMul (cApp fLst (cCons (cD (.int 0)) cNil)) (cApp fLen (cCons (cVar 2) cNil))))
    (sSeq (sFor (iVal (cCutH (cVar 7) (cVar 4))) (tgTup 2 (tgCons (tgName 9) (tgCons (tgName 10) tgNil))) L_grid_1)
    (sMethE mAppend (cVar 3) (cCons (cApp fTuple (cCons (cVar 8) cNil)) cNil)))))) σ S := id rfl
def b_grid : SC := (sSeq (sAsgT (tgTup 2 (tgCons (tgName 5) (tgCons (tgName 6) tgNil))) (cApp (callD m__sums_of) (cCons (cVar 0) (cCons (cVar 1) cNil))))
    (sSeq (sIf (cBin bIsNot (cApp (callD m__breach) (cCons (cVar 5) (cCons (cVar 6) cNil))) (cD .non)) (sRet (cD .non)) sSkip)
    (sSeq (sNew 2 (cApp fList (cCons (cVar 6) cNil)))
    (sSeq (sNew 3 (cApp fLst cNil))
    (sSeq (sFor (iVal (cVar 5)) (tgName 4) L_grid_2)
    (sRet (cApp fTuple (cCons (cVar 3) cNil))))))))
theorem b_grid_e {σ : Sl} {S : List SO} : b_grid σ S = (sSeq (sAsgT (tgTup 2 (tgCons (tgName 5) (tgCons (tgName 6) tgNil))) (cApp (callD m__sums_of) (cCons (cVar 0) (cCons (cVar 1) cNil))))
    (sSeq (sIf (cBin bIsNot (cApp (callD m__breach) (cCons (cVar 5) (cCons (cVar 6) cNil))) (cD .non)) (sRet (cD .non)) sSkip)
    (sSeq (sNew 2 (cApp fList (cCons (cVar 6) cNil)))
    (sSeq (sNew 3 (cApp fLst cNil))
    (sSeq (sFor (iVal (cVar 5)) (tgName 4) L_grid_2)
    (sRet (cApp fTuple (cCons (cVar 3) cNil)))))))) σ S := id rfl
def m_grid : FnS := runF 2 12 b_grid
theorem r_grid {a0 a1 : D} : m_grid [a0, a1] = fin (b_grid [some a0, some a1, none, none, none, none, none, none, none, none, none, none] []) := id rfl
def b_size : SC := (sSeq (sExpr (cApp (callD m_need_stair) (cCons (cVar 0) cNil)))
    (sRet (cApp fSum (cCons (cVar 0) cNil))))
theorem b_size_e {σ : Sl} {S : List SO} : b_size σ S = (sSeq (sExpr (cApp (callD m_need_stair) (cCons (cVar 0) cNil)))
    (sRet (cApp fSum (cCons (cVar 0) cNil)))) σ S := id rfl
def m_size : FnS := runF 1 1 b_size
theorem r_size {a0 : D} : m_size [a0] = fin (b_size [some a0] []) := id rfl
def E_contains_1 : CE := (cBin bGe (cApp (callD m_row_of) (cCons (cVar 0) (cCons (cVar 2) cNil))) (cVar 3))
theorem E_contains_1_e {σ : Sl} {S : List SO} : E_contains_1 σ S = (cBin bGe (cApp (callD m_row_of) (cCons (cVar 0) (cCons (cVar 2) cNil))) (cVar 3)) σ S := id rfl
def b_contains : SC := (sSeq (sExpr (cApp (callD m_need_stair) (cCons (cVar 0) cNil)))
    (sSeq (sExpr (cApp (callD m_need_stair) (cCons (cVar 1) cNil)))
    (sRet (cApp fAll (cCons (cComp (iApp enI (cCons (cVar 1) cNil)) (tgTup 2 (tgCons (tgName 2) (tgCons (tgName 3) tgNil))) [2, 3] cTrue E_contains_1) cNil)))))
theorem b_contains_e {σ : Sl} {S : List SO} : b_contains σ S = (sSeq (sExpr (cApp (callD m_need_stair) (cCons (cVar 0) cNil)))
    (sSeq (sExpr (cApp (callD m_need_stair) (cCons (cVar 1) cNil)))
    (sRet (cApp fAll (cCons (cComp (iApp enI (cCons (cVar 1) cNil)) (tgTup 2 (tgCons (tgName 2) (tgCons (tgName 3) tgNil))) [2, 3] cTrue E_contains_1) cNil))))) σ S := id rfl
def m_contains : FnS := runF 2 4 b_contains
theorem r_contains {a0 a1 : D} : m_contains [a0, a1] = fin (b_contains [some a0, some a1, none, none] []) := id rfl
def E_row_changed_1 : CE := (cApp (callD m_row_of) (cCons (cVar 0) (cCons (cVar 4) cNil)))
theorem E_row_changed_1_e {σ : Sl} {S : List SO} : E_row_changed_1 σ S = (cApp (callD m_row_of) (cCons (cVar 0) (cCons (cVar 4) cNil))) σ S := id rfl
def b_row_changed : SC := (sSeq (sNew 3 (cComp (iApp rg1 (cCons (cApp fMax2 (cCons (cApp fLen (cCons (cVar 0) cNil)) (cCons (cBin bAdd (cVar 1) (cD (.int 1))) cNil))) cNil)) (tgName 4) [4] cTrue E_row_changed_1))
    (sSeq (sAugS iAdd (cVar 3) (cVar 1) (cVar 2))
    (sRet (cApp (callD m_strip) (cCons (cVar 3) cNil)))))
theorem b_row_changed_e {σ : Sl} {S : List SO} : b_row_changed σ S = (sSeq (sNew 3 (cComp (iApp rg1 (cCons (cApp fMax2 (cCons (cApp fLen (cCons (cVar 0) cNil)) (cCons (cBin bAdd (cVar 1) (cD (.int 1))) cNil))) cNil)) (tgName 4) [4] cTrue E_row_changed_1))
    (sSeq (sAugS iAdd (cVar 3) (cVar 1) (cVar 2))
    (sRet (cApp (callD m_strip) (cCons (cVar 3) cNil))))) σ S := id rfl
def m_row_changed : FnS := runF 3 5 b_row_changed
theorem r_row_changed {a0 a1 a2 : D} : m_row_changed [a0, a1, a2] = fin (b_row_changed [some a0, some a1, some a2, none, none] []) := id rfl
def T_without_box_1 : CE := (cBin bGt (cVar 2) (cApp (callD m_row_of) (cCons (cVar 0) (cCons (cBin bAdd (cVar 1) (cD (.int 1))) cNil))))
theorem T_without_box_1_e {σ : Sl} {S : List SO} : T_without_box_1 σ S = (cBin bGt (cVar 2) (cApp (callD m_row_of) (cCons (cVar 0) (cCons (cBin bAdd (cVar 1) (cD (.int 1))) cNil)))) σ S := id rfl
def E_without_box_1 : CE := (cApp fTup (cCons (cVar 1) (cCons (cApp (callD m_row_changed) (cCons (cVar 0) (cCons (cVar 1) (cCons (cNeg (cD (.int 1))) cNil)))) cNil)))
theorem E_without_box_1_e {σ : Sl} {S : List SO} : E_without_box_1 σ S = (cApp fTup (cCons (cVar 1) (cCons (cApp (callD m_row_changed) (cCons (cVar 0) (cCons (cVar 1) (cCons (cNeg (cD (.int 1))) cNil)))) cNil))) σ S := id rfl
def b_without_box : SC := (sSeq (sExpr (cApp (callD m_need_stair) (cCons (cVar 0) cNil)))
    (sRet (cApp fTuple (cCons (cComp (iApp enI (cCons (cVar 0) cNil)) (tgTup 2 (tgCons (tgName 1) (tgCons (tgName 2) tgNil))) [1, 2] T_without_box_1 E_without_box_1) cNil))))
theorem b_without_box_e {σ : Sl} {S : List SO} : b_without_box σ S = (sSeq (sExpr (cApp (callD m_need_stair) (cCons (cVar 0) cNil)))
    (sRet (cApp fTuple (cCons (cComp (iApp enI (cCons (cVar 0) cNil)) (tgTup 2 (tgCons (tgName 1) (tgCons (tgName 2) tgNil))) [1, 2] T_without_box_1 E_without_box_1) cNil)))) σ S := id rfl
def m_without_box : FnS := runF 1 3 b_without_box
theorem r_without_box {a0 : D} : m_without_box [a0] = fin (b_without_box [some a0, none, none] []) := id rfl
def T_with_box_1 : CE := (cOrB (cBin bEq (cVar 2) (cD (.int 0))) (cBin bGt (cBin bIx (cVar 0) (cBin bSub (cVar 2) (cD (.int 1)))) (cApp (callD m_row_of) (cCons (cVar 0) (cCons (cVar 2) cNil)))))
theorem T_with_box_1_e {σ : Sl} {S : List SO} : T_with_box_1 σ S = (cOrB (cBin bEq (cVar 2) (cD (.int 0))) (cBin bGt (cBin bIx (cVar 0) (cBin bSub (cVar 2) (cD (.int 1)))) (cApp (callD m_row_of) (cCons (cVar 0) (cCons (cVar 2) cNil))))) σ S := id rfl
def E_with_box_1 : CE := (cApp fTup (cCons (cVar 2) (cCons (cApp (callD m_row_changed) (cCons (cVar 0) (cCons (cVar 2) (cCons (cD (.int 1)) cNil)))) cNil)))
theorem E_with_box_1_e {σ : Sl} {S : List SO} : E_with_box_1 σ S = (cApp fTup (cCons (cVar 2) (cCons (cApp (callD m_row_changed) (cCons (cVar 0) (cCons (cVar 2) (cCons (cD (.int 1)) cNil)))) cNil))) σ S := id rfl
def b_with_box : SC := (sSeq (sExpr (cApp (callD m_need_stair) (cCons (cVar 0) cNil)))
    (sSeq (sAsg 1 (cComp (iApp rg1 (cCons (cBin bAdd (cApp fLen (cCons (cVar 0) cNil)) (cD (.int 1))) cNil)) (tgName 2) [2] T_with_box_1 (cVar 2)))
    (sRet (cApp fTuple (cCons (cComp (iVal (cVar 1)) (tgName 2) [2] cTrue E_with_box_1) cNil)))))
theorem b_with_box_e {σ : Sl} {S : List SO} : b_with_box σ S = (sSeq (sExpr (cApp (callD m_need_stair) (cCons (cVar 0) cNil)))
    (sSeq (sAsg 1 (cComp (iApp rg1 (cCons (cBin bAdd (cApp fLen (cCons (cVar 0) cNil)) (cD (.int 1))) cNil)) (tgName 2) [2] T_with_box_1 (cVar 2)))
    (sRet (cApp fTuple (cCons (cComp (iVal (cVar 1)) (tgName 2) [2] cTrue E_with_box_1) cNil))))) σ S := id rfl
def m_with_box : FnS := runF 1 3 b_with_box
theorem r_with_box {a0 : D} : m_with_box [a0] = fin (b_with_box [some a0, none, none] []) := id rfl
end PL

set_option maxRecDepth 100000
namespace PL
open HC

/-! ## what is a stair -/
def goodD : D → Bool
  | .int i => decide (1 ≤ i)
  | _ => false
def typD (d : D) : Prop := ∃ t, tgD [] d = some t
theorem pos_is {d : D} (h : typD d) : m_is_positive [d] = .ok (.bl (goodD d)) false := by
  obtain ⟨t, ht⟩ := h
  cases d with
  | int i => rfl
  | bl b => cases b <;> rfl
  | non => rfl
  | str x => rfl
  | tup xs => rfl
  | lst xs => rfl
  | rol xs => rfl
  | dct ks vs => rfl
  | obj c vs => exact nomatch ht
  | loc n => exact nomatch ht
  | err => exact nomatch ht
def leP : Option Int → Int → Bool
  | none, _ => true
  | some p, z => decide (z ≤ p)
def stairB : Option Int → List D → Bool
  | _, [] => true
  | p, d :: r => goodD d && (leP p (intD d) && stairB (some (intD d)) r)
abbrev stTg : TgF := tgTup 2 (tgCons (tgName 1) (tgCons (tgName 2) tgNil))
theorem typ_pure {d : D} (h : typD d) : d.pure = true := by
  obtain ⟨t, ht⟩ := h
  cases d <;> first | rfl | exact nomatch ht
theorem stair_loop (xs : List D) (hx : ∀ d ∈ xs, typD d) : ∀ (rest : List D) (i : Nat) (p : Option Int) (a b : Option D), xs.drop i = rest → (match p with | none => i = 0 | some q => ∃ j, i = j + 1 ∧ gets xs j = some (.int q)) →
    (stairB p rest = true → ∃ σ', forL stTg L_is_stair_1 (enumD i rest) [some (.tup xs), a, b] [] = .nx σ' []) ∧ (stairB p rest = false → forL stTg L_is_stair_1 (enumD i rest) [some (.tup xs), a, b] [] = .rt (.bl false) false)
  | [], i, p, a, b, _, _ => ⟨fun _ => ⟨_, rfl⟩, fun h => nomatch h⟩
  | d :: rest, i, p, a, b, hd, hp => by
    have hg : gets xs i = some d := by
      rw [gets_eq, ← List.head?_drop, hd]
      rfl
    have td : typD d := hx d (List.mem_of_mem_drop (hd ▸ List.mem_cons_self ..))
    have hr : xs.drop (i + 1) = rest := by rw [← List.tail_drop, hd]; rfl
    have t1 : (cNotB (cTru (cApp (callD m_is_positive) (cCons (cVar 2) cNil)))) [some (.tup xs), some (.int i), some d] [] = .ok (.bl (!goodD d)) false := by
      have e : cApp (callD m_is_positive) (cCons (cVar 2) cNil) [some (.tup xs), some (.int i), some d] [] = .ok (.bl (goodD d)) false := call_d (ds := [d]) rfl (by show (d.pure && true) = true; rw [typ_pure td]; rfl) (pos_is td)
      unfold cNotB cTru
      simp only [e, truth]
    cases g : goodD d with
    | false =>
      refine ⟨fun h => ?_, fun _ => ?_⟩
      · unfold stairB at h
        rw [g] at h
        exact nomatch h
      · rw [g] at t1
        show (match L_is_stair_1 [some (.tup xs), some (.int i), some d] [] with | .nx σ2 S2 => forL stTg L_is_stair_1 (enumD (i + 1) rest) σ2 S2 | .ct σ2 S2 => forL stTg L_is_stair_1 (enumD (i + 1) rest) σ2 S2 | .bk σ2 S2 => .nx σ2 S2 | r => r) = _
        rw [show L_is_stair_1 [some (.tup xs), some (.int i), some d] [] = .rt (.bl false) false from seq_rt ((if_t t1).trans (ret_v rfl))]
    | true =>
      obtain ⟨z, rfl⟩ : ∃ z, d = .int z := by
        cases d with
        | int z => exact ⟨z, rfl⟩
        | _ => exact nomatch g
      rw [g] at t1
      have t2 : (cAndB (cBin bGt (cVar 1) (cD (.int 0))) (cBin bGt (cVar 2) (cBin bIx (cVar 0) (cBin bSub (cVar 1) (cD (.int 1)))))) [some (.tup xs), some (.int i), some (.int z)] [] = .ok (.bl (!(leP p z))) false := by
        cases p with
        | none =>
          obtain rfl : i = 0 := hp
          rfl
        | some q =>
          obtain ⟨j, rfl, hj⟩ := hp
          have e1 : cBin bIx (cVar 0) (cBin bSub (cVar 1) (cD (.int 1))) [some (.tup xs), some (.int (j + 1 : Nat)), some (.int z)] [] = .ok (.int q) false := by
            refine bin_to (x := .tup xs) (y := .int j) (fy := false) rfl ?_ ?_
            · refine (bin_to rfl rfl rfl : _ = Res.ok (.int (((j + 1 : Nat) : Int) - 1)) false).trans ?_
              rw [show ((j + 1 : Nat) : Int) - 1 = j by omega]
            · show (match gets xs j with | some d => Res.ok d false | none => Res.bad) = _
              rw [hj]
          have e2 : cBin bGt (cVar 1) (cD (.int 0)) [some (.tup xs), some (.int (j + 1 : Nat)), some (.int z)] [] = .ok (.bl true) false := by
            refine (bin_to rfl rfl rfl : _ = Res.ok (.bl (decide ((0 : Int) < ((j + 1 : Nat) : Int)))) false).trans ?_
            rw [decide_eq_true (by omega)]
          have e3 : cBin bGt (cVar 2) (cBin bIx (cVar 0) (cBin bSub (cVar 1) (cD (.int 1)))) [some (.tup xs), some (.int (j + 1 : Nat)), some (.int z)] [] = .ok (.bl (decide (q < z))) false := bin_to rfl e1 rfl
          unfold cAndB
          simp only [e2, e3]
          show Res.ok (.bl (decide (q < z))) false = Res.ok (.bl (!decide (z ≤ q))) false
          rw [← decide_not]
          congr 2
          exact decide_eq_decide.mpr (by omega)
      have step : ∀ c : Bool, (leP p z) = c → L_is_stair_1 [some (.tup xs), some (.int i), some (.int z)] [] = if c then .nx [some (.tup xs), some (.int i), some (.int z)] [] else .rt (.bl false) false := fun c hc => by
        rw [hc] at t2
        cases c with
        | true => exact (seq_nx (if_f t1)).trans (if_f t2)
        | false => exact (seq_nx (if_f t1)).trans ((if_t t2).trans (ret_v rfl))
      have nxt := stair_loop xs hx rest (i + 1) (some z) (some (.int i)) (some (.int z)) hr ⟨i, rfl, hg⟩
      have unf : forL stTg L_is_stair_1 (enumD i (.int z :: rest)) [some (.tup xs), a, b] [] = (match L_is_stair_1 [some (.tup xs), some (.int i), some (.int z)] [] with | .nx σ2 S2 => forL stTg L_is_stair_1 (enumD (i + 1) rest) σ2 S2 | .ct σ2 S2 => forL stTg L_is_stair_1 (enumD (i + 1) rest) σ2 S2 | .bk σ2 S2 => .nx σ2 S2 | r => r) := rfl
      cases c : (leP p z) with
      | true =>
        rw [unf, step true c]
        have e : stairB p (.int z :: rest) = stairB (some z) rest := by
          unfold stairB
          rw [g]
          show (true && ((leP p z) && stairB (some z) rest)) = _
          rw [c]
          cases rest <;> rfl
        rw [e]
        exact nxt
      | false =>
        rw [unf, step false c]
        have e : stairB p (.int z :: rest) = false := by
          unfold stairB
          rw [g]
          show (true && ((leP p z) && stairB (some z) rest)) = _
          rw [c]
          rfl
        rw [e]
        exact ⟨(fun h => nomatch h), fun _ => rfl⟩
theorem isStair_is (xs : List D) (hx : ∀ d ∈ xs, typD d) : m_is_stair [.tup xs] = .ok (.bl (stairB none xs)) false := by
  have t : (cNotB (cTru (cApp (fIsi [.tup]) (cCons (cVar 0) cNil)))) [some (.tup xs), none, none] [] = .ok (.bl false) false := rfl
  obtain ⟨h1, h2⟩ := stair_loop xs hx xs 0 none none none rfl rfl
  cases e : stairB none xs with
  | true =>
    obtain ⟨σ', h⟩ := h1 e
    exact run_rt rfl ((seq_nx (if_f t)).trans ((seq_nx ((for_st rfl).trans h)).trans (ret_v rfl)))
  | false => exact run_rt rfl ((seq_nx (if_f t)).trans (seq_rt ((for_st rfl).trans (h2 e))))
theorem notTup_is {d : D} {t : Tg} (h : tgD [] d = some t) (ht : isa t .tup = false) : m_is_stair [d] = .ok (.bl false) false := by
  have t1 : (cNotB (cTru (cApp (fIsi [.tup]) (cCons (cVar 0) cNil)))) [some d, none, none] [] = .ok (.bl true) false := by
    have e : cApp (fIsi [.tup]) (cCons (cVar 0) cNil) [some d, none, none] [] = .ok (.bl false) false := by
      refine app_to rfl ?_
      unfold fIsi
      simp only [h, List.any_cons, List.any_nil, ht, Bool.or_false]
    unfold cNotB cTru
    simp only [e, truth, Bool.not_false]
  exact run_rt rfl (seq_rt ((if_t t1).trans (ret_v rfl)))
end PL

set_option maxRecDepth 100000
namespace PL
open HC

/-! ## the drawing of inputs -/
theorem cell_is (ns : List Int) (k : Nat) (hk : k ≤ 1000) : ∃ c, m__law_cell [.rol (its ns), .int k] = .ok (.int c) false := by
  have hl : (its ns).length = ns.length := List.length_map ..
  have t : (cBin bLt (cVar 1) (cApp fLen (cCons (cVar 0) cNil))) [some (.rol (its ns)), some (.int k)] [] = .ok (.bl (decide ((k : Int) < ((its ns).length : Nat)))) false := rfl
  by_cases h : k < ns.length
  · obtain ⟨i, hi⟩ : ∃ i, ns[k]? = some i := ⟨_, List.getElem?_eq_getElem h⟩
    rw [decide_eq_true (by rw [hl]; omega)] at t
    exact ⟨i, run_rt rfl ((seq_rt ((if_t t).trans (ret_v (app_to (bin_to rfl rfl (ixS hi)) rfl)))))⟩
  · rw [decide_eq_false (by rw [hl]; omega)] at t
    have t2 : (cBin bEq (cApp fLen (cCons (cVar 0) cNil)) (cD (.int 0))) [some (.rol (its ns)), some (.int k)] [] = .ok (.bl (decide (((its ns).length : Int) = 0))) false := rfl
    by_cases h0 : ns.length = 0
    · rw [decide_eq_true (by rw [hl]; omega)] at t2
      exact ⟨k, run_rt rfl ((seq_nx (if_f t)).trans (seq_rt (if_t t2)))⟩
    · rw [decide_eq_false (by rw [hl]; omega)] at t2
      have hm : k % ns.length < ns.length := Nat.mod_lt _ (by omega)
      obtain ⟨i, hi⟩ : ∃ i, ns[k % ns.length]? = some i := ⟨_, List.getElem?_eq_getElem hm⟩
      have e1 : (cBin bMod (cVar 1) (cApp fLen (cCons (cVar 0) cNil))) [some (.rol (its ns)), some (.int k)] [] = .ok (.int ((k % ns.length : Nat) : Int)) false := by
        refine (bin_ok (x := .int k) (y := .int ((its ns).length : Nat)) rfl rfl).trans ?_
        rw [mod_p (by rw [hl]; omega), hl]
        rfl
      refine ⟨i / ((k : Int) + 2) + k, run_rt rfl ((seq_nx (if_f t)).trans ((seq_nx (if_f t2)).trans ?_))⟩
      exact ret_v (bin_to (bin_to (app_to (bin_to rfl e1 (ixS hi)) rfl) rfl (div_p (by omega) (by omega))) rfl rfl)
theorem draw_is (c : Int) (k : Nat) (l : Int) (hk : k ≤ 1000) (h0 : 0 < l) : ∃ d, m__law_draw [.int c, .int k, .int l] = .ok (.int d) false ∧ 0 ≤ d ∧ d < l := by
  have b1 : ∃ z : Int, z = (c * 48271 + ((k : Int) + 1) * 69621 + 7) % 2147483647 := ⟨_, rfl⟩
  obtain ⟨z1, e1⟩ := b1
  have r1 : 0 ≤ z1 ∧ z1 < 2147483647 := by omega
  obtain ⟨z2, e2⟩ : ∃ z : Int, z = (z1 * z1 + 7919 * (k : Int) + 104729) % 2147483629 := ⟨_, rfl⟩
  have r2 : 0 ≤ z2 ∧ z2 < 2147483629 := by omega
  obtain ⟨z3, e3⟩ : ∃ z : Int, z = (z2 * (z2 % 65521 + 3) + 40692) % 2147483587 := ⟨_, rfl⟩
  have r3 : 0 ≤ z3 ∧ z3 < 2147483587 := by omega
  have s1 : small z1 = true := small_of (by omega) (by omega)
  have s2 : small z2 = true := small_of (by omega) (by omega)
  refine ⟨z3 / 7 % l, run_rt rfl ((seq_nx (σ1 := [some (.int c), some (.int k), some (.int l), some (.int z1)]) (S1 := []) (asg_ok (d := .int z1) (fr := false) ?_)).trans
    ((seq_nx (σ1 := [some (.int c), some (.int k), some (.int l), some (.int z2)]) (S1 := []) (asg_ok (d := .int z2) (fr := false) ?_)).trans
    ((seq_nx (σ1 := [some (.int c), some (.int k), some (.int l), some (.int z3)]) (S1 := []) (asg_ok (d := .int z3) (fr := false) ?_)).trans (ret_v ?_)))), Int.emod_nonneg _ (by omega), Int.emod_lt_of_pos _ h0⟩
  · rw [e1]
    exact bin_to (app_to (bin_to (bin_to (bin_to rfl rfl (mul_r rfl)) (bin_to (bin_to rfl rfl rfl) rfl (mul_r rfl)) rfl) rfl rfl) rfl) rfl (mod_p (by omega))
  · rw [e2]
    exact bin_to (app_to (bin_to (bin_to (bin_to rfl rfl (mul_r s1)) (bin_to rfl rfl (mul_l rfl)) rfl) rfl rfl) rfl) rfl (mod_p (by omega))
  · rw [e3]
    exact bin_to (app_to (bin_to (bin_to rfl (bin_to (bin_to (app_to rfl rfl) rfl (mod_p (by omega))) rfl rfl) (mul_l s2)) rfl rfl) rfl) rfl (mod_p (by omega))
  · exact bin_to (bin_to (app_to rfl rfl) rfl (div_p (by omega) (by omega))) rfl (mod_p h0)
theorem digits_big (c : Int) (n : Nat) (l : Int) (hn : n ≤ 1000) (h0 : 0 < l) (h1 : ∀ (S : List SO) (i : Int), bFdiv S (.int i) (.int l) = .ok (.int (i / l)) false) : ∃ ds : List Int, m__law_digits [.int c, .int n, .int l] = .ok (.lst (its ds)) true ∧ ds.length = n ∧ ∀ d ∈ ds, 0 ≤ d ∧ d < l := by
  let I : Nat → Sl → List SO → Prop := fun i σ S => ∃ (ds : List Int) (rest : Int) (k : Option D), σ = [some (.int c), some (.int n), some (.int l), some (.loc 0), some (.int rest), k] ∧ S = [.lst (its ds)] ∧ ds.length = i ∧ ∀ d ∈ ds, 0 ≤ d ∧ d < l
  obtain ⟨σ', S', hf, ds, rest, k, rfl, rfl, hl, hd⟩ := for_inv (A := tgName 5) (body := sIf (cBin bGe (cVar 0) (cBin bPow (cD (.int 10)) (cD (.int 18)))) (sSeq (sMethE mAppend (cVar 3) (cCons (cBin bMod (cApp fInt (cCons (cVar 4) cNil)) (cVar 2)) cNil)) (sAsg 4 (cBin bFdiv (cVar 4) (cVar 2)))) (sMethE mAppend (cVar 3) (cCons (cApp (callD m__law_draw) (cCons (cVar 0) (cCons (cVar 5) (cCons (cVar 2) cNil)))) cNil)))
    I (rangeD 0 n) 0 [some (.int c), some (.int n), some (.int l), some (.loc 0), some (.int (c - 1000000000000000000)), none] [.lst []] ⟨[], _, _, rfl, rfl, rfl, fun d h => nomatch h⟩ (fun j d σ S hj hi => by
      obtain ⟨ds, rest, k, rfl, rfl, hl, hd⟩ := hi
      have hjn : j < n := by
        have := (List.getElem?_eq_some_iff.mp hj).1
        rw [rangeD_len] at this
        exact this
      have ed : d = .int j := by
        rw [range_get n 0 j hjn] at hj
        rw [← Option.some.inj hj]
        congr 1
        omega
      subst ed
      have hlen : (its ds).length < lim := by
        rw [List.length_map]
        unfold lim
        omega
      have hz : ∀ z : Int, 0 ≤ z → z < l → I (0 + j + 1) [some (.int c), some (.int n), some (.int l), some (.loc 0), some (.int rest), some (.int j)] [.lst (its ds ++ [.int z])] := fun z z0 z1 =>
        ⟨ds ++ [z], rest, _, rfl, by rw [its_snoc], by rw [List.length_append, hl]; rfl, fun y hy => (List.mem_append.mp hy).elim (hd y) fun h => by rw [List.mem_singleton.mp h]; exact ⟨z0, z1⟩⟩
      refine ⟨[some (.int c), some (.int n), some (.int l), some (.loc 0), some (.int rest), some (.int j)], ?_⟩
      by_cases hc : 1000000000000000000 ≤ c
      · have t : (cBin bGe (cVar 0) (cBin bPow (cD (.int 10)) (cD (.int 18)))) [some (.int c), some (.int n), some (.int l), some (.loc 0), some (.int rest), some (.int j)] [.lst (its ds)] = .ok (.bl (decide ((1000000000000000000 : Int) ≤ c))) false := rfl
        rw [decide_eq_true hc] at t
        obtain ⟨ds2, _, k2, e1, e2, e3, e4⟩ := hz (rest % l) (Int.emod_nonneg _ (by omega)) (Int.emod_lt_of_pos _ h0)
        refine ⟨_, _, rfl, .inl ((if_t t).trans ((seq_nx (append_ok rfl (bin_to (app_to rfl rfl) rfl (mod_p h0)) rfl hlen)).trans (asg_ok (bin_to rfl rfl (h1 _ _))))), ds2, rest / l, some (.int j), rfl, e2, e3, e4⟩
      · have t : (cBin bGe (cVar 0) (cBin bPow (cD (.int 10)) (cD (.int 18)))) [some (.int c), some (.int n), some (.int l), some (.loc 0), some (.int rest), some (.int j)] [.lst (its ds)] = .ok (.bl (decide ((1000000000000000000 : Int) ≤ c))) false := rfl
        rw [decide_eq_false hc] at t
        obtain ⟨z, q1, q2, q3⟩ := draw_is c j l (by omega) h0
        exact ⟨_, _, rfl, .inl ((if_f t).trans (append_ok rfl (call_d rfl rfl q1) rfl hlen)), hz z q2 q3⟩)
  refine ⟨ds, run_rt rfl ((seq_nx (σ1 := [some (.int c), some (.int n), some (.int l), some (.loc 0), none, none]) (S1 := [.lst []]) (new_l rfl)).trans ((seq_nx (σ1 := [some (.int c), some (.int n), some (.int l), some (.loc 0), some (.int (c - 1000000000000000000)), none]) (S1 := [.lst []]) (asg_ok rfl)).trans
    ((seq_nx ((for_st (iapp_to rfl (rg1_n (by omega) (by omega)))).trans hf)).trans (ret_loc rfl rfl (pure_its ds))))), ?_, hd⟩
  rw [hl, rangeD_len, Nat.zero_add]
theorem digits_is (c : Int) (n : Nat) (l : Int) (hn : n ≤ 1000) (h0 : 0 < l) (h1 : l < 1073741824) : ∃ ds : List Int, m__law_digits [.int c, .int n, .int l] = .ok (.lst (its ds)) true ∧ ds.length = n ∧ ∀ d ∈ ds, 0 ≤ d ∧ d < l := digits_big c n l hn h0 fun S i => div_p h0 h1
theorem stair_is (c : Int) (n : Nat) (m : Int) (hn : n ≤ 1000) (h0 : 0 ≤ m) (h1 : m < 1000000000) : ∃ ds : List Int, m__law_stair [.int c, .int n, .int m] = .ok (.tup (its ds)) false ∧ ds.length ≤ n ∧ ds.Pairwise (· ≥ ·) ∧ ∀ d ∈ ds, 0 < d ∧ d ≤ m := by
  obtain ⟨ds, q1, q2, q3⟩ := digits_is c n (m + 1) hn (by omega) (by omega)
  have hs : (cApp (fSorted true) (cCons (cApp (callD m__law_digits) (cCons (cVar 0) (cCons (cVar 1) (cCons (cBin bAdd (cVar 2) (cD (.int 1))) cNil)))) cNil)) [some (.int c), some (.int n), some (.int m), none] [] = .ok (.lst (its (sortI true ds))) true := by
    refine app_to (call_d rfl rfl q1) ?_
    show (match intsOf (its ds) with | some ns => Res.ok (.lst (its (sortI true ns))) true | none => Res.bad) = _
    rw [ints_its]
  have hc := comp_is (A := tgName 3) (t := cBin bGt (cVar 3) (cD (.int 0))) (f := cVar 3) (σ := [some (.int c), some (.int n), some (.int m), none]) (S := []) (fun d => decide (0 < intD d)) (fun d => d) (its (sortI true ds)) fun d hd => by
    obtain ⟨i, _, rfl⟩ := List.mem_map.mp hd
    exact ⟨_, false, rfl, rfl, fun _ => ⟨rfl, _, rfl⟩⟩
  rw [filter_its (fun i => decide (0 < i)) _ (fun i => rfl), List.map_id'] at hc
  refine ⟨(sortI true ds).filter fun i => decide (0 < i), run_rt rfl (ret_v (tuple_l (cons1 (comp_st (ws := [3]) (ival_l hs) hc)) (pure_its _))), ?_, ?_, fun d hd => ?_⟩
  · exact Nat.le_trans (List.length_filter_le ..) (by rw [sortI_len, q2]; exact Nat.le_refl _)
  · exact (sort_down ds).filter _
  · obtain ⟨h1, h2⟩ := List.mem_filter.mp hd
    have := q3 d (rev_mem h1)
    have := of_decide_eq_true h2
    omega
end PL

set_option maxRecDepth 2000
namespace PL
open HC PM
/-! ## lists of numbers as data -/
def nts (s : List Nat) : List D := s.map fun n : Nat => D.int (n : Int)
theorem nts_its (s : List Nat) : nts s = its (s.map fun n : Nat => (n : Int)) := by
  unfold nts
  show _ = List.map D.int _
  rw [List.map_map]
  rfl
@[simp] theorem nts_len (s : List Nat) : (nts s).length = s.length := List.length_map ..
@[simp] theorem nts_pure (s : List Nat) : pureL (nts s) = true := by rw [nts_its]; exact pure_its _
@[simp] theorem nts_nil : nts [] = [] := rfl
@[simp] theorem nts_append (a b : List Nat) : nts a ++ nts b = nts (a ++ b) := by unfold nts; rw [List.map_append]
@[simp] theorem nts_snoc (a : List Nat) (b : Nat) : nts a ++ [D.int (b : Int)] = nts (a ++ [b]) := by rw [← nts_append]; rfl
theorem nts_get (s : List Nat) (i : Nat) : (nts s)[i]? = (s[i]?).map fun n : Nat => D.int (n : Int) := List.getElem?_map ..
theorem nts_at {s : List Nat} {i : Nat} (h : i < s.length) : atD (nts s) (i : Int) = some (.int (s.getD i 0 : Nat)) := by
  show gets (nts s) i = _
  rw [gets_eq, nts_get, List.getD_eq_getElem?_getD, List.getElem?_eq_getElem h]
  rfl
theorem nts_take (s : List Nat) (k : Nat) : (nts s).take k = nts (s.take k) := by unfold nts; rw [List.map_take]
theorem nts_drop (s : List Nat) (k : Nat) : (nts s).drop k = nts (s.drop k) := by unfold nts; rw [List.map_drop]
theorem sumI_map (s : List Nat) : sumI (s.map fun n : Nat => (n : Int)) = ((s.sum : Nat) : Int) := by
  induction s with
  | nil => rfl
  | cons x s ih =>
    show (x : Int) + sumI (s.map fun n : Nat => (n : Int)) = _
    rw [ih, List.sum_cons]
    omega
theorem sum_nts {S : List SO} {d : D} {s : List Nat} (h : seqOf S d = some (nts s)) : fSum S [d] = .ok (.int (s.sum : Nat)) false := by
  rw [nts_its] at h
  rw [fSum_s h, sumI_map]
/-! ## the checks -/
theorem stairB_nts : ∀ {s : List Nat}, Stair s → ∀ p : Option Int, (∀ x ∈ s, leP p (x : Int) = true) → stairB p (nts s) = true
  | [], _, _, _ => rfl
  | x :: s, h, p, hp => by
    have h1 := h.pos x (List.mem_cons_self ..)
    have ih := stairB_nts h.tail (some (x : Int)) fun y hy => by
      have := (List.pairwise_cons.mp h.dn).1 y hy
      unfold leP
      simp
      omega
    show (goodD (.int (x : Int)) && (leP p (intD (.int (x : Int))) && stairB (some (x : Int)) (nts s))) = true
    rw [ih, show leP p (intD (.int (x : Int))) = true from hp x (List.mem_cons_self ..)]
    simp [goodD]
    omega
theorem nts_typ (s : List Nat) : ∀ d ∈ nts s, typD d := fun d hd => by
  unfold nts at hd
  obtain ⟨n, _, rfl⟩ := List.mem_map.mp hd
  exact ⟨_, rfl⟩
theorem is_stair_nts {s : List Nat} (h : Stair s) : m_is_stair [.tup (nts s)] = .ok (.bl true) false := by
  rw [isStair_is _ (nts_typ s), stairB_nts h none fun _ _ => rfl]
theorem need_stair_nts {s : List Nat} (h : Stair s) : m_need_stair [.tup (nts s)] = .ok .non false := by
  unfold m_need_stair
  simp [b_need_stair, is_stair_nts h]
theorem is_positive_i (i : Int) : m_is_positive [.int i] = .ok (.bl (decide (1 ≤ i))) false := rfl
theorem row_of_nts (s : List Nat) (i : Nat) : m_row_of [.tup (nts s), .int (i : Int)] = .ok (.int (s.getD i 0 : Nat)) false := by
  unfold m_row_of
  by_cases h : i < s.length
  · simp only [runF_e, b_row_of]
    simp [h, nts_at h, -atD_n]
  · have e : s.getD i 0 = 0 := by rw [List.getD_eq_getElem?_getD, List.getElem?_eq_none (by omega)]; rfl
    simp only [runF_e, b_row_of]
    simp [h, e]
/-! ## turned -/
theorem turned_while {s : List Nat} (hs : Stair s) {j : Nat} (hj : 0 < cnt s j) (x : Option D) (S : List SO) : ∀ (k many : Nat), cnt s j ≤ many → many ≤ s.length → many - cnt s j < k →
    whileF W_turned_1 L_turned_1 k [some (.tup (nts s)), x, some (.int (many : Int)), some (.int (j : Int))] S = .nx [some (.tup (nts s)), x, some (.int (cnt s j : Nat)), some (.int (j : Int))] S
  | 0, _, _, _, h => absurd h (Nat.not_lt_zero _)
  | k + 1, many, h1, h2, h3 => by
    rw [whileF_s]
    obtain ⟨m, rfl⟩ : ∃ m, many = m + 1 := ⟨many - 1, by omega⟩
    have hm : m < s.length := by omega
    have e : ((m + 1 : Nat) : Int) - 1 = (m : Int) := by omega
    have hg := cnt_gt hs m j
    by_cases h : m + 1 = cnt s j
    · have : ¬ s.getD m 0 ≤ j := by omega
      simp [W_turned_1_e, e, nts_at hm, -atD_n, this, -List.getD_eq_getElem?_getD]
      omega
    · have h4 : s.getD m 0 ≤ j := by omega
      have ih := turned_while hs hj x S k m (by omega) (by omega) (by omega)
      simp [W_turned_1_e, L_turned_1_e, e, nts_at hm, -atD_n, h4, ih, -List.getD_eq_getElem?_getD]
theorem turned_for {s : List Nat} (hs : Stair s) (hl : s.length ≤ 1000000) : ∀ (n j : Nat) (many : Nat) (w : Option D) (f : List Nat), j + n = s.headD 0 → cnt s j ≤ many → many ≤ s.length → f.length = j → s.headD 0 ≤ 1000000 →
    ∃ m w', forL (tgName 3) L_turned_2 (rangeD j n) [some (.tup (nts s)), some (.loc 0), some (.int (many : Int)), w] [.lst (nts f)] = .nx [some (.tup (nts s)), some (.loc 0), m, w'] [.lst (nts (f ++ (List.range' j n).map (cnt s)))]
  | 0, j, many, w, f, _, _, _, _, _ => ⟨some (.int (many : Int)), w, by simp⟩
  | n + 1, j, many, w, f, h, h1, h2, h3, h4 => by
    have hj : 0 < cnt s j := by
      rw [cnt_gt hs]
      cases s with
      | nil => simp at h
      | cons x t => simp at h ⊢; omega
    have hw := turned_while hs hj (some (.loc 0)) [.lst (nts f)] fuel many h1 h2 (by show _ < 1073741824; omega)
    obtain ⟨m, w', ih⟩ := turned_for hs hl n (j + 1) (cnt s j) (some (.int (j : Int))) (f ++ [cnt s j]) (by omega) (cnt_anti s (by omega)) (cnt_le s j) (by simp [h3]) h4
    have hlt : f.length < lim := by unfold lim; omega
    refine ⟨m, w', ?_⟩
    have e1 : ((j : Int) + 1) = ((j + 1 : Nat) : Int) := by omega
    simp only [rangeD_s, forL_c, tgName_e, gB_s, L_turned_2_e, sSeq_e, sWhile_e]
    simp only [List.set_cons_succ, List.set_cons_zero]
    rw [hw]
    simp [hlt]
    rw [e1, ih]
    simp [List.range'_succ]
theorem turned_is {s : List Nat} (hs : Stair s) (hl : s.length ≤ 1000000) (h0 : s.headD 0 ≤ 1000000) : m_turned [.tup (nts s)] = .ok (.tup (nts (conj s))) false := by
  obtain ⟨m, w', hf⟩ := turned_for hs hl (s.headD 0) 0 s.length none [] (by omega) (cnt_le s 0) (Nat.le_refl _) rfl h0
  have r0 := row_of_nts s 0
  have e : s.getD 0 0 = s.headD 0 := by cases s <;> rfl
  rw [e] at r0
  unfold m_turned
  simp only [runF_e, b_turned]
  have hr : rg1 [.lst []] [.int (s.headD 0 : Nat)] = .st (rangeD 0 (s.headD 0)) := rg1_nat h0
  simp [need_stair_nts hs, -List.headD_eq_head?_getD]
  rw [show ((0 : Int)) = ((0 : Nat) : Int) from rfl, r0]
  simp [hr, -List.headD_eq_head?_getD]
  rw [show ((0 : Int)) = ((0 : Nat) : Int) from rfl]
  rw [show ([] : List D) = nts [] from rfl, hf]
  simp [List.range_eq_range', conj]
end PL

set_option maxRecDepth 2000
namespace PL
open HC PM
/-! ## ranges, comprehensions -/
theorem range_map : ∀ (n j : Nat), rangeD (j : Int) n = (List.range' j n).map fun i : Nat => D.int (i : Int)
  | 0, _ => rfl
  | n + 1, j => by
    rw [rangeD_s, List.range'_succ, List.map_cons, ← range_map n (j + 1)]
    congr 1
theorem range_0 (n : Nat) : rangeD 0 n = (List.range n).map fun i : Nat => D.int (i : Int) := by
  rw [List.range_eq_range']
  exact range_map n 0
theorem rg1_of {S : List SO} {i : Int} {n : Nat} (h : i = (n : Int)) (hn : n ≤ 1000000) : rg1 S [.int i] = .st (rangeD 0 n) := by rw [h]; exact rg1_nat hn
theorem nts_map {α : Type} (f : α → Nat) (xs : List α) : nts (xs.map f) = xs.map fun x => D.int (f x : Nat) := by
  unfold nts
  rw [List.map_map]
  rfl
theorem added_is {a b : List Nat} (ha : Stair a) (hb : Stair b) (la : a.length ≤ 1000000) (lb : b.length ≤ 1000000) : m_added [.tup (nts a), .tup (nts b)] = .ok (.tup (nts (add a b))) false := by
  have hr : ∀ S, rg1 S [.int ((max a.length b.length : Nat) : Int)] = .st (rangeD 0 (max a.length b.length)) := fun S => rg1_nat (by omega)
  have hc := comp_all (A := tgName 2) (t := cTrue) (f := E_added_1) (σ := [some (.tup (nts a)), some (.tup (nts b)), none]) (S := []) (fun i : Nat => D.int (i : Int)) (fun i => D.int ((a.getD i 0 + b.getD i 0 : Nat) : Int)) (List.range (max a.length b.length)) fun i _ => by
    refine ⟨_, _, false, rfl, rfl, ?_, rfl⟩
    simp [E_added_1_e, row_of_nts, -List.getD_eq_getElem?_getD]
  rw [← range_0, ← nts_map (fun i => a.getD i 0 + b.getD i 0)] at hc
  unfold m_added
  simp only [runF_e, b_added_e, sSeq_e, sExpr_e]
  simp [need_stair_nts ha, need_stair_nts hb, hr, hc, -List.getD_eq_getElem?_getD]
  rfl
theorem bMul_of {S : List SO} {i j : Int} (h : small i = true ∨ small j = true) : bMul S (.int i) (.int j) = .ok (.int (i * j)) false := h.elim mul_l mul_r
theorem small_n {n : Nat} (h : n < 18446744073709551616) : small (n : Int) = true := decide_eq_true (by omega)
theorem times_is {a : List Nat} (ha : Stair a) {n : Nat} (hn : 1 ≤ n) (h2 : n < 18446744073709551616) : m_times [.tup (nts a), .int (n : Int)] = .ok (.tup (nts (a.map (· * n)))) false := by
  have hc := comp_all (A := tgName 2) (t := cTrue) (f := E_times_1) (σ := [some (.tup (nts a)), some (.int (n : Int)), none]) (S := []) (fun i : Nat => D.int (i : Int)) (fun i => D.int ((i * n : Nat) : Int)) a fun i _ => by
    refine ⟨_, _, false, rfl, rfl, ?_, rfl⟩
    simp [E_times_1_e, bMul_of (.inr (small_n h2))]
  rw [← nts_map (fun i => i * n)] at hc
  have hc : compL (tgName 2) cTrue E_times_1 [some (.tup (nts a)), some (.int (n : Int)), none] [] (nts a) = _ := hc
  have h3 : (1 : Int) ≤ (n : Int) := by omega
  unfold m_times
  simp only [runF_e, b_times_e, sSeq_e, sExpr_e]
  simp [need_stair_nts ha, is_positive_i, h3, hc]
/-! ## sorted, falling -/
def sortD (s : List Nat) : List Nat := (sortI true (s.map fun n : Nat => (n : Int))).map Int.toNat
theorem sortI_perm (b : Bool) (ns : List Int) : (sortI b ns).Perm ns := by
  cases b with
  | false => exact sortU_perm ns
  | true => exact (List.reverse_perm _).trans (sortU_perm ns)
theorem map_toNat : ∀ s : List Nat, (s.map fun n : Nat => (n : Int)).map Int.toNat = s
  | [] => rfl
  | x :: s => by simp [map_toNat s]
theorem sortD_perm (s : List Nat) : (sortD s).Perm s := by
  have := (sortI_perm true (s.map fun n : Nat => (n : Int))).map Int.toNat
  rw [map_toNat] at this
  exact this
theorem sortD_down (s : List Nat) : (sortD s).Pairwise (· ≥ ·) := by
  unfold sortD
  rw [List.pairwise_map]
  exact (sort_down _).imp fun {a b} h => by
    have h : a ≥ b := h
    show b.toNat ≤ a.toNat
    omega
theorem sortD_its (s : List Nat) : nts (sortD s) = its (sortI true (s.map fun n : Nat => (n : Int))) := by
  rw [nts_its]
  congr 1
  unfold sortD
  rw [List.map_map]
  have h : ∀ i ∈ sortI true (s.map fun n : Nat => (n : Int)), ((fun n : Nat => (n : Int)) ∘ Int.toNat) i = i := fun i hi => by
    obtain ⟨n, _, rfl⟩ := List.mem_map.mp (rev_mem hi)
    rfl
  conv => rhs; rw [← List.map_id (sortI true (s.map fun n : Nat => (n : Int)))]
  exact List.map_congr_left h
theorem sorted_nts (S : List SO) {d : D} {s : List Nat} (h : rdOf S d = some (nts s)) : fSorted true S [d] = .ok (.lst (nts (sortD s))) true := by
  dsimp only [fSorted]
  rw [h]
  dsimp only
  rw [nts_its, ints_its]
  dsimp only
  rw [sortD_its]
def joinS (a b : List Nat) : List Nat := sortD (a ++ b)
theorem joinS_perm (a b : List Nat) : (joinS a b).Perm (a ++ b) := sortD_perm _
theorem joinS_stair {a b : List Nat} (ha : Stair a) (hb : Stair b) : Stair (joinS a b) :=
  ⟨sortD_down _, fun x hx => (List.mem_append.mp ((joinS_perm a b).mem_iff.mp hx)).elim (ha.pos x) (hb.pos x)⟩
theorem joined_is {a b : List Nat} (ha : Stair a) (hb : Stair b) (hl : a.length + b.length ≤ lim) : m_joined [.tup (nts a), .tup (nts b)] = .ok (.tup (nts (joinS a b))) false := by
  unfold m_joined
  simp only [runF_e, b_joined_e, sSeq_e, sExpr_e]
  have hs := sorted_nts [] (d := .lst (nts (a ++ b))) (s := a ++ b) rfl
  simp [need_stair_nts ha, need_stair_nts hb, hl, hs]
  rfl
/-! ## the laws' judge of a row -/
theorem is_row_for (s : List Nat) (d : D) (hd : ∀ S, seqOf S d = some (nts s)) (hix : ∀ (S : List SO) (i : Nat), i < s.length → bIx S d (.int (i : Int)) = .ok (.int (s.getD i 0 : Nat)) false) : ∀ (n j : Nat) (w : Option D), j + n = s.length →
    ∃ w', forL (tgName 2) L__law_is_row_1 (rangeD j n) [some (.tup (nts s)), some d, w] [] = .nx [some (.tup (nts s)), some d, w'] []
  | 0, j, w, _ => ⟨w, by simp⟩
  | n + 1, j, w, h => by
    obtain ⟨w', ih⟩ := is_row_for s d hd hix n (j + 1) (some (.int (j : Int))) (by omega)
    refine ⟨w', ?_⟩
    have hj : j < s.length := by omega
    rw [rangeD_s, forL_c]
    simp [L__law_is_row_1_e, nts_at hj, hix _ j hj, -atD_n, isa, -List.getD_eq_getElem?_getD]
    exact ih
theorem is_row_is (s : List Nat) (hl : s.length ≤ 1000000) (d : D) (hd : ∀ S, seqOf S d = some (nts s)) (hix : ∀ (S : List SO) (i : Nat), i < s.length → bIx S d (.int (i : Int)) = .ok (.int (s.getD i 0 : Nat)) false) : m__law_is_row [.tup (nts s), d] = .ok (.bl true) false := by
  obtain ⟨w', hf⟩ := is_row_for s d hd hix s.length 0 none (by omega)
  have hr : rg1 [] [.int (s.length : Int)] = .st (rangeD 0 s.length) := rg1_nat hl
  have hle : ∀ S, fLen S [d] = .ok (.int (s.length : Int)) false := fun S => by rw [fLen_s (hd S), nts_len]
  unfold m__law_is_row
  simp only [runF_e, b__law_is_row_e]
  simp [isa, hle, hr]
  rw [show (0 : Int) = ((0 : Nat) : Int) from rfl, hf]
  simp
theorem is_row_t (s : List Nat) (hl : s.length ≤ 1000000) : m__law_is_row [.tup (nts s), .tup (nts s)] = .ok (.bl true) false := is_row_is s hl _ (fun _ => rfl) fun S i hi => by rw [bIx_t, nts_at hi]; rfl
theorem is_row_l (s : List Nat) (hl : s.length ≤ 1000000) : m__law_is_row [.tup (nts s), .lst (nts s)] = .ok (.bl true) false := is_row_is s hl _ (fun _ => rfl) fun S i hi => by rw [bIx_l, nts_at hi]; rfl
/-! ## the drawn stair -/
theorem stair_nat (c : Int) (n : Nat) (m : Nat) (hn : n ≤ 1000) (h1 : m < 1000000000) : ∃ s : List Nat, m__law_stair [.int c, .int (n : Int), .int (m : Int)] = .ok (.tup (nts s)) false ∧ s.length ≤ n ∧ Stair s ∧ ∀ x ∈ s, x ≤ m := by
  obtain ⟨ds, q1, q2, q3, q4⟩ := stair_is c n m hn (by omega) (by omega)
  refine ⟨ds.map Int.toNat, ?_, by simpa using q2, ⟨?_, fun x hx => ?_⟩, fun x hx => ?_⟩
  · have e : (ds.map Int.toNat).map (fun n : Nat => (n : Int)) = ds := by
      rw [List.map_map]
      refine (List.map_congr_left (g := id) fun d hd => ?_).trans (List.map_id ds)
      have := q4 d hd
      simp
      omega
    rw [q1, nts_its, e]
  · rw [List.pairwise_map]
    exact q3.imp fun {a b} h => by
      have h : a ≥ b := h
      show b.toNat ≤ a.toNat
      omega
  · obtain ⟨d, hd, rfl⟩ := List.mem_map.mp hx
    have := q4 d hd
    omega
  · obtain ⟨d, hd, rfl⟩ := List.mem_map.mp hx
    have := q4 d hd
    omega
end PL

set_option maxRecDepth 2000
namespace PL
open HC PM
theorem nts_set (c : List Nat) (j x : Nat) : (nts c).set j (.int (x : Int)) = nts (c.set j x) := by
  unfold nts
  rw [List.map_set]
/-! ## without the zeros at the end -/
def trim (l : List Nat) : Nat → Nat
  | 0 => 0
  | n + 1 => if l.getD n 0 = 0 then trim l n else n + 1
def strp (l : List Nat) : List Nat := l.take (trim l l.length)
theorem trim_le (l : List Nat) : ∀ n, trim l n ≤ n
  | 0 => Nat.le_refl _
  | n + 1 => by
    unfold trim
    have := trim_le l n
    split <;> omega
theorem trim_zero (l : List Nat) : ∀ n i, trim l n ≤ i → i < n → l.getD i 0 = 0
  | 0, _, _, h => absurd h (Nat.not_lt_zero _)
  | n + 1, i, h1, h2 => by
    unfold trim at h1
    split at h1
    · rename_i h
      by_cases e : i = n
      · rw [e]; exact h
      · exact trim_zero l n i h1 (by omega)
    · omega
theorem trim_pos (l : List Nat) : ∀ n, 0 < trim l n → 0 < l.getD (trim l n - 1) 0
  | 0, h => absurd h (Nat.not_lt_zero _)
  | n + 1, h => by
    unfold trim at h ⊢
    split
    · rename_i e
      rw [if_pos e] at h
      exact trim_pos l n h
    · rename_i e
      rw [Nat.add_sub_cancel]
      omega
theorem take_getD (l : List Nat) (k i : Nat) : (l.take k).getD i 0 = if i < k then l.getD i 0 else 0 := by
  rw [List.getD_eq_getElem?_getD, List.getElem?_take]
  split
  · rw [List.getD_eq_getElem?_getD]
  · rfl
theorem strp_getD (l : List Nat) (i : Nat) : (strp l).getD i 0 = l.getD i 0 := by
  unfold strp
  rw [take_getD]
  by_cases h : i < trim l l.length
  · rw [if_pos h]
  · rw [if_neg h]
    by_cases h2 : i < l.length
    · rw [trim_zero l l.length i (by omega) h2]
    · rw [List.getD_eq_getElem?_getD, List.getElem?_eq_none (by omega)]
      rfl
theorem strp_stair {l : List Nat} (h : l.Pairwise (· ≥ ·)) : Stair (strp l) := by
  have hle := trim_le l l.length
  refine ⟨h.sublist (List.take_sublist _ _), fun x hx => ?_⟩
  obtain ⟨i, hi, rfl⟩ := List.getElem_of_mem hx
  have hi2 : i < trim l l.length := by
    unfold strp at hi
    rw [List.length_take] at hi
    omega
  have h1 := trim_pos l l.length (by omega)
  have h2 := down_getD h (i := i) (j := trim l l.length - 1) (by omega)
  have h3 := strp_getD l i
  rw [List.getD_eq_getElem?_getD, List.getElem?_eq_getElem hi] at h3
  simp only [Option.getD_some] at h3
  omega
theorem strp_len (l : List Nat) : (strp l).length ≤ l.length := by
  unfold strp
  rw [List.length_take]
  exact Nat.min_le_right _ _
theorem strip_while (l : List Nat) (d : D) (hix : ∀ (S : List SO) (i : Nat), i < l.length → bIx S d (.int (i : Int)) = .ok (.int (l.getD i 0 : Nat)) false) : ∀ (k many : Nat), many ≤ l.length → many < k →
    whileF W_strip_1 L_strip_1 k [some d, some (.int (many : Int))] [] = .nx [some d, some (.int (trim l many : Nat))] []
  | 0, _, _, h => absurd h (Nat.not_lt_zero _)
  | k + 1, 0, _, _ => by
    rw [whileF_s]
    simp [W_strip_1_e, trim]
  | k + 1, many + 1, h1, h2 => by
    rw [whileF_s]
    have e : ((many + 1 : Nat) : Int) - 1 = (many : Int) := by omega
    have hp : (0 : Int) < ((many + 1 : Nat) : Int) := by omega
    have hi := hix [] many (by omega)
    by_cases hz : l.getD many 0 = 0
    · have ih := strip_while l d hix k many (by omega) (by omega)
      have ez : ((l.getD many 0 : Nat) : Int) = 0 := by omega
      simp only [W_strip_1_e, cAndB_e, cBin_e, cVar_e, gets_z, gets_s, vO_s, rB_ok, cD_e, bCmp_i, tB_ok, hp, decide_true, if_true, bSub_i, e, hi, bEq_i, ez, iS_ok, L_strip_1_e, sAug_e, vOS_s, vB_ok, augK_s, List.set_cons_succ, List.set_cons_zero, oS_nx]
      rw [ih]
      simp [trim, hz, -List.getD_eq_getElem?_getD]
    · have ez : ¬ ((l.getD many 0 : Nat) : Int) = 0 := by omega
      simp only [W_strip_1_e, cAndB_e, cBin_e, cVar_e, gets_z, gets_s, vO_s, rB_ok, cD_e, bCmp_i, tB_ok, hp, decide_true, if_true, bSub_i, e, hi, bEq_i, ez, iS_ok, decide_false, if_false, Bool.false_eq_true]
      simp [trim, hz, -List.getD_eq_getElem?_getD]
theorem strip_l (l : List Nat) (hl : l.length ≤ 1000000) : m_strip [.lst (nts l)] = .ok (.tup (nts (strp l))) false := by
  have hw := strip_while l (.lst (nts l)) (fun S i hi => by rw [bIx_l, nts_at hi]; rfl) fuel l.length (Nat.le_refl _) (by show _ < 1073741824; omega)
  unfold m_strip
  simp only [runF_e, b_strip_e]
  simp [hw, nts_take]
  rfl
/-! ## above or not -/
def brk (a b : List Nat) : Nat → Nat → Option Nat
  | _, 0 => none
  | j, n + 1 => if psum a (j + 1) < psum b (j + 1) then some (j + 1) else brk a b (j + 1) n
def breachN (a b : List Nat) : Option Nat := brk a b 0 (max a.length b.length)
def brD : Option Nat → D
  | none => .non
  | some k => .int (k : Int)
theorem brk_none (a b : List Nat) : ∀ (n j : Nat), brk a b j n = none ↔ ∀ m, j < m → m ≤ j + n → psum b m ≤ psum a m
  | 0, j => by
    simp only [brk, true_iff]
    intro m h1 h2
    omega
  | n + 1, j => by
    unfold brk
    split
    · rename_i h
      simp only [reduceCtorEq, false_iff]
      intro hx
      have := hx (j + 1) (by omega) (by omega)
      omega
    · rename_i h
      rw [brk_none a b n (j + 1)]
      constructor
      · intro hx m h1 h2
        by_cases e : m = j + 1
        · rw [e]; omega
        · exact hx m (by omega) (by omega)
      · intro hx m h1 h2
        exact hx m (by omega) (by omega)
theorem breachN_none (a b : List Nat) (hs : a.sum = b.sum) : breachN a b = none ↔ above a b := by
  unfold breachN
  rw [brk_none]
  constructor
  · intro h m
    cases m with
    | zero => simp [psum_zero]
    | succ m =>
      by_cases hm : m + 1 ≤ 0 + max a.length b.length
      · exact h (m + 1) (by omega) hm
      · rw [psum_all a _ (by omega), psum_all b _ (by omega), hs]
        exact Nat.le_refl _
  · intro h m _ _
    exact h m
theorem breach_for (a b : List Nat) : ∀ (n j : Nat) (w : Option D), j + n ≤ 1000000 → psum b j ≤ psum a j → (match brk a b j n with
    | none => ∃ v' w', forL (tgName 3) L_breach_1 (rangeD j n) [some (.tup (nts a)), some (.tup (nts b)), some (.int ((psum a j : Nat) - (psum b j : Nat) : Int)), w] [] = .nx [some (.tup (nts a)), some (.tup (nts b)), v', w'] []
    | some k => forL (tgName 3) L_breach_1 (rangeD j n) [some (.tup (nts a)), some (.tup (nts b)), some (.int ((psum a j : Nat) - (psum b j : Nat) : Int)), w] [] = .rt (.int (k : Int)) false)
  | 0, j, w, _, _ => ⟨_, w, by simp; rfl⟩
  | n + 1, j, w, h, hle => by
    have ea : ((psum a j : Nat) - (psum b j : Nat) : Int) + ((a.getD j 0 : Nat) - (b.getD j 0 : Nat) : Int) = ((psum a (j + 1) : Nat) - (psum b (j + 1) : Nat) : Int) := by
      rw [psum_succ, psum_succ]
      omega
    have one : ∀ w, gB (tgName 3 (.int (j : Int)) [some (.tup (nts a)), some (.tup (nts b)), some (.int ((psum a j : Nat) - (psum b j : Nat) : Int)), w]) (fun σ1 => oS (L_breach_1 σ1 []) (forL (tgName 3) L_breach_1 (rangeD ((j : Int) + 1) n))) =
        if psum a (j + 1) < psum b (j + 1) then .rt (.int ((j + 1 : Nat) : Int)) false else forL (tgName 3) L_breach_1 (rangeD ((j : Int) + 1) n) [some (.tup (nts a)), some (.tup (nts b)), some (.int ((psum a (j + 1) : Nat) - (psum b (j + 1) : Nat) : Int)), some (.int (j : Int))] [] := fun w => by
      have hd : ((((psum a (j + 1) : Nat) - (psum b (j + 1) : Nat) : Int)) < 0) ↔ psum a (j + 1) < psum b (j + 1) := by omega
      simp only [tgName_e, gB_s, List.set_cons_succ, List.set_cons_zero, L_breach_1_e, sSeq_e, sAug_e, gets_z, gets_s, vOS_s, cBin_e, cApp_e, cCons_e, cVar_e, vO_s, aB_ok, cNil_e, llB_ok, lB_ok, callD_e, pureL_c, pure_tup, pure_int, pureL_n, Bool.and_true, row_of_nts, rB_ok, bSub_i, vB_ok, iAdd_i, ea, augK_s, sB_nx, sIf_e, cD_e, bCmp_i, iS_ok, hd, decide_eq_true_eq, sRet_e, bAdd_i, retD_int, sSkip_e, oS_if, oS_rt, oS_nx]
      by_cases q : psum a (j + 1) < psum b (j + 1)
      · simp [q]
      · simp [q]
    rw [rangeD_s, forL_c, one]
    unfold brk
    by_cases q : psum a (j + 1) < psum b (j + 1)
    · simp only [if_pos q]
    · simp only [if_neg q]
      exact breach_for a b n (j + 1) (some (.int (j : Int))) (by omega) (by omega)
theorem equal_sizes_is {a b : List Nat} (ha : Stair a) (hb : Stair b) (hs : a.sum = b.sum) : m__need_equal_sizes [.tup (nts a), .tup (nts b)] = .ok .non false := by
  unfold m__need_equal_sizes
  simp only [runF_e, b__need_equal_sizes_e]
  simp [need_stair_nts ha, need_stair_nts hb, sum_nts (s := a) (d := .tup (nts a)) rfl, sum_nts (s := b) (d := .tup (nts b)) rfl, hs]
theorem equal_sizes_no {a b : List Nat} (ha : Stair a) (hb : Stair b) (hs : a.sum ≠ b.sum) : m__need_equal_sizes [.tup (nts a), .tup (nts b)] = .ex 10 [.str (PySem.Str.ofString "sizes")] := by
  unfold m__need_equal_sizes
  simp only [runF_e, b__need_equal_sizes_e]
  have h : ¬ ((a.sum : Nat) : Int) = ((b.sum : Nat) : Int) := by omega
  simp [need_stair_nts ha, need_stair_nts hb, sum_nts (s := a) (d := .tup (nts a)) rfl, sum_nts (s := b) (d := .tup (nts b)) rfl, h]
theorem breach_is {a b : List Nat} (ha : Stair a) (hb : Stair b) (hs : a.sum = b.sum) (la : a.length ≤ 1000000) (lb : b.length ≤ 1000000) : m_breach [.tup (nts a), .tup (nts b)] = .ok (brD (breachN a b)) false := by
  have hf := breach_for a b (max a.length b.length) 0 none (by omega) (by simp [psum_zero])
  have hr : ∀ S, rg1 S [.int ((max a.length b.length : Nat) : Int)] = .st (rangeD 0 (max a.length b.length)) := fun S => rg1_nat (by omega)
  unfold m_breach
  simp only [runF_e, b_breach_e]
  simp only [psum_zero] at hf
  have hf : (match brk a b 0 (max a.length b.length) with
    | none => ∃ v' w', forL (tgName 3) L_breach_1 (rangeD 0 (max a.length b.length)) [some (.tup (nts a)), some (.tup (nts b)), some (.int 0), none] [] = .nx [some (.tup (nts a)), some (.tup (nts b)), v', w'] []
    | some k => forL (tgName 3) L_breach_1 (rangeD 0 (max a.length b.length)) [some (.tup (nts a)), some (.tup (nts b)), some (.int 0), none] [] = .rt (.int (k : Int)) false) := hf
  unfold breachN
  cases e : brk a b 0 (max a.length b.length) with
  | none =>
    rw [e] at hf
    obtain ⟨v', w', hf⟩ := hf
    simp [equal_sizes_is ha hb hs, hr, hf, brD]
  | some k =>
    rw [e] at hf
    simp [equal_sizes_is ha hb hs, hr, hf, brD]
theorem is_above_is {a b : List Nat} (ha : Stair a) (hb : Stair b) (hs : a.sum = b.sum) (la : a.length ≤ 1000000) (lb : b.length ≤ 1000000) : m_is_above [.tup (nts a), .tup (nts b)] = .ok (.bl (breachN a b).isNone) false := by
  unfold m_is_above
  simp only [runF_e, b_is_above_e]
  simp [breach_is ha hb hs la lb]
  cases breachN a b <;> rfl
end PL

set_option maxRecDepth 2000
namespace PL
open HC PM
/-! ## greatest, least; x[i] op= e -/
theorem maxI_of : ∀ (ns : List Int) (i m : Int), (m = i ∨ m ∈ ns) → i ≤ m → (∀ x ∈ ns, x ≤ m) → maxI i ns = m
  | [], i, m, h, _, _ => by
    rcases h with h | h
    · exact h.symm
    · exact nomatch h
  | j :: r, i, m, h, h1, h2 => by
    unfold maxI
    have hj := h2 j (List.mem_cons_self ..)
    refine maxI_of r _ m ?_ (by split <;> omega) fun x hx => h2 x (List.mem_cons_of_mem _ hx)
    rcases h with h | h
    · left
      rw [if_neg (by omega)]
      exact h
    · rcases List.mem_cons.mp h with h | h
      · by_cases e : j > i
        · left
          rw [if_pos e]
          exact h
        · left
          rw [if_neg e]
          omega
      · exact .inr h
theorem minI_of : ∀ (ns : List Int) (i m : Int), (m = i ∨ m ∈ ns) → m ≤ i → (∀ x ∈ ns, m ≤ x) → minI i ns = m
  | [], i, m, h, _, _ => by
    rcases h with h | h
    · exact h.symm
    · exact nomatch h
  | j :: r, i, m, h, h1, h2 => by
    unfold minI
    have hj := h2 j (List.mem_cons_self ..)
    refine minI_of r _ m ?_ (by split <;> omega) fun x hx => h2 x (List.mem_cons_of_mem _ hx)
    rcases h with h | h
    · left
      rw [if_neg (by omega)]
      exact h
    · rcases List.mem_cons.mp h with h | h
      · by_cases e : j < i
        · left
          rw [if_pos e]
          exact h
        · left
          rw [if_neg e]
          omega
      · exact .inr h
theorem max_nts (S : List SO) {xs : List Nat} {m : Nat} (h : m ∈ xs) (h2 : ∀ x ∈ xs, x ≤ m) : fMaxL S [.lst (nts xs)] = .ok (.int (m : Int)) false := by
  cases xs with
  | nil => exact nomatch h
  | cons x r =>
    have e : intsOf (nts (x :: r)) = some ((x : Int) :: r.map fun n : Nat => (n : Int)) := by rw [nts_its, ints_its]; rfl
    dsimp only [fMaxL]
    simp only [rdOf_l, e]
    rw [maxI_of _ _ (m : Int)]
    · rcases List.mem_cons.mp h with h | h
      · left; omega
      · right
        exact List.mem_map.mpr ⟨m, h, rfl⟩
    · have := h2 x (List.mem_cons_self ..)
      omega
    · intro y hy
      obtain ⟨z, hz, rfl⟩ := List.mem_map.mp hy
      have := h2 z (List.mem_cons_of_mem _ hz)
      omega
theorem min_nts (S : List SO) {xs : List Nat} {m : Nat} (h : m ∈ xs) (h2 : ∀ x ∈ xs, m ≤ x) : fMinL S [.lst (nts xs)] = .ok (.int (m : Int)) false := by
  cases xs with
  | nil => exact nomatch h
  | cons x r =>
    have e : intsOf (nts (x :: r)) = some ((x : Int) :: r.map fun n : Nat => (n : Int)) := by rw [nts_its, ints_its]; rfl
    dsimp only [fMinL]
    simp only [rdOf_l, e]
    rw [minI_of _ _ (m : Int)]
    · rcases List.mem_cons.mp h with h | h
      · left; omega
      · right
        exact List.mem_map.mpr ⟨m, h, rfl⟩
    · have := h2 x (List.mem_cons_self ..)
      omega
    · intro y hy
      obtain ⟨z, hz, rfl⟩ := List.mem_map.mp hy
      have := h2 z (List.mem_cons_of_mem _ hz)
      omega
theorem rg2_nat {S : List SO} {a b : Nat} (h1 : b ≤ 1000000) (h2 : a ≤ 1000000) : rg2 S [.int (a : Int), .int (b : Int)] = .st ((List.range' a (b - a)).map fun i : Nat => D.int (i : Int)) := by
  have e : ((b : Int) - (a : Int)).toNat = b - a := by omega
  have h : (inRg (a : Int) && inRg (b : Int) && decide (((b : Int) - (a : Int)).toNat ≤ lim)) = true := by
    unfold inRg lim
    simp only [Bool.and_eq_true, decide_eq_true_eq]
    omega
  dsimp only [rg2]
  rw [if_pos h, e, range_map]
theorem augS_ok {op : List SO → D → D → Res} {fo fi fe : CE} {σ : Sl} {S : List SO} {n k : Nat} {xs : List D} {z y d : D} {f1 f2 f3 : Bool} (ho : fo σ S = .ok (.loc n) f1) (hi : fi σ S = .ok (.int (k : Int)) f2) (hg : gets S n = some (.lst xs)) (hk : k < xs.length)
    (hz : xs[k]? = some z) (he : fe σ S = .ok y f3) (hop : op S z y = .ok d false) : sAugS op fo fi fe σ S = .nx σ (S.set n (.lst (xs.set k d))) := by
  unfold sAugS sTwo sVal
  rw [ho]
  dsimp only
  rw [hi]
  dsimp only
  unfold kAugS
  dsimp only
  unfold locL
  dsimp only
  rw [hg]
  dsimp only
  rw [atD_n, hz]
  dsimp only
  unfold sVal
  rw [he]
  dsimp only
  rw [hop]
  dsimp only
  rw [kSub_e]
  simp only [lS_l, hg, lcB_s]
  rw [setI_n hk]
  rfl
theorem nts_getq {s : List Nat} {i : Nat} (h : i < s.length) : (nts s)[i]? = some (.int (s.getD i 0 : Nat)) := by rw [← atD_n, nts_at h]
/-! ## a step -/
theorem step_is {l g : List Nat} {f t : Nat} (s : StepAt l g f t) (hl : l.length ≤ 1000000) (hlg : l.length = g.length) : m__step [.lst (nts l), .lst (nts g)] = .ok (.lst (nts (mv l f t))) true := by
  have tl := s.tl
  have ft := s.ft
  have ix : ∀ (S : List SO) (q : List Nat) (i : Nat), i < q.length → bIx S (.lst (nts q)) (.int (i : Int)) = .ok (.int (q.getD i 0 : Nat)) false := fun S q i hi => by rw [bIx_l, nts_at hi]; rfl
  have c1 := comp_some (A := tgName 5) (t := T__step_1) (f := cVar 5) (σ := [some (.lst (nts l)), some (.lst (nts g)), none, none, none, none, none]) (S := []) (fun i : Nat => D.int (i : Int)) (fun i => decide (g.getD i 0 < l.getD i 0)) (fun i => D.int (i : Int)) (List.range l.length) fun i hi => by
    have hi : i < l.length := by simpa using hi
    refine ⟨_, false, rfl, ?_, fun _ => ⟨false, rfl, rfl⟩⟩
    have e : decide (((g.getD i 0 : Nat) : Int) < ((l.getD i 0 : Nat) : Int)) = decide (g.getD i 0 < l.getD i 0) := decide_eq_decide.mpr (by omega)
    simp only [T__step_1_e, cBin_e, cVar_e, setD_e, List.set_cons_succ, List.set_cons_zero, gets_s, gets_z, vO_s, rB_ok, ix [] l i hi, ix [] g i (by omega), bCmp_i, e]
  rw [← range_0] at c1
  have m1 : f ∈ (List.range l.length).filter fun i => decide (g.getD i 0 < l.getD i 0) := List.mem_filter.mpr ⟨List.mem_range.mpr (by omega), decide_eq_true s.hf⟩
  have x1 := max_nts [] (xs := (List.range l.length).filter fun i => decide (g.getD i 0 < l.getD i 0)) m1 fun i hi => by
    obtain ⟨h1, h2⟩ := List.mem_filter.mp hi
    have h2 := of_decide_eq_true h2
    refine Nat.not_lt.mp fun h => ?_
    have := s.last i h (by simpa using h1)
    omega
  have c2 := comp_some (A := tgName 6) (t := T__step_2) (f := cVar 6) (σ := [some (.lst (nts l)), some (.lst (nts g)), some (.int (f : Int)), none, none, none, none]) (S := []) (fun i : Nat => D.int (i : Int)) (fun i => decide (l.getD i 0 < g.getD i 0)) (fun i => D.int (i : Int)) (List.range' (f + 1) (l.length - (f + 1))) fun i hi => by
    have hi : i < l.length := by
      rw [List.mem_range'_1] at hi
      omega
    refine ⟨_, false, rfl, ?_, fun _ => ⟨false, rfl, rfl⟩⟩
    have e : decide (((l.getD i 0 : Nat) : Int) < ((g.getD i 0 : Nat) : Int)) = decide (l.getD i 0 < g.getD i 0) := decide_eq_decide.mpr (by omega)
    simp only [T__step_2_e, cBin_e, cVar_e, setD_e, List.set_cons_succ, List.set_cons_zero, gets_s, gets_z, vO_s, rB_ok, ix [] l i hi, ix [] g i (by omega), bCmp_i, e]
  have m2 : t ∈ (List.range' (f + 1) (l.length - (f + 1))).filter fun i => decide (l.getD i 0 < g.getD i 0) := List.mem_filter.mpr ⟨by rw [List.mem_range'_1]; omega, decide_eq_true s.ht⟩
  have x2 := min_nts [] (xs := (List.range' (f + 1) (l.length - (f + 1))).filter fun i => decide (l.getD i 0 < g.getD i 0)) m2 fun i hi => by
    obtain ⟨h1, h2⟩ := List.mem_filter.mp hi
    have h2 := of_decide_eq_true h2
    rw [List.mem_range'_1] at h1
    refine Nat.not_lt.mp fun h => ?_
    have := s.mid i (by omega) h
    omega
  have r1 : rg1 [] [.int (l.length : Int)] = .st (rangeD 0 l.length) := rg1_nat hl
  have r2 : rg2 [] [.int ((f + 1 : Nat) : Int), .int (l.length : Int)] = _ := rg2_nat hl (by omega)
  have ef : (f : Int) + 1 = ((f + 1 : Nat) : Int) := by omega
  have le1 : ∀ S, fLen S [.lst (nts l)] = .ok (.int (l.length : Int)) false := fun S => by rw [fLen_s (xs := nts l) rfl, nts_len]
  have n1 : ∀ xs : List Nat, (xs.map fun i : Nat => D.int (i : Int)) = nts xs := fun _ => rfl
  simp only [n1] at c1 c2 r2
  have ez : ((l.getD f 0 : Nat) : Int) - 1 = ((l.getD f 0 - 1 : Nat) : Int) := by have := s.hf; omega
  have a1 := augS_ok (op := bSub) (fo := cVar 4) (fi := cVar 2) (fe := cD (.int 1)) (σ := [some (.lst (nts l)), some (.lst (nts g)), some (.int (f : Int)), some (.int (t : Int)), some (.loc 0), none, none]) (S := [.lst (nts l)]) (n := 0) (k := f) rfl rfl rfl (by rw [nts_len]; omega) (nts_getq (by omega)) rfl (by rw [bSub_i, ez])
  have et : (l.set f (l.getD f 0 - 1)).getD t 0 = l.getD t 0 := by rw [PM.set_getD _ _ _ _ (by omega), if_neg (by omega)]
  have a2 := augS_ok (op := iAdd) (fo := cVar 4) (fi := cVar 3) (fe := cD (.int 1)) (σ := [some (.lst (nts l)), some (.lst (nts g)), some (.int (f : Int)), some (.int (t : Int)), some (.loc 0), none, none]) (S := [.lst (nts (l.set f (l.getD f 0 - 1)))]) (n := 0) (k := t) rfl rfl rfl (by rw [nts_len, List.length_set]; omega) (nts_getq (by rw [List.length_set]; omega)) rfl (by rw [iAdd_i, et, show ((l.getD t 0 : Nat) : Int) + 1 = ((l.getD t 0 + 1 : Nat) : Int) by omega])
  rw [nts_set] at a1
  rw [nts_set] at a2
  unfold m__step
  simp only [runF_e, b__step_e]
  simp only [startD_e, List.map_cons, List.map_nil, List.length_cons, List.length_nil, Nat.zero_add, Nat.reduceAdd, if_true, Nat.reduceSub, List.replicate_succ, List.replicate_zero, List.cons_append, List.nil_append, sSeq_e, sAsg_e, cApp_e, cCons_e, cComp_e, iApp_e, cVar_e, gets_z, gets_s, vO_s, aB_ok, cNil_e, llB_ok, lB_ok, le1, liB_ok, r1, cB_st, wipeD_c, wipeD_n, List.set_cons_succ, List.set_cons_zero, c1, coB_s, n1, x1, vB_ok, setD_e, sB_nx, cBin_e, rB_ok, cD_e, bAdd_i, ef, r2, c2, x2, sNew_e, fList_e, seqOf_l, lO_s, nts_pure, newK_l]
  rw [a1]
  simp only [sB_nx, List.set_cons_zero, sSeq_e, a2, sRet_e, cVar_e, gets_s, gets_z, vO_s, vB_ok, retD_loc, retO_l, nts_pure, if_true, fin_rt]
  rfl
end PL

set_option maxRecDepth 2000
namespace PL
open HC PM
/-! ## steps down -/
def BoxStep (s x : List Nat) : Prop := ∃ f t, f < t ∧ s.getD f 0 = x.getD f 0 + 1 ∧ x.getD t 0 = s.getD t 0 + 1 ∧ ∀ i, i ≠ f → i ≠ t → x.getD i 0 = s.getD i 0
def ChainTo (n : Nat) : List Nat → List (List Nat) → List Nat → Prop
  | s, [], g => s = g
  | s, x :: r, g => (Stair x ∧ x.length ≤ n ∧ BoxStep s x) ∧ ChainTo n x r g
theorem step_box {l g : List Nat} {f t : Nat} (s : StepAt l g f t) : BoxStep (strp l) (strp (mv l f t)) := by
  have tl := s.tl
  have ft := s.ft
  have hf := s.hf
  refine ⟨f, t, ft, ?_, ?_, fun i h1 h2 => ?_⟩
  · rw [strp_getD, strp_getD, mv_getD l (by omega) tl (by omega), if_neg (by omega), if_pos rfl]
    omega
  · rw [strp_getD, strp_getD, mv_getD l (by omega) tl (by omega), if_pos rfl]
  · rw [strp_getD, strp_getD, mv_getD l (by omega) tl (by omega), if_neg h2, if_neg h1]
theorem plain_nts : ∀ (n : Nat) (s : List Nat), plainDs n (nts s) = true
  | _, [] => by simp [plainDs]
  | n, x :: s => by
    show (plainD n (.int (x : Int)) && plainDs n (nts s)) = true
    rw [plain_nts n s]
    cases n <;> rfl
theorem eqL_nts : ∀ a b : List Nat, eqL (nts a) (nts b) = decide (a = b)
  | [], [] => rfl
  | [], _ :: _ => rfl
  | _ :: _, [] => rfl
  | x :: a, y :: b => by
    show (eqD (.int (x : Int)) (.int (y : Int)) && eqL (nts a) (nts b)) = _
    rw [eqL_nts a b]
    show (((x : Int) == (y : Int)) && decide (a = b)) = _
    by_cases h : x = y
    · subst h
      simp
    · have : ¬ (x : Int) = (y : Int) := by omega
      simp [h, this]
theorem ne_lists (S : List SO) (a b : List Nat) : bNe S (.lst (nts a)) (.lst (nts b)) = .ok (.bl (!decide (a = b))) false := by
  show (let a := look S (.lst (nts a)); let b := look S (.lst (nts b)); if plainD 30 a && plainD 30 b then Res.ok (.bl (!eqD a b)) false else .bad) = _
  show (if plainDs 29 (nts a) && plainDs 29 (nts b) then Res.ok (.bl (!eqL (nts a) (nts b))) false else .bad) = _
  rw [plain_nts, plain_nts, eqL_nts]
  rfl
theorem down_while (A B M : Option D) {g : List Nat} (hg : g.Pairwise (· ≥ ·)) (hn : g.length ≤ 1000000) : ∀ (m : Nat) (l : List Nat) (acc : List D), height l g.length - height g g.length ≤ m → l.length = g.length → l.sum = g.sum → above l g → l.Pairwise (· ≥ ·) → acc.length + m < 10000000 →
    ∀ k, m < k → ∃ more : List (List Nat), whileF W_steps_down_1 L_steps_down_1 k [A, B, M, some (.lst (nts l)), some (.lst (nts g)), some (.loc 0), none] [.lst acc] =
      .nx [A, B, M, some (.lst (nts g)), some (.lst (nts g)), some (.loc 0), none] [.lst (acc ++ more.map fun s => .tup (nts s))] ∧ ChainTo g.length (strp l) more (strp g) ∧ more.length ≤ m
  | m, l, acc, hm, hl, hs, ha, hd, hlim, 0, hk => absurd hk (Nat.not_lt_zero _)
  | m, l, acc, hm, hl, hs, ha, hd, hlim, k + 1, hk => by
    by_cases e : l = g
    · subst e
      refine ⟨[], ?_, rfl, by simp⟩
      rw [whileF_s]
      simp [W_steps_down_1_e, ne_lists]
    · obtain ⟨f, t, s⟩ := step_at hl hs ha e
      obtain ⟨h1, h2, h3⟩ := s.ok hd hg ha
      have hless := s.less g.length (by have := s.tl; omega)
      have hmono := height_mono h2 g.length
      cases m with
      | zero =>
        have := height_mono ha g.length
        omega
      | succ m =>
        have hst := step_is s (by omega) hl
        have hsp := strip_l (mv l f t) (by rw [mv_len]; omega)
        obtain ⟨more, q1, q2, q3⟩ := down_while A B M hg hn m (mv l f t) (acc ++ [.tup (nts (strp (mv l f t)))]) (by omega) (by rw [mv_len]; exact hl) (by rw [h3]; exact hs) h2 h1 (by rw [List.length_append]; simp; omega) k (by omega)
        refine ⟨strp (mv l f t) :: more, ?_, ⟨⟨strp_stair h1, by have := strp_len (mv l f t); rw [mv_len] at this; omega, step_box s⟩, q2⟩, by simp; omega⟩
        have hlt : acc.length < lim := by unfold lim; omega
        rw [whileF_s]
        simp only [W_steps_down_1_e, cBin_e, cVar_e, gets_s, gets_z, vO_s, rB_ok, ne_lists, e, decide_false, Bool.not_false, iS_ok, if_true, L_steps_down_1_e, sSeq_e, sAsg_e, cApp_e, cCons_e, aB_ok, cNil_e, llB_ok, lB_ok, callD_e, pureL_c, pure_lst, pureL_n, Bool.and_true, hst, vB_ok, setD_e, List.set_cons_succ, List.set_cons_zero, sB_nx, sMethE_e, lS_l, hsp, lsB_ok, lcB_s]
        rw [mAppend_e hlt]
        simp only [pO_s, oS_nx, List.set_cons_zero]
        rw [q1]
        simp
theorem pad_getD (a : List Nat) (n i : Nat) (h : a.length ≤ n) : ((List.range n).map fun i => a.getD i 0).getD i 0 = a.getD i 0 := by
  rw [List.getD_eq_getElem?_getD, List.getElem?_map]
  by_cases hi : i < n
  · rw [List.getElem?_range hi]
    rfl
  · rw [List.getElem?_eq_none (by simpa using hi), List.getD_eq_getElem?_getD, List.getElem?_eq_none (by omega)]
    rfl
theorem psum_of {a b : List Nat} (h : ∀ i, a.getD i 0 = b.getD i 0) : ∀ m, psum a m = psum b m
  | 0 => by simp [psum_zero]
  | m + 1 => by rw [psum_succ, psum_succ, psum_of h m, h]
theorem sum_of {a b : List Nat} (h : ∀ i, a.getD i 0 = b.getD i 0) : a.sum = b.sum := by
  rw [← psum_all a (max a.length b.length) (by omega), ← psum_all b (max a.length b.length) (by omega)]
  exact psum_of h _
theorem strp_eq {a l : List Nat} (ha : Stair a) (hl : l.Pairwise (· ≥ ·)) (h : ∀ i, l.getD i 0 = a.getD i 0) : strp l = a := stair_ext (strp_stair hl) ha fun i => by rw [strp_getD, h]
/-- what steps_down tells -/
theorem steps_no {a b : List Nat} (ha : Stair a) (hb : Stair b) (hs : a.sum = b.sum) (la : a.length ≤ 1000000) (lb : b.length ≤ 1000000) (h : ¬ above a b) : m_steps_down [.tup (nts a), .tup (nts b)] = .ok .non false := by
  have e : (breachN a b).isNone = false := by
    cases e : breachN a b with
    | none => exact absurd ((breachN_none a b hs).mp e) h
    | some k => rfl
  unfold m_steps_down
  simp only [runF_e, b_steps_down_e]
  simp [is_above_is ha hb hs la lb, e]
theorem steps_yes {a b : List Nat} (ha : Stair a) (hb : Stair b) (hs : a.sum = b.sum) (la : a.length ≤ 1000) (lb : b.length ≤ 1000) (hz : a.sum ≤ 1000) (h : above a b) :
    ∃ more : List (List Nat), m_steps_down [.tup (nts a), .tup (nts b)] = .ok (.tup (D.tup (nts a) :: more.map fun s => .tup (nts s))) false ∧ ChainTo (max a.length b.length) a more b ∧ more.length ≤ max a.length b.length * a.sum := by
  have e : (breachN a b).isNone = true := by rw [(breachN_none a b hs).mpr h]; rfl
  have pa : ∀ i, ((List.range (max a.length b.length)).map fun i => a.getD i 0).getD i 0 = a.getD i 0 := fun i => pad_getD a _ i (by omega)
  have pb : ∀ i, ((List.range (max a.length b.length)).map fun i => b.getD i 0).getD i 0 = b.getD i 0 := fun i => pad_getD b _ i (by omega)
  have da : ((List.range (max a.length b.length)).map fun i => a.getD i 0).Pairwise (· ≥ ·) := getD_down fun i _ => by rw [pa, pa]; exact getD_anti ha (by omega)
  have db : ((List.range (max a.length b.length)).map fun i => b.getD i 0).Pairwise (· ≥ ·) := getD_down fun i _ => by rw [pb, pb]; exact getD_anti hb (by omega)
  have sa := strp_eq ha da pa
  have sb := strp_eq hb db pb
  have hab : above ((List.range (max a.length b.length)).map fun i => a.getD i 0) ((List.range (max a.length b.length)).map fun i => b.getD i 0) := fun m => by rw [psum_of pa, psum_of pb]; exact h m
  have lg : ((List.range (max a.length b.length)).map fun i => b.getD i 0).length = max a.length b.length := by simp
  have hh := height_le ((List.range (max a.length b.length)).map fun i => a.getD i 0) (max a.length b.length)
  rw [sum_of pa] at hh
  have hb1 : max a.length b.length * a.sum ≤ 1000 * 1000 := Nat.mul_le_mul (by omega) hz
  obtain ⟨more, q1, q2, q3⟩ := down_while (some (.tup (nts a))) (some (.tup (nts b))) (some (.int ((max a.length b.length : Nat) : Int))) db (by rw [lg]; omega) (max a.length b.length * a.sum) ((List.range (max a.length b.length)).map fun i => a.getD i 0) [.tup (nts (strp ((List.range (max a.length b.length)).map fun i => a.getD i 0)))]
    (by rw [lg]; omega) (by simp) (by rw [sum_of pa, sum_of pb, hs]) hab da (by simp; omega) fuel (by show _ < 1073741824; omega)
  rw [sa, sb, lg] at q2
  rw [sa] at q1
  refine ⟨more, ?_, q2, q3⟩
  have hr : ∀ S, rg1 S [.int ((max a.length b.length : Nat) : Int)] = .st (rangeD 0 (max a.length b.length)) := fun S => rg1_nat (by omega)
  have c1 := comp_all (A := tgName 6) (t := cTrue) (f := E_steps_down_1) (σ := [some (.tup (nts a)), some (.tup (nts b)), some (.int ((max a.length b.length : Nat) : Int)), none, none, none, none]) (S := []) (fun i : Nat => D.int (i : Int)) (fun i => D.int (a.getD i 0 : Nat)) (List.range (max a.length b.length)) fun i _ => by
    refine ⟨_, _, false, rfl, rfl, ?_, rfl⟩
    simp [E_steps_down_1_e, row_of_nts, -List.getD_eq_getElem?_getD]
  have c2 := comp_all (A := tgName 6) (t := cTrue) (f := E_steps_down_2) (σ := [some (.tup (nts a)), some (.tup (nts b)), some (.int ((max a.length b.length : Nat) : Int)), some (.lst (nts ((List.range (max a.length b.length)).map fun i => a.getD i 0))), none, none, none]) (S := []) (fun i : Nat => D.int (i : Int)) (fun i => D.int (b.getD i 0 : Nat)) (List.range (max a.length b.length)) fun i _ => by
    refine ⟨_, _, false, rfl, rfl, ?_, rfl⟩
    simp [E_steps_down_2_e, row_of_nts, -List.getD_eq_getElem?_getD]
  rw [← range_0, ← nts_map (fun i => a.getD i 0)] at c1
  rw [← range_0, ← nts_map (fun i => b.getD i 0)] at c2
  have s1 := strip_l ((List.range (max a.length b.length)).map fun i => a.getD i 0) (by simp; omega)
  rw [sa] at s1
  have hp : pureL (D.tup (nts a) :: more.map fun s => D.tup (nts s)) = true := by
    have : ∀ l : List (List Nat), pureL (l.map fun s => D.tup (nts s)) = true := fun l => by
      induction l with
      | nil => rfl
      | cons x l ih => exact ih
    exact this (a :: more)
  have l1 : (1 : Nat) ≤ lim := by unfold lim; omega
  unfold m_steps_down
  simp only [runF_e, b_steps_down_e]
  simp only [startD_e, List.map_cons, List.map_nil, List.length_cons, List.length_nil, Nat.zero_add, Nat.reduceAdd, if_true, Nat.reduceSub, List.replicate_succ, List.replicate_zero, List.cons_append, List.nil_append, sSeq_e, sIf_e, cNotB_e, cTru_e, cApp_e, cCons_e, cVar_e, gets_z, gets_s, vO_s, aB_ok, cNil_e, llB_ok, lB_ok, callD_e, pureL_c, pure_tup, pureL_n, Bool.and_true,
    is_above_is ha hb hs (by omega) (by omega), e, rB_ok, truth_b, trO_s, tB_ok, Bool.not_true, iS_ok, Bool.false_eq_true, if_false, sSkip_e, sB_nx, sAsg_e, fLen_s (seqOf_t), nts_len, fMax2_n, vB_ok, setD_e, List.set_cons_succ, List.set_cons_zero, cComp_e, iApp_e, liB_ok, hr, cB_st, wipeD_c, wipeD_n, c1, coB_s, c2, sNew_e, s1, pure_lst, fLst_e, l1, decide_true, newK_l, sWhile_e]
  rw [q1]
  simp only [sB_nx, sRet_e, cApp_e, cCons_e, cVar_e, gets_s, gets_z, vO_s, aB_ok, cNil_e, llB_ok, lB_ok, fTuple_o, locO_l, tO_s, List.cons_append, List.nil_append, hp, if_true, vB_ok, retD_tup, fin_rt]
end PL

set_option maxRecDepth 2000
namespace PL
open HC PM PySem
/-! ## values that are no stairs -/
structure Bad (d : D) : Prop where
  pu : d.pure = true
  no : m_is_stair [d] = .ok (.bl false) false
theorem need_stair_no {d : D} (h : Bad d) : m_need_stair [d] = .ex 2 [d] := by
  unfold m_need_stair
  simp [b_need_stair_e, h.no, h.pu]
theorem equal_sizes_bad1 {d e : D} (h : Bad d) (he : e.pure = true) : m__need_equal_sizes [d, e] = .ex 2 [d] := by
  unfold m__need_equal_sizes
  simp [b__need_equal_sizes_e, need_stair_no h, h.pu, he]
theorem equal_sizes_bad2 {a : List Nat} (ha : Stair a) {d : D} (h : Bad d) : m__need_equal_sizes [.tup (nts a), d] = .ex 2 [d] := by
  unfold m__need_equal_sizes
  simp [b__need_equal_sizes_e, need_stair_nts ha, need_stair_no h, h.pu]
theorem breach_ex {x y v : D} {c : Nat} (hx : x.pure = true) (hy : y.pure = true) (hv : v.pure = true) (h : m__need_equal_sizes [x, y] = .ex c [v]) : m_breach [x, y] = .ex c [v] := by
  unfold m_breach
  simp [b_breach_e, h, hx, hy, hv]
theorem above_ex {x y v : D} {c : Nat} (hx : x.pure = true) (hy : y.pure = true) (hv : v.pure = true) (h : m__need_equal_sizes [x, y] = .ex c [v]) : m_is_above [x, y] = .ex c [v] := by
  unfold m_is_above
  simp [b_is_above_e, breach_ex hx hy hv h, hx, hy, hv]
theorem steps_ex {x y v : D} {c : Nat} (hx : x.pure = true) (hy : y.pure = true) (hv : v.pure = true) (h : m__need_equal_sizes [x, y] = .ex c [v]) : m_steps_down [x, y] = .ex c [v] := by
  unfold m_steps_down
  simp [b_steps_down_e, above_ex hx hy hv h, hx, hy, hv]
/-! stairB -/
theorem stairB_bad : ∀ {xs : List D} (p : Option Int), (∃ d ∈ xs, goodD d = false) → stairB p xs = false
  | [], _, ⟨_, h, _⟩ => nomatch h
  | x :: r, p, ⟨d, h, hd⟩ => by
    show (goodD x && (leP p (intD x) && stairB (some (intD x)) r)) = false
    rcases List.mem_cons.mp h with h | h
    · rw [← h, hd]
      rfl
    · rw [stairB_bad (some (intD x)) ⟨d, h, hd⟩]
      simp
theorem stairB_last : ∀ (xs : List D) (p i : Int), stairB (some p) (xs ++ [.int i]) = true → i ≤ p
  | [], p, i, h => by
    have h : (goodD (.int i) && (decide (i ≤ p) && true)) = true := h
    simp at h
    exact h.2
  | x :: r, p, i, h => by
    have h : (goodD x && (decide (intD x ≤ p) && stairB (some (intD x)) (r ++ [.int i]))) = true := h
    rw [Bool.and_eq_true, Bool.and_eq_true, decide_eq_true_eq] at h
    exact Int.le_trans (stairB_last r (intD x) i h.2.2) h.2.1
theorem bad_tup {xs : List D} (hx : ∀ d ∈ xs, typD d) (h : stairB none xs = false) : Bad (.tup xs) := ⟨rfl, by rw [isStair_is xs hx, h]⟩
theorem bad_any {d : D} {t : Tg} (h : tgD [] d = some t) (ht : isa t .tup = false) : Bad d := ⟨typ_pure ⟨t, h⟩, notTup_is h ht⟩
/-! ## what repr shows -/
def RepOk (d : D) : Prop := ∃ r : Str, (∀ S, fRepr S [d] = .ok (.str r) false) ∧ PyData.strOk r = true
def Tx (d : D) : Prop := ∃ x, pyD true d = some x ∧ txOk x = true
def Txs (ds : List D) : Prop := ∃ xs, pyDs true ds = some xs ∧ txOks xs = true
theorem txs_of : ∀ {ds : List D}, (∀ d ∈ ds, Tx d) → Txs ds
  | [], _ => ⟨[], rfl, rfl⟩
  | d :: ds, h => by
    obtain ⟨x, a1, a2⟩ := h d (List.mem_cons_self ..)
    obtain ⟨xs, b1, b2⟩ := txs_of fun e he => h e (List.mem_cons_of_mem _ he)
    exact ⟨x :: xs, by unfold pyDs; simp only [a1, b1], by show (txOk x && txOks xs) = true; rw [a2, b2]; rfl⟩
theorem tx_tup {ds : List D} (h : Txs ds) : Tx (.tup ds) := by
  obtain ⟨xs, b1, b2⟩ := h
  exact ⟨.tuple xs, by unfold pyD; simp only [b1], b2⟩
theorem tx_lst {ds : List D} (h : Txs ds) : Tx (.lst ds) := by
  obtain ⟨xs, b1, b2⟩ := h
  exact ⟨.list xs, by unfold pyD; simp only [b1, if_true], b2⟩
theorem tx_int (i : Int) : Tx (.int i) := ⟨_, rfl, rfl⟩
theorem tx_bl (i : Bool) : Tx (.bl i) := ⟨_, rfl, rfl⟩
theorem tx_non : Tx .non := ⟨_, rfl, rfl⟩
theorem repOk_of {d : D} (h : Itm d 60 20000) (t : Tx d) : RepOk d := by
  obtain ⟨x, a1, a2, a3, a4, a5⟩ := h
  obtain ⟨y, b1, b2⟩ := t
  rw [a1] at b1
  cases b1
  refine ⟨x.shown, fun S => ?_, shown_ok x b2⟩
  have hp : lends S [d] = true := by cases d <;> first | rfl | exact nomatch a1
  have hl : look S d = d := by cases d <;> first | rfl | exact nomatch a1
  dsimp only [fRepr]
  rw [hp, if_pos rfl, hl, a1]
  exact shw_of a2 a3 a4 a5
/-- a row of few leaves -/
def Leaf (d : D) : Prop := Itm d 1 601 ∧ Tx d
theorem leaf_int {i : Int} (h : i.natAbs.log2 < 600) : Leaf (.int i) := ⟨itm_int h, tx_int i⟩
theorem leaf_bl {b : Bool} : Leaf (.bl b) := ⟨itm_bl, tx_bl b⟩
theorem leaf_non : Leaf .non := ⟨itm_non, tx_non⟩
theorem rep_leafs {ds : List D} (h : ∀ d ∈ ds, Leaf d) (hl : ds.length ≤ 30) : RepOk (.tup ds) ∧ RepOk (.lst ds) := by
  have i1 := itms_of (ds := ds) (dp := 1) (w := 601) fun d hd => (h d hd).1
  have t1 := txs_of fun d hd => (h d hd).2
  have hw : ds.length * (601 + 1) ≤ 20000 := Nat.le_trans (Nat.mul_le_mul_right _ hl) (by decide)
  exact ⟨repOk_of ((itm_tup i1).le (by omega) hw) (tx_tup t1), repOk_of ((itm_lst i1).le (by omega) hw) (tx_lst t1)⟩
theorem log2_small {i : Int} (h : i.natAbs < 2 ^ 600) : i.natAbs.log2 < 600 := by
  by_cases e : i.natAbs = 0
  · rw [e]
    decide
  · exact (Nat.log2_lt e).mpr h
theorem leaf_n {n : Nat} (h : n < 1000000000) : Leaf (.int (n : Int)) := leaf_int (log2_small (by
  have : (1000000000 : Nat) < 2 ^ 600 := by decide +kernel
  omega))
theorem leaf_nts {s : List Nat} (h : ∀ x ∈ s, x < 1000000000) : ∀ d ∈ nts s, Leaf d := fun d hd => by
  unfold nts at hd
  obtain ⟨n, hn, rfl⟩ := List.mem_map.mp hd
  exact leaf_n (h n hn)
theorem typ_nts_app {s : List Nat} {e : List D} (he : ∀ d ∈ e, typD d) : ∀ d ∈ nts s ++ e, typD d := fun d hd => (List.mem_append.mp hd).elim (nts_typ s d) (he d)
end PL

set_option maxRecDepth 2000
namespace PL
open HC PM
theorem mod_nat (c : Int) (n : Nat) (hn : 0 < n) : ∃ k : Nat, k < n ∧ c % (n : Int) = (k : Int) := by
  have h1 := Int.emod_nonneg c (b := (n : Int)) (by omega)
  have h2 := Int.emod_lt_of_pos c (b := (n : Int)) (by omega)
  exact ⟨(c % (n : Int)).toNat, by omega, by omega⟩
theorem pureL_app : ∀ {a b : List D}, pureL (a ++ b) = (pureL a && pureL b)
  | [], _ => rfl
  | x :: a, b => by
    show (x.pure && pureL (a ++ b)) = ((x.pure && pureL a) && pureL b)
    rw [pureL_app, Bool.and_assoc]
theorem itm_lg {i : Int} {dp : Nat} (k : Nat) (h : i.natAbs.log2 < k) (hk : k ≤ 600) : Itm (.int i) dp (k + 1) := by
  obtain ⟨x, a1, a2, a3, a4, a5⟩ := itm_int (i := i) (dp := dp) (by omega)
  cases a1
  refine ⟨_, rfl, a2, a3, a4, ?_⟩
  simp only [PySem.PyData.weight]
  split <;> omega
theorem itm_small {i : Int} {dp : Nat} (h : i.natAbs < 1024) : Itm (.int i) dp 11 := by
  refine itm_lg 10 ?_ (by omega)
  by_cases e : i.natAbs = 0
  · rw [e]; decide
  · exact (Nat.log2_lt e).mpr h
theorem itm_nts {s : List Nat} {dp : Nat} (h : ∀ x ∈ s, x < 1024) : ∀ d ∈ nts s, Itm d dp 11 := fun d hd => by
  unfold nts at hd
  obtain ⟨n, hn, rfl⟩ := List.mem_map.mp hd
  exact itm_small (h n hn)
end PL

set_option maxRecDepth 2000
namespace PL
open HC PM
open PySem (Str)
/-- the list of f 0, .., f (m - 1) -/
def fl (f : Nat → Nat) (m : Nat) : List D := nts ((List.range m).map f)
@[simp] theorem fl_len (f : Nat → Nat) (m : Nat) : (fl f m).length = m := by unfold fl; rw [nts_len, List.length_map, List.length_range]
@[simp] theorem fl_pure (f : Nat → Nat) (m : Nat) : pureL (fl f m) = true := nts_pure _
theorem fl_q {f : Nat → Nat} {m i : Nat} (h : i < m) : (fl f m)[i]? = some (.int (f i : Nat)) := by
  unfold fl
  rw [nts_get, List.getElem?_map, List.getElem?_range h]
  rfl
theorem fl_at {f : Nat → Nat} {m i : Nat} (h : i < m) : atD (fl f m) (i : Int) = some (.int (f i : Nat)) := by rw [atD_n, fl_q h]
theorem fl_set {f : Nat → Nat} {m k x : Nat} : (fl f m).set k (.int (x : Int)) = fl (fun i => if i = k then x else f i) m := by
  unfold fl nts
  rw [List.map_map, List.map_map]
  refine List.ext_getElem? fun i => ?_
  rw [List.getElem?_set]
  simp only [List.length_map, List.length_range, List.getElem?_map]
  by_cases h : i < m
  · by_cases e : k = i
    · subst e
      rw [if_pos rfl, if_pos h, List.getElem?_range h]
      simp
    · rw [if_neg e, List.getElem?_range h]
      simp [show ¬ i = k from fun z => e z.symm]
  · by_cases e : k = i
    · subst e
      rw [if_pos rfl, if_neg h, List.getElem?_eq_none (by rw [List.length_range]; omega)]
      rfl
    · rw [if_neg e, List.getElem?_eq_none (by rw [List.length_range]; omega)]
      rfl
theorem fl_congr {f g : Nat → Nat} {m : Nat} (h : ∀ i, i < m → f i = g i) : fl f m = fl g m := by
  unfold fl
  rw [List.map_congr_left fun i hi => h i (List.mem_range.mp hi)]
theorem rg2_r {S : List SO} {a b : Nat} (h1 : b ≤ 1000000) (h2 : a ≤ 1000000) : rg2 S [.int (a : Int), .int (b : Int)] = .st (rangeD (a : Int) (b - a)) := by rw [rg2_nat h1 h2, range_map]
/-- one width's counts -/
def rowC (w t h : Nat) : D := .lst (fl (cw w h) (t + 1))
def tabC (w t H : Nat) : D := .lst ((List.range (H + 1)).map (rowC w t))
def allC (t H W : Nat) : D := .lst ((List.range (W + 1)).map fun w => tabC w t H)
theorem rowC_pures (w t : Nat) : ∀ l : List Nat, pureL (l.map (rowC w t)) = true
  | [] => rfl
  | x :: l => rowC_pures w t l
theorem tabC_pures (t H : Nat) : ∀ l : List Nat, pureL (l.map fun w => tabC w t H) = true
  | [] => rfl
  | x :: l => tabC_pures t H l
theorem ran_at {f : Nat → D} {m i : Nat} (h : i < m) : atD ((List.range m).map f) (i : Int) = some (f i) := by
  rw [atD_n, List.getElem?_map, List.getElem?_range h]
  rfl
theorem next1 {t W : Nat} {A B C : Option D} {fd : List D} {less : Nat → Nat} : ∀ (n j : Nat) (g : Nat → Nat) (s : Option D), n = t + 1 - j → W ≤ j →
    ∃ s', forL (tgName 6) L__next_counts_1 (rangeD (j : Int) n) [A, some (.int (W : Int)), B, C, some (.lst (fl less (t + 1))), some (.loc 1), s] [.lst fd, .lst (fl g (t + 1))] =
      .nx [A, some (.int (W : Int)), B, C, some (.lst (fl less (t + 1))), some (.loc 1), s'] [.lst fd, .lst (fl (fun i => if j ≤ i then g i + less (i - W) else g i) (t + 1))]
  | 0, j, g, s, h, hW => ⟨s, by rw [fl_congr (f := fun i => if j ≤ i then g i + less (i - W) else g i) (g := g) fun i hi => if_neg (by omega)]; rfl⟩
  | n + 1, j, g, s, h, hW => by
    obtain ⟨s', ih⟩ := next1 (A := A) (B := B) (C := C) (fd := fd) (less := less) (t := t) (W := W) n (j + 1) (fun i => if i = j then g j + less (j - W) else g i) (some (.int (j : Int))) (by omega) (by omega)
    refine ⟨s', ?_⟩
    have ej : (j : Int) + 1 = ((j + 1 : Nat) : Int) := by omega
    have es : (j : Int) - (W : Int) = ((j - W : Nat) : Int) := by omega
    have hx : ∀ S, bIx S (.lst (fl less (t + 1))) (.int ((j - W : Nat) : Int)) = .ok (.int (less (j - W) : Nat)) false := fun S => by
      show oD (atD (fl less (t + 1)) ((j - W : Nat) : Int)) = _
      rw [fl_at (by omega)]
      rfl
    have hb : L__next_counts_1 [A, some (.int (W : Int)), B, C, some (.lst (fl less (t + 1))), some (.loc 1), some (.int (j : Int))] [.lst fd, .lst (fl g (t + 1))] =
        .nx [A, some (.int (W : Int)), B, C, some (.lst (fl less (t + 1))), some (.loc 1), some (.int (j : Int))] [.lst fd, .lst (fl (fun i => if i = j then g j + less (j - W) else g i) (t + 1))] := by
      rw [L__next_counts_1_e, augS_ok (n := 1) (k := j) (xs := fl g (t + 1)) (z := .int (g j : Nat)) (y := .int (less (j - W) : Nat)) (d := .int ((g j + less (j - W) : Nat) : Int)) (f1 := false) (f2 := false) (f3 := false) rfl rfl rfl (by rw [fl_len]; omega) (fl_q (by omega))
        (by simp only [cBin_e, cVar_e, gets_s, gets_z, vO_s, rB_ok, bSub_i, es, hx]) (by show Res.ok (D.int ((g j : Nat) + (less (j - W) : Nat) : Int)) false = _; rw [Int.natCast_add])]
      simp only [List.set_cons_succ, List.set_cons_zero, fl_set]
    rw [rangeD_s, forL_c, ej]
    simp only [tgName_e, gB_s, List.set_cons_succ, List.set_cons_zero, hb, oS_nx, ih]
    rw [fl_congr (f := fun i => if j + 1 ≤ i then (if i = j then g j + less (j - W) else g i) + less (i - W) else if i = j then g j + less (j - W) else g i) (g := fun i => if j ≤ i then g i + less (i - W) else g i) fun i hi => by
      by_cases h1 : i = j
      · subst h1
        rw [if_neg (by omega), if_pos rfl, if_pos (Nat.le_refl _)]
      · by_cases h2 : j + 1 ≤ i
        · rw [if_pos h2, if_neg h1, if_pos (by omega)]
        · rw [if_neg h2, if_neg h1, if_neg (by omega)]]
theorem next2 {t w H : Nat} (hw : w ≤ t) (ht : t ≤ 100000) : ∀ (n j : Nat) (s3 s4 s5 s6 : Option D), j + n = H + 1 → 1 ≤ j → H ≤ 100000 →
    ∃ r3 r4 r5 r6, forL (tgName 3) L__next_counts_2 (rangeD (j : Int) n) [some (tabC w t H), some (.int ((w + 1 : Nat) : Int)), some (.loc 0), s3, s4, s5, s6] [.lst ((List.range j).map (rowC (w + 1) t))] =
      .nx [some (tabC w t H), some (.int ((w + 1 : Nat) : Int)), some (.loc 0), r3, r4, r5, r6] [.lst ((List.range (H + 1)).map (rowC (w + 1) t))]
  | 0, j, s3, s4, s5, s6, h, h1, h3 => ⟨s3, s4, s5, s6, by rw [show j = H + 1 by omega]; rfl⟩
  | n + 1, j, s3, s4, s5, s6, h, h1, h3 => by
    obtain ⟨i, rfl⟩ : ∃ i, j = i + 1 := ⟨j - 1, by omega⟩
    have ej : ((i + 1 : Nat) : Int) + 1 = ((i + 1 + 1 : Nat) : Int) := by omega
    have es : ((i + 1 : Nat) : Int) - 1 = (i : Int) := by omega
    obtain ⟨q6, hq⟩ := next1 (t := t) (W := w + 1) (A := some (tabC w t H)) (B := some (.loc 0)) (C := some (.int ((i + 1 : Nat) : Int))) (fd := (List.range (i + 1)).map (rowC (w + 1) t)) (less := cw (w + 1) i) (t + 1 - (w + 1)) (w + 1) (cw w (i + 1)) s6 rfl (Nat.le_refl _)
    have er : fl (fun k => if w + 1 ≤ k then cw w (i + 1) k + cw (w + 1) i (k - (w + 1)) else cw w (i + 1) k) (t + 1) = fl (cw (w + 1) (i + 1)) (t + 1) := fl_congr fun k hk => by
      rw [cw_s]
      split <;> rfl
    rw [er] at hq
    have b1 : bIx [.lst ((List.range (i + 1)).map (rowC (w + 1) t))] (.loc 0) (.int (i : Int)) = .ok (rowC (w + 1) t i) false := by rw [bIx_o (xs := (List.range (i + 1)).map (rowC (w + 1) t)) rfl, ran_at (by omega)]; rfl
    have b2 : ∀ S, bIx S (tabC w t H) (.int ((i + 1 : Nat) : Int)) = .ok (rowC w t (i + 1)) false := fun S => by
      show oD (atD _ _) = _
      rw [ran_at (by omega)]
      rfl
    have b3 : ∀ S, fList S [rowC w t (i + 1)] = .ok (.lst (fl (cw w (i + 1)) (t + 1))) true := fun S => by
      show lO (some (fl (cw w (i + 1)) (t + 1))) = _
      rw [lO_s, if_pos (fl_pure _ _)]
    have b4 : fLen [.lst ((List.range (i + 1)).map (rowC (w + 1) t)), .lst (fl (cw w (i + 1)) (t + 1))] [.loc 1] = .ok (.int ((t + 1 : Nat) : Int)) false := by rw [fLen_s (xs := fl (cw w (i + 1)) (t + 1)) rfl, fl_len]
    have b5 : ∀ S, rg2 S [.int ((w + 1 : Nat) : Int), .int ((t + 1 : Nat) : Int)] = .st (rangeD ((w + 1 : Nat) : Int) (t + 1 - (w + 1))) := fun S => rg2_r (by omega) (by omega)
    have hl : ((List.range (i + 1)).map (rowC (w + 1) t)).length < lim := by rw [List.length_map, List.length_range]; unfold lim; omega
    have hb : L__next_counts_2 [some (tabC w t H), some (.int ((w + 1 : Nat) : Int)), some (.loc 0), some (.int ((i + 1 : Nat) : Int)), s4, s5, s6] [.lst ((List.range (i + 1)).map (rowC (w + 1) t))] =
        .nx [some (tabC w t H), some (.int ((w + 1 : Nat) : Int)), some (.loc 0), some (.int ((i + 1 : Nat) : Int)), some (rowC (w + 1) t i), some (rowC (w + 1) t (i + 1)), q6.map (subD 1 (rowC (w + 1) t (i + 1)))] [.lst ((List.range (i + 1 + 1)).map (rowC (w + 1) t))] := by
      rw [L__next_counts_2_e, sFrz_e]
      have e0 : (sSeq (sAsg 4 (cBin bIx (cVar 2) (cBin bSub (cVar 3) (cD (.int 1))))) (sSeq (sNew 5 (cApp fList (cCons (cBin bIx (cVar 0) (cVar 3)) cNil))) (sSeq (sFor (iApp rg2 (cCons (cVar 1) (cCons (cApp fLen (cCons (cVar 5) cNil)) cNil))) (tgName 6) L__next_counts_1) (sMethE mAppend (cVar 2) (cCons (cVar 5) cNil)))))
          [some (tabC w t H), some (.int ((w + 1 : Nat) : Int)), some (.loc 0), some (.int ((i + 1 : Nat) : Int)), s4, s5, s6] [.lst ((List.range (i + 1)).map (rowC (w + 1) t))] =
          .nx [some (tabC w t H), some (.int ((w + 1 : Nat) : Int)), some (.loc 0), some (.int ((i + 1 : Nat) : Int)), some (rowC (w + 1) t i), some (.loc 1), q6] ([.lst ((List.range (i + 1)).map (rowC (w + 1) t) ++ [.loc 1])] ++ [.lst (fl (cw (w + 1) (i + 1)) (t + 1))]) := by
        have hq : forL (tgName 6) L__next_counts_1 (rangeD ((w + 1 : Nat) : Int) (t + 1 - (w + 1))) [some (tabC w t H), some (.int ((w + 1 : Nat) : Int)), some (.loc 0), some (.int ((i + 1 : Nat) : Int)), some (rowC (w + 1) t i), some (.loc 1), s6] [.lst ((List.range (i + 1)).map (rowC (w + 1) t)), .lst (fl (cw w (i + 1)) (t + 1))] = _ := hq
        simp only [sSeq_e, sAsg_e, cBin_e, cVar_e, gets_s, gets_z, vO_s, rB_ok, cD_e, bSub_i, es, b1, vB_ok, setD_e, List.set_cons_succ, List.set_cons_zero, sB_nx, sNew_e, cApp_e, cCons_e, b2, aB_ok, cNil_e, llB_ok, lB_ok, b3, newK_l, List.length_cons, List.length_nil, List.cons_append, List.nil_append, sFor_e, iApp_e, liB_ok, b4, b5, fB_st, Nat.zero_add, hq, sMethE_e, lS_l, lcB_s, lsB_ok, mAppend_e hl, pO_s]
        rfl
      rw [e0]
      show frzR 1 _ = _
      rw [frzR_e (n := 1) (xs := fl (cw (w + 1) (i + 1)) (t + 1)) (S := [SO.lst ((List.range (i + 1)).map (rowC (w + 1) t) ++ [D.loc 1])]) (fl_pure _ _) (show _ = 1 from rfl)]
      have e1 := subL_pure (n := 1) (x := .lst (fl (cw (w + 1) (i + 1)) (t + 1))) (rowC_pures (w + 1) t (List.range (i + 1)))
      have e2 : subO 1 (.lst (fl (cw (w + 1) (i + 1)) (t + 1))) (.lst ((List.range (i + 1)).map (rowC (w + 1) t) ++ [.loc 1])) = .lst ((List.range (i + 1 + 1)).map (rowC (w + 1) t)) := by
        show SO.lst (((List.range (i + 1)).map (rowC (w + 1) t) ++ [D.loc 1]).map (subD 1 (D.lst (fl (cw (w + 1) (i + 1)) (t + 1))))) = _
        rw [List.map_append, e1, List.range_succ (n := i + 1), List.map_append]
        rfl
      show RS.nx _ [subO 1 (.lst (fl (cw (w + 1) (i + 1)) (t + 1))) (.lst ((List.range (i + 1)).map (rowC (w + 1) t) ++ [.loc 1]))] = _
      rw [e2]
      rfl
    obtain ⟨r3, r4, r5, r6, ih⟩ := next2 hw ht n (i + 1 + 1) (some (.int ((i + 1 : Nat) : Int))) (some (rowC (w + 1) t i)) (some (rowC (w + 1) t (i + 1))) (q6.map (subD 1 (rowC (w + 1) t (i + 1)))) (by omega) (by omega) h3
    refine ⟨r3, r4, r5, r6, ?_⟩
    rw [rangeD_s, forL_c, ej]
    simp only [tgName_e, gB_s, List.set_cons_succ, List.set_cons_zero, hb, oS_nx, ih]
theorem next_is {t w H : Nat} (hw : w ≤ t) (ht : t ≤ 90000) (hH : H ≤ 90000) : m__next_counts [tabC w t H, .int ((w + 1 : Nat) : Int)] = .ok (tabC (w + 1) t H) true := by
  obtain ⟨r3, r4, r5, r6, ih⟩ := next2 (H := H) hw (by omega) H 1 none none none none (by omega) (by omega) (by omega)
  have b2 : ∀ S, bIx S (tabC w t H) (.int 0) = .ok (rowC w t 0) false := fun S => by
    show oD (atD _ ((0 : Nat) : Int)) = _
    rw [ran_at (by omega)]
    rfl
  have e0 : rowC w t 0 = rowC (w + 1) t 0 := by
    unfold rowC
    rw [fl_congr (f := cw w 0) (g := cw (w + 1) 0) fun i _ => by rw [cw_h0, cw_h0]]
  have b3 : ∀ S, fList S [rowC w t 0] = .ok (rowC (w + 1) t 0) true := fun S => by
    rw [e0]
    show lO (some (fl (cw (w + 1) 0) (t + 1))) = _
    rw [lO_s, if_pos (fl_pure _ _)]
    rfl
  have b4 : ∀ S, fLen S [tabC w t H] = .ok (.int ((H + 1 : Nat) : Int)) false := fun S => by rw [fLen_s (xs := (List.range (H + 1)).map (rowC w t)) rfl, List.length_map, List.length_range]
  have b5 : ∀ S, rg2 S [.int 1, .int ((H + 1 : Nat) : Int)] = .st (rangeD 1 H) := fun S => rg2_r (a := 1) (b := H + 1) (by omega) (by omega)
  have b6 : ∀ S, fLst S [rowC (w + 1) t 0] = .ok (.lst [rowC (w + 1) t 0]) true := fun S => rfl
  have ih : forL (tgName 3) L__next_counts_2 (rangeD 1 H) [some (tabC w t H), some (.int ((w + 1 : Nat) : Int)), some (.loc 0), none, none, none, none] [.lst [rowC (w + 1) t 0]] = _ := ih
  have hs : startD 7 [tabC w t H, .int ((w + 1 : Nat) : Int)] = [some (tabC w t H), some (.int ((w + 1 : Nat) : Int)), none, none, none, none, none] := rfl
  unfold m__next_counts
  rw [runF_e, if_pos (show ([tabC w t H, D.int ((w + 1 : Nat) : Int)] : List D).length = 2 from rfl), b__next_counts_e, hs]
  simp only [sSeq_e, sNew_e, cApp_e, cCons_e, cBin_e, cVar_e, gets_s, gets_z, vO_s, rB_ok, cD_e, b2, aB_ok, cNil_e, llB_ok, lB_ok, b3, b6, vB_ok, newK_l, setD_e, List.length_nil, List.nil_append, List.set_cons_succ, List.set_cons_zero, sB_nx, sFor_e, iApp_e, liB_ok, b4, b5, fB_st, ih, sRet_e, retD_loc, retO_l, rowC_pures, if_true, fin_rt]
  rfl
end PL

set_option maxRecDepth 2000
namespace PL
open HC PM
open PySem (Str)
theorem is_number_n (n : Nat) : m_is_number [.int (n : Int)] = .ok (.bl true) false := by
  have h : m_is_number [.int (n : Int)] = .ok (.bl (decide ((n : Int) ≥ 0))) false := rfl
  rw [h, decide_eq_true (by omega)]
theorem numbers_for : ∀ (xs : List Nat) (A s : Option D), ∃ s', forL (tgName 1) L__need_numbers_1 (nts xs) [A, s] [] = .nx [A, s'] []
  | [], A, s => ⟨s, rfl⟩
  | x :: xs, A, s => by
    obtain ⟨s', ih⟩ := numbers_for xs A (some (.int (x : Int)))
    refine ⟨s', ?_⟩
    have e : nts (x :: xs) = D.int (x : Int) :: nts xs := rfl
    rw [e, forL_c]
    simp only [tgName_e, gB_s, List.set_cons_succ, List.set_cons_zero, L__need_numbers_1_e, sIf_e, cNotB_e, cTru_e, cApp_e, cCons_e, cVar_e, gets_s, gets_z, vO_s, aB_ok, cNil_e, llB_ok, lB_ok, callD_e, pureL_c, pure_int, pureL_n, Bool.and_true, is_number_n, rB_ok, truth_b, trO_s, tB_ok, Bool.not_true, iS_ok, Bool.false_eq_true, if_false, sSkip_e, oS_nx]
    exact ih
theorem numbers_is (xs : List Nat) : m__need_numbers [.tup (nts xs)] = .ok .non false := by
  obtain ⟨s', ih⟩ := numbers_for xs (some (.tup (nts xs))) none
  have hi : ∀ S, iV (.ok (.tup (nts xs)) false) S = .st (nts xs) := fun S => rfl
  unfold m__need_numbers
  rw [runF_e, if_pos (show ([D.tup (nts xs)] : List D).length = 1 from rfl), b__need_numbers_e]
  have hs : startD 2 [.tup (nts xs)] = [some (.tup (nts xs)), none] := rfl
  rw [hs]
  simp only [sFor_e, iVal_e, cVar_e, gets_z, vO_s, hi, fB_st, ih, fin_nx]
theorem rep0 : ∀ t : Nat, repL t [.int 0] = nts (List.replicate t 0)
  | 0 => rfl
  | t + 1 => by
    show [D.int 0] ++ repL t [.int 0] = _
    rw [rep0 t]
    rfl
theorem row0 (t h : Nat) : nts (1 :: List.replicate t 0) = fl (cw 0 h) (t + 1) := by
  unfold fl
  rw [List.range_succ_eq_map, List.map_cons, List.map_map, cw_n0]
  have e : (List.range t).map (cw 0 h ∘ Nat.succ) = (List.range t).map (fun _ => 0) := List.map_congr_left fun i _ => by
    show cw 0 h (i + 1) = 0
    rw [cw_w0, if_neg (by omega)]
  rw [e, List.map_const', List.length_range]
theorem all0 (t H : Nat) (ht : t ≤ 1000) (hH : H ≤ 1000) (A B C : Option D) (S : List SO) : compL (tgName 5) cTrue E__all_counts_1 [some (.int (t : Int)), A, B, C, none, none] S (rangeD 0 (H + 1)) = some ((List.range (H + 1)).map (rowC 0 t)) := by
  have hm : ∀ S, bMul S (.lst [.int 0]) (.int (t : Int)) = .ok (.lst (nts (List.replicate t 0))) true := fun S => by
    have e : bMul S (.lst [.int 0]) (.int (t : Int)) = if (decide (0 ≤ (t : Int)) && decide (1 * (t : Int).toNat ≤ lim) && decide ((t : Int).toNat ≤ lim) && true) = true then .ok (.lst (repL (t : Int).toNat [.int 0])) true else .bad := id rfl
    have h1 : (t : Int).toNat ≤ lim := by unfold lim; omega
    have h2 : 1 * (t : Int).toNat ≤ lim := by unfold lim; omega
    rw [e, decide_eq_true (show (0 : Int) ≤ (t : Int) by omega), decide_eq_true h1, decide_eq_true h2, Int.toNat_natCast, rep0]
    rfl
  have hE : ∀ i : Nat, E__all_counts_1 [some (.int (t : Int)), A, B, C, none, some (.int (i : Int))] S = .ok (rowC 0 t i) true := fun i => by
    have l1 : ∀ (i : Int) S, fLst S [.int i] = .ok (.lst [.int i]) true := fun _ _ => rfl
    have l2 : ([D.int 1] : List D).length + (nts (List.replicate t 0)).length ≤ lim := by rw [nts_len, List.length_replicate]; unfold lim; simp; omega
    have l3 : pureL ([D.int 1] : List D) = true := rfl
    have l4 : [D.int 1] ++ nts (List.replicate t 0) = nts (1 :: List.replicate t 0) := rfl
    simp only [E__all_counts_1_e, cBin_e, cApp_e, cCons_e, cD_e, aB_ok, cNil_e, llB_ok, lB_ok, l1, rB_ok, cVar_e, gets_z, vO_s, hm, bAdd_l, l2, if_true, l3, nts_pure, Bool.and_true, l4, row0 t i]
    rfl
  have hc := comp_all (A := tgName 5) (t := cTrue) (f := E__all_counts_1) (σ := [some (.int (t : Int)), A, B, C, none, none]) (S := S) (fun i : Nat => D.int (i : Int)) (rowC 0 t) (List.range (H + 1)) fun i _ => ⟨_, _, true, rfl, rfl, hE i, rfl⟩
  rw [← range_0] at hc
  exact hc
theorem all1 {t H W : Nat} (ht : t ≤ 1000) (hH : H ≤ 1000) (hW : W ≤ t) {A B C : Option D} : ∀ (n j : Nat) (s s5 : Option D), j + n = W + 1 → 1 ≤ j → ∃ s', forL (tgName 4) L__all_counts_1 (rangeD (j : Int) n) [A, B, C, some (.loc 0), s, s5] [.lst ((List.range j).map fun w => tabC w t H)] = .nx [A, B, C, some (.loc 0), s', s5] [.lst ((List.range (W + 1)).map fun w => tabC w t H)]
  | 0, j, s, s5, h, h1 => ⟨s, by rw [show j = W + 1 by omega]; rfl⟩
  | n + 1, j, s, s5, h, h1 => by
    obtain ⟨i, rfl⟩ : ∃ i, j = i + 1 := ⟨j - 1, by omega⟩
    obtain ⟨s', ih⟩ := all1 ht hH hW (A := A) (B := B) (C := C) n (i + 1 + 1) (some (.int ((i + 1 : Nat) : Int))) s5 (by omega) (by omega)
    have ej : ((i + 1 : Nat) : Int) + 1 = ((i + 1 + 1 : Nat) : Int) := by omega
    have es : ((i + 1 : Nat) : Int) - 1 = (i : Int) := by omega
    have b1 : bIx [.lst ((List.range (i + 1)).map fun w => tabC w t H)] (.loc 0) (.int (i : Int)) = .ok (tabC i t H) false := by rw [bIx_o (xs := (List.range (i + 1)).map fun w => tabC w t H) rfl, ran_at (by omega)]; rfl
    have b2 := next_is (t := t) (w := i) (H := H) (by omega) (by omega) (by omega)
    have hp : (tabC i t H).pure = true := rfl
    have hl : ((List.range (i + 1)).map fun w => tabC w t H).length < lim := by rw [List.length_map, List.length_range]; unfold lim; omega
    have e2 : ((List.range (i + 1)).map fun w => tabC w t H) ++ [tabC (i + 1) t H] = (List.range (i + 1 + 1)).map fun w => tabC w t H := by rw [List.range_succ (n := i + 1), List.map_append]; rfl
    refine ⟨s', ?_⟩
    rw [rangeD_s, forL_c, ej]
    simp only [tgName_e, gB_s, List.set_cons_succ, List.set_cons_zero, L__all_counts_1_e, sMethE_e, cVar_e, gets_s, gets_z, vO_s, vB_ok, lS_l, lcB_s, cCons_e, cApp_e, cBin_e, rB_ok, cD_e, bSub_i, es, b1, aB_ok, cNil_e, llB_ok, lB_ok, callD_e, pureL_c, pure_int, hp, pureL_n, Bool.and_true, b2, lsB_ok, mAppend_e hl, pO_s, e2, oS_nx]
    exact ih
theorem all_is {t H W : Nat} (ht : t ≤ 1000) (hH : H ≤ 1000) (hW : W ≤ t) : m__all_counts [.int (t : Int), .int (H : Int), .int (W : Int)] = .ok (allC t H W) true := by
  obtain ⟨s', ih⟩ := all1 ht hH hW (A := some (.int (t : Int))) (B := some (.int (H : Int))) (C := some (.int (W : Int))) W 1 none none (by omega) (by omega)
  have ih : forL (tgName 4) L__all_counts_1 (rangeD 1 W) [some (.int (t : Int)), some (.int (H : Int)), some (.int (W : Int)), some (.loc 0), none, none] [.lst [tabC 0 t H]] = _ := ih
  have h0 := all0 t H ht hH (some (.int (H : Int))) (some (.int (W : Int))) none []
  have e1 : (H : Int) + 1 = ((H + 1 : Nat) : Int) := by omega
  have e2 : (W : Int) + 1 = ((W + 1 : Nat) : Int) := by omega
  have r1 : ∀ S, rg1 S [.int ((H + 1 : Nat) : Int)] = .st (rangeD 0 (H + 1)) := fun S => rg1_nat (by omega)
  have r2 : ∀ S, rg2 S [.int 1, .int ((W + 1 : Nat) : Int)] = .st (rangeD 1 W) := fun S => rg2_r (a := 1) (b := W + 1) (by omega) (by omega)
  have l1 : ∀ S, fLst S [.lst ((List.range (H + 1)).map (rowC 0 t))] = .ok (.lst [tabC 0 t H]) true := fun S => rfl
  unfold m__all_counts
  rw [runF_e, if_pos (show ([D.int (t : Int), D.int (H : Int), D.int (W : Int)] : List D).length = 3 from rfl), b__all_counts_e]
  have hs : startD 6 [.int (t : Int), .int (H : Int), .int (W : Int)] = [some (.int (t : Int)), some (.int (H : Int)), some (.int (W : Int)), none, none, none] := rfl
  rw [hs]
  simp only [sSeq_e, sNew_e, cApp_e, cCons_e, cComp_e, iApp_e, cBin_e, cVar_e, gets_s, gets_z, vO_s, rB_ok, cD_e, bAdd_i, e1, aB_ok, cNil_e, llB_ok, lB_ok, liB_ok, r1, cB_st, wipeD_c, wipeD_n, List.set_cons_succ, List.set_cons_zero, h0, coB_s, l1, vB_ok, newK_l, setD_e, List.length_nil, List.nil_append, sB_nx, sFor_e, e2, r2, fB_st, ih, sRet_e, retD_loc, retO_l, tabC_pures, if_true, fin_rt]
  rfl
theorem ix1 {t H W a : Nat} (h : a ≤ W) (S : List SO) : bIx S (allC t H W) (.int (a : Int)) = .ok (tabC a t H) false := by
  show oD (atD _ _) = _
  rw [ran_at (f := fun w => tabC w t H) (by omega)]
  rfl
theorem ix2 {t H a b : Nat} (h : b ≤ H) (S : List SO) : bIx S (tabC a t H) (.int (b : Int)) = .ok (rowC a t b) false := by
  show oD (atD _ _) = _
  rw [ran_at (by omega)]
  rfl
theorem ix3 {t a b c : Nat} (h : c ≤ t) (S : List SO) : bIx S (rowC a t b) (.int (c : Int)) = .ok (.int (cw a b c : Nat)) false := by
  show oD (atD _ _) = _
  rw [fl_at (by omega)]
  rfl
theorem mul_n {a b : Nat} (h : a < 18446744073709551616) (S : List SO) : bMul S (.int (a : Int)) (.int (b : Int)) = .ok (.int ((a * b : Nat) : Int)) false := by
  rw [bMul_of (.inl (small_n h)), Int.natCast_mul]
theorem cw_both (w h n : Nat) : cw w h n = cw (min w n) (min h n) n := by rw [cw_min, cw_minh]
theorem count_is {n h w : Nat} (hn : n ≤ 1000) (hh : h ≤ 100000) (hw : w ≤ 100000) : m_count_stairs [.int (n : Int), .int (h : Int), .int (w : Int)] = .ok (.int (cw w h n : Nat)) false := by
  have n1 := numbers_is [n, h, w]
  have n1 : m__need_numbers [.tup [.int (n : Int), .int (h : Int), .int (w : Int)]] = _ := n1
  have t3 : ∀ S, fTup S [.int (n : Int), .int (h : Int), .int (w : Int)] = .ok (.tup [.int (n : Int), .int (h : Int), .int (w : Int)]) false := fun S => rfl
  have al := all_is (t := n) (H := min h n) (W := min w n) hn (by omega) (by omega)
  have m1 := fun S => mul_n (a := min h n) (b := min w n) (by omega) S
  have hs : startD 5 [.int (n : Int), .int (h : Int), .int (w : Int)] = [some (.int (n : Int)), some (.int (h : Int)), some (.int (w : Int)), none, none] := rfl
  unfold m_count_stairs
  rw [runF_e, if_pos (show ([D.int (n : Int), D.int (h : Int), D.int (w : Int)] : List D).length = 3 from rfl), b_count_stairs_e, hs]
  simp only [sSeq_e, sExpr_e, cApp_e, cCons_e, cVar_e, gets_s, gets_z, vO_s, aB_ok, cNil_e, llB_ok, lB_ok, t3, callD_e, pureL_c, pure_tup, pure_int, pureL_n, Bool.and_true, n1, vB_ok, sB_nx, sAsg_e, fMax2_n, fMin2_n, setD_e, List.set_cons_succ, List.set_cons_zero, sIf_e, cBin_e, rB_ok, m1, bCmp_i, iS_ok]
  by_cases k : min h n * min w n < n
  · have k2 : ((n : Int) > ((min h n * min w n : Nat) : Int)) := by omega
    have z : cw w h n = 0 := by rw [cw_both]; exact cw_zero _ _ _ k
    simp only [k2, decide_true, if_true, sRet_e, cD_e, vB_ok, retD_int, sB_rt, fin_rt, z]
    rfl
  · have k2 : ¬ ((n : Int) > ((min h n * min w n : Nat) : Int)) := by omega
    simp only [k2, decide_false, Bool.false_eq_true, if_false, sSkip_e, sB_nx, sRet_e, cBin_e, cApp_e, cCons_e, cVar_e, gets_s, gets_z, vO_s, aB_ok, cNil_e, llB_ok, lB_ok, callD_e, pureL_c, pure_int, pureL_n, Bool.and_true, al, rB_ok, ix1 (Nat.le_refl _), ix2 (Nat.le_refl _), ix3 (Nat.le_refl _), vB_ok, retD_int, fin_rt]
    rw [← cw_both]
end PL

set_option maxRecDepth 2000
namespace PL
open HC PM
open PySem (Str)
theorem at_while {t H W n h w p : Nat} {s : List Nat} (u : Unr n h w p s) : ∀ (A B C M : Option D) (acc : List Nat) (k : Nat), n + w < k → w ≤ W → h ≤ H → n ≤ t → acc.length + n ≤ 1000000 →
    ∃ p' h' w' m', whileF W_stair_at_1 L_stair_at_1 k [A, B, C, some (.int (p : Int)), some (.int (h : Int)), some (.int (w : Int)), some (allC t H W), some (.int (n : Int)), some (.loc 0), M] [.lst (nts acc)] =
      .nx [A, B, C, p', h', w', some (allC t H W), some (.int 0), some (.loc 0), m'] [.lst (nts (acc ++ s))] := by
  induction u with
  | nil h w =>
    intro A B C M acc k hk hw hh hn ha
    obtain ⟨k, rfl⟩ : ∃ j, k = j + 1 := ⟨k - 1, by omega⟩
    refine ⟨some (.int ((0 : Nat) : Int)), some (.int (h : Int)), some (.int (w : Int)), M, ?_⟩
    rw [whileF_s]
    have e : ¬ (((0 : Nat) : Int) > 0) := by omega
    simp only [W_stair_at_1_e, cBin_e, cVar_e, gets_s, gets_z, vO_s, cD_e, rB_ok, bCmp_i, e, decide_false, iS_ok, Bool.false_eq_true, if_false, List.append_nil]
    rfl
  | @take n h w p v s hn0 hv h0 hp u ih =>
    intro A B C M acc k hk hw hh hn ha
    obtain ⟨k, rfl⟩ : ∃ j, k = j + 1 := ⟨k - 1, by omega⟩
    obtain ⟨p', h', w', m', e⟩ := ih A B C (some (.int (cw v h (n - v) : Nat))) (acc ++ [v]) k (by omega) (by omega) (by omega) (by omega) (by rw [List.length_append]; simp; omega)
    refine ⟨p', h', w', m', ?_⟩
    rw [whileF_s]
    have c0 : (n : Int) > 0 := by omega
    have em : min (w : Nat) n = v := hv.symm
    have e1 : ((h + 1 : Nat) : Int) - 1 = (h : Int) := by omega
    have e2 : (n : Int) - (v : Int) = ((n - v : Nat) : Int) := by omega
    have c1 : (p : Int) < ((cw v h (n - v) : Nat) : Int) := by omega
    have hl : (nts acc).length < lim := by rw [nts_len]; unfold lim; omega
    simp only [W_stair_at_1_e, cBin_e, cVar_e, gets_s, gets_z, vO_s, cD_e, rB_ok, bCmp_i, c0, decide_true, iS_ok, if_true, L_stair_at_1_e, sSeq_e, sAsg_e, cApp_e, cCons_e, aB_ok, cNil_e, llB_ok, lB_ok, fMin2_n, em, vB_ok, setD_e, List.set_cons_succ, List.set_cons_zero, sB_nx, ix1 (show v ≤ W by omega), bSub_i, e1, e2, ix2 (show h ≤ H by omega), ix3 (show n - v ≤ t by omega), sIf_e, c1,
      sMethE_e, lS_l, lcB_s, lsB_ok, mAppend_e hl, pO_s, nts_snoc, sAug_e, vOS_s, augK_s, oS_nx]
    rw [List.append_assoc] at e
    exact e
  | @skip n h w p v s hn0 hv h0 hp u ih =>
    intro A B C M acc k hk hw hh hn ha
    obtain ⟨k, rfl⟩ : ∃ j, k = j + 1 := ⟨k - 1, by omega⟩
    obtain ⟨p', h', w', m', e⟩ := ih A B C (some (.int (cw v h (n - v) : Nat))) acc k (by omega) (by omega) (by omega) (by omega) ha
    refine ⟨p', h', w', m', ?_⟩
    rw [whileF_s]
    have c0 : (n : Int) > 0 := by omega
    have em : min (w : Nat) n = v := hv.symm
    have e1 : ((h + 1 : Nat) : Int) - 1 = (h : Int) := by omega
    have e2 : (n : Int) - (v : Int) = ((n - v : Nat) : Int) := by omega
    have e3 : (p : Int) - ((cw v h (n - v) : Nat) : Int) = ((p - cw v h (n - v) : Nat) : Int) := by omega
    have e4 : (v : Int) - 1 = ((v - 1 : Nat) : Int) := by omega
    have c1 : ¬ (p : Int) < ((cw v h (n - v) : Nat) : Int) := by omega
    simp only [W_stair_at_1_e, cBin_e, cVar_e, gets_s, gets_z, vO_s, cD_e, rB_ok, bCmp_i, c0, decide_true, iS_ok, if_true, L_stair_at_1_e, sSeq_e, sAsg_e, cApp_e, cCons_e, aB_ok, cNil_e, llB_ok, lB_ok, fMin2_n, em, vB_ok, setD_e, List.set_cons_succ, List.set_cons_zero, sB_nx, ix1 (show v ≤ W by omega), bSub_i, e1, e2, ix2 (show h ≤ H by omega), ix3 (show n - v ≤ t by omega), sIf_e, c1,
      decide_false, Bool.false_eq_true, if_false, sAug_e, vOS_s, augK_s, e3, e4, oS_nx]
    exact e
theorem at_is {n h w p : Nat} (hn : n ≤ 1000) (hh : h ≤ 100000) (hw : w ≤ 100000) : (∀ s, Unr n h w p s → m_stair_at [.int (n : Int), .int (h : Int), .int (w : Int), .int (p : Int)] = .ok (.tup (nts s)) false) ∧
    (cw w h n ≤ p → m_stair_at [.int (n : Int), .int (h : Int), .int (w : Int), .int (p : Int)] = .ex 10 [.str (Str.ofString "place")]) := by
  have n1 := numbers_is [n, h, w, p]
  have n1 : m__need_numbers [.tup [.int (n : Int), .int (h : Int), .int (w : Int), .int (p : Int)]] = _ := n1
  have t4 : ∀ S, fTup S [.int (n : Int), .int (h : Int), .int (w : Int), .int (p : Int)] = .ok (.tup [.int (n : Int), .int (h : Int), .int (w : Int), .int (p : Int)]) false := fun S => rfl
  have al := all_is (t := n) (H := min h n) (W := min w n) hn (by omega) (by omega)
  have m1 := fun S => mul_n (a := min h n) (b := min w n) (by omega) S
  have hs : startD 10 [.int (n : Int), .int (h : Int), .int (w : Int), .int (p : Int)] = [some (.int (n : Int)), some (.int (h : Int)), some (.int (w : Int)), some (.int (p : Int)), none, none, none, none, none, none] := rfl
  have hp : pureL [D.str (Str.ofString "place")] = true := rfl
  have ap : (allC n (min h n) (min w n)).pure = true := rfl
  unfold m_stair_at
  rw [runF_e, if_pos (show ([D.int (n : Int), D.int (h : Int), D.int (w : Int), D.int (p : Int)] : List D).length = 4 from rfl), b_stair_at_e, hs]
  simp only [sSeq_e, sExpr_e, cApp_e, cCons_e, cVar_e, gets_s, gets_z, vO_s, aB_ok, cNil_e, llB_ok, lB_ok, t4, callD_e, pureL_c, pure_tup, pure_int, pureL_n, Bool.and_true, n1, vB_ok, sB_nx, sAsg_e, fMin2_n, setD_e, List.set_cons_succ, List.set_cons_zero, sIf_e, cBin_e, rB_ok, m1, bCmp_i, iS_ok]
  by_cases k : min h n * min w n < n
  · have k2 : ((n : Int) > ((min h n * min w n : Nat) : Int)) := by omega
    have z : cw w h n = 0 := by rw [cw_both]; exact cw_zero _ _ _ k
    refine ⟨fun s u => ?_, fun _ => ?_⟩
    · have := u.lt
      omega
    · simp only [k2, decide_true, if_true, sRaise_e, cCons_e, cD_e, aB_ok, cNil_e, llB_ok, lsB_ok, raiseK_e, hp, sB_ex, fin_ex]
  · have k2 : ¬ ((n : Int) > ((min h n * min w n : Nat) : Int)) := by omega
    simp only [k2, decide_false, Bool.false_eq_true, if_false, sSkip_e, sB_nx, sSeq_e, sAsg_e, cApp_e, cCons_e, cVar_e, gets_s, gets_z, vO_s, aB_ok, cNil_e, llB_ok, lB_ok, callD_e, pureL_c, pure_int, pureL_n, Bool.and_true, al, vB_ok, setD_e, List.set_cons_succ, List.set_cons_zero, sIf_e, cBin_e, rB_ok, ix1 (Nat.le_refl _), ix2 (Nat.le_refl _), ix3 (Nat.le_refl _), bCmp_i, iS_ok]
    rw [← cw_both]
    refine ⟨fun s u => ?_, fun q => ?_⟩
    · have hlt := u.lt
      have c1 : ¬ ((p : Int) ≥ ((cw w h n : Nat) : Int)) := by omega
      have fs : (2000 : Nat) < fuel := by decide
      obtain ⟨p', h', w', m', e⟩ := at_while (t := n) (H := min h n) (W := min w n) u.minh.minw (some (.int (n : Int))) (some (.int (h : Int))) (some (.int (w : Int))) none [] fuel (by omega) (Nat.le_refl _) (Nat.le_refl _) (Nat.le_refl _) (by simp; omega)
      have l0 : ∀ S, fLst S [] = .ok (.lst []) true := fun S => rfl
      have e : whileF W_stair_at_1 L_stair_at_1 fuel [some (.int (n : Int)), some (.int (h : Int)), some (.int (w : Int)), some (.int (p : Int)), some (.int ((min h n : Nat) : Int)), some (.int ((min w n : Nat) : Int)), some (allC n (min h n) (min w n)), some (.int (n : Int)), some (.loc 0), none] [.lst []] = _ := e
      simp only [c1, decide_false, Bool.false_eq_true, if_false, sSkip_e, sB_nx, sSeq_e, sAsg_e, cVar_e, gets_s, gets_z, vO_s, vB_ok, setD_e, List.set_cons_succ, List.set_cons_zero, sNew_e, cApp_e, cNil_e, lB_ok, l0, newK_l, List.length_nil, List.nil_append, sWhile_e, e, sRet_e, cCons_e, aB_ok, llB_ok, fTuple_o, locO_l, tO_s, nts_pure, if_true, retD_tup, fin_rt]
    · have c1 : ((p : Int) ≥ ((cw w h n : Nat) : Int)) := by omega
      simp only [c1, decide_true, if_true, sRaise_e, cCons_e, cD_e, aB_ok, cNil_e, llB_ok, lsB_ok, raiseK_e, hp, sB_ex, fin_ex]
end PL

set_option maxRecDepth 2000
namespace PL
open HC PM
open PySem (Str)
theorem skipped_c (h n x k : Nat) : skipped h n x (k + 1) = cw (x + 1) h (n - (x + 1)) + skipped h n (x + 1) k := by
  unfold skipped
  rw [List.range'_succ, List.map_cons, List.sum_cons]
theorem place1 {t H W n h : Nat} {A B C E R : Option D} (hh : h ≤ H) (hn : n ≤ t) : ∀ (k x r : Nat) (s : Option D), x + k ≤ W → x + k ≤ n →
    ∃ s', forL (tgName 9) L_place_of_1 (rangeD ((x + 1 : Nat) : Int) k) [A, B, C, some (.int (n : Int)), some (.int ((h + 1 : Nat) : Int)), E, some (allC t H W), some (.int (r : Int)), R, s] [] =
      .nx [A, B, C, some (.int (n : Int)), some (.int ((h + 1 : Nat) : Int)), E, some (allC t H W), some (.int ((r + skipped h n x k : Nat) : Int)), R, s'] []
  | 0, x, r, s, h1, h2 => ⟨s, rfl⟩
  | k + 1, x, r, s, h1, h2 => by
    obtain ⟨s', ih⟩ := place1 (t := t) (H := H) (W := W) (n := n) (h := h) (A := A) (B := B) (C := C) (E := E) (R := R) hh hn k (x + 1) (r + cw (x + 1) h (n - (x + 1))) (some (.int ((x + 1 : Nat) : Int))) (by omega) (by omega)
    refine ⟨s', ?_⟩
    have ej : ((x + 1 : Nat) : Int) + 1 = ((x + 1 + 1 : Nat) : Int) := by omega
    have e1 : ((h + 1 : Nat) : Int) - 1 = (h : Int) := by omega
    have e2 : (n : Int) - ((x + 1 : Nat) : Int) = ((n - (x + 1) : Nat) : Int) := by omega
    have e3 : (r : Int) + ((cw (x + 1) h (n - (x + 1)) : Nat) : Int) = ((r + cw (x + 1) h (n - (x + 1)) : Nat) : Int) := by omega
    rw [rangeD_s, forL_c, ej, skipped_c, ← Nat.add_assoc]
    simp only [tgName_e, gB_s, List.set_cons_succ, List.set_cons_zero, L_place_of_1_e, sAug_e, gets_s, gets_z, vOS_s, cBin_e, cVar_e, vO_s, rB_ok, ix1 (show x + 1 ≤ W by omega), cD_e, bSub_i, e1, ix2 hh, e2, ix3 (show n - (x + 1) ≤ t by omega), vB_ok, iAdd_i, e3, augK_s, oS_nx]
    exact ih
theorem place2 {t H W : Nat} {A B C : Option D} (hH : H ≤ 1000) (hW : W ≤ 1000) (ht : t ≤ 1000) : ∀ (s : List Nat) (n h w r : Nat) (x1 x2 : Option D), s.length ≤ h → h ≤ H + 1 → s.sum ≤ n → n ≤ t → w ≤ W → (∀ x ∈ s, x ≤ W) →
    ∃ n' h' w' y1 y2, forL (tgName 8) L_place_of_2 (nts s) [A, B, C, some (.int (n : Int)), some (.int (h : Int)), some (.int (w : Int)), some (allC t H W), some (.int (r : Int)), x1, x2] [] =
      .nx [A, B, C, n', h', w', some (allC t H W), some (.int ((r + rk n h w s : Nat) : Int)), y1, y2] []
  | [], n, h, w, r, x1, x2, _, _, _, _, _, _ => ⟨_, _, _, x1, x2, rfl⟩
  | x :: s, n, h, w, r, x1, x2, h1, h2, h3, h4, h5, h6 => by
    obtain ⟨h, rfl⟩ : ∃ j, h = j + 1 := ⟨h - 1, by rw [List.length_cons] at h1; omega⟩
    rw [List.length_cons] at h1
    rw [List.sum_cons] at h3
    have hx := h6 x (List.mem_cons_self ..)
    obtain ⟨z, hz⟩ := place1 (t := t) (H := H) (W := W) (n := n) (h := h) (A := A) (B := B) (C := C) (E := some (.int (w : Int))) (R := some (.int (x : Int))) (by omega) h4 (min w n - x) x r x2 (by omega) (by omega)
    obtain ⟨n', h', w', y1, y2, ih⟩ := place2 hH hW ht (A := A) (B := B) (C := C) s (n - x) h x (r + skipped h n x (min w n - x)) (some (.int (x : Int))) z (by omega) (by omega) (by omega) (by omega) hx fun y hy => h6 y (List.mem_cons_of_mem _ hy)
    refine ⟨n', h', w', y1, y2, ?_⟩
    have e : nts (x :: s) = D.int (x : Int) :: nts s := rfl
    have e1 : (x : Int) + 1 = ((x + 1 : Nat) : Int) := by omega
    have e2 : ((min w n : Nat) : Int) + 1 = ((min w n + 1 : Nat) : Int) := by omega
    have e3 : ((h + 1 : Nat) : Int) - 1 = (h : Int) := by omega
    have e4 : (n : Int) - (x : Int) = ((n - x : Nat) : Int) := by omega
    have er : ∀ S, rg2 S [.int ((x + 1 : Nat) : Int), .int ((min w n + 1 : Nat) : Int)] = .st (rangeD ((x + 1 : Nat) : Int) (min w n - x)) := fun S => by
      rw [rg2_r (by omega) (by omega)]
      rw [show min w n + 1 - (x + 1) = min w n - x by omega]
    rw [e, forL_c]
    simp only [tgName_e, gB_s, List.set_cons_succ, List.set_cons_zero, L_place_of_2_e, sSeq_e, sFor_e, iApp_e, cCons_e, cBin_e, cVar_e, gets_s, gets_z, vO_s, rB_ok, cD_e, bAdd_i, e1, aB_ok, cApp_e, cNil_e, llB_ok, lB_ok, fMin2_n, e2, liB_ok, er, fB_st, hz, sB_nx, sAsg_e, vB_ok, setD_e, sAug_e, vOS_s, bSub_i, e3, e4, augK_s, oS_nx]
    unfold rk
    rw [Nat.add_sub_cancel, ← Nat.add_assoc]
    exact ih
theorem len_nts (S : List SO) (s : List Nat) : fLen S [.tup (nts s)] = .ok (.int (s.length : Nat)) false := by rw [fLen_s (xs := nts s) rfl, nts_len]
theorem place_is {n h w p : Nat} {s : List Nat} (hn : n ≤ 1000) (hh : h ≤ 100000) (hw : w ≤ 100000) (u : Unr n h w p s) : m_place_of [.tup (nts s), .int (h : Int), .int (w : Int)] = .ok (.int (p : Int)) false := by
  have b := u.box
  have b2 := u.minh.minw.box
  have hr := u.minh.minw.rank
  obtain ⟨n', h', w', y1, y2, e⟩ := place2 (t := n) (H := min h n) (W := min w n) (A := some (.tup (nts s))) (B := some (.int (h : Int))) (C := some (.int (w : Int))) (by omega) (by omega) hn s n (min h n) (min w n) 0 none none b2.le (by omega) (by rw [b2.su]; exact Nat.le_refl _) (Nat.le_refl _) (Nat.le_refl _) b2.wd
  rw [hr, Nat.zero_add] at e
  have e : forL (tgName 8) L_place_of_2 (nts s) [some (.tup (nts s)), some (.int (h : Int)), some (.int (w : Int)), some (.int (n : Int)), some (.int ((min h n : Nat) : Int)), some (.int ((min w n : Nat) : Int)), some (allC n (min h n) (min w n)), some (.int 0), none, none] [] = _ := e
  have al := all_is (t := n) (H := min h n) (W := min w n) hn (by omega) (by omega)
  have ns := need_stair_nts b.st
  have c1 : ¬ (((s.length : Nat) : Int) > (h : Int)) := by have := b.le; omega
  have hs : startD 10 [.tup (nts s), .int (h : Int), .int (w : Int)] = [some (.tup (nts s)), some (.int (h : Int)), some (.int (w : Int)), none, none, none, none, none, none, none] := rfl
  have sm : ∀ S, fSum S [.tup (nts s)] = .ok (.int (n : Int)) false := fun S => by rw [sum_nts (s := s) rfl, b.su]
  have hi : ∀ S, iV (.ok (.tup (nts s)) false) S = .st (nts s) := fun S => rfl
  have hc : (cOrB (cBin bGt (cApp fLen (cCons (cVar 0) cNil)) (cVar 1)) (cAndB (cBin bGt (cApp fLen (cCons (cVar 0) cNil)) (cD (.int 0))) (cBin bGt (cBin bIx (cVar 0) (cD (.int 0))) (cVar 2)))) [some (.tup (nts s)), some (.int (h : Int)), some (.int (w : Int)), none, none, none, none, none, none, none] [] = .ok (.bl false) false := by
    simp only [cOrB_e, cBin_e, cApp_e, cCons_e, cVar_e, gets_s, gets_z, vO_s, aB_ok, cNil_e, llB_ok, lB_ok, len_nts, rB_ok, bCmp_i, c1, decide_false, tB_ok, Bool.false_eq_true, if_false, cAndB_e, cD_e]
    cases s with
    | nil =>
      have c2 : ¬ (((([] : List Nat).length : Nat) : Int) > 0) := by simp
      simp only [c2, decide_false, Bool.false_eq_true, if_false]
    | cons x s =>
      have c2 : ((((x :: s).length : Nat) : Int) > 0) := by rw [List.length_cons]; omega
      have hx := b.wd x (List.mem_cons_self ..)
      have c3 : ¬ ((x : Int) > (w : Int)) := by omega
      have b0 : ∀ S, bIx S (.tup (nts (x :: s))) (.int 0) = .ok (.int (x : Int)) false := fun S => rfl
      simp only [c2, decide_true, if_true, b0, rB_ok, bCmp_i, c3, decide_false]
  unfold m_place_of
  rw [runF_e, if_pos (show ([D.tup (nts s), D.int (h : Int), D.int (w : Int)] : List D).length = 3 from rfl), b_place_of_e, hs]
  simp only [sSeq_e, sExpr_e, cApp_e, cCons_e, cVar_e, gets_s, gets_z, vO_s, aB_ok, cNil_e, llB_ok, lB_ok, callD_e, pureL_c, pure_tup, pure_int, pureL_n, Bool.and_true, ns, vB_ok, sB_nx, sIf_e, hc, iS_ok, Bool.false_eq_true, if_false, sSkip_e, sAsg_e, sm, setD_e, List.set_cons_succ, List.set_cons_zero, fMin2_n, al, cD_e, sFor_e, iVal_e, hi, fB_st, e, sRet_e, retD_int, fin_rt]
theorem place_no {h w : Nat} {s : List Nat} (b : Stair s) (k : h < s.length ∨ (0 < s.length ∧ w < s.headD 0)) : m_place_of [.tup (nts s), .int (h : Int), .int (w : Int)] = .ex 10 [.str (Str.ofString "box")] := by
  have ns := need_stair_nts b
  have hs : startD 10 [.tup (nts s), .int (h : Int), .int (w : Int)] = [some (.tup (nts s)), some (.int (h : Int)), some (.int (w : Int)), none, none, none, none, none, none, none] := rfl
  have hp : pureL [D.str (Str.ofString "box")] = true := rfl
  have hc : (cOrB (cBin bGt (cApp fLen (cCons (cVar 0) cNil)) (cVar 1)) (cAndB (cBin bGt (cApp fLen (cCons (cVar 0) cNil)) (cD (.int 0))) (cBin bGt (cBin bIx (cVar 0) (cD (.int 0))) (cVar 2)))) [some (.tup (nts s)), some (.int (h : Int)), some (.int (w : Int)), none, none, none, none, none, none, none] [] = .ok (.bl true) false := by
    by_cases c1 : (((s.length : Nat) : Int) > (h : Int))
    · simp only [cOrB_e, cBin_e, cApp_e, cCons_e, cVar_e, gets_s, gets_z, vO_s, aB_ok, cNil_e, llB_ok, lB_ok, len_nts, rB_ok, bCmp_i, c1, decide_true, tB_ok, if_true]
    · obtain ⟨k1, k2⟩ := k.resolve_left (by omega)
      cases s with
      | nil => simp at k1
      | cons x s =>
        have c2 : ((((x :: s).length : Nat) : Int) > 0) := by omega
        have k2 : w < x := k2
        have c3 : ((x : Int) > (w : Int)) := by omega
        have b0 : ∀ S, bIx S (.tup (nts (x :: s))) (.int 0) = .ok (.int (x : Int)) false := fun S => rfl
        simp only [cOrB_e, cBin_e, cApp_e, cCons_e, cVar_e, gets_s, gets_z, vO_s, aB_ok, cNil_e, llB_ok, lB_ok, len_nts, rB_ok, bCmp_i, c1, decide_false, tB_ok, Bool.false_eq_true, if_false, cAndB_e, cD_e, c2, decide_true, if_true, b0, c3]
  unfold m_place_of
  rw [runF_e, if_pos (show ([D.tup (nts s), D.int (h : Int), D.int (w : Int)] : List D).length = 3 from rfl), b_place_of_e, hs]
  simp only [sSeq_e, sExpr_e, cApp_e, cCons_e, cVar_e, gets_s, gets_z, vO_s, aB_ok, cNil_e, llB_ok, lB_ok, callD_e, pureL_c, pure_tup, pure_int, pureL_n, Bool.and_true, ns, vB_ok, sB_nx, sIf_e, hc, iS_ok, if_true, sRaise_e, cD_e, lsB_ok, raiseK_e, sB_ex, fin_ex, hp]
end PL

set_option maxRecDepth 2000
namespace PL
open HC PM
open PySem (Str PyData)
open PySem.W (dataLt dataLe alike)
/-! ## rows of numbers that are sorted -/
def rowsD (L : List (List Nat)) : List D := L.map fun s => .tup (nts s)
theorem rowsD_pure : ∀ L : List (List Nat), pureL (rowsD L) = true
  | [] => rfl
  | _ :: L => rowsD_pure L
theorem rowsD_len (L : List (List Nat)) : (rowsD L).length = L.length := List.length_map ..
theorem pyDs_nts : ∀ s : List Nat, pyDs true (nts s) = some (s.map fun n : Nat => PyData.int (n : Int))
  | [] => rfl
  | x :: s => by
    show (match pyD true (.int (x : Int)), pyDs true (nts s) with | some x, some xs => some (x :: xs) | _, _ => none) = _
    rw [pyDs_nts s]
    rfl
theorem pyD_row (s : List Nat) : pyD true (.tup (nts s)) = some (.tuple (s.map fun n : Nat => PyData.int (n : Int))) := by
  show (match pyDs true (nts s) with | some xs => some (PyData.tuple xs) | none => none) = _
  rw [pyDs_nts]
theorem enc_row (s : List Nat) : encD (.tup (nts s)) = .tuple (s.map fun n : Nat => PyData.int (n : Int)) := by
  unfold encD
  rw [pyD_row]
theorem ints_map (s : List Nat) : (s.map fun n : Nat => PyData.int (n : Int)) = (s.map fun n : Nat => (n : Int)).map PySem.W.Datum.toD := by
  rw [List.map_map]
  rfl
theorem listLt_ltN : ∀ a b : List Nat, PySem.W.listLt (a.map fun n : Nat => (n : Int)) (b.map fun n : Nat => (n : Int)) = ltN a b
  | [], [] => rfl
  | [], _ :: _ => rfl
  | _ :: _, [] => rfl
  | x :: a, y :: b => by
    show (if (x : Int) = (y : Int) then PySem.W.listLt (a.map fun n : Nat => (n : Int)) (b.map fun n : Nat => (n : Int)) else decide ((x : Int) < (y : Int))) = if x = y then ltN a b else decide (x < y)
    rw [listLt_ltN a b]
    by_cases e : x = y
    · rw [if_pos e, if_pos (by omega)]
    · rw [if_neg e, if_neg (by omega)]
      by_cases h : x < y
      · rw [decide_eq_true h, decide_eq_true (by omega)]
      · rw [decide_eq_false h, decide_eq_false (by omega)]
theorem dataLt_rows (a b : List Nat) : dataLt (encD (.tup (nts a))) (encD (.tup (nts b))) = ltN a b := by
  rw [enc_row, enc_row, PySem.W.dataLt_tuple, ints_map, ints_map, PySem.W.lexAll_map, listLt_ltN]
theorem leD_rows (a b : List Nat) : leD true (.tup (nts a)) (.tup (nts b)) = !ltN a b := by
  show (!dataLt (encD (.tup (nts a))) (encD (.tup (nts b)))) = _
  rw [dataLt_rows]
theorem leD_rowsU (a b : List Nat) : leD false (.tup (nts a)) (.tup (nts b)) = !ltN b a := by
  show (!dataLt (encD (.tup (nts b))) (encD (.tup (nts a)))) = _
  rw [dataLt_rows]
theorem nts_inj : ∀ {a b : List Nat}, nts a = nts b → a = b
  | [], [], _ => rfl
  | [], _ :: _, h => nomatch h
  | _ :: _, [], h => nomatch h
  | x :: a, y :: b, h => by
    have h : D.int (x : Int) :: nts a = D.int (y : Int) :: nts b := h
    injection h with h1 h2
    injection h1 with h1
    rw [nts_inj h2, show x = y by omega]
theorem alike_rows (a b : List Nat) : alike (encD (.tup (nts a))) (encD (.tup (nts b))) = true := by
  rw [enc_row, enc_row]
  simp only [alike]
  rw [ints_map, ints_map]
  exact PySem.W.alikeAll_map _ _
theorem depth_row (s : List Nat) : (encD (.tup (nts s))).depth ≤ 60 := by
  rw [enc_row]
  have : ∀ s : List Nat, PyData.depthAll (s.map fun n : Nat => PyData.int (n : Int)) = 0 := fun s => by
    induction s with
    | nil => simp [PyData.depthAll]
    | cons x s ih => rw [List.map_cons]; simp only [PyData.depthAll, PyData.depth, ih]; rfl
  simp only [PyData.depth, this]
  omega
theorem okSort_rows {L : List (List Nat)} (h : L.length ≤ 1 ∨ ∀ s ∈ L, s ≠ []) : okSort (rowsD L) = true := by
  unfold okSort
  rw [Bool.and_eq_true, Bool.and_eq_true, Bool.or_eq_true, Bool.or_eq_true]
  refine ⟨⟨?_, ?_⟩, ?_⟩
  · rw [List.all_eq_true]
    intro d hd
    obtain ⟨s, hs, rfl⟩ := List.mem_map.mp hd
    rw [Bool.and_eq_true, Bool.and_eq_true, decide_eq_true_eq]
    exact ⟨⟨by rw [pyD_row]; rfl, depth_row s⟩, by rw [enc_row]; rfl⟩
  · rw [List.all_eq_true]
    intro d hd
    obtain ⟨s, hs, rfl⟩ := List.mem_map.mp hd
    rw [List.all_eq_true]
    intro e he
    obtain ⟨t, ht, rfl⟩ := List.mem_map.mp he
    exact alike_rows s t
  · rcases h with h | h
    · exact .inr (decide_eq_true (by rw [rowsD_len]; exact h))
    · refine .inl (.inl ?_)
      rw [List.all_eq_true]
      intro d hd
      obtain ⟨s, hs, rfl⟩ := List.mem_map.mp hd
      rw [enc_row]
      cases s with
      | nil => exact absurd rfl (h [] hs)
      | cons x s => rfl
theorem srt_of {r : Bool} {A B : List D} (p : A.Perm B) (o : A.Pairwise fun a b => leD r a b = true) (anti : ∀ a b, a ∈ A → b ∈ A → leD r a b = true → leD r b a = true → a = b) : srtD r B = A := by
  have T := PySem.W.sortLe_total (PyProof.Rows.listOrd PyProof.Rows.itemOrd) r fun d : D => PySem.W.keyToks (encD d)
  have q : (srtD r B).Perm A := (List.mergeSort_perm B _).trans p.symm
  exact q.eq_of_pairwise (fun a b ha hb h1 h2 => anti a b (q.mem_iff.mp ha) hb h1 h2) (List.pairwise_mergeSort (fun a b c => T.trans a b c) (fun a b => by
    have := T.total a b
    simpa using this) B) o
theorem srtD_rows {A B : List (List Nat)} (p : A.Perm B) (o : A.Pairwise fun a b => ltN b a = true) : srtD true (rowsD B) = rowsD A := by
  refine srt_of (p.map _) (List.pairwise_map.mpr (o.imp fun {a b} h => by rw [leD_rows, ltN_asym h]; rfl)) fun a b ha hb h1 h2 => ?_
  obtain ⟨s, hs, rfl⟩ := List.mem_map.mp ha
  obtain ⟨t, ht, rfl⟩ := List.mem_map.mp hb
  rw [leD_rows, Bool.not_eq_true'] at h1 h2
  rw [ltN_tri h1 h2]
theorem srtD_rowsU {A B : List (List Nat)} (p : A.Perm B) (o : A.Pairwise fun a b => ltN a b = true) : srtD false (rowsD B) = rowsD A := by
  refine srt_of (p.map _) (List.pairwise_map.mpr (o.imp fun {a b} h => by rw [leD_rowsU, ltN_asym h]; rfl)) fun a b ha hb h1 h2 => ?_
  obtain ⟨s, hs, rfl⟩ := List.mem_map.mp ha
  obtain ⟨t, ht, rfl⟩ := List.mem_map.mp hb
  rw [leD_rowsU, Bool.not_eq_true'] at h1 h2
  rw [ltN_tri h2 h1]
end PL

set_option maxRecDepth 4000
namespace PL
open HC PM
open PySem (Str PyData)
/-! ## numbers, and what is none -/
def numD : D → Bool
  | .int i => decide (i ≥ 0)
  | _ => false
theorem is_number_is {d : D} (h : typD d) : m_is_number [d] = .ok (.bl (numD d)) false := by
  obtain ⟨t, ht⟩ := h
  cases d <;> first | rfl | exact nomatch ht
theorem nts_num {N : List Nat} : ∀ d ∈ nts N, numD d = true := fun d hd => by
  unfold nts at hd
  obtain ⟨x, _, rfl⟩ := List.mem_map.mp hd
  show decide ((x : Int) ≥ 0) = true
  exact decide_eq_true (by omega)
theorem numbers_no : ∀ (pre post : List D) (v : D) (A s : Option D), (∀ d ∈ pre, typD d ∧ numD d = true) → typD v → numD v = false →
    ∃ σ, forL (tgName 1) L__need_numbers_1 (pre ++ v :: post) [A, s] [] = .ex 1 [v] σ []
  | [], post, v, A, s, _, hv, hn => by
    have pv := typ_pure hv
    refine ⟨[A, some v], ?_⟩
    rw [List.nil_append, forL_c]
    simp only [L__need_numbers_1_e, rB_ok, rB_ex, aB_ok, aB_ex, lB_ok, lB_ex, llB_ok, llB_ex, liB_ok, lsB_ok, lsB_ex, vB_ok, vB_ex, sB_nx, sB_rt, sB_bk, sB_ct, sB_ex, tB_ok, tB_ex, iS_ok, iS_ex, fB_st, fB_dy, oS_nx, oS_ct, oS_bk, oS_rt, oS_ex, gB_s, fin_rt, fin_nx, fin_ex, vO_s, vOS_s, trO_s, oD_s, oL_s, newK_l, newK_d, gets_z, gets_s, cVar_e, cD_e, cTrue_e, cBin_e, cTru_e, cNot_e, cAnd_e, cOr_e, cIf_e, cAndB_e, cOrB_e, cNotB_e, cNil_e, cCons_e, cApp_e, iApp_e, sSkip_e, sBreak_e, sCont_e, sRetN_e, sSeq_e, sAsg_e, sNew_e, sExpr_e, sRet_e, sIf_e, sAsgT_e, sFor_e, sWhile_e, setD_e, tgName_e, tgTup_e, tB2_s, tgCons_e, tgNil_e, callD_e, callKw_e, pick_e, pureL_n, pureL_c, pure_non, pure_bl, pure_int, pure_str, pure_tup, pure_lst, pure_rol, pure_dct, pure_obj, sMethE_e, sMethA_e, sSub_e, sAug_e, augK_s, iVal_e, cComp_e, cB_st, cB_dy, coB_s, wipeD_n, wipeD_c, cTwo_e, cCutA_e, cCutH_e, cCutL_e, cCutLH_e, kInt_i, sTry_e, tryB_nx, tryB_ex, tryB_rt, sRaise_e, raiseK_e, runH_c, runH_n, sPar2_e, sPar3_e, par2K_e, par3K_e, sFrz_e, cErr_e, cChain_e, bAdd_i, bSub_i, bCmp_i, bEq_i, bNe_i, bEq_s, bNe_s, bEq_b, iAdd_i, bIs_n, bIsNot_n, bIs_b, bIsNot_b, isNon_n, isNon_b, isNon_i, isNon_t, isNon_l, truth_b, truth_n, truth_i, truth_t, locO_l, lstOf_l, lstOf_o, rdOf_r, rdOf_l, rdOf_o, rdOf_t, seqOf_t, seqOf_r, seqOf_l, seqOf_o, lO_s, tO_s, iV_t, iV_l, iV_r, iV_o, iVo_s, enI_t, enI_l, lcB_s, lS_l, pO_s, kS_s, kSub_e, retD_non, retD_bl, retD_int, retD_str, retD_tup, retD_lst, retD_rol, retD_dct, retD_obj, retD_loc, retO_l, retO_d, tgD_non, tgD_bl, tgD_int, tgD_str, tgD_tup, tgD_lst, tgD_rol, tgD_dct, bIx_t, bIx_l, bIx_r, fCut_t, fCut_l, fTuple_t, fInt_i, Bool.and_true, Bool.true_and, Bool.and_false, Bool.false_and, Bool.or_true, Bool.true_or, Bool.or_false, Bool.false_or, Bool.not_true, Bool.not_false, Bool.and_self, Bool.false_eq_true, if_true, if_false, decide_true, decide_false, reduceIte, List.set_cons_zero, List.set_cons_succ, List.length_cons, List.length_nil, List.map_cons, List.map_nil, List.nil_append, List.cons_append, pv, is_number_is hv, hn]
  | d :: pre, post, v, A, s, hp, hv, hn => by
    obtain ⟨σ, ih⟩ := numbers_no pre post v A (some d) (fun e he => hp e (List.mem_cons_of_mem _ he)) hv hn
    obtain ⟨h1, h2⟩ := hp d (List.mem_cons_self ..)
    have pd := typ_pure h1
    refine ⟨σ, ?_⟩
    rw [List.cons_append, forL_c]
    simp only [L__need_numbers_1_e, rB_ok, rB_ex, aB_ok, aB_ex, lB_ok, lB_ex, llB_ok, llB_ex, liB_ok, lsB_ok, lsB_ex, vB_ok, vB_ex, sB_nx, sB_rt, sB_bk, sB_ct, sB_ex, tB_ok, tB_ex, iS_ok, iS_ex, fB_st, fB_dy, oS_nx, oS_ct, oS_bk, oS_rt, oS_ex, gB_s, fin_rt, fin_nx, fin_ex, vO_s, vOS_s, trO_s, oD_s, oL_s, newK_l, newK_d, gets_z, gets_s, cVar_e, cD_e, cTrue_e, cBin_e, cTru_e, cNot_e, cAnd_e, cOr_e, cIf_e, cAndB_e, cOrB_e, cNotB_e, cNil_e, cCons_e, cApp_e, iApp_e, sSkip_e, sBreak_e, sCont_e, sRetN_e, sSeq_e, sAsg_e, sNew_e, sExpr_e, sRet_e, sIf_e, sAsgT_e, sFor_e, sWhile_e, setD_e, tgName_e, tgTup_e, tB2_s, tgCons_e, tgNil_e, callD_e, callKw_e, pick_e, pureL_n, pureL_c, pure_non, pure_bl, pure_int, pure_str, pure_tup, pure_lst, pure_rol, pure_dct, pure_obj, sMethE_e, sMethA_e, sSub_e, sAug_e, augK_s, iVal_e, cComp_e, cB_st, cB_dy, coB_s, wipeD_n, wipeD_c, cTwo_e, cCutA_e, cCutH_e, cCutL_e, cCutLH_e, kInt_i, sTry_e, tryB_nx, tryB_ex, tryB_rt, sRaise_e, raiseK_e, runH_c, runH_n, sPar2_e, sPar3_e, par2K_e, par3K_e, sFrz_e, cErr_e, cChain_e, bAdd_i, bSub_i, bCmp_i, bEq_i, bNe_i, bEq_s, bNe_s, bEq_b, iAdd_i, bIs_n, bIsNot_n, bIs_b, bIsNot_b, isNon_n, isNon_b, isNon_i, isNon_t, isNon_l, truth_b, truth_n, truth_i, truth_t, locO_l, lstOf_l, lstOf_o, rdOf_r, rdOf_l, rdOf_o, rdOf_t, seqOf_t, seqOf_r, seqOf_l, seqOf_o, lO_s, tO_s, iV_t, iV_l, iV_r, iV_o, iVo_s, enI_t, enI_l, lcB_s, lS_l, pO_s, kS_s, kSub_e, retD_non, retD_bl, retD_int, retD_str, retD_tup, retD_lst, retD_rol, retD_dct, retD_obj, retD_loc, retO_l, retO_d, tgD_non, tgD_bl, tgD_int, tgD_str, tgD_tup, tgD_lst, tgD_rol, tgD_dct, bIx_t, bIx_l, bIx_r, fCut_t, fCut_l, fTuple_t, fInt_i, Bool.and_true, Bool.true_and, Bool.and_false, Bool.false_and, Bool.or_true, Bool.true_or, Bool.or_false, Bool.false_or, Bool.not_true, Bool.not_false, Bool.and_self, Bool.false_eq_true, if_true, if_false, decide_true, decide_false, reduceIte, List.set_cons_zero, List.set_cons_succ, List.length_cons, List.length_nil, List.map_cons, List.map_nil, List.nil_append, List.cons_append, pd, is_number_is h1, h2]
    exact ih
theorem need_numbers_no {pre post : List D} {v : D} (hp : ∀ d ∈ pre, typD d ∧ numD d = true) (hv : typD v) (hn : numD v = false) : m__need_numbers [.tup (pre ++ v :: post)] = .ex 1 [v] := by
  obtain ⟨σ, e⟩ := numbers_no pre post v (some (.tup (pre ++ v :: post))) none hp hv hn
  have pv := typ_pure hv
  simp only [r__need_numbers, b__need_numbers_e, rB_ok, rB_ex, aB_ok, aB_ex, lB_ok, lB_ex, llB_ok, llB_ex, liB_ok, lsB_ok, lsB_ex, vB_ok, vB_ex, sB_nx, sB_rt, sB_bk, sB_ct, sB_ex, tB_ok, tB_ex, iS_ok, iS_ex, fB_st, fB_dy, oS_nx, oS_ct, oS_bk, oS_rt, oS_ex, gB_s, fin_rt, fin_nx, fin_ex, vO_s, vOS_s, trO_s, oD_s, oL_s, newK_l, newK_d, gets_z, gets_s, cVar_e, cD_e, cTrue_e, cBin_e, cTru_e, cNot_e, cAnd_e, cOr_e, cIf_e, cAndB_e, cOrB_e, cNotB_e, cNil_e, cCons_e, cApp_e, iApp_e, sSkip_e, sBreak_e, sCont_e, sRetN_e, sSeq_e, sAsg_e, sNew_e, sExpr_e, sRet_e, sIf_e, sAsgT_e, sFor_e, sWhile_e, setD_e, tgName_e, tgTup_e, tB2_s, tgCons_e, tgNil_e, callD_e, callKw_e, pick_e, pureL_n, pureL_c, pure_non, pure_bl, pure_int, pure_str, pure_tup, pure_lst, pure_rol, pure_dct, pure_obj, sMethE_e, sMethA_e, sSub_e, sAug_e, augK_s, iVal_e, cComp_e, cB_st, cB_dy, coB_s, wipeD_n, wipeD_c, cTwo_e, cCutA_e, cCutH_e, cCutL_e, cCutLH_e, kInt_i, sTry_e, tryB_nx, tryB_ex, tryB_rt, sRaise_e, raiseK_e, runH_c, runH_n, sPar2_e, sPar3_e, par2K_e, par3K_e, sFrz_e, cErr_e, cChain_e, bAdd_i, bSub_i, bCmp_i, bEq_i, bNe_i, bEq_s, bNe_s, bEq_b, iAdd_i, bIs_n, bIsNot_n, bIs_b, bIsNot_b, isNon_n, isNon_b, isNon_i, isNon_t, isNon_l, truth_b, truth_n, truth_i, truth_t, locO_l, lstOf_l, lstOf_o, rdOf_r, rdOf_l, rdOf_o, rdOf_t, seqOf_t, seqOf_r, seqOf_l, seqOf_o, lO_s, tO_s, iV_t, iV_l, iV_r, iV_o, iVo_s, enI_t, enI_l, lcB_s, lS_l, pO_s, kS_s, kSub_e, retD_non, retD_bl, retD_int, retD_str, retD_tup, retD_lst, retD_rol, retD_dct, retD_obj, retD_loc, retO_l, retO_d, tgD_non, tgD_bl, tgD_int, tgD_str, tgD_tup, tgD_lst, tgD_rol, tgD_dct, bIx_t, bIx_l, bIx_r, fCut_t, fCut_l, fTuple_t, fInt_i, Bool.and_true, Bool.true_and, Bool.and_false, Bool.false_and, Bool.or_true, Bool.true_or, Bool.or_false, Bool.false_or, Bool.not_true, Bool.not_false, Bool.and_self, Bool.false_eq_true, if_true, if_false, decide_true, decide_false, reduceIte, List.set_cons_zero, List.set_cons_succ, List.length_cons, List.length_nil, List.map_cons, List.map_nil, List.nil_append, List.cons_append, e, pv]
theorem count_no {a b c v : D} (pa : a.pure = true) (pb : b.pure = true) (pc : c.pure = true) (pv : v.pure = true) (h : m__need_numbers [.tup [a, b, c]] = .ex 1 [v]) : m_count_stairs [a, b, c] = .ex 1 [v] := by
  have l3 : ((3 : Nat) ≤ lim) = True := by simp [lim]
  simp only [r_count_stairs, b_count_stairs_e, rB_ok, rB_ex, aB_ok, aB_ex, lB_ok, lB_ex, llB_ok, llB_ex, liB_ok, lsB_ok, lsB_ex, vB_ok, vB_ex, sB_nx, sB_rt, sB_bk, sB_ct, sB_ex, tB_ok, tB_ex, iS_ok, iS_ex, fB_st, fB_dy, oS_nx, oS_ct, oS_bk, oS_rt, oS_ex, gB_s, fin_rt, fin_nx, fin_ex, vO_s, vOS_s, trO_s, oD_s, oL_s, newK_l, newK_d, gets_z, gets_s, cVar_e, cD_e, cTrue_e, cBin_e, cTru_e, cNot_e, cAnd_e, cOr_e, cIf_e, cAndB_e, cOrB_e, cNotB_e, cNil_e, cCons_e, cApp_e, iApp_e, sSkip_e, sBreak_e, sCont_e, sRetN_e, sSeq_e, sAsg_e, sNew_e, sExpr_e, sRet_e, sIf_e, sAsgT_e, sFor_e, sWhile_e, setD_e, tgName_e, tgTup_e, tB2_s, tgCons_e, tgNil_e, callD_e, callKw_e, pick_e, pureL_n, pureL_c, pure_non, pure_bl, pure_int, pure_str, pure_tup, pure_lst, pure_rol, pure_dct, pure_obj, sMethE_e, sMethA_e, sSub_e, sAug_e, augK_s, iVal_e, cComp_e, cB_st, cB_dy, coB_s, wipeD_n, wipeD_c, cTwo_e, cCutA_e, cCutH_e, cCutL_e, cCutLH_e, kInt_i, sTry_e, tryB_nx, tryB_ex, tryB_rt, sRaise_e, raiseK_e, runH_c, runH_n, sPar2_e, sPar3_e, par2K_e, par3K_e, sFrz_e, cErr_e, cChain_e, bAdd_i, bSub_i, bCmp_i, bEq_i, bNe_i, bEq_s, bNe_s, bEq_b, iAdd_i, bIs_n, bIsNot_n, bIs_b, bIsNot_b, isNon_n, isNon_b, isNon_i, isNon_t, isNon_l, truth_b, truth_n, truth_i, truth_t, locO_l, lstOf_l, lstOf_o, rdOf_r, rdOf_l, rdOf_o, rdOf_t, seqOf_t, seqOf_r, seqOf_l, seqOf_o, lO_s, tO_s, iV_t, iV_l, iV_r, iV_o, iVo_s, enI_t, enI_l, lcB_s, lS_l, pO_s, kS_s, kSub_e, retD_non, retD_bl, retD_int, retD_str, retD_tup, retD_lst, retD_rol, retD_dct, retD_obj, retD_loc, retO_l, retO_d, tgD_non, tgD_bl, tgD_int, tgD_str, tgD_tup, tgD_lst, tgD_rol, tgD_dct, bIx_t, bIx_l, bIx_r, fCut_t, fCut_l, fTuple_t, fInt_i, Bool.and_true, Bool.true_and, Bool.and_false, Bool.false_and, Bool.or_true, Bool.true_or, Bool.or_false, Bool.false_or, Bool.not_true, Bool.not_false, Bool.and_self, Bool.false_eq_true, if_true, if_false, decide_true, decide_false, reduceIte, List.set_cons_zero, List.set_cons_succ, List.length_cons, List.length_nil, List.map_cons, List.map_nil, List.nil_append, List.cons_append, pa, pb, pc, fTup_e, Nat.reduceAdd, l3, h, pv]
theorem at_no {a b c d v : D} (pa : a.pure = true) (pb : b.pure = true) (pc : c.pure = true) (pd : d.pure = true) (pv : v.pure = true) (h : m__need_numbers [.tup [a, b, c, d]] = .ex 1 [v]) : m_stair_at [a, b, c, d] = .ex 1 [v] := by
  have l4 : ((4 : Nat) ≤ lim) = True := by simp [lim]
  simp only [r_stair_at, b_stair_at_e, rB_ok, rB_ex, aB_ok, aB_ex, lB_ok, lB_ex, llB_ok, llB_ex, liB_ok, lsB_ok, lsB_ex, vB_ok, vB_ex, sB_nx, sB_rt, sB_bk, sB_ct, sB_ex, tB_ok, tB_ex, iS_ok, iS_ex, fB_st, fB_dy, oS_nx, oS_ct, oS_bk, oS_rt, oS_ex, gB_s, fin_rt, fin_nx, fin_ex, vO_s, vOS_s, trO_s, oD_s, oL_s, newK_l, newK_d, gets_z, gets_s, cVar_e, cD_e, cTrue_e, cBin_e, cTru_e, cNot_e, cAnd_e, cOr_e, cIf_e, cAndB_e, cOrB_e, cNotB_e, cNil_e, cCons_e, cApp_e, iApp_e, sSkip_e, sBreak_e, sCont_e, sRetN_e, sSeq_e, sAsg_e, sNew_e, sExpr_e, sRet_e, sIf_e, sAsgT_e, sFor_e, sWhile_e, setD_e, tgName_e, tgTup_e, tB2_s, tgCons_e, tgNil_e, callD_e, callKw_e, pick_e, pureL_n, pureL_c, pure_non, pure_bl, pure_int, pure_str, pure_tup, pure_lst, pure_rol, pure_dct, pure_obj, sMethE_e, sMethA_e, sSub_e, sAug_e, augK_s, iVal_e, cComp_e, cB_st, cB_dy, coB_s, wipeD_n, wipeD_c, cTwo_e, cCutA_e, cCutH_e, cCutL_e, cCutLH_e, kInt_i, sTry_e, tryB_nx, tryB_ex, tryB_rt, sRaise_e, raiseK_e, runH_c, runH_n, sPar2_e, sPar3_e, par2K_e, par3K_e, sFrz_e, cErr_e, cChain_e, bAdd_i, bSub_i, bCmp_i, bEq_i, bNe_i, bEq_s, bNe_s, bEq_b, iAdd_i, bIs_n, bIsNot_n, bIs_b, bIsNot_b, isNon_n, isNon_b, isNon_i, isNon_t, isNon_l, truth_b, truth_n, truth_i, truth_t, locO_l, lstOf_l, lstOf_o, rdOf_r, rdOf_l, rdOf_o, rdOf_t, seqOf_t, seqOf_r, seqOf_l, seqOf_o, lO_s, tO_s, iV_t, iV_l, iV_r, iV_o, iVo_s, enI_t, enI_l, lcB_s, lS_l, pO_s, kS_s, kSub_e, retD_non, retD_bl, retD_int, retD_str, retD_tup, retD_lst, retD_rol, retD_dct, retD_obj, retD_loc, retO_l, retO_d, tgD_non, tgD_bl, tgD_int, tgD_str, tgD_tup, tgD_lst, tgD_rol, tgD_dct, bIx_t, bIx_l, bIx_r, fCut_t, fCut_l, fTuple_t, fInt_i, Bool.and_true, Bool.true_and, Bool.and_false, Bool.false_and, Bool.or_true, Bool.true_or, Bool.or_false, Bool.false_or, Bool.not_true, Bool.not_false, Bool.and_self, Bool.false_eq_true, if_true, if_false, decide_true, decide_false, reduceIte, List.set_cons_zero, List.set_cons_succ, List.length_cons, List.length_nil, List.map_cons, List.map_nil, List.nil_append, List.cons_append, pa, pb, pc, pd, fTup_e, Nat.reduceAdd, l4, h, pv]
theorem place_bad {d x y : D} (h : Bad d) (px : x.pure = true) (py : y.pure = true) : m_place_of [d, x, y] = .ex 2 [d] := by
  simp only [r_place_of, b_place_of_e, rB_ok, rB_ex, aB_ok, aB_ex, lB_ok, lB_ex, llB_ok, llB_ex, liB_ok, lsB_ok, lsB_ex, vB_ok, vB_ex, sB_nx, sB_rt, sB_bk, sB_ct, sB_ex, tB_ok, tB_ex, iS_ok, iS_ex, fB_st, fB_dy, oS_nx, oS_ct, oS_bk, oS_rt, oS_ex, gB_s, fin_rt, fin_nx, fin_ex, vO_s, vOS_s, trO_s, oD_s, oL_s, newK_l, newK_d, gets_z, gets_s, cVar_e, cD_e, cTrue_e, cBin_e, cTru_e, cNot_e, cAnd_e, cOr_e, cIf_e, cAndB_e, cOrB_e, cNotB_e, cNil_e, cCons_e, cApp_e, iApp_e, sSkip_e, sBreak_e, sCont_e, sRetN_e, sSeq_e, sAsg_e, sNew_e, sExpr_e, sRet_e, sIf_e, sAsgT_e, sFor_e, sWhile_e, setD_e, tgName_e, tgTup_e, tB2_s, tgCons_e, tgNil_e, callD_e, callKw_e, pick_e, pureL_n, pureL_c, pure_non, pure_bl, pure_int, pure_str, pure_tup, pure_lst, pure_rol, pure_dct, pure_obj, sMethE_e, sMethA_e, sSub_e, sAug_e, augK_s, iVal_e, cComp_e, cB_st, cB_dy, coB_s, wipeD_n, wipeD_c, cTwo_e, cCutA_e, cCutH_e, cCutL_e, cCutLH_e, kInt_i, sTry_e, tryB_nx, tryB_ex, tryB_rt, sRaise_e, raiseK_e, runH_c, runH_n, sPar2_e, sPar3_e, par2K_e, par3K_e, sFrz_e, cErr_e, cChain_e, bAdd_i, bSub_i, bCmp_i, bEq_i, bNe_i, bEq_s, bNe_s, bEq_b, iAdd_i, bIs_n, bIsNot_n, bIs_b, bIsNot_b, isNon_n, isNon_b, isNon_i, isNon_t, isNon_l, truth_b, truth_n, truth_i, truth_t, locO_l, lstOf_l, lstOf_o, rdOf_r, rdOf_l, rdOf_o, rdOf_t, seqOf_t, seqOf_r, seqOf_l, seqOf_o, lO_s, tO_s, iV_t, iV_l, iV_r, iV_o, iVo_s, enI_t, enI_l, lcB_s, lS_l, pO_s, kS_s, kSub_e, retD_non, retD_bl, retD_int, retD_str, retD_tup, retD_lst, retD_rol, retD_dct, retD_obj, retD_loc, retO_l, retO_d, tgD_non, tgD_bl, tgD_int, tgD_str, tgD_tup, tgD_lst, tgD_rol, tgD_dct, bIx_t, bIx_l, bIx_r, fCut_t, fCut_l, fTuple_t, fInt_i, Bool.and_true, Bool.true_and, Bool.and_false, Bool.false_and, Bool.or_true, Bool.true_or, Bool.or_false, Bool.false_or, Bool.not_true, Bool.not_false, Bool.and_self, Bool.false_eq_true, if_true, if_false, decide_true, decide_false, reduceIte, List.set_cons_zero, List.set_cons_succ, List.length_cons, List.length_nil, List.map_cons, List.map_nil, List.nil_append, List.cons_append, h.pu, px, py, need_stair_no h]
end PL

set_option maxRecDepth 100000
namespace K09
open PySem HC PL
def L__law_all_in_1 : SC := (sMethE mAppend (cVar 6) (cCons (cApp fTup (cCons (cBin bAdd (cVar 7) (cApp fTup (cCons (cVar 10) cNil))) (cCons (cBin bSub (cVar 8) (cVar 10)) cNil))) cNil))
theorem L__law_all_in_1_e {σ : Sl} {S : List SO} : L__law_all_in_1 σ S = (sMethE mAppend (cVar 6) (cCons (cApp fTup (cCons (cBin bAdd (cVar 7) (cApp fTup (cCons (cVar 10) cNil))) (cCons (cBin bSub (cVar 8) (cVar 10)) cNil))) cNil)) σ S := id rfl
def L__law_all_in_2 : SC := (sIf (cBin bEq (cVar 8) (cD (.int 0))) (sMethE mAppend (cVar 3) (cCons (cVar 7) cNil)) (sIf (cBin bLt (cApp fLen (cCons (cVar 7) cNil)) (cVar 1)) (sSeq (sAsg 9 (cApp fMin2 (cCons (cVar 8) (cCons (cVar 2) cNil))))
    (sSeq (sIf (cBin bGt (cApp fLen (cCons (cVar 7) cNil)) (cD (.int 0))) (sAsg 9 (cApp fMin2 (cCons (cVar 8) (cCons (cBin bIx (cVar 7) (cNeg (cD (.int 1)))) cNil)))) sSkip)
    (sFor (iApp rg2 (cCons (cD (.int 1)) (cCons (cBin bAdd (cVar 9) (cD (.int 1))) cNil))) (tgName 10) L__law_all_in_1))) sSkip))
theorem L__law_all_in_2_e {σ : Sl} {S : List SO} : L__law_all_in_2 σ S = (sIf (cBin bEq (cVar 8) (cD (.int 0))) (sMethE mAppend (cVar 3) (cCons (cVar 7) cNil)) (sIf (cBin bLt (cApp fLen (cCons (cVar 7) cNil)) (cVar 1)) (sSeq (sAsg 9 (cApp fMin2 (cCons (cVar 8) (cCons (cVar 2) cNil))))
    (sSeq (sIf (cBin bGt (cApp fLen (cCons (cVar 7) cNil)) (cD (.int 0))) (sAsg 9 (cApp fMin2 (cCons (cVar 8) (cCons (cBin bIx (cVar 7) (cNeg (cD (.int 1)))) cNil)))) sSkip)
    (sFor (iApp rg2 (cCons (cD (.int 1)) (cCons (cBin bAdd (cVar 9) (cD (.int 1))) cNil))) (tgName 10) L__law_all_in_1))) sSkip)) σ S := id rfl
def L__law_all_in_3 : SC := (sFrz (sSeq (sNew 6 (cApp fLst cNil))
    (sSeq (sFor (iVal (cVar 4)) (tgTup 2 (tgCons (tgName 7) (tgCons (tgName 8) tgNil))) L__law_all_in_2)
    (sAsg 4 (cVar 6)))))
theorem L__law_all_in_3_e {σ : Sl} {S : List SO} : L__law_all_in_3 σ S = (sFrz (sSeq (sNew 6 (cApp fLst cNil))
    (sSeq (sFor (iVal (cVar 4)) (tgTup 2 (tgCons (tgName 7) (tgCons (tgName 8) tgNil))) L__law_all_in_2)
    (sAsg 4 (cVar 6))))) σ S := id rfl
def b__law_all_in : SC := (sSeq (sNew 3 (cApp fLst cNil))
    (sSeq (sAsg 4 (cApp fLst (cCons (cApp fTup (cCons (cApp fTup cNil) (cCons (cVar 0) cNil))) cNil)))
    (sSeq (sFor (iApp rg1 (cCons (cBin bAdd (cVar 0) (cD (.int 1))) cNil)) (tgName 5) L__law_all_in_3)
    (sRet (cApp (fSortedD true) (cCons (cVar 3) cNil))))))
theorem b__law_all_in_e {σ : Sl} {S : List SO} : b__law_all_in σ S = (sSeq (sNew 3 (cApp fLst cNil))
    (sSeq (sAsg 4 (cApp fLst (cCons (cApp fTup (cCons (cApp fTup cNil) (cCons (cVar 0) cNil))) cNil)))
    (sSeq (sFor (iApp rg1 (cCons (cBin bAdd (cVar 0) (cD (.int 1))) cNil)) (tgName 5) L__law_all_in_3)
    (sRet (cApp (fSortedD true) (cCons (cVar 3) cNil)))))) σ S := id rfl
def m__law_all_in : FnS := runF 3 11 b__law_all_in
theorem r__law_all_in {a0 a1 a2 : D} : m__law_all_in [a0, a1, a2] = fin (b__law_all_in [some a0, some a1, some a2, none, none, none, none, none, none, none, none] []) := id rfl
def I__law_refused_1 : Nat → Option Bool := (fun c => match c with | 1 => some true | 2 => some true | 10 => some true | _ => none)
def A__law_refused_1 : Nat → Option Nat := (fun c => match c with | 1 => some 0 | 2 => some 0 | _ => none)
def I__law_refused_2 : Nat → Option Bool := (fun c => match c with | 1 => some true | 2 => some false | 10 => some false | _ => none)
def H__law_refused_1 : Nat → List D → SC := (fun c as => (sRet (cApp fTup (cCons (cD (.str (Str.ofString "number"))) (cCons (cApp fRepr (cCons (cErr 1 (atR A__law_refused_1 c as)) cNil)) (cCons (cErr 1 (isR I__law_refused_1 c)) cNil))))))
theorem H__law_refused_1_e {c : Nat} {as : List D} {σ : Sl} {S : List SO} : H__law_refused_1 c as σ S = (fun c as => (sRet (cApp fTup (cCons (cD (.str (Str.ofString "number"))) (cCons (cApp fRepr (cCons (cErr 1 (atR A__law_refused_1 c as)) cNil)) (cCons (cErr 1 (isR I__law_refused_1 c)) cNil)))))) c as σ S := id rfl
def A__law_refused_2 : Nat → Option Nat := (fun c => match c with | 10 => some 0 | _ => none)
def I__law_refused_3 : Nat → Option Bool := (fun c => match c with | 1 => some false | 2 => some false | 10 => some true | _ => none)
def H__law_refused_2 : Nat → List D → SC := (fun c as => (sRet (cApp fTup (cCons (cD (.str (Str.ofString "undefined"))) (cCons (cApp fRepr (cCons (cErr 1 (atR A__law_refused_2 c as)) cNil)) (cCons (cErr 1 (isR I__law_refused_1 c)) cNil))))))
theorem H__law_refused_2_e {c : Nat} {as : List D} {σ : Sl} {S : List SO} : H__law_refused_2 c as σ S = (fun c as => (sRet (cApp fTup (cCons (cD (.str (Str.ofString "undefined"))) (cCons (cApp fRepr (cCons (cErr 1 (atR A__law_refused_2 c as)) cNil)) (cCons (cErr 1 (isR I__law_refused_1 c)) cNil)))))) c as σ S := id rfl
def B__law_refused_1 : SC := (sIf (cBin bEq (cApp fLen (cCons (cVar 0) cNil)) (cD (.int 3))) (sExpr (cApp (callD m_count_stairs) (cCons (cBin bIx (cVar 0) (cD (.int 0))) (cCons (cBin bIx (cVar 0) (cD (.int 1))) (cCons (cBin bIx (cVar 0) (cD (.int 2))) cNil))))) (sExpr (cApp (callKw [3, 2, 1, 0] 4 m_stair_at) (cCons (cBin bIx (cVar 0) (cD (.int 3))) (cCons (cBin bIx (cVar 0) (cD (.int 2))) (cCons (cBin bIx (cVar 0) (cD (.int 1))) (cCons (cBin bIx (cVar 0) (cD (.int 0))) cNil)))))))
theorem B__law_refused_1_e {σ : Sl} {S : List SO} : B__law_refused_1 σ S = (sIf (cBin bEq (cApp fLen (cCons (cVar 0) cNil)) (cD (.int 3))) (sExpr (cApp (callD m_count_stairs) (cCons (cBin bIx (cVar 0) (cD (.int 0))) (cCons (cBin bIx (cVar 0) (cD (.int 1))) (cCons (cBin bIx (cVar 0) (cD (.int 2))) cNil))))) (sExpr (cApp (callKw [3, 2, 1, 0] 4 m_stair_at) (cCons (cBin bIx (cVar 0) (cD (.int 3))) (cCons (cBin bIx (cVar 0) (cD (.int 2))) (cCons (cBin bIx (cVar 0) (cD (.int 1))) (cCons (cBin bIx (cVar 0) (cD (.int 0))) cNil))))))) σ S := id rfl
def b__law_refused : SC := (sSeq (sTry 1 B__law_refused_1 [(I__law_refused_2, H__law_refused_1), (I__law_refused_3, H__law_refused_2)])
    (sRet (cApp fTup (cCons (cD (.str (Str.ofString "let"))) cNil))))
theorem b__law_refused_e {σ : Sl} {S : List SO} : b__law_refused σ S = (sSeq (sTry 1 B__law_refused_1 [(I__law_refused_2, H__law_refused_1), (I__law_refused_3, H__law_refused_2)])
    (sRet (cApp fTup (cCons (cD (.str (Str.ofString "let"))) cNil)))) σ S := id rfl
def m__law_refused : FnS := runF 1 2 b__law_refused
theorem r__law_refused {a0 : D} : m__law_refused [a0] = fin (b__law_refused [some a0, none] []) := id rfl
def I__law_refused_place_1 : Nat → Option Bool := (fun c => match c with | 1 => some true | 2 => some true | 10 => some true | _ => none)
def A__law_refused_place_1 : Nat → Option Nat := (fun c => match c with | 1 => some 0 | 2 => some 0 | _ => none)
def I__law_refused_place_2 : Nat → Option Bool := (fun c => match c with | 1 => some false | 2 => some true | 10 => some false | _ => none)
def H__law_refused_place_1 : Nat → List D → SC := (fun c as => (sRet (cApp fTup (cCons (cD (.str (Str.ofString "stair"))) (cCons (cApp fRepr (cCons (cErr 3 (atR A__law_refused_place_1 c as)) cNil)) (cCons (cErr 3 (isR I__law_refused_place_1 c)) cNil))))))
theorem H__law_refused_place_1_e {c : Nat} {as : List D} {σ : Sl} {S : List SO} : H__law_refused_place_1 c as σ S = (fun c as => (sRet (cApp fTup (cCons (cD (.str (Str.ofString "stair"))) (cCons (cApp fRepr (cCons (cErr 3 (atR A__law_refused_place_1 c as)) cNil)) (cCons (cErr 3 (isR I__law_refused_place_1 c)) cNil)))))) c as σ S := id rfl
def A__law_refused_place_2 : Nat → Option Nat := (fun c => match c with | 10 => some 0 | _ => none)
def I__law_refused_place_3 : Nat → Option Bool := (fun c => match c with | 1 => some false | 2 => some false | 10 => some true | _ => none)
def H__law_refused_place_2 : Nat → List D → SC := (fun c as => (sRet (cApp fTup (cCons (cD (.str (Str.ofString "undefined"))) (cCons (cApp fRepr (cCons (cErr 3 (atR A__law_refused_place_2 c as)) cNil)) (cCons (cErr 3 (isR I__law_refused_place_1 c)) cNil))))))
theorem H__law_refused_place_2_e {c : Nat} {as : List D} {σ : Sl} {S : List SO} : H__law_refused_place_2 c as σ S = (fun c as => (sRet (cApp fTup (cCons (cD (.str (Str.ofString "undefined"))) (cCons (cApp fRepr (cCons (cErr 3 (atR A__law_refused_place_2 c as)) cNil)) (cCons (cErr 3 (isR I__law_refused_place_1 c)) cNil)))))) c as σ S := id rfl
def B__law_refused_place_1 : SC := (sExpr (cApp (callD m_place_of) (cCons (cVar 0) (cCons (cVar 1) (cCons (cVar 2) cNil)))))
theorem B__law_refused_place_1_e {σ : Sl} {S : List SO} : B__law_refused_place_1 σ S = (sExpr (cApp (callD m_place_of) (cCons (cVar 0) (cCons (cVar 1) (cCons (cVar 2) cNil))))) σ S := id rfl
def b__law_refused_place : SC := (sSeq (sTry 3 B__law_refused_place_1 [(I__law_refused_place_2, H__law_refused_place_1), (I__law_refused_place_3, H__law_refused_place_2)])
    (sRet (cApp fTup (cCons (cD (.str (Str.ofString "let"))) cNil))))
theorem b__law_refused_place_e {σ : Sl} {S : List SO} : b__law_refused_place σ S = (sSeq (sTry 3 B__law_refused_place_1 [(I__law_refused_place_2, H__law_refused_place_1), (I__law_refused_place_3, H__law_refused_place_2)])
    (sRet (cApp fTup (cCons (cD (.str (Str.ofString "let"))) cNil)))) σ S := id rfl
def m__law_refused_place : FnS := runF 3 4 b__law_refused_place
theorem r__law_refused_place {a0 a1 a2 : D} : m__law_refused_place [a0, a1, a2] = fin (b__law_refused_place [some a0, some a1, some a2, none] []) := id rfl
def T__law_spoilt_1 : CE := (cBin bEq (cBin bMod (cBin bFdiv (cBin bFdiv (cVar 1) (cD (.int 4))) (cBin bIx (cApp fLst (cCons (cD (.int 1)) (cCons (cD (.int 2)) (cCons (cD (.int 4)) (cCons (cD (.int 8)) cNil))))) (cVar 5))) (cD (.int 2))) (cD (.int 1)))
theorem T__law_spoilt_1_e {σ : Sl} {S : List SO} : T__law_spoilt_1 σ S = (cBin bEq (cBin bMod (cBin bFdiv (cBin bFdiv (cVar 1) (cD (.int 4))) (cBin bIx (cApp fLst (cCons (cD (.int 1)) (cCons (cD (.int 2)) (cCons (cD (.int 4)) (cCons (cD (.int 8)) cNil))))) (cVar 5))) (cD (.int 2))) (cD (.int 1))) σ S := id rfl
def L__law_spoilt_1 : SC := (sSub (cBin bIx (cVar 2) (cApp (callD m__law_draw) (cCons (cVar 1) (cCons (cVar 5) (cCons (cD (.int 8)) cNil))))) (cVar 3) (cVar 5))
theorem L__law_spoilt_1_e {σ : Sl} {S : List SO} : L__law_spoilt_1 σ S = (sSub (cBin bIx (cVar 2) (cApp (callD m__law_draw) (cCons (cVar 1) (cCons (cVar 5) (cCons (cD (.int 8)) cNil))))) (cVar 3) (cVar 5)) σ S := id rfl
def b__law_spoilt : SC := (sSeq (sAsg 2 (cApp fLst (cCons (cD (.bl true)) (cCons (cD (.bl false)) (cCons (cNeg (cD (.int 1))) (cCons (cD .non) (cCons (cD (.str (Str.ofString "3"))) (cCons (cApp fTup (cCons (cD (.int 2)) cNil)) (cCons (cApp fLst (cCons (cD (.int 1)) cNil)) (cCons (cBin bSub (cNeg (cD (.int 1))) (cBin bMod (cBin bFdiv (cVar 1) (cD (.int 512))) (cBin bPow (cD (.int 10)) (cD (.int 30))))) cNil))))))))))
    (sSeq (sFz (sSeq (sSeq (sSeq (sNew 3 (cApp fList (cCons (cVar 0) cNil))) (sAsg 4 (cComp (iApp rg1 (cCons (cApp fLen (cCons (cVar 3) cNil)) cNil)) (tgName 5) [5] T__law_spoilt_1 (cVar 5)))) (sIf (cBin bEq (cApp fLen (cCons (cVar 4) cNil)) (cD (.int 0))) (sAsg 4 (cApp fLst (cCons (cBin bMod (cVar 1) (cApp fLen (cCons (cVar 3) cNil))) cNil))) sSkip)) (sFor (iVal (cVar 4)) (tgName 5) L__law_spoilt_1)))
    (sRet (cApp fTup (cCons (cVar 3) (cCons (cBin bIx (cVar 3) (cBin bIx (cVar 4) (cD (.int 0)))) cNil))))))
theorem b__law_spoilt_e {σ : Sl} {S : List SO} : b__law_spoilt σ S = (sSeq (sAsg 2 (cApp fLst (cCons (cD (.bl true)) (cCons (cD (.bl false)) (cCons (cNeg (cD (.int 1))) (cCons (cD .non) (cCons (cD (.str (Str.ofString "3"))) (cCons (cApp fTup (cCons (cD (.int 2)) cNil)) (cCons (cApp fLst (cCons (cD (.int 1)) cNil)) (cCons (cBin bSub (cNeg (cD (.int 1))) (cBin bMod (cBin bFdiv (cVar 1) (cD (.int 512))) (cBin bPow (cD (.int 10)) (cD (.int 30))))) cNil))))))))))
    (sSeq (sFz (sSeq (sSeq (sSeq (sNew 3 (cApp fList (cCons (cVar 0) cNil))) (sAsg 4 (cComp (iApp rg1 (cCons (cApp fLen (cCons (cVar 3) cNil)) cNil)) (tgName 5) [5] T__law_spoilt_1 (cVar 5)))) (sIf (cBin bEq (cApp fLen (cCons (cVar 4) cNil)) (cD (.int 0))) (sAsg 4 (cApp fLst (cCons (cBin bMod (cVar 1) (cApp fLen (cCons (cVar 3) cNil))) cNil))) sSkip)) (sFor (iVal (cVar 4)) (tgName 5) L__law_spoilt_1)))
    (sRet (cApp fTup (cCons (cVar 3) (cCons (cBin bIx (cVar 3) (cBin bIx (cVar 4) (cD (.int 0)))) cNil)))))) σ S := id rfl
def m__law_spoilt : FnS := runF 2 6 b__law_spoilt
theorem r__law_spoilt {a0 a1 : D} : m__law_spoilt [a0, a1] = fin (b__law_spoilt [some a0, some a1, none, none, none, none] []) := id rfl
def L_law_1 : SC := (sSeq (sIf (cNotB (cTru (cApp (callD m__law_is_row) (cCons (cApp (callD m_stair_at) (cCons (cVar 1) (cCons (cVar 2) (cCons (cVar 3) (cCons (cVar 6) cNil))))) (cCons (cBin bIx (cVar 4) (cVar 6)) cNil))))) (sRet (cD (.bl false))) sSkip)
    (sIf (cNotB (cTru (cApp (callD m__law_is_number) (cCons (cApp (callD m_place_of) (cCons (cBin bIx (cVar 4) (cVar 6)) (cCons (cVar 2) (cCons (cVar 3) cNil)))) (cCons (cVar 6) cNil))))) (sRet (cD (.bl false))) sSkip))
theorem L_law_1_e {σ : Sl} {S : List SO} : L_law_1 σ S = (sSeq (sIf (cNotB (cTru (cApp (callD m__law_is_row) (cCons (cApp (callD m_stair_at) (cCons (cVar 1) (cCons (cVar 2) (cCons (cVar 3) (cCons (cVar 6) cNil))))) (cCons (cBin bIx (cVar 4) (cVar 6)) cNil))))) (sRet (cD (.bl false))) sSkip)
    (sIf (cNotB (cTru (cApp (callD m__law_is_number) (cCons (cApp (callD m_place_of) (cCons (cBin bIx (cVar 4) (cVar 6)) (cCons (cVar 2) (cCons (cVar 3) cNil)))) (cCons (cVar 6) cNil))))) (sRet (cD (.bl false))) sSkip)) σ S := id rfl
def S_law_1 : SC := (sAsg 1 (cBin bMod (cApp (callD m__law_cell) (cCons (cVar 0) (cCons (cD (.int 0)) cNil))) (cD (.int 11))))
theorem S_law_1_e {σ : Sl} {S : List SO} : S_law_1 σ S = (sAsg 1 (cBin bMod (cApp (callD m__law_cell) (cCons (cVar 0) (cCons (cD (.int 0)) cNil))) (cD (.int 11)))) σ S := id rfl
def S_law_2 : SC := (sAsg 2 (cBin bMod (cApp (callD m__law_cell) (cCons (cVar 0) (cCons (cD (.int 1)) cNil))) (cD (.int 12))))
theorem S_law_2_e {σ : Sl} {S : List SO} : S_law_2 σ S = (sAsg 2 (cBin bMod (cApp (callD m__law_cell) (cCons (cVar 0) (cCons (cD (.int 1)) cNil))) (cD (.int 12)))) σ S := id rfl
def S_law_3 : SC := (sAsg 3 (cBin bMod (cApp (callD m__law_cell) (cCons (cVar 0) (cCons (cD (.int 2)) cNil))) (cD (.int 12))))
theorem S_law_3_e {σ : Sl} {S : List SO} : S_law_3 σ S = (sAsg 3 (cBin bMod (cApp (callD m__law_cell) (cCons (cVar 0) (cCons (cD (.int 2)) cNil))) (cD (.int 12)))) σ S := id rfl
def S_law_4 : SC := (sAsg 4 (cApp (callD m__law_all_in) (cCons (cVar 1) (cCons (cVar 2) (cCons (cVar 3) cNil)))))
theorem S_law_4_e {σ : Sl} {S : List SO} : S_law_4 σ S = (sAsg 4 (cApp (callD m__law_all_in) (cCons (cVar 1) (cCons (cVar 2) (cCons (cVar 3) cNil))))) σ S := id rfl
def S_law_5 : SC := (sIf (cNotB (cTru (cApp (callD m__law_is_number) (cCons (cApp (callKw [1, 2, 0] 3 m_count_stairs) (cCons (cVar 3) (cCons (cVar 1) (cCons (cVar 2) cNil)))) (cCons (cVar 5) cNil))))) (sRet (cD (.bl false))) sSkip)
theorem S_law_5_e {σ : Sl} {S : List SO} : S_law_5 σ S = (sIf (cNotB (cTru (cApp (callD m__law_is_number) (cCons (cApp (callKw [1, 2, 0] 3 m_count_stairs) (cCons (cVar 3) (cCons (cVar 1) (cCons (cVar 2) cNil)))) (cCons (cVar 5) cNil))))) (sRet (cD (.bl false))) sSkip) σ S := id rfl
def S_law_6 : SC := (sAsg 7 (cBin bAdd (cVar 5) (cBin bIx (cApp fLst (cCons (cD (.int 0)) (cCons (cD (.int 1)) (cCons (cBin bMod (cApp (callD m__law_cell) (cCons (cVar 0) (cCons (cD (.int 3)) cNil))) (cBin bPow (cD (.int 10)) (cD (.int 30)))) cNil)))) (cBin bMod (cApp (callD m__law_cell) (cCons (cVar 0) (cCons (cD (.int 4)) cNil))) (cD (.int 3))))))
theorem S_law_6_e {σ : Sl} {S : List SO} : S_law_6 σ S = (sAsg 7 (cBin bAdd (cVar 5) (cBin bIx (cApp fLst (cCons (cD (.int 0)) (cCons (cD (.int 1)) (cCons (cBin bMod (cApp (callD m__law_cell) (cCons (cVar 0) (cCons (cD (.int 3)) cNil))) (cBin bPow (cD (.int 10)) (cD (.int 30)))) cNil)))) (cBin bMod (cApp (callD m__law_cell) (cCons (cVar 0) (cCons (cD (.int 4)) cNil))) (cD (.int 3)))))) σ S := id rfl
def S_law_7 : SC := (sIf (cBin bNe (cApp (callD m__law_refused) (cCons (cApp fLst (cCons (cVar 1) (cCons (cVar 2) (cCons (cVar 3) (cCons (cVar 7) cNil))))) cNil)) (cApp fTup (cCons (cD (.str (Str.ofString "undefined"))) (cCons (cApp fRepr (cCons (cD (.str (Str.ofString "place"))) cNil)) (cCons (cD (.bl true)) cNil))))) (sRet (cD (.bl false))) sSkip)
theorem S_law_7_e {σ : Sl} {S : List SO} : S_law_7 σ S = (sIf (cBin bNe (cApp (callD m__law_refused) (cCons (cApp fLst (cCons (cVar 1) (cCons (cVar 2) (cCons (cVar 3) (cCons (cVar 7) cNil))))) cNil)) (cApp fTup (cCons (cD (.str (Str.ofString "undefined"))) (cCons (cApp fRepr (cCons (cD (.str (Str.ofString "place"))) cNil)) (cCons (cD (.bl true)) cNil))))) (sRet (cD (.bl false))) sSkip) σ S := id rfl
def S_law_8 : SC := (sIf (cAndB (cBin bGt (cVar 5) (cD (.int 0))) (cBin bNe (cApp (callD m__law_refused) (cCons (cApp fLst (cCons (cVar 1) (cCons (cVar 2) (cCons (cVar 3) (cCons (cBin bSub (cVar 5) (cD (.int 1))) cNil))))) cNil)) (cApp fTup (cCons (cD (.str (Str.ofString "let"))) cNil)))) (sRet (cD (.bl false))) sSkip)
theorem S_law_8_e {σ : Sl} {S : List SO} : S_law_8 σ S = (sIf (cAndB (cBin bGt (cVar 5) (cD (.int 0))) (cBin bNe (cApp (callD m__law_refused) (cCons (cApp fLst (cCons (cVar 1) (cCons (cVar 2) (cCons (cVar 3) (cCons (cBin bSub (cVar 5) (cD (.int 1))) cNil))))) cNil)) (cApp fTup (cCons (cD (.str (Str.ofString "let"))) cNil)))) (sRet (cD (.bl false))) sSkip) σ S := id rfl
def S_law_9 : SC := (sAsg 8 (cApp (callD m__law_spoilt) (cCons (cApp fLst (cCons (cVar 1) (cCons (cVar 2) (cCons (cVar 3) cNil)))) (cCons (cApp (callD m__law_cell) (cCons (cVar 0) (cCons (cD (.int 5)) cNil))) cNil))))
theorem S_law_9_e {σ : Sl} {S : List SO} : S_law_9 σ S = (sAsg 8 (cApp (callD m__law_spoilt) (cCons (cApp fLst (cCons (cVar 1) (cCons (cVar 2) (cCons (cVar 3) cNil)))) (cCons (cApp (callD m__law_cell) (cCons (cVar 0) (cCons (cD (.int 5)) cNil))) cNil)))) σ S := id rfl
def S_law_10 : SC := (sIf (cBin bNe (cApp (callD m__law_refused) (cCons (cBin bIx (cVar 8) (cD (.int 0))) cNil)) (cApp fTup (cCons (cD (.str (Str.ofString "number"))) (cCons (cApp fRepr (cCons (cBin bIx (cVar 8) (cD (.int 1))) cNil)) (cCons (cD (.bl true)) cNil))))) (sRet (cD (.bl false))) sSkip)
theorem S_law_10_e {σ : Sl} {S : List SO} : S_law_10 σ S = (sIf (cBin bNe (cApp (callD m__law_refused) (cCons (cBin bIx (cVar 8) (cD (.int 0))) cNil)) (cApp fTup (cCons (cD (.str (Str.ofString "number"))) (cCons (cApp fRepr (cCons (cBin bIx (cVar 8) (cD (.int 1))) cNil)) (cCons (cD (.bl true)) cNil))))) (sRet (cD (.bl false))) sSkip) σ S := id rfl
def S_law_11 : SC := (sAsg 8 (cApp (callD m__law_spoilt) (cCons (cApp fLst (cCons (cVar 1) (cCons (cVar 2) (cCons (cVar 3) (cCons (cVar 7) cNil))))) (cCons (cApp (callD m__law_cell) (cCons (cVar 0) (cCons (cD (.int 6)) cNil))) cNil))))
theorem S_law_11_e {σ : Sl} {S : List SO} : S_law_11 σ S = (sAsg 8 (cApp (callD m__law_spoilt) (cCons (cApp fLst (cCons (cVar 1) (cCons (cVar 2) (cCons (cVar 3) (cCons (cVar 7) cNil))))) (cCons (cApp (callD m__law_cell) (cCons (cVar 0) (cCons (cD (.int 6)) cNil))) cNil)))) σ S := id rfl
def S_law_12 : SC := (sAsg 9 (cApp (callD m__law_all_in) (cCons (cVar 1) (cCons (cVar 1) (cCons (cVar 1) cNil)))))
theorem S_law_12_e {σ : Sl} {S : List SO} : S_law_12 σ S = (sAsg 9 (cApp (callD m__law_all_in) (cCons (cVar 1) (cCons (cVar 1) (cCons (cVar 1) cNil))))) σ S := id rfl
def S_law_13 : SC := (sAsg 10 (cBin bIx (cVar 9) (cBin bMod (cApp (callD m__law_cell) (cCons (cVar 0) (cCons (cD (.int 7)) cNil))) (cApp fLen (cCons (cVar 9) cNil)))))
theorem S_law_13_e {σ : Sl} {S : List SO} : S_law_13 σ S = (sAsg 10 (cBin bIx (cVar 9) (cBin bMod (cApp (callD m__law_cell) (cCons (cVar 0) (cCons (cD (.int 7)) cNil))) (cApp fLen (cCons (cVar 9) cNil))))) σ S := id rfl
def S_law_14 : SC := (sIf (cOrB (cBin bGt (cApp fLen (cCons (cVar 10) cNil)) (cVar 2)) (cBin bGt (cApp fSum (cCons (cCutH (cVar 10) (cD (.int 1))) cNil)) (cVar 3))) (sAsg 11 (cApp fTup (cCons (cD (.str (Str.ofString "undefined"))) (cCons (cApp fRepr (cCons (cD (.str (Str.ofString "box"))) cNil)) (cCons (cD (.bl true)) cNil))))) sSkip)
theorem S_law_14_e {σ : Sl} {S : List SO} : S_law_14 σ S = (sIf (cOrB (cBin bGt (cApp fLen (cCons (cVar 10) cNil)) (cVar 2)) (cBin bGt (cApp fSum (cCons (cCutH (cVar 10) (cD (.int 1))) cNil)) (cVar 3))) (sAsg 11 (cApp fTup (cCons (cD (.str (Str.ofString "undefined"))) (cCons (cApp fRepr (cCons (cD (.str (Str.ofString "box"))) cNil)) (cCons (cD (.bl true)) cNil))))) sSkip) σ S := id rfl
def S_law_15 : SC := (sIf (cBin bNe (cApp (callD m__law_refused_place) (cCons (cVar 10) (cCons (cVar 2) (cCons (cVar 3) cNil)))) (cVar 11)) (sRet (cD (.bl false))) sSkip)
theorem S_law_15_e {σ : Sl} {S : List SO} : S_law_15 σ S = (sIf (cBin bNe (cApp (callD m__law_refused_place) (cCons (cVar 10) (cCons (cVar 2) (cCons (cVar 3) cNil)))) (cVar 11)) (sRet (cD (.bl false))) sSkip) σ S := id rfl
def S_law_16 : SC := (sAsg 12 (cApp fLst (cCons (cApp fList (cCons (cVar 10) cNil)) (cCons (cBin bAdd (cVar 10) (cApp fTup (cCons (cD (.int 0)) cNil))) (cCons (cBin bAdd (cVar 10) (cApp fTup (cCons (cD (.bl true)) cNil))) (cCons (cD .non) (cCons (cD (.str (Str.ofString "2 1"))) (cCons (cBin bAdd (cBin bAdd (cApp fTup (cCons (cD (.int 1)) cNil)) (cVar 10)) (cApp fTup (cCons (cD (.int 2)) cNil))) cNil))))))))
theorem S_law_16_e {σ : Sl} {S : List SO} : S_law_16 σ S = (sAsg 12 (cApp fLst (cCons (cApp fList (cCons (cVar 10) cNil)) (cCons (cBin bAdd (cVar 10) (cApp fTup (cCons (cD (.int 0)) cNil))) (cCons (cBin bAdd (cVar 10) (cApp fTup (cCons (cD (.bl true)) cNil))) (cCons (cD .non) (cCons (cD (.str (Str.ofString "2 1"))) (cCons (cBin bAdd (cBin bAdd (cApp fTup (cCons (cD (.int 1)) cNil)) (cVar 10)) (cApp fTup (cCons (cD (.int 2)) cNil))) cNil)))))))) σ S := id rfl
def S_law_17 : SC := (sAsg 13 (cBin bIx (cVar 12) (cBin bMod (cApp (callD m__law_cell) (cCons (cVar 0) (cCons (cD (.int 8)) cNil))) (cD (.int 6)))))
theorem S_law_17_e {σ : Sl} {S : List SO} : S_law_17 σ S = (sAsg 13 (cBin bIx (cVar 12) (cBin bMod (cApp (callD m__law_cell) (cCons (cVar 0) (cCons (cD (.int 8)) cNil))) (cD (.int 6))))) σ S := id rfl
def S_law_18 : SC := (sRet (cBin bEq (cApp (callD m__law_refused_place) (cCons (cVar 13) (cCons (cVar 2) (cCons (cVar 3) cNil)))) (cApp fTup (cCons (cD (.str (Str.ofString "stair"))) (cCons (cApp fRepr (cCons (cVar 13) cNil)) (cCons (cD (.bl true)) cNil))))))
theorem S_law_18_e {σ : Sl} {S : List SO} : S_law_18 σ S = (sRet (cBin bEq (cApp (callD m__law_refused_place) (cCons (cVar 13) (cCons (cVar 2) (cCons (cVar 3) cNil)))) (cApp fTup (cCons (cD (.str (Str.ofString "stair"))) (cCons (cApp fRepr (cCons (cVar 13) cNil)) (cCons (cD (.bl true)) cNil)))))) σ S := id rfl
def b_law : SC := (sSeq S_law_1
    (sSeq S_law_2
    (sSeq S_law_3
    (sSeq S_law_4
    (sSeq (sAsg 5 (cApp fLen (cCons (cVar 4) cNil)))
    (sSeq S_law_5
    (sSeq (sFor (iApp rg1 (cCons (cVar 5) cNil)) (tgName 6) L_law_1)
    (sSeq S_law_6
    (sSeq S_law_7
    (sSeq S_law_8
    (sSeq S_law_9
    (sSeq S_law_10
    (sSeq S_law_11
    (sSeq S_law_10
    (sSeq S_law_12
    (sSeq S_law_13
    (sSeq (sAsg 11 (cApp fTup (cCons (cD (.str (Str.ofString "let"))) cNil)))
    (sSeq S_law_14
    (sSeq S_law_15
    (sSeq S_law_16
    (sSeq S_law_17
    S_law_18)))))))))))))))))))))
theorem b_law_e {σ : Sl} {S : List SO} : b_law σ S = (sSeq S_law_1
    (sSeq S_law_2
    (sSeq S_law_3
    (sSeq S_law_4
    (sSeq (sAsg 5 (cApp fLen (cCons (cVar 4) cNil)))
    (sSeq S_law_5
    (sSeq (sFor (iApp rg1 (cCons (cVar 5) cNil)) (tgName 6) L_law_1)
    (sSeq S_law_6
    (sSeq S_law_7
    (sSeq S_law_8
    (sSeq S_law_9
    (sSeq S_law_10
    (sSeq S_law_11
    (sSeq S_law_10
    (sSeq S_law_12
    (sSeq S_law_13
    (sSeq (sAsg 11 (cApp fTup (cCons (cD (.str (Str.ofString "let"))) cNil)))
    (sSeq S_law_14
    (sSeq S_law_15
    (sSeq S_law_16
    (sSeq S_law_17
    S_law_18))))))))))))))))))))) σ S := id rfl
def m_law : FnS := runF 1 14 b_law
theorem r_law {a0 : D} : m_law [a0] = fin (b_law [some a0, none, none, none, none, none, none, none, none, none, none, none, none, none] []) := id rfl
end K09

set_option maxRecDepth 4000
namespace K09
open HC PM PL
open PySem (Str)
/-! ## all stairs of a size in a box, level by level -/
abbrev Ent := List Nat × Nat
def entD (p : Ent) : D := .tup [.tup (nts p.1), .int (p.2 : Int)]
def entsD (B : List Ent) : List D := B.map entD
def topE (w : Nat) (p : Ent) : Nat := if p.1 = [] then min p.2 w else min p.2 (p.1.getLastD 0)
def ext (h w : Nat) (p : Ent) : List Ent := if p.2 = 0 then [] else if p.1.length < h then (List.range (topE w p)).map fun i => (p.1 ++ [i + 1], p.2 - (i + 1)) else []
def fin0 (p : Ent) : List (List Nat) := if p.2 = 0 then [p.1] else []
theorem entsD_pure : ∀ B : List Ent, pureL (entsD B) = true
  | [] => rfl
  | _ :: B => entsD_pure B
theorem entsD_len (B : List Ent) : (entsD B).length = B.length := List.length_map ..
theorem topE_le (w : Nat) (p : Ent) : topE w p ≤ p.2 := by
  unfold topE
  split <;> exact Nat.min_le_left _ _
theorem atD_last (s : List Nat) (h : s ≠ []) : atD (nts s) (-1) = some (.int (s.getLastD 0 : Nat)) := by
  have hl : 0 < s.length := List.length_pos_iff.mpr h
  show (if 0 + 1 ≤ (nts s).length then gets (nts s) ((nts s).length - (0 + 1)) else none) = _
  rw [nts_len, if_pos (by omega), gets_eq]
  unfold nts
  rw [List.getElem?_map, List.getElem?_eq_getElem (by omega), List.getLastD_eq_getLast?, List.getLast?_eq_getElem?, List.getElem?_eq_getElem (by omega)]
  rfl
theorem in1 {t h w b k : Option D} {m : List Nat} {l : Nat} {p9 : Option D} {dn : List D} : ∀ (n j : Nat) (fo : List Ent) (s : Option D), j + n ≤ l → fo.length + n ≤ 100000 → m.length ≤ 1000 →
    ∃ s', forL (tgName 10) L__law_all_in_1 (rangeD ((j + 1 : Nat) : Int) n) [t, h, w, some (.loc 0), b, k, some (.loc 1), some (.tup (nts m)), some (.int (l : Int)), p9, s] [.lst dn, .lst (entsD fo)] =
      .nx [t, h, w, some (.loc 0), b, k, some (.loc 1), some (.tup (nts m)), some (.int (l : Int)), p9, s'] [.lst dn, .lst (entsD (fo ++ (List.range n).map fun i => (m ++ [j + i + 1], l - (j + i + 1))))]
  | 0, j, fo, s, _, _, _ => ⟨s, by simp⟩
  | n + 1, j, fo, s, h1, h2, h3 => by
    obtain ⟨s', ih⟩ := in1 (t := t) (h := h) (w := w) (b := b) (k := k) (m := m) (l := l) (p9 := p9) (dn := dn) n (j + 1) (fo ++ [(m ++ [j + 1], l - (j + 1))]) (some (.int ((j + 1 : Nat) : Int))) (by omega) (by simp; omega) h3
    refine ⟨s', ?_⟩
    have e1 : (List.range (n + 1)).map (fun i => (m ++ [j + i + 1], l - (j + i + 1))) = (m ++ [j + 1], l - (j + 1)) :: (List.range n).map fun i => (m ++ [j + 1 + i + 1], l - (j + 1 + i + 1)) := by
      rw [List.range_succ_eq_map, List.map_cons, List.map_map]
      congr 1
      refine List.map_congr_left fun i _ => ?_
      show (m ++ [j + (i + 1) + 1], l - (j + (i + 1) + 1)) = _
      rw [show j + (i + 1) + 1 = j + 1 + i + 1 by omega]
    have e2 : ((l : Nat) : Int) - ((j + 1 : Nat) : Int) = ((l - (j + 1) : Nat) : Int) := by omega
    have e3 : (nts m).length + (0 + 1) ≤ lim := by rw [nts_len]; unfold lim; omega
    have l1 : ((1 : Nat) ≤ lim) = True := by simp [lim]
    have l2 : ((2 : Nat) ≤ lim) = True := by simp [lim]
    have e4 : nts m ++ [D.int ((j + 1 : Nat) : Int)] = nts (m ++ [j + 1]) := nts_snoc m (j + 1)
    have e5 : entsD fo ++ [.tup [.tup (nts (m ++ [j + 1])), .int ((l - (j + 1) : Nat) : Int)]] = entsD (fo ++ [(m ++ [j + 1], l - (j + 1))]) := by unfold entsD; rw [List.map_append]; rfl
    have e6 : (entsD fo).length < lim := by rw [entsD_len]; unfold lim; omega
    rw [e1, List.append_cons, rangeD_s, forL_c]
    simp only [L__law_all_in_1_e, rB_ok, rB_ex, aB_ok, aB_ex, lB_ok, lB_ex, llB_ok, llB_ex, liB_ok, lsB_ok, lsB_ex, vB_ok, vB_ex, sB_nx, sB_rt, sB_bk, sB_ct, sB_ex, tB_ok, tB_ex, iS_ok, iS_ex, fB_st, fB_dy, oS_nx, oS_ct, oS_bk, oS_rt, oS_ex, gB_s, fin_rt, fin_nx, fin_ex, vO_s, vOS_s, trO_s, oD_s, oL_s, newK_l, newK_d, gets_z, gets_s, cVar_e, cD_e, cTrue_e, cBin_e, cTru_e, cNot_e, cAnd_e, cOr_e, cIf_e, cAndB_e, cOrB_e, cNotB_e, cNil_e, cCons_e, cApp_e, iApp_e, sSkip_e, sBreak_e, sCont_e, sRetN_e, sSeq_e, sAsg_e, sNew_e, sExpr_e, sRet_e, sIf_e, sAsgT_e, sFor_e, sWhile_e, setD_e, tgName_e, tgTup_e, tB2_s, tgCons_e, tgNil_e, callD_e, callKw_e, pick_e, pureL_n, pureL_c, pure_non, pure_bl, pure_int, pure_str, pure_tup, pure_lst, pure_rol, pure_dct, pure_obj, sMethE_e, sMethA_e, sSub_e, sAug_e, augK_s, iVal_e, cComp_e, cB_st, cB_dy, coB_s, wipeD_n, wipeD_c, cTwo_e, cCutA_e, cCutH_e, cCutL_e, cCutLH_e, kInt_i, sTry_e, tryB_nx, tryB_ex, tryB_rt, sRaise_e, raiseK_e, runH_c, runH_n, sPar2_e, sPar3_e, par2K_e, par3K_e, sFrz_e, cErr_e, cChain_e, bAdd_i, bSub_i, bCmp_i, bEq_i, bNe_i, bEq_s, bNe_s, bEq_b, iAdd_i, bIs_n, bIsNot_n, bIs_b, bIsNot_b, isNon_n, isNon_b, isNon_i, isNon_t, isNon_l, truth_b, truth_n, truth_i, truth_t, locO_l, lstOf_l, lstOf_o, rdOf_r, rdOf_l, rdOf_o, rdOf_t, seqOf_t, seqOf_r, seqOf_l, seqOf_o, lO_s, tO_s, iV_t, iV_l, iV_r, iV_o, iVo_s, enI_t, enI_l, lcB_s, lS_l, pO_s, kS_s, kSub_e, retD_non, retD_bl, retD_int, retD_str, retD_tup, retD_lst, retD_rol, retD_dct, retD_obj, retD_loc, retO_l, retO_d, tgD_non, tgD_bl, tgD_int, tgD_str, tgD_tup, tgD_lst, tgD_rol, tgD_dct, bIx_t, bIx_l, bIx_r, fCut_t, fCut_l, fTuple_t, fInt_i, Bool.and_true, Bool.true_and, Bool.and_false, Bool.false_and, Bool.or_true, Bool.true_or, Bool.or_false, Bool.false_or, Bool.not_true, Bool.not_false, Bool.and_self, Bool.false_eq_true, if_true, if_false, decide_true, decide_false, reduceIte, List.set_cons_zero, List.set_cons_succ, List.length_cons, List.length_nil, List.map_cons, List.map_nil, List.nil_append, List.cons_append, fTup_e, bAdd_t, e2, e3, Nat.reduceAdd, l1, l2, e4, mAppend_e e6, e5]
    exact ih
theorem in2 {T : Option D} {h w : Nat} {k : Option D} {b : D} : ∀ (B fo : List Ent) (dn : List (List Nat)) (s7 s8 s9 s10 : Option D), (∀ p ∈ B, p.1.length ≤ 1000 ∧ p.2 ≤ 1000) → dn.length + B.length ≤ 100000 → fo.length + (B.map fun p => p.2).sum ≤ 100000 →
    ∃ s7' s8' s9' s10', forL (tgTup 2 (tgCons (tgName 7) (tgCons (tgName 8) tgNil))) L__law_all_in_2 (entsD B) [T, some (.int (h : Int)), some (.int (w : Int)), some (.loc 0), some b, k, some (.loc 1), s7, s8, s9, s10] [.lst (rowsD dn), .lst (entsD fo)] =
      .nx [T, some (.int (h : Int)), some (.int (w : Int)), some (.loc 0), some b, k, some (.loc 1), s7', s8', s9', s10'] [.lst (rowsD (dn ++ B.flatMap fin0)), .lst (entsD (fo ++ B.flatMap (ext h w)))]
  | [], fo, dn, s7, s8, s9, s10, _, _, _ => ⟨s7, s8, s9, s10, by simp [entsD]⟩
  | p :: B, fo, dn, s7, s8, s9, s10, hB, h1, h2 => by
    obtain ⟨m, l⟩ := p
    rw [List.length_cons] at h1
    rw [List.map_cons, List.sum_cons] at h2
    have hm := hB (m, l) (List.mem_cons_self ..)
    dsimp only at hm h2
    have e0 : entsD ((m, l) :: B) = .tup [.tup (nts m), .int (l : Int)] :: entsD B := rfl
    have e1 : ((0 + 1 + 1 : Nat) = 2) = True := by simp
    have hlm : ∀ S, fLen S [.tup (nts m)] = .ok (.int (m.length : Nat)) false := fun S => by rw [fLen_s (xs := nts m) rfl, nts_len]
    have next : ∀ (s9 s10 : Option D) (fo2 : List Ent) (dn2 : List (List Nat)), fo2 = fo ++ ext h w (m, l) → dn2 = dn ++ fin0 (m, l) → ∃ s7' s8' s9' s10', forL (tgTup 2 (tgCons (tgName 7) (tgCons (tgName 8) tgNil))) L__law_all_in_2 (entsD B) [T, some (.int (h : Int)), some (.int (w : Int)), some (.loc 0), some b, k, some (.loc 1), some (.tup (nts m)), some (.int (l : Int)), s9, s10] [.lst (rowsD dn2), .lst (entsD fo2)] =
      .nx [T, some (.int (h : Int)), some (.int (w : Int)), some (.loc 0), some b, k, some (.loc 1), s7', s8', s9', s10'] [.lst (rowsD (dn ++ ((m, l) :: B).flatMap fin0)), .lst (entsD (fo ++ ((m, l) :: B).flatMap (ext h w)))] := fun s9 s10 fo2 dn2 ef ed => by
      have q1 : fo2.length ≤ fo.length + l := by
        rw [ef, List.length_append]
        refine Nat.add_le_add_left ?_ _
        unfold ext
        have := topE_le w (m, l)
        split
        · simp
        · split
          · rw [List.length_map, List.length_range]; exact this
          · simp
      have q2 : dn2.length ≤ dn.length + 1 := by
        rw [ed, List.length_append]
        refine Nat.add_le_add_left ?_ _
        unfold fin0
        split <;> simp
      have ih := in2 (T := T) (h := h) (w := w) (k := k) (b := b) B fo2 dn2 (some (.tup (nts m))) (some (.int (l : Int))) s9 s10 (fun p hp => hB p (List.mem_cons_of_mem _ hp)) (by omega) (by omega)
      rw [List.flatMap_cons, List.flatMap_cons, ← List.append_assoc, ← List.append_assoc, ← ef, ← ed]
      exact ih
    rw [e0, forL_c]
    by_cases hl : l = 0
    · have c1 : ((l : Int) = 0) = True := by simp [hl]
      have x1 : ext h w (m, l) = [] := by unfold ext; rw [if_pos hl]
      have x2 : fin0 (m, l) = [m] := by unfold fin0; rw [if_pos hl]
      obtain ⟨a, b', c, d, e⟩ := next s9 s10 fo (dn ++ [m]) (by rw [x1, List.append_nil]) (by rw [x2])
      refine ⟨a, b', c, d, ?_⟩
      have e6 : (rowsD dn).length < lim := by rw [rowsD_len]; unfold lim; omega
      have e7 : rowsD dn ++ [.tup (nts m)] = rowsD (dn ++ [m]) := by unfold rowsD; rw [List.map_append]; rfl
      simp only [L__law_all_in_2_e, rB_ok, rB_ex, aB_ok, aB_ex, lB_ok, lB_ex, llB_ok, llB_ex, liB_ok, lsB_ok, lsB_ex, vB_ok, vB_ex, sB_nx, sB_rt, sB_bk, sB_ct, sB_ex, tB_ok, tB_ex, iS_ok, iS_ex, fB_st, fB_dy, oS_nx, oS_ct, oS_bk, oS_rt, oS_ex, gB_s, fin_rt, fin_nx, fin_ex, vO_s, vOS_s, trO_s, oD_s, oL_s, newK_l, newK_d, gets_z, gets_s, cVar_e, cD_e, cTrue_e, cBin_e, cTru_e, cNot_e, cAnd_e, cOr_e, cIf_e, cAndB_e, cOrB_e, cNotB_e, cNil_e, cCons_e, cApp_e, iApp_e, sSkip_e, sBreak_e, sCont_e, sRetN_e, sSeq_e, sAsg_e, sNew_e, sExpr_e, sRet_e, sIf_e, sAsgT_e, sFor_e, sWhile_e, setD_e, tgName_e, tgTup_e, tB2_s, tgCons_e, tgNil_e, callD_e, callKw_e, pick_e, pureL_n, pureL_c, pure_non, pure_bl, pure_int, pure_str, pure_tup, pure_lst, pure_rol, pure_dct, pure_obj, sMethE_e, sMethA_e, sSub_e, sAug_e, augK_s, iVal_e, cComp_e, cB_st, cB_dy, coB_s, wipeD_n, wipeD_c, cTwo_e, cCutA_e, cCutH_e, cCutL_e, cCutLH_e, kInt_i, sTry_e, tryB_nx, tryB_ex, tryB_rt, sRaise_e, raiseK_e, runH_c, runH_n, sPar2_e, sPar3_e, par2K_e, par3K_e, sFrz_e, cErr_e, cChain_e, bAdd_i, bSub_i, bCmp_i, bEq_i, bNe_i, bEq_s, bNe_s, bEq_b, iAdd_i, bIs_n, bIsNot_n, bIs_b, bIsNot_b, isNon_n, isNon_b, isNon_i, isNon_t, isNon_l, truth_b, truth_n, truth_i, truth_t, locO_l, lstOf_l, lstOf_o, rdOf_r, rdOf_l, rdOf_o, rdOf_t, seqOf_t, seqOf_r, seqOf_l, seqOf_o, lO_s, tO_s, iV_t, iV_l, iV_r, iV_o, iVo_s, enI_t, enI_l, lcB_s, lS_l, pO_s, kS_s, kSub_e, retD_non, retD_bl, retD_int, retD_str, retD_tup, retD_lst, retD_rol, retD_dct, retD_obj, retD_loc, retO_l, retO_d, tgD_non, tgD_bl, tgD_int, tgD_str, tgD_tup, tgD_lst, tgD_rol, tgD_dct, bIx_t, bIx_l, bIx_r, fCut_t, fCut_l, fTuple_t, fInt_i, Bool.and_true, Bool.true_and, Bool.and_false, Bool.false_and, Bool.or_true, Bool.true_or, Bool.or_false, Bool.false_or, Bool.not_true, Bool.not_false, Bool.and_self, Bool.false_eq_true, if_true, if_false, decide_true, decide_false, reduceIte, List.set_cons_zero, List.set_cons_succ, List.length_cons, List.length_nil, List.map_cons, List.map_nil, List.nil_append, List.cons_append, e1, c1, mAppend_e e6, e7]
      exact e
    · have c1 : ((l : Int) = 0) = False := by simp; omega
      have x2 : fin0 (m, l) = [] := by unfold fin0; rw [if_neg hl]
      by_cases hh : m.length < h
      · have c2 : (((m.length : Nat) : Int) < (h : Int)) = True := by simp; omega
        have x1 : ext h w (m, l) = (List.range (topE w (m, l))).map fun i => (m ++ [0 + i + 1], l - (0 + i + 1)) := by unfold ext; rw [if_neg hl, if_pos hh]; simp
        have ht := topE_le w (m, l)
        obtain ⟨s', f⟩ := in1 (t := T) (h := some (.int (h : Int))) (w := some (.int (w : Int))) (b := some b) (k := k) (m := m) (l := l) (p9 := some (.int (topE w (m, l) : Nat))) (dn := rowsD dn) (topE w (m, l)) 0 fo s10 (by omega) (by omega) (by omega)
        obtain ⟨a, b', c, d, e⟩ := next (some (.int (topE w (m, l) : Nat))) s' (fo ++ ext h w (m, l)) dn rfl (by rw [x2, List.append_nil])
        refine ⟨a, b', c, d, ?_⟩
        rw [← x1] at f
        have r1 : ∀ S, rg2 S [.int 1, .int ((topE w (m, l) + 1 : Nat) : Int)] = .st (rangeD ((0 + 1 : Nat) : Int) (topE w (m, l))) := fun S => rg2_r (a := 1) (by omega) (by omega)
        have u1 : ((topE w (m, l) : Nat) : Int) + 1 = ((topE w (m, l) + 1 : Nat) : Int) := by omega
        by_cases hm0 : m = []
        · have c3 : ((0 : Int) < ((m.length : Nat) : Int)) = False := by simp [hm0]
          have x3 : topE w (m, l) = min l w := by unfold topE; rw [if_pos hm0]
          rw [x3] at f e r1 u1
          simp only [L__law_all_in_2_e, rB_ok, rB_ex, aB_ok, aB_ex, lB_ok, lB_ex, llB_ok, llB_ex, liB_ok, lsB_ok, lsB_ex, vB_ok, vB_ex, sB_nx, sB_rt, sB_bk, sB_ct, sB_ex, tB_ok, tB_ex, iS_ok, iS_ex, fB_st, fB_dy, oS_nx, oS_ct, oS_bk, oS_rt, oS_ex, gB_s, fin_rt, fin_nx, fin_ex, vO_s, vOS_s, trO_s, oD_s, oL_s, newK_l, newK_d, gets_z, gets_s, cVar_e, cD_e, cTrue_e, cBin_e, cTru_e, cNot_e, cAnd_e, cOr_e, cIf_e, cAndB_e, cOrB_e, cNotB_e, cNil_e, cCons_e, cApp_e, iApp_e, sSkip_e, sBreak_e, sCont_e, sRetN_e, sSeq_e, sAsg_e, sNew_e, sExpr_e, sRet_e, sIf_e, sAsgT_e, sFor_e, sWhile_e, setD_e, tgName_e, tgTup_e, tB2_s, tgCons_e, tgNil_e, callD_e, callKw_e, pick_e, pureL_n, pureL_c, pure_non, pure_bl, pure_int, pure_str, pure_tup, pure_lst, pure_rol, pure_dct, pure_obj, sMethE_e, sMethA_e, sSub_e, sAug_e, augK_s, iVal_e, cComp_e, cB_st, cB_dy, coB_s, wipeD_n, wipeD_c, cTwo_e, cCutA_e, cCutH_e, cCutL_e, cCutLH_e, kInt_i, sTry_e, tryB_nx, tryB_ex, tryB_rt, sRaise_e, raiseK_e, runH_c, runH_n, sPar2_e, sPar3_e, par2K_e, par3K_e, sFrz_e, cErr_e, cChain_e, bAdd_i, bSub_i, bCmp_i, bEq_i, bNe_i, bEq_s, bNe_s, bEq_b, iAdd_i, bIs_n, bIsNot_n, bIs_b, bIsNot_b, isNon_n, isNon_b, isNon_i, isNon_t, isNon_l, truth_b, truth_n, truth_i, truth_t, locO_l, lstOf_l, lstOf_o, rdOf_r, rdOf_l, rdOf_o, rdOf_t, seqOf_t, seqOf_r, seqOf_l, seqOf_o, lO_s, tO_s, iV_t, iV_l, iV_r, iV_o, iVo_s, enI_t, enI_l, lcB_s, lS_l, pO_s, kS_s, kSub_e, retD_non, retD_bl, retD_int, retD_str, retD_tup, retD_lst, retD_rol, retD_dct, retD_obj, retD_loc, retO_l, retO_d, tgD_non, tgD_bl, tgD_int, tgD_str, tgD_tup, tgD_lst, tgD_rol, tgD_dct, bIx_t, bIx_l, bIx_r, fCut_t, fCut_l, fTuple_t, fInt_i, Bool.and_true, Bool.true_and, Bool.and_false, Bool.false_and, Bool.or_true, Bool.true_or, Bool.or_false, Bool.false_or, Bool.not_true, Bool.not_false, Bool.and_self, Bool.false_eq_true, if_true, if_false, decide_true, decide_false, reduceIte, List.set_cons_zero, List.set_cons_succ, List.length_cons, List.length_nil, List.map_cons, List.map_nil, List.nil_append, List.cons_append, e1, c1, hlm, c2, fMin2_n, c3, u1, r1, f]
          exact e
        · have c3 : ((0 : Int) < ((m.length : Nat) : Int)) = True := by
            have := List.length_pos_iff.mpr hm0
            simp; omega
          have x3 : topE w (m, l) = min l (m.getLastD 0) := by unfold topE; rw [if_neg hm0]
          have c4 : ∀ σ S, cNeg (cD (.int 1)) σ S = .ok (.int (-1)) false := fun σ S => rfl
          rw [x3] at f e r1 u1
          simp only [L__law_all_in_2_e, rB_ok, rB_ex, aB_ok, aB_ex, lB_ok, lB_ex, llB_ok, llB_ex, liB_ok, lsB_ok, lsB_ex, vB_ok, vB_ex, sB_nx, sB_rt, sB_bk, sB_ct, sB_ex, tB_ok, tB_ex, iS_ok, iS_ex, fB_st, fB_dy, oS_nx, oS_ct, oS_bk, oS_rt, oS_ex, gB_s, fin_rt, fin_nx, fin_ex, vO_s, vOS_s, trO_s, oD_s, oL_s, newK_l, newK_d, gets_z, gets_s, cVar_e, cD_e, cTrue_e, cBin_e, cTru_e, cNot_e, cAnd_e, cOr_e, cIf_e, cAndB_e, cOrB_e, cNotB_e, cNil_e, cCons_e, cApp_e, iApp_e, sSkip_e, sBreak_e, sCont_e, sRetN_e, sSeq_e, sAsg_e, sNew_e, sExpr_e, sRet_e, sIf_e, sAsgT_e, sFor_e, sWhile_e, setD_e, tgName_e, tgTup_e, tB2_s, tgCons_e, tgNil_e, callD_e, callKw_e, pick_e, pureL_n, pureL_c, pure_non, pure_bl, pure_int, pure_str, pure_tup, pure_lst, pure_rol, pure_dct, pure_obj, sMethE_e, sMethA_e, sSub_e, sAug_e, augK_s, iVal_e, cComp_e, cB_st, cB_dy, coB_s, wipeD_n, wipeD_c, cTwo_e, cCutA_e, cCutH_e, cCutL_e, cCutLH_e, kInt_i, sTry_e, tryB_nx, tryB_ex, tryB_rt, sRaise_e, raiseK_e, runH_c, runH_n, sPar2_e, sPar3_e, par2K_e, par3K_e, sFrz_e, cErr_e, cChain_e, bAdd_i, bSub_i, bCmp_i, bEq_i, bNe_i, bEq_s, bNe_s, bEq_b, iAdd_i, bIs_n, bIsNot_n, bIs_b, bIsNot_b, isNon_n, isNon_b, isNon_i, isNon_t, isNon_l, truth_b, truth_n, truth_i, truth_t, locO_l, lstOf_l, lstOf_o, rdOf_r, rdOf_l, rdOf_o, rdOf_t, seqOf_t, seqOf_r, seqOf_l, seqOf_o, lO_s, tO_s, iV_t, iV_l, iV_r, iV_o, iVo_s, enI_t, enI_l, lcB_s, lS_l, pO_s, kS_s, kSub_e, retD_non, retD_bl, retD_int, retD_str, retD_tup, retD_lst, retD_rol, retD_dct, retD_obj, retD_loc, retO_l, retO_d, tgD_non, tgD_bl, tgD_int, tgD_str, tgD_tup, tgD_lst, tgD_rol, tgD_dct, bIx_t, bIx_l, bIx_r, fCut_t, fCut_l, fTuple_t, fInt_i, Bool.and_true, Bool.true_and, Bool.and_false, Bool.false_and, Bool.or_true, Bool.true_or, Bool.or_false, Bool.false_or, Bool.not_true, Bool.not_false, Bool.and_self, Bool.false_eq_true, if_true, if_false, decide_true, decide_false, reduceIte, List.set_cons_zero, List.set_cons_succ, List.length_cons, List.length_nil, List.map_cons, List.map_nil, List.nil_append, List.cons_append, e1, c1, hlm, c2, fMin2_n, c3, c4, atD_last m hm0, u1, r1, f]
          exact e
      · have c2 : (((m.length : Nat) : Int) < (h : Int)) = False := by simp; omega
        have x1 : ext h w (m, l) = [] := by unfold ext; rw [if_neg hl, if_neg hh]
        obtain ⟨a, b', c, d, e⟩ := next s9 s10 fo dn (by rw [x1, List.append_nil]) (by rw [x2, List.append_nil])
        refine ⟨a, b', c, d, ?_⟩
        simp only [L__law_all_in_2_e, rB_ok, rB_ex, aB_ok, aB_ex, lB_ok, lB_ex, llB_ok, llB_ex, liB_ok, lsB_ok, lsB_ex, vB_ok, vB_ex, sB_nx, sB_rt, sB_bk, sB_ct, sB_ex, tB_ok, tB_ex, iS_ok, iS_ex, fB_st, fB_dy, oS_nx, oS_ct, oS_bk, oS_rt, oS_ex, gB_s, fin_rt, fin_nx, fin_ex, vO_s, vOS_s, trO_s, oD_s, oL_s, newK_l, newK_d, gets_z, gets_s, cVar_e, cD_e, cTrue_e, cBin_e, cTru_e, cNot_e, cAnd_e, cOr_e, cIf_e, cAndB_e, cOrB_e, cNotB_e, cNil_e, cCons_e, cApp_e, iApp_e, sSkip_e, sBreak_e, sCont_e, sRetN_e, sSeq_e, sAsg_e, sNew_e, sExpr_e, sRet_e, sIf_e, sAsgT_e, sFor_e, sWhile_e, setD_e, tgName_e, tgTup_e, tB2_s, tgCons_e, tgNil_e, callD_e, callKw_e, pick_e, pureL_n, pureL_c, pure_non, pure_bl, pure_int, pure_str, pure_tup, pure_lst, pure_rol, pure_dct, pure_obj, sMethE_e, sMethA_e, sSub_e, sAug_e, augK_s, iVal_e, cComp_e, cB_st, cB_dy, coB_s, wipeD_n, wipeD_c, cTwo_e, cCutA_e, cCutH_e, cCutL_e, cCutLH_e, kInt_i, sTry_e, tryB_nx, tryB_ex, tryB_rt, sRaise_e, raiseK_e, runH_c, runH_n, sPar2_e, sPar3_e, par2K_e, par3K_e, sFrz_e, cErr_e, cChain_e, bAdd_i, bSub_i, bCmp_i, bEq_i, bNe_i, bEq_s, bNe_s, bEq_b, iAdd_i, bIs_n, bIsNot_n, bIs_b, bIsNot_b, isNon_n, isNon_b, isNon_i, isNon_t, isNon_l, truth_b, truth_n, truth_i, truth_t, locO_l, lstOf_l, lstOf_o, rdOf_r, rdOf_l, rdOf_o, rdOf_t, seqOf_t, seqOf_r, seqOf_l, seqOf_o, lO_s, tO_s, iV_t, iV_l, iV_r, iV_o, iVo_s, enI_t, enI_l, lcB_s, lS_l, pO_s, kS_s, kSub_e, retD_non, retD_bl, retD_int, retD_str, retD_tup, retD_lst, retD_rol, retD_dct, retD_obj, retD_loc, retO_l, retO_d, tgD_non, tgD_bl, tgD_int, tgD_str, tgD_tup, tgD_lst, tgD_rol, tgD_dct, bIx_t, bIx_l, bIx_r, fCut_t, fCut_l, fTuple_t, fInt_i, Bool.and_true, Bool.true_and, Bool.and_false, Bool.false_and, Bool.or_true, Bool.true_or, Bool.or_false, Bool.false_or, Bool.not_true, Bool.not_false, Bool.and_self, Bool.false_eq_true, if_true, if_false, decide_true, decide_false, reduceIte, List.set_cons_zero, List.set_cons_succ, List.length_cons, List.length_nil, List.map_cons, List.map_nil, List.nil_append, List.cons_append, e1, c1, hlm, c2]
        exact e
end K09
namespace K09
open HC PM PL
open PySem (Str)
def lev (n h w : Nat) : Nat → List Ent
  | 0 => [([], n)]
  | k + 1 => (lev n h w k).flatMap (ext h w)
def dones (n h w : Nat) : Nat → List (List Nat)
  | 0 => []
  | k + 1 => dones n h w k ++ (lev n h w k).flatMap fin0
theorem geo : ∀ (t l : Nat), t ≤ l → ((List.range t).map fun i => 2 ^ (l - (i + 1))).sum + 2 ^ (l - t) = 2 ^ l
  | 0, l, _ => by simp
  | t + 1, l, h => by
    have ih := geo t l (by omega)
    rw [List.range_succ, List.map_append, List.sum_append, List.map_cons, List.map_nil, List.sum_cons, List.sum_nil]
    have e : 2 ^ (l - t) = 2 ^ (l - (t + 1)) + 2 ^ (l - (t + 1)) := by rw [show l - t = (l - (t + 1)) + 1 by omega, Nat.pow_succ]; omega
    omega
def sw (B : List Ent) : Nat := (B.map fun p => 2 ^ p.2).sum
theorem sw_ext (h w : Nat) (p : Ent) : sw (ext h w p) ≤ 2 ^ p.2 := by
  unfold ext
  have := topE_le w p
  split
  · simp [sw]
  · split
    · unfold sw
      rw [List.map_map]
      have := geo (topE w p) p.2 this
      exact Nat.le.intro this
    · simp [sw]
theorem sw_step (h w : Nat) : ∀ B : List Ent, sw (B.flatMap (ext h w)) ≤ sw B
  | [] => by simp [sw]
  | p :: B => by
    have := sw_step h w B
    have := sw_ext h w p
    unfold sw at *
    rw [List.flatMap_cons, List.map_append, List.sum_append, List.map_cons, List.sum_cons]
    omega
theorem sw_lev (n h w : Nat) : ∀ k, sw (lev n h w k) ≤ 2 ^ n
  | 0 => by simp [sw, lev]
  | k + 1 => Nat.le_trans (sw_step h w _) (sw_lev n h w k)
theorem lev_ok (n h w : Nat) : ∀ k, ∀ p ∈ lev n h w k, p.1.length = k ∧ p.2 ≤ n
  | 0, p, hp => by
    rw [List.mem_singleton.mp hp]
    exact ⟨rfl, Nat.le_refl _⟩
  | k + 1, p, hp => by
    obtain ⟨q, hq, h2⟩ := List.mem_flatMap.mp hp
    have h3 := lev_ok n h w k q hq
    unfold ext at h2
    split at h2
    · exact nomatch h2
    · split at h2
      · obtain ⟨i, hi, rfl⟩ := List.mem_map.mp h2
        refine ⟨by rw [List.length_append, h3.1]; rfl, ?_⟩
        dsimp only
        omega
      · exact nomatch h2
theorem len_sw : ∀ B : List Ent, B.length ≤ sw B ∧ (B.map fun p => p.2).sum ≤ sw B
  | [] => ⟨Nat.le_refl _, Nat.le_refl _⟩
  | p :: B => by
    have h := len_sw B
    unfold sw at *
    rw [List.length_cons, List.map_cons, List.sum_cons, List.map_cons, List.sum_cons]
    have h1 := Nat.one_le_two_pow (n := p.2)
    have h2 := Nat.lt_two_pow_self (n := p.2)
    omega
theorem fin_len : ∀ B : List Ent, (B.flatMap fin0).length ≤ B.length
  | [] => Nat.le_refl _
  | p :: B => by
    have := fin_len B
    rw [List.flatMap_cons, List.length_append, List.length_cons]
    have : (fin0 p).length ≤ 1 := by unfold fin0; split <;> simp
    omega
theorem dones_len (n h w : Nat) : ∀ k, (dones n h w k).length ≤ k * 2 ^ n
  | 0 => by simp [dones]
  | k + 1 => by
    have h1 := dones_len n h w k
    have h2 := fin_len (lev n h w k)
    have h3 := (len_sw (lev n h w k)).1
    have h4 := sw_lev n h w k
    unfold dones
    rw [List.length_append, Nat.succ_mul]
    omega
theorem rows_sub (k : Nat) (x : D) : ∀ L : List (List Nat), (rowsD L).map (subD k x) = rowsD L
  | [] => rfl
  | s :: L => by
    show subD k x (.tup (nts s)) :: (rowsD L).map (subD k x) = _
    rw [rows_sub k x L]
    rfl
theorem in3 {n h w : Nat} (hn : n ≤ 12) : ∀ (m j : Nat) (s5 s6 s7 s8 s9 s10 : Option D), j + m ≤ 13 →
    ∃ s5' s6' s7' s8' s9' s10', forL (tgName 5) L__law_all_in_3 (rangeD (j : Int) m) [some (.int (n : Int)), some (.int (h : Int)), some (.int (w : Int)), some (.loc 0), some (.lst (entsD (lev n h w j))), s5, s6, s7, s8, s9, s10] [.lst (rowsD (dones n h w j))] =
      .nx [some (.int (n : Int)), some (.int (h : Int)), some (.int (w : Int)), some (.loc 0), some (.lst (entsD (lev n h w (j + m)))), s5', s6', s7', s8', s9', s10'] [.lst (rowsD (dones n h w (j + m)))]
  | 0, j, s5, s6, s7, s8, s9, s10, _ => ⟨s5, s6, s7, s8, s9, s10, rfl⟩
  | m + 1, j, s5, s6, s7, s8, s9, s10, hj => by
    have p2 : 2 ^ n ≤ 2 ^ 12 := Nat.pow_le_pow_right (by omega) hn
    have b1 := sw_lev n h w j
    have b2 := len_sw (lev n h w j)
    have b3 := dones_len n h w j
    have b4 : j * 2 ^ n ≤ 12 * 2 ^ 12 := Nat.mul_le_mul (by omega) p2
    have b5 : (2 : Nat) ^ 12 = 4096 := by decide
    rw [b5] at p2 b4
    obtain ⟨a, b, c, d, e⟩ := in2 (T := some (.int (n : Int))) (h := h) (w := w) (k := some (.int (j : Int))) (b := .lst (entsD (lev n h w j))) (lev n h w j) [] (dones n h w j) s7 s8 s9 s10 (fun p hp => by have := lev_ok n h w j p hp; omega) (by omega) (by simp; omega)
    rw [List.nil_append] at e
    have e : forL (tgTup 2 (tgCons (tgName 7) (tgCons (tgName 8) tgNil))) L__law_all_in_2 (entsD (lev n h w j)) [some (.int (n : Int)), some (.int (h : Int)), some (.int (w : Int)), some (.loc 0), some (.lst (entsD (lev n h w j))), some (.int (j : Int)), some (.loc 1), s7, s8, s9, s10] [.lst (rowsD (dones n h w j)), .lst []] = _ := e
    have l0 : ∀ S, fLst S [] = .ok (.lst []) true := fun S => rfl
    have fz : ∀ σ : Sl, frzR (0 + 1) (.nx σ [.lst (rowsD (dones n h w (j + 1))), .lst (entsD (lev n h w (j + 1)))]) = .nx (subS 1 (.lst (entsD (lev n h w (j + 1)))) σ) [.lst (rowsD (dones n h w (j + 1)))] := fun σ => by
      refine (frzR_e (S := [.lst (rowsD (dones n h w (j + 1)))]) (entsD_pure _) rfl).trans ?_
      rw [List.map_cons, List.map_nil]
      unfold subO
      dsimp only
      rw [rows_sub]
      rfl
    obtain ⟨a5, a6, a7, a8, a9, a10, ih⟩ := in3 (n := n) (h := h) (w := w) hn m (j + 1) (some (.int (j : Int))) (some (.lst (entsD (lev n h w (j + 1))))) (a.map (subD 1 (.lst (entsD (lev n h w (j + 1)))))) (b.map (subD 1 (.lst (entsD (lev n h w (j + 1)))))) (c.map (subD 1 (.lst (entsD (lev n h w (j + 1)))))) (d.map (subD 1 (.lst (entsD (lev n h w (j + 1)))))) (by omega)
    rw [show j + 1 + m = j + (m + 1) by omega] at ih
    refine ⟨a5, a6, a7, a8, a9, a10, ?_⟩
    have e2 : dones n h w j ++ (lev n h w j).flatMap fin0 = dones n h w (j + 1) := rfl
    have e3 : (lev n h w j).flatMap (ext h w) = lev n h w (j + 1) := rfl
    rw [e2, e3] at e
    rw [rangeD_s, forL_c]
    simp only [L__law_all_in_3_e, rB_ok, rB_ex, aB_ok, aB_ex, lB_ok, lB_ex, llB_ok, llB_ex, liB_ok, lsB_ok, lsB_ex, vB_ok, vB_ex, sB_nx, sB_rt, sB_bk, sB_ct, sB_ex, tB_ok, tB_ex, iS_ok, iS_ex, fB_st, fB_dy, oS_nx, oS_ct, oS_bk, oS_rt, oS_ex, gB_s, fin_rt, fin_nx, fin_ex, vO_s, vOS_s, trO_s, oD_s, oL_s, newK_l, newK_d, gets_z, gets_s, cVar_e, cD_e, cTrue_e, cBin_e, cTru_e, cNot_e, cAnd_e, cOr_e, cIf_e, cAndB_e, cOrB_e, cNotB_e, cNil_e, cCons_e, cApp_e, iApp_e, sSkip_e, sBreak_e, sCont_e, sRetN_e, sSeq_e, sAsg_e, sNew_e, sExpr_e, sRet_e, sIf_e, sAsgT_e, sFor_e, sWhile_e, setD_e, tgName_e, tgTup_e, tB2_s, tgCons_e, tgNil_e, callD_e, callKw_e, pick_e, pureL_n, pureL_c, pure_non, pure_bl, pure_int, pure_str, pure_tup, pure_lst, pure_rol, pure_dct, pure_obj, sMethE_e, sMethA_e, sSub_e, sAug_e, augK_s, iVal_e, cComp_e, cB_st, cB_dy, coB_s, wipeD_n, wipeD_c, cTwo_e, cCutA_e, cCutH_e, cCutL_e, cCutLH_e, kInt_i, sTry_e, tryB_nx, tryB_ex, tryB_rt, sRaise_e, raiseK_e, runH_c, runH_n, sPar2_e, sPar3_e, par2K_e, par3K_e, sFrz_e, cErr_e, cChain_e, bAdd_i, bSub_i, bCmp_i, bEq_i, bNe_i, bEq_s, bNe_s, bEq_b, iAdd_i, bIs_n, bIsNot_n, bIs_b, bIsNot_b, isNon_n, isNon_b, isNon_i, isNon_t, isNon_l, truth_b, truth_n, truth_i, truth_t, locO_l, lstOf_l, lstOf_o, rdOf_r, rdOf_l, rdOf_o, rdOf_t, seqOf_t, seqOf_r, seqOf_l, seqOf_o, lO_s, tO_s, iV_t, iV_l, iV_r, iV_o, iVo_s, enI_t, enI_l, lcB_s, lS_l, pO_s, kS_s, kSub_e, retD_non, retD_bl, retD_int, retD_str, retD_tup, retD_lst, retD_rol, retD_dct, retD_obj, retD_loc, retO_l, retO_d, tgD_non, tgD_bl, tgD_int, tgD_str, tgD_tup, tgD_lst, tgD_rol, tgD_dct, bIx_t, bIx_l, bIx_r, fCut_t, fCut_l, fTuple_t, fInt_i, Bool.and_true, Bool.true_and, Bool.and_false, Bool.false_and, Bool.or_true, Bool.true_or, Bool.or_false, Bool.false_or, Bool.not_true, Bool.not_false, Bool.and_self, Bool.false_eq_true, if_true, if_false, decide_true, decide_false, reduceIte, List.set_cons_zero, List.set_cons_succ, List.length_cons, List.length_nil, List.map_cons, List.map_nil, List.nil_append, List.cons_append, l0, e, fz, subS, Option.map_some, subD]
    exact ih
theorem all_in_is {n h w : Nat} (hn : n ≤ 12) (ok : okSort (rowsD (dones n h w (n + 1))) = true) : m__law_all_in [.int (n : Int), .int (h : Int), .int (w : Int)] = .ok (.lst (srtD true (rowsD (dones n h w (n + 1))))) true := by
  obtain ⟨a5, a6, a7, a8, a9, a10, e⟩ := in3 (n := n) (h := h) (w := w) hn (n + 1) 0 none none none none none none (by omega)
  rw [Nat.zero_add] at e
  have e : forL (tgName 5) L__law_all_in_3 (rangeD 0 (n + 1)) [some (.int (n : Int)), some (.int (h : Int)), some (.int (w : Int)), some (.loc 0), some (.lst [.tup [.tup [], .int (n : Int)]]), none, none, none, none, none, none] [.lst []] = _ := e
  have l0 : ∀ S, fLst S [] = .ok (.lst []) true := fun S => rfl
  have t0 : ∀ S, fTup S [] = .ok (.tup []) false := fun S => rfl
  have t2 : ∀ S x y, fTup S [.tup x, .int y] = .ok (.tup [.tup x, .int y]) false := fun S x y => rfl
  have l1 : ∀ S x, fLst S [.tup x] = .ok (.lst [.tup x]) true := fun S x => rfl
  have u1 : (n : Int) + 1 = ((n + 1 : Nat) : Int) := by omega
  have r1 : ∀ S, rg1 S [.int ((n + 1 : Nat) : Int)] = .st (rangeD 0 (n + 1)) := fun S => rg1_nat (by omega)
  have sr : ∀ xs : List (List Nat), okSort (rowsD xs) = true → fSortedD true [.lst (rowsD xs)] [.loc 0] = .ok (.lst (srtD true (rowsD xs))) true := fun xs h => by
    show (if okSort (rowsD xs) = true then _ else _) = _
    rw [if_pos h]
  simp only [r__law_all_in, b__law_all_in_e, rB_ok, rB_ex, aB_ok, aB_ex, lB_ok, lB_ex, llB_ok, llB_ex, liB_ok, lsB_ok, lsB_ex, vB_ok, vB_ex, sB_nx, sB_rt, sB_bk, sB_ct, sB_ex, tB_ok, tB_ex, iS_ok, iS_ex, fB_st, fB_dy, oS_nx, oS_ct, oS_bk, oS_rt, oS_ex, gB_s, fin_rt, fin_nx, fin_ex, vO_s, vOS_s, trO_s, oD_s, oL_s, newK_l, newK_d, gets_z, gets_s, cVar_e, cD_e, cTrue_e, cBin_e, cTru_e, cNot_e, cAnd_e, cOr_e, cIf_e, cAndB_e, cOrB_e, cNotB_e, cNil_e, cCons_e, cApp_e, iApp_e, sSkip_e, sBreak_e, sCont_e, sRetN_e, sSeq_e, sAsg_e, sNew_e, sExpr_e, sRet_e, sIf_e, sAsgT_e, sFor_e, sWhile_e, setD_e, tgName_e, tgTup_e, tB2_s, tgCons_e, tgNil_e, callD_e, callKw_e, pick_e, pureL_n, pureL_c, pure_non, pure_bl, pure_int, pure_str, pure_tup, pure_lst, pure_rol, pure_dct, pure_obj, sMethE_e, sMethA_e, sSub_e, sAug_e, augK_s, iVal_e, cComp_e, cB_st, cB_dy, coB_s, wipeD_n, wipeD_c, cTwo_e, cCutA_e, cCutH_e, cCutL_e, cCutLH_e, kInt_i, sTry_e, tryB_nx, tryB_ex, tryB_rt, sRaise_e, raiseK_e, runH_c, runH_n, sPar2_e, sPar3_e, par2K_e, par3K_e, sFrz_e, cErr_e, cChain_e, bAdd_i, bSub_i, bCmp_i, bEq_i, bNe_i, bEq_s, bNe_s, bEq_b, iAdd_i, bIs_n, bIsNot_n, bIs_b, bIsNot_b, isNon_n, isNon_b, isNon_i, isNon_t, isNon_l, truth_b, truth_n, truth_i, truth_t, locO_l, lstOf_l, lstOf_o, rdOf_r, rdOf_l, rdOf_o, rdOf_t, seqOf_t, seqOf_r, seqOf_l, seqOf_o, lO_s, tO_s, iV_t, iV_l, iV_r, iV_o, iVo_s, enI_t, enI_l, lcB_s, lS_l, pO_s, kS_s, kSub_e, retD_non, retD_bl, retD_int, retD_str, retD_tup, retD_lst, retD_rol, retD_dct, retD_obj, retD_loc, retO_l, retO_d, tgD_non, tgD_bl, tgD_int, tgD_str, tgD_tup, tgD_lst, tgD_rol, tgD_dct, bIx_t, bIx_l, bIx_r, fCut_t, fCut_l, fTuple_t, fInt_i, Bool.and_true, Bool.true_and, Bool.and_false, Bool.false_and, Bool.or_true, Bool.true_or, Bool.or_false, Bool.false_or, Bool.not_true, Bool.not_false, Bool.and_self, Bool.false_eq_true, if_true, if_false, decide_true, decide_false, reduceIte, List.set_cons_zero, List.set_cons_succ, List.length_cons, List.length_nil, List.map_cons, List.map_nil, List.nil_append, List.cons_append, l0, t0, t2, l1, u1, r1, e, sr _ ok]
end K09

set_option maxRecDepth 4000
namespace K09
open HC PM PL
open PySem (Str)
structure LevOk (n h w k : Nat) (p : Ent) : Prop where
  len : p.1.length = k
  st : Stair p.1
  wd : ∀ x ∈ p.1, x ≤ w
  hi : k ≤ h
  su : p.1.sum + p.2 = n
theorem last_le {s : List Nat} {x : Nat} (h : s ≠ []) (st : (s ++ [x]).Pairwise (· ≥ ·)) : x ≤ s.getLastD 0 := by
  rw [List.getLastD_eq_getLast?, List.getLast?_eq_some_getLast h]
  exact (List.pairwise_append.mp st).2.2 _ (List.getLast_mem h) x (List.mem_singleton.mpr rfl)
theorem mem_lev (n h w : Nat) : ∀ k, ∀ p, p ∈ lev n h w k ↔ LevOk n h w k p
  | 0, p => by
    unfold lev
    rw [List.mem_singleton]
    constructor
    · rintro rfl
      exact ⟨rfl, stair_nil, fun x hx => (nomatch hx), Nat.zero_le _, by simp⟩
    · rintro ⟨h1, _, _, _, h2⟩
      obtain ⟨m, l⟩ := p
      have := List.length_eq_zero_iff.mp h1
      dsimp only at this h2
      subst this
      simp at h2
      rw [h2]
  | k + 1, p => by
    unfold lev
    rw [List.mem_flatMap]
    constructor
    · rintro ⟨q, hq, h2⟩
      have o := (mem_lev n h w k q).mp hq
      unfold ext at h2
      split at h2
      · exact nomatch h2
      · rename_i hz
        split at h2
        · rename_i hh
          obtain ⟨i, hi, rfl⟩ := List.mem_map.mp h2
          have hi := List.mem_range.mp hi
          have ht := topE_le w q
          have hx : i + 1 ≤ w ∧ ∀ y ∈ q.1, i + 1 ≤ y := by
            unfold topE at hi
            split at hi
            · rename_i e
              exact ⟨by omega, fun y hy => by rw [e] at hy; exact nomatch hy⟩
            · rename_i e
              have hy : ∀ y ∈ q.1, i + 1 ≤ y := fun y hy => by
                have hl : q.1.getLastD 0 ≤ y := by
                  rw [List.getLastD_eq_getLast?, List.getLast?_eq_some_getLast e]
                  obtain ⟨a, ha, rfl⟩ := List.getElem_of_mem hy
                  rw [List.getLast_eq_getElem]
                  by_cases q1 : a = q.1.length - 1
                  · subst q1; exact Nat.le_refl _
                  · exact List.pairwise_iff_getElem.mp o.st.dn a (q.1.length - 1) ha (by omega) (by omega)
                show i + 1 ≤ y
                omega
              exact ⟨Nat.le_trans (hy _ (List.getLast_mem e)) (o.wd _ (List.getLast_mem e)), hy⟩
          refine ⟨by rw [List.length_append, o.len]; rfl, ⟨List.pairwise_append.mpr ⟨o.st.dn, List.pairwise_singleton _ _, fun a ha b hb => by rw [List.mem_singleton.mp hb]; exact hx.2 a ha⟩, fun x hm => ?_⟩, fun x hm => ?_, ?_, ?_⟩
          · rcases List.mem_append.mp hm with hm | hm
            · exact o.st.pos x hm
            · rw [List.mem_singleton.mp hm]; omega
          · rcases List.mem_append.mp hm with hm | hm
            · exact o.wd x hm
            · rw [List.mem_singleton.mp hm]; exact hx.1
          · have := o.len; omega
          · have := o.su
            dsimp only
            rw [List.sum_append, List.sum_singleton]
            omega
        · exact nomatch h2
    · intro o
      obtain ⟨m, l⟩ := p
      have hlen := o.len
      have hst := o.st
      have hwd := o.wd
      have hsu := o.su
      have hhi := o.hi
      dsimp only at hlen hst hwd hsu
      have hm : m ≠ [] := fun e => by rw [e] at hlen; exact nomatch hlen
      obtain ⟨s, x, rfl⟩ : ∃ s x, m = s ++ [x] := ⟨m.dropLast, m.getLast hm, (List.dropLast_concat_getLast hm).symm⟩
      rw [List.length_append, List.length_singleton] at hlen
      rw [List.sum_append, List.sum_singleton] at hsu
      have hx : 0 < x := hst.pos x (by simp)
      have hw : x ≤ w := hwd x (by simp)
      refine ⟨(s, l + x), (mem_lev n h w k _).mpr ⟨by dsimp only; omega, ⟨(List.pairwise_append.mp hst.dn).1, fun y hy => hst.pos y (by simp [hy])⟩, fun y hy => hwd y (by simp [hy]), by omega, by dsimp only; omega⟩, ?_⟩
      unfold ext
      rw [if_neg (by dsimp only; omega), if_pos (by dsimp only; omega)]
      refine List.mem_map.mpr ⟨x - 1, List.mem_range.mpr ?_, ?_⟩
      · unfold topE
        dsimp only
        split
        · omega
        · rename_i e
          have := last_le e hst.dn
          omega
      · dsimp only
        rw [show x - 1 + 1 = x by omega, Nat.add_sub_cancel]
theorem lev_nodup (n h w : Nat) : ∀ k, (lev n h w k).Nodup
  | 0 => List.pairwise_singleton _ _
  | k + 1 => by
    unfold lev
    refine List.pairwise_flatMap.mpr ⟨fun p hp => ?_, (lev_nodup n h w k).imp_of_mem fun {p q} hp hq hne x hx y hy e => hne ?_⟩
    · unfold ext
      split
      · exact .nil
      · split
        · refine List.pairwise_map.mpr ((List.pairwise_lt_range).imp fun {i j} hij e => ?_)
          injection e with e1 e2
          have := List.append_cancel_left e1
          injection this with h1 h2
          omega
        · exact .nil
    · have e1 : ∀ {p x : Ent}, x ∈ ext h w p → x.1.dropLast = p.1 := fun {p x} hx => by
        unfold ext at hx
        split at hx
        · exact nomatch hx
        · split at hx
          · obtain ⟨i, hi, rfl⟩ := List.mem_map.mp hx
            simp
          · exact nomatch hx
      have a1 := e1 hx
      have a2 := e1 hy
      rw [e, a2] at a1
      have o1 := ((mem_lev n h w k p).mp hp).su
      have o2 := ((mem_lev n h w k q).mp hq).su
      refine Prod.ext a1.symm ?_
      rw [← a1] at o1
      omega
theorem mem_dones (n h w : Nat) : ∀ k s, s ∈ dones n h w k ↔ Box n h w s ∧ s.length < k
  | 0, s => by simp [dones]
  | k + 1, s => by
    unfold dones
    rw [List.mem_append, mem_dones n h w k s, List.mem_flatMap]
    have f0 : ∀ p : Ent, s ∈ fin0 p ↔ p = (s, 0) := fun p => by
      obtain ⟨m, l⟩ := p
      unfold fin0
      by_cases hl : l = 0
      · rw [if_pos hl, List.mem_singleton, Prod.mk.injEq]
        exact ⟨fun e => ⟨e.symm, hl⟩, fun e => e.1.symm⟩
      · rw [if_neg hl, Prod.mk.injEq]
        exact ⟨fun e => (nomatch e), fun e => absurd e.2 hl⟩
    constructor
    · rintro (⟨b, hl⟩ | ⟨p, hp, hs⟩)
      · exact ⟨b, by omega⟩
      · rw [(f0 p).mp hs] at hp
        have o := (mem_lev n h w k _).mp hp
        have := o.len
        have := o.hi
        exact ⟨⟨o.st, by have := o.su; dsimp only at this; omega, by dsimp only at *; omega, o.wd⟩, by dsimp only at *; omega⟩
    · rintro ⟨b, hl⟩
      by_cases e : s.length < k
      · exact .inl ⟨b, e⟩
      · refine .inr ⟨(s, 0), (mem_lev n h w k _).mpr ⟨by dsimp only; omega, b.st, b.wd, by have := b.le; omega, by have := b.su; dsimp only; omega⟩, (f0 _).mpr rfl⟩
theorem dones_nodup (n h w : Nat) : ∀ k, (dones n h w k).Nodup
  | 0 => .nil
  | k + 1 => by
    unfold dones
    refine List.nodup_append.mpr ⟨dones_nodup n h w k, List.pairwise_flatMap.mpr ⟨fun p hp => ?x, (lev_nodup n h w k).imp fun {p q} hne x hx y hy e => hne ?y⟩, fun a ha b hb e => ?z⟩
    case x =>
      unfold fin0
      split
      · exact List.pairwise_singleton _ _
      · exact .nil
    case y =>
      have f0 : ∀ {p : Ent} {s}, s ∈ fin0 p → p = (s, 0) := fun {p s} h => by
        obtain ⟨m, l⟩ := p
        unfold fin0 at h
        split at h
        · rename_i e
          dsimp only at e
          rw [List.mem_singleton.mp h, e]
        · exact nomatch h
      rw [f0 hx, f0 hy, e]
    case z =>
      have h1 := ((mem_dones n h w k a).mp ha).2
      obtain ⟨p, hp, hs⟩ := List.mem_flatMap.mp hb
      have h2 := ((mem_lev n h w k p).mp hp).len
      unfold fin0 at hs
      split at hs
      · rw [List.mem_singleton.mp hs] at e
        rw [e] at h1
        omega
      · exact nomatch hs
theorem dones_all (n h w : Nat) : (allP n h w).Perm (dones n h w (n + 1)) := by
  refine (List.perm_ext_iff_of_nodup (allP_nodup n h w) (dones_nodup n h w _)).mpr fun s => ?_
  rw [mem_allP, mem_dones]
  constructor
  · intro b
    have := stair_len b.st
    have := b.su
    exact ⟨b, by omega⟩
  · exact fun h => h.1
theorem allP_len (n h w : Nat) : (allP n h w).length = cw w h n := by
  unfold allP
  rw [List.length_map, List.length_range]
theorem all_in {n h w : Nat} (hn : n ≤ 12) : m__law_all_in [.int (n : Int), .int (h : Int), .int (w : Int)] = .ok (.lst (rowsD (allP n h w))) true := by
  have p := dones_all n h w
  have ok : okSort (rowsD (dones n h w (n + 1))) = true := by
    refine okSort_rows ?_
    by_cases h0 : n = 0
    · subst h0
      rw [← p.length_eq, allP_len, cw_n0]
      exact .inl (Nat.le_refl _)
    · refine .inr fun s hs e => ?_
      have := ((mem_dones n h w (n + 1) s).mp hs).1.su
      rw [e] at this
      simp at this
      omega
  rw [all_in_is hn ok, srtD_rows p (allP_down n h w)]
end K09

set_option maxRecDepth 4000
namespace K09
open HC PM PL
open PySem (Str)
abbrev ansD (k : String) (r : Str) : D := .tup [.str (Str.ofString k), .str r, .bl true]
abbrev letD : D := .tup [.str (Str.ofString "let")]
theorem eq_plain {a : D} (h : plainD 30 a = true) (he : eqD a a = true) (ht : ∃ xs, a = .tup xs) (S : List SO) : bNe S a a = .ok (.bl false) false ∧ bEq S a a = .ok (.bl true) false := by
  obtain ⟨xs, rfl⟩ := ht
  constructor
  · show (if (plainD 30 (.tup xs) && plainD 30 (.tup xs)) = true then Res.ok (.bl (!eqD (.tup xs) (.tup xs))) false else .bad) = _
    rw [h, he]
    rfl
  · show (if (plainD 30 (.tup xs) && plainD 30 (.tup xs)) = true then Res.ok (.bl (eqD (.tup xs) (.tup xs))) false else .bad) = _
    rw [h, he]
    rfl
theorem ans_ne {k : String} {r : Str} (h : PySem.PyData.strOk r = true) (S : List SO) : bNe S (ansD k r) (ansD k r) = .ok (.bl false) false ∧ bEq S (ansD k r) (ansD k r) = .ok (.bl true) false := by
  refine eq_plain ?_ ?_ ⟨_, rfl⟩ S
  · show (PySem.PyData.strOk _ && (PySem.PyData.strOk r && (true && true))) = true
    rw [h, strOk_of]
    rfl
  · show ((_ == _) && ((_ == _) && ((_ == _) && true))) = true
    simp
theorem let_ne (S : List SO) : bNe S letD letD = .ok (.bl false) false := by
  refine (eq_plain ?_ ?_ ⟨_, rfl⟩ S).1
  · show (PySem.PyData.strOk _ && true) = true
    rw [strOk_of]
    rfl
  · show ((Str.ofString "let" == Str.ofString "let") && true) = true
    simp
/-- the calls of law_refused -/
def ask (xs : List D) : Res := match xs with
  | [a, b, c] => m_count_stairs [a, b, c]
  | [a, b, c, d] => m_stair_at [a, b, c, d]
  | _ => .bad
theorem refused_x {xs : List D} {c : Nat} {v : D} {k : String} {r : Str} (hp : pureL xs = true) (hv : v.pure = true) (h : ask xs = .ex c [v]) (hc : c = 1 ∧ k = "number" ∨ c = 10 ∧ k = "undefined") (hr : ∀ S, fRepr S [v] = .ok (.str r) false) :
    m__law_refused [.lst xs] = .ok (ansD k r) false := by
  have l3 : ((3 : Nat) ≤ lim) = True := by simp [lim]
  have hB : B__law_refused_1 [some (.lst xs), none] [] = .ex c [v] [some (.lst xs), none] [] := by
    match xs, hp, h with
    | [a, b, c], hp, h =>
      have hp : (a.pure && (b.pure && (c.pure && true))) = true := hp
      simp only [Bool.and_eq_true] at hp
      have hl : ∀ S, fLen S [.lst [a, b, c]] = .ok (.int 3) false := fun S => fLen_s (xs := [a, b, c]) rfl
      have x0 : atD [a, b, c] 0 = some a := rfl
      have x1 : atD [a, b, c] 1 = some b := rfl
      have x2 : atD [a, b, c] 2 = some c := rfl
      have h : m_count_stairs [a, b, c] = _ := h
      simp only [B__law_refused_1_e, rB_ok, rB_ex, aB_ok, aB_ex, lB_ok, lB_ex, llB_ok, llB_ex, liB_ok, lsB_ok, lsB_ex, vB_ok, vB_ex, sB_nx, sB_rt, sB_bk, sB_ct, sB_ex, tB_ok, tB_ex, iS_ok, iS_ex, fB_st, fB_dy, oS_nx, oS_ct, oS_bk, oS_rt, oS_ex, gB_s, fin_rt, fin_nx, fin_ex, vO_s, vOS_s, trO_s, oD_s, oL_s, newK_l, newK_d, gets_z, gets_s, cVar_e, cD_e, cTrue_e, cBin_e, cTru_e, cNot_e, cAnd_e, cOr_e, cIf_e, cAndB_e, cOrB_e, cNotB_e, cNil_e, cCons_e, cApp_e, iApp_e, sSkip_e, sBreak_e, sCont_e, sRetN_e, sSeq_e, sAsg_e, sNew_e, sExpr_e, sRet_e, sIf_e, sAsgT_e, sFor_e, sWhile_e, setD_e, tgName_e, tgTup_e, tB2_s, tgCons_e, tgNil_e, callD_e, callKw_e, pick_e, pureL_n, pureL_c, pure_non, pure_bl, pure_int, pure_str, pure_tup, pure_lst, pure_rol, pure_dct, pure_obj, sMethE_e, sMethA_e, sSub_e, sAug_e, augK_s, iVal_e, cComp_e, cB_st, cB_dy, coB_s, wipeD_n, wipeD_c, cTwo_e, cCutA_e, cCutH_e, cCutL_e, cCutLH_e, kInt_i, sTry_e, tryB_nx, tryB_ex, tryB_rt, sRaise_e, raiseK_e, runH_c, runH_n, sPar2_e, sPar3_e, par2K_e, par3K_e, sFrz_e, cErr_e, cChain_e, bAdd_i, bSub_i, bCmp_i, bEq_i, bNe_i, bEq_s, bNe_s, bEq_b, iAdd_i, bIs_n, bIsNot_n, bIs_b, bIsNot_b, isNon_n, isNon_b, isNon_i, isNon_t, isNon_l, truth_b, truth_n, truth_i, truth_t, locO_l, lstOf_l, lstOf_o, rdOf_r, rdOf_l, rdOf_o, rdOf_t, seqOf_t, seqOf_r, seqOf_l, seqOf_o, lO_s, tO_s, iV_t, iV_l, iV_r, iV_o, iVo_s, enI_t, enI_l, lcB_s, lS_l, pO_s, kS_s, kSub_e, retD_non, retD_bl, retD_int, retD_str, retD_tup, retD_lst, retD_rol, retD_dct, retD_obj, retD_loc, retO_l, retO_d, tgD_non, tgD_bl, tgD_int, tgD_str, tgD_tup, tgD_lst, tgD_rol, tgD_dct, bIx_t, bIx_l, bIx_r, fCut_t, fCut_l, fTuple_t, fInt_i, Bool.and_true, Bool.true_and, Bool.and_false, Bool.false_and, Bool.or_true, Bool.true_or, Bool.or_false, Bool.false_or, Bool.not_true, Bool.not_false, Bool.and_self, Bool.false_eq_true, if_true, if_false, decide_true, decide_false, reduceIte, List.set_cons_zero, List.set_cons_succ, List.length_cons, List.length_nil, List.map_cons, List.map_nil, List.nil_append, List.cons_append, hl, x0, x1, x2, hp.1, hp.2.1, hp.2.2.1, h]
    | [a, b, c, d], hp, h =>
      have hp : (a.pure && (b.pure && (c.pure && (d.pure && true)))) = true := hp
      simp only [Bool.and_eq_true] at hp
      have hl : ∀ S, fLen S [.lst [a, b, c, d]] = .ok (.int 4) false := fun S => fLen_s (xs := [a, b, c, d]) rfl
      have n43 : ((4 : Int) = 3) = False := by simp
      have x0 : atD [a, b, c, d] 0 = some a := rfl
      have x1 : atD [a, b, c, d] 1 = some b := rfl
      have x2 : atD [a, b, c, d] 2 = some c := rfl
      have x3 : atD [a, b, c, d] 3 = some d := rfl
      have h : m_stair_at [a, b, c, d] = _ := h
      simp only [B__law_refused_1_e, rB_ok, rB_ex, aB_ok, aB_ex, lB_ok, lB_ex, llB_ok, llB_ex, liB_ok, lsB_ok, lsB_ex, vB_ok, vB_ex, sB_nx, sB_rt, sB_bk, sB_ct, sB_ex, tB_ok, tB_ex, iS_ok, iS_ex, fB_st, fB_dy, oS_nx, oS_ct, oS_bk, oS_rt, oS_ex, gB_s, fin_rt, fin_nx, fin_ex, vO_s, vOS_s, trO_s, oD_s, oL_s, newK_l, newK_d, gets_z, gets_s, cVar_e, cD_e, cTrue_e, cBin_e, cTru_e, cNot_e, cAnd_e, cOr_e, cIf_e, cAndB_e, cOrB_e, cNotB_e, cNil_e, cCons_e, cApp_e, iApp_e, sSkip_e, sBreak_e, sCont_e, sRetN_e, sSeq_e, sAsg_e, sNew_e, sExpr_e, sRet_e, sIf_e, sAsgT_e, sFor_e, sWhile_e, setD_e, tgName_e, tgTup_e, tB2_s, tgCons_e, tgNil_e, callD_e, callKw_e, pick_e, pureL_n, pureL_c, pure_non, pure_bl, pure_int, pure_str, pure_tup, pure_lst, pure_rol, pure_dct, pure_obj, sMethE_e, sMethA_e, sSub_e, sAug_e, augK_s, iVal_e, cComp_e, cB_st, cB_dy, coB_s, wipeD_n, wipeD_c, cTwo_e, cCutA_e, cCutH_e, cCutL_e, cCutLH_e, kInt_i, sTry_e, tryB_nx, tryB_ex, tryB_rt, sRaise_e, raiseK_e, runH_c, runH_n, sPar2_e, sPar3_e, par2K_e, par3K_e, sFrz_e, cErr_e, cChain_e, bAdd_i, bSub_i, bCmp_i, bEq_i, bNe_i, bEq_s, bNe_s, bEq_b, iAdd_i, bIs_n, bIsNot_n, bIs_b, bIsNot_b, isNon_n, isNon_b, isNon_i, isNon_t, isNon_l, truth_b, truth_n, truth_i, truth_t, locO_l, lstOf_l, lstOf_o, rdOf_r, rdOf_l, rdOf_o, rdOf_t, seqOf_t, seqOf_r, seqOf_l, seqOf_o, lO_s, tO_s, iV_t, iV_l, iV_r, iV_o, iVo_s, enI_t, enI_l, lcB_s, lS_l, pO_s, kS_s, kSub_e, retD_non, retD_bl, retD_int, retD_str, retD_tup, retD_lst, retD_rol, retD_dct, retD_obj, retD_loc, retO_l, retO_d, tgD_non, tgD_bl, tgD_int, tgD_str, tgD_tup, tgD_lst, tgD_rol, tgD_dct, bIx_t, bIx_l, bIx_r, fCut_t, fCut_l, fTuple_t, fInt_i, Bool.and_true, Bool.true_and, Bool.and_false, Bool.false_and, Bool.or_true, Bool.true_or, Bool.or_false, Bool.false_or, Bool.not_true, Bool.not_false, Bool.and_self, Bool.false_eq_true, if_true, if_false, decide_true, decide_false, reduceIte, List.set_cons_zero, List.set_cons_succ, List.length_cons, List.length_nil, List.map_cons, List.map_nil, List.nil_append, List.cons_append, hl, n43, x0, x1, x2, x3, hp.1, hp.2.1, hp.2.2.1, hp.2.2.2.1, List.getD_cons_zero, List.getD_cons_succ, h]
  rcases hc with ⟨rfl, rfl⟩ | ⟨rfl, rfl⟩
  · simp only [r__law_refused, b__law_refused_e, rB_ok, rB_ex, aB_ok, aB_ex, lB_ok, lB_ex, llB_ok, llB_ex, liB_ok, lsB_ok, lsB_ex, vB_ok, vB_ex, sB_nx, sB_rt, sB_bk, sB_ct, sB_ex, tB_ok, tB_ex, iS_ok, iS_ex, fB_st, fB_dy, oS_nx, oS_ct, oS_bk, oS_rt, oS_ex, gB_s, fin_rt, fin_nx, fin_ex, vO_s, vOS_s, trO_s, oD_s, oL_s, newK_l, newK_d, gets_z, gets_s, cVar_e, cD_e, cTrue_e, cBin_e, cTru_e, cNot_e, cAnd_e, cOr_e, cIf_e, cAndB_e, cOrB_e, cNotB_e, cNil_e, cCons_e, cApp_e, iApp_e, sSkip_e, sBreak_e, sCont_e, sRetN_e, sSeq_e, sAsg_e, sNew_e, sExpr_e, sRet_e, sIf_e, sAsgT_e, sFor_e, sWhile_e, setD_e, tgName_e, tgTup_e, tB2_s, tgCons_e, tgNil_e, callD_e, callKw_e, pick_e, pureL_n, pureL_c, pure_non, pure_bl, pure_int, pure_str, pure_tup, pure_lst, pure_rol, pure_dct, pure_obj, sMethE_e, sMethA_e, sSub_e, sAug_e, augK_s, iVal_e, cComp_e, cB_st, cB_dy, coB_s, wipeD_n, wipeD_c, cTwo_e, cCutA_e, cCutH_e, cCutL_e, cCutLH_e, kInt_i, sTry_e, tryB_nx, tryB_ex, tryB_rt, sRaise_e, raiseK_e, runH_c, runH_n, sPar2_e, sPar3_e, par2K_e, par3K_e, sFrz_e, cErr_e, cChain_e, bAdd_i, bSub_i, bCmp_i, bEq_i, bNe_i, bEq_s, bNe_s, bEq_b, iAdd_i, bIs_n, bIsNot_n, bIs_b, bIsNot_b, isNon_n, isNon_b, isNon_i, isNon_t, isNon_l, truth_b, truth_n, truth_i, truth_t, locO_l, lstOf_l, lstOf_o, rdOf_r, rdOf_l, rdOf_o, rdOf_t, seqOf_t, seqOf_r, seqOf_l, seqOf_o, lO_s, tO_s, iV_t, iV_l, iV_r, iV_o, iVo_s, enI_t, enI_l, lcB_s, lS_l, pO_s, kS_s, kSub_e, retD_non, retD_bl, retD_int, retD_str, retD_tup, retD_lst, retD_rol, retD_dct, retD_obj, retD_loc, retO_l, retO_d, tgD_non, tgD_bl, tgD_int, tgD_str, tgD_tup, tgD_lst, tgD_rol, tgD_dct, bIx_t, bIx_l, bIx_r, fCut_t, fCut_l, fTuple_t, fInt_i, Bool.and_true, Bool.true_and, Bool.and_false, Bool.false_and, Bool.or_true, Bool.true_or, Bool.or_false, Bool.false_or, Bool.not_true, Bool.not_false, Bool.and_self, Bool.false_eq_true, if_true, if_false, decide_true, decide_false, reduceIte, List.set_cons_zero, List.set_cons_succ, List.length_cons, List.length_nil, List.map_cons, List.map_nil, List.nil_append, List.cons_append, hB, I__law_refused_2, H__law_refused_1_e, A__law_refused_1, I__law_refused_1, atR, isR, hr, hdK_t, hdK_f, noE_bl, noE_str, noE_tup, noEs_c, noEs_n, fTup_e, Nat.reduceAdd, l3]
  · simp only [r__law_refused, b__law_refused_e, rB_ok, rB_ex, aB_ok, aB_ex, lB_ok, lB_ex, llB_ok, llB_ex, liB_ok, lsB_ok, lsB_ex, vB_ok, vB_ex, sB_nx, sB_rt, sB_bk, sB_ct, sB_ex, tB_ok, tB_ex, iS_ok, iS_ex, fB_st, fB_dy, oS_nx, oS_ct, oS_bk, oS_rt, oS_ex, gB_s, fin_rt, fin_nx, fin_ex, vO_s, vOS_s, trO_s, oD_s, oL_s, newK_l, newK_d, gets_z, gets_s, cVar_e, cD_e, cTrue_e, cBin_e, cTru_e, cNot_e, cAnd_e, cOr_e, cIf_e, cAndB_e, cOrB_e, cNotB_e, cNil_e, cCons_e, cApp_e, iApp_e, sSkip_e, sBreak_e, sCont_e, sRetN_e, sSeq_e, sAsg_e, sNew_e, sExpr_e, sRet_e, sIf_e, sAsgT_e, sFor_e, sWhile_e, setD_e, tgName_e, tgTup_e, tB2_s, tgCons_e, tgNil_e, callD_e, callKw_e, pick_e, pureL_n, pureL_c, pure_non, pure_bl, pure_int, pure_str, pure_tup, pure_lst, pure_rol, pure_dct, pure_obj, sMethE_e, sMethA_e, sSub_e, sAug_e, augK_s, iVal_e, cComp_e, cB_st, cB_dy, coB_s, wipeD_n, wipeD_c, cTwo_e, cCutA_e, cCutH_e, cCutL_e, cCutLH_e, kInt_i, sTry_e, tryB_nx, tryB_ex, tryB_rt, sRaise_e, raiseK_e, runH_c, runH_n, sPar2_e, sPar3_e, par2K_e, par3K_e, sFrz_e, cErr_e, cChain_e, bAdd_i, bSub_i, bCmp_i, bEq_i, bNe_i, bEq_s, bNe_s, bEq_b, iAdd_i, bIs_n, bIsNot_n, bIs_b, bIsNot_b, isNon_n, isNon_b, isNon_i, isNon_t, isNon_l, truth_b, truth_n, truth_i, truth_t, locO_l, lstOf_l, lstOf_o, rdOf_r, rdOf_l, rdOf_o, rdOf_t, seqOf_t, seqOf_r, seqOf_l, seqOf_o, lO_s, tO_s, iV_t, iV_l, iV_r, iV_o, iVo_s, enI_t, enI_l, lcB_s, lS_l, pO_s, kS_s, kSub_e, retD_non, retD_bl, retD_int, retD_str, retD_tup, retD_lst, retD_rol, retD_dct, retD_obj, retD_loc, retO_l, retO_d, tgD_non, tgD_bl, tgD_int, tgD_str, tgD_tup, tgD_lst, tgD_rol, tgD_dct, bIx_t, bIx_l, bIx_r, fCut_t, fCut_l, fTuple_t, fInt_i, Bool.and_true, Bool.true_and, Bool.and_false, Bool.false_and, Bool.or_true, Bool.true_or, Bool.or_false, Bool.false_or, Bool.not_true, Bool.not_false, Bool.and_self, Bool.false_eq_true, if_true, if_false, decide_true, decide_false, reduceIte, List.set_cons_zero, List.set_cons_succ, List.length_cons, List.length_nil, List.map_cons, List.map_nil, List.nil_append, List.cons_append, hB, I__law_refused_2, I__law_refused_3, H__law_refused_2_e, A__law_refused_2, I__law_refused_1, atR, isR, hr, hdK_t, hdK_f, noE_bl, noE_str, noE_tup, noEs_c, noEs_n, fTup_e, Nat.reduceAdd, l3]
theorem refused_let {a b c d e : D} (pa : a.pure = true) (pb : b.pure = true) (pc : c.pure = true) (pd : d.pure = true) (h : m_stair_at [a, b, c, d] = .ok e false) : m__law_refused [.lst [a, b, c, d]] = .ok letD false := by
  have hl : ∀ S, fLen S [.lst [a, b, c, d]] = .ok (.int 4) false := fun S => fLen_s (xs := [a, b, c, d]) rfl
  have n43 : ((4 : Int) = 3) = False := by simp
  have x0 : atD [a, b, c, d] 0 = some a := rfl
  have x1 : atD [a, b, c, d] 1 = some b := rfl
  have x2 : atD [a, b, c, d] 2 = some c := rfl
  have x3 : atD [a, b, c, d] 3 = some d := rfl
  have l1 : ((1 : Nat) ≤ lim) = True := by simp [lim]
  simp only [r__law_refused, b__law_refused_e, B__law_refused_1_e, rB_ok, rB_ex, aB_ok, aB_ex, lB_ok, lB_ex, llB_ok, llB_ex, liB_ok, lsB_ok, lsB_ex, vB_ok, vB_ex, sB_nx, sB_rt, sB_bk, sB_ct, sB_ex, tB_ok, tB_ex, iS_ok, iS_ex, fB_st, fB_dy, oS_nx, oS_ct, oS_bk, oS_rt, oS_ex, gB_s, fin_rt, fin_nx, fin_ex, vO_s, vOS_s, trO_s, oD_s, oL_s, newK_l, newK_d, gets_z, gets_s, cVar_e, cD_e, cTrue_e, cBin_e, cTru_e, cNot_e, cAnd_e, cOr_e, cIf_e, cAndB_e, cOrB_e, cNotB_e, cNil_e, cCons_e, cApp_e, iApp_e, sSkip_e, sBreak_e, sCont_e, sRetN_e, sSeq_e, sAsg_e, sNew_e, sExpr_e, sRet_e, sIf_e, sAsgT_e, sFor_e, sWhile_e, setD_e, tgName_e, tgTup_e, tB2_s, tgCons_e, tgNil_e, callD_e, callKw_e, pick_e, pureL_n, pureL_c, pure_non, pure_bl, pure_int, pure_str, pure_tup, pure_lst, pure_rol, pure_dct, pure_obj, sMethE_e, sMethA_e, sSub_e, sAug_e, augK_s, iVal_e, cComp_e, cB_st, cB_dy, coB_s, wipeD_n, wipeD_c, cTwo_e, cCutA_e, cCutH_e, cCutL_e, cCutLH_e, kInt_i, sTry_e, tryB_nx, tryB_ex, tryB_rt, sRaise_e, raiseK_e, runH_c, runH_n, hdK_t, hdK_f, noE_bl, noE_int, noE_lst, noE_non, noE_str, noE_tup, noEs_c, noEs_n, sPar2_e, sPar3_e, par2K_e, par3K_e, sFrz_e, cErr_e, cChain_e, bAdd_i, bSub_i, bCmp_i, bEq_i, bNe_i, bEq_s, bNe_s, bEq_b, iAdd_i, bIs_n, bIsNot_n, bIs_b, bIsNot_b, isNon_n, isNon_b, isNon_i, isNon_t, isNon_l, truth_b, truth_n, truth_i, truth_t, locO_l, lstOf_l, lstOf_o, rdOf_r, rdOf_l, rdOf_o, rdOf_t, seqOf_t, seqOf_r, seqOf_l, seqOf_o, lO_s, tO_s, iV_t, iV_l, iV_r, iV_o, iVo_s, enI_t, enI_l, lcB_s, lS_l, pO_s, kS_s, kSub_e, retD_non, retD_bl, retD_int, retD_str, retD_tup, retD_lst, retD_rol, retD_dct, retD_obj, retD_loc, retO_l, retO_d, tgD_non, tgD_bl, tgD_int, tgD_str, tgD_tup, tgD_lst, tgD_rol, tgD_dct, bIx_t, bIx_l, bIx_r, fCut_t, fCut_l, fTuple_t, fInt_i, Bool.and_true, Bool.true_and, Bool.and_false, Bool.false_and, Bool.or_true, Bool.true_or, Bool.or_false, Bool.false_or, Bool.not_true, Bool.not_false, Bool.and_self, Bool.false_eq_true, if_true, if_false, decide_true, decide_false, reduceIte, List.set_cons_zero, List.set_cons_succ, List.length_cons, List.length_nil, List.map_cons, List.map_nil, List.nil_append, List.cons_append, hl, n43, x0, x1, x2, x3, pa, pb, pc, pd, List.getD_cons_zero, List.getD_cons_succ, h, fTup_e, Nat.reduceAdd, l1]
theorem refused_place_x {x y z v : D} {c : Nat} {k : String} {r : Str} (px : x.pure = true) (py : y.pure = true) (pz : z.pure = true) (hv : v.pure = true) (h : m_place_of [x, y, z] = .ex c [v]) (hc : c = 2 ∧ k = "stair" ∨ c = 10 ∧ k = "undefined") (hr : ∀ S, fRepr S [v] = .ok (.str r) false) :
    m__law_refused_place [x, y, z] = .ok (ansD k r) false := by
  have l3 : ((3 : Nat) ≤ lim) = True := by simp [lim]
  rcases hc with ⟨rfl, rfl⟩ | ⟨rfl, rfl⟩
  · simp only [r__law_refused_place, b__law_refused_place_e, B__law_refused_place_1_e, rB_ok, rB_ex, aB_ok, aB_ex, lB_ok, lB_ex, llB_ok, llB_ex, liB_ok, lsB_ok, lsB_ex, vB_ok, vB_ex, sB_nx, sB_rt, sB_bk, sB_ct, sB_ex, tB_ok, tB_ex, iS_ok, iS_ex, fB_st, fB_dy, oS_nx, oS_ct, oS_bk, oS_rt, oS_ex, gB_s, fin_rt, fin_nx, fin_ex, vO_s, vOS_s, trO_s, oD_s, oL_s, newK_l, newK_d, gets_z, gets_s, cVar_e, cD_e, cTrue_e, cBin_e, cTru_e, cNot_e, cAnd_e, cOr_e, cIf_e, cAndB_e, cOrB_e, cNotB_e, cNil_e, cCons_e, cApp_e, iApp_e, sSkip_e, sBreak_e, sCont_e, sRetN_e, sSeq_e, sAsg_e, sNew_e, sExpr_e, sRet_e, sIf_e, sAsgT_e, sFor_e, sWhile_e, setD_e, tgName_e, tgTup_e, tB2_s, tgCons_e, tgNil_e, callD_e, callKw_e, pick_e, pureL_n, pureL_c, pure_non, pure_bl, pure_int, pure_str, pure_tup, pure_lst, pure_rol, pure_dct, pure_obj, sMethE_e, sMethA_e, sSub_e, sAug_e, augK_s, iVal_e, cComp_e, cB_st, cB_dy, coB_s, wipeD_n, wipeD_c, cTwo_e, cCutA_e, cCutH_e, cCutL_e, cCutLH_e, kInt_i, sTry_e, tryB_nx, tryB_ex, tryB_rt, sRaise_e, raiseK_e, runH_c, runH_n, hdK_t, hdK_f, noE_bl, noE_int, noE_lst, noE_non, noE_str, noE_tup, noEs_c, noEs_n, sPar2_e, sPar3_e, par2K_e, par3K_e, sFrz_e, cErr_e, cChain_e, bAdd_i, bSub_i, bCmp_i, bEq_i, bNe_i, bEq_s, bNe_s, bEq_b, iAdd_i, bIs_n, bIsNot_n, bIs_b, bIsNot_b, isNon_n, isNon_b, isNon_i, isNon_t, isNon_l, truth_b, truth_n, truth_i, truth_t, locO_l, lstOf_l, lstOf_o, rdOf_r, rdOf_l, rdOf_o, rdOf_t, seqOf_t, seqOf_r, seqOf_l, seqOf_o, lO_s, tO_s, iV_t, iV_l, iV_r, iV_o, iVo_s, enI_t, enI_l, lcB_s, lS_l, pO_s, kS_s, kSub_e, retD_non, retD_bl, retD_int, retD_str, retD_tup, retD_lst, retD_rol, retD_dct, retD_obj, retD_loc, retO_l, retO_d, tgD_non, tgD_bl, tgD_int, tgD_str, tgD_tup, tgD_lst, tgD_rol, tgD_dct, bIx_t, bIx_l, bIx_r, fCut_t, fCut_l, fTuple_t, fInt_i, Bool.and_true, Bool.true_and, Bool.and_false, Bool.false_and, Bool.or_true, Bool.true_or, Bool.or_false, Bool.false_or, Bool.not_true, Bool.not_false, Bool.and_self, Bool.false_eq_true, if_true, if_false, decide_true, decide_false, reduceIte, List.set_cons_zero, List.set_cons_succ, List.length_cons, List.length_nil, List.map_cons, List.map_nil, List.nil_append, List.cons_append, px, py, pz, hv, h, I__law_refused_place_2, H__law_refused_place_1_e, A__law_refused_place_1, I__law_refused_place_1, atR, isR, hr, fTup_e, Nat.reduceAdd, l3]
  · simp only [r__law_refused_place, b__law_refused_place_e, B__law_refused_place_1_e, rB_ok, rB_ex, aB_ok, aB_ex, lB_ok, lB_ex, llB_ok, llB_ex, liB_ok, lsB_ok, lsB_ex, vB_ok, vB_ex, sB_nx, sB_rt, sB_bk, sB_ct, sB_ex, tB_ok, tB_ex, iS_ok, iS_ex, fB_st, fB_dy, oS_nx, oS_ct, oS_bk, oS_rt, oS_ex, gB_s, fin_rt, fin_nx, fin_ex, vO_s, vOS_s, trO_s, oD_s, oL_s, newK_l, newK_d, gets_z, gets_s, cVar_e, cD_e, cTrue_e, cBin_e, cTru_e, cNot_e, cAnd_e, cOr_e, cIf_e, cAndB_e, cOrB_e, cNotB_e, cNil_e, cCons_e, cApp_e, iApp_e, sSkip_e, sBreak_e, sCont_e, sRetN_e, sSeq_e, sAsg_e, sNew_e, sExpr_e, sRet_e, sIf_e, sAsgT_e, sFor_e, sWhile_e, setD_e, tgName_e, tgTup_e, tB2_s, tgCons_e, tgNil_e, callD_e, callKw_e, pick_e, pureL_n, pureL_c, pure_non, pure_bl, pure_int, pure_str, pure_tup, pure_lst, pure_rol, pure_dct, pure_obj, sMethE_e, sMethA_e, sSub_e, sAug_e, augK_s, iVal_e, cComp_e, cB_st, cB_dy, coB_s, wipeD_n, wipeD_c, cTwo_e, cCutA_e, cCutH_e, cCutL_e, cCutLH_e, kInt_i, sTry_e, tryB_nx, tryB_ex, tryB_rt, sRaise_e, raiseK_e, runH_c, runH_n, hdK_t, hdK_f, noE_bl, noE_int, noE_lst, noE_non, noE_str, noE_tup, noEs_c, noEs_n, sPar2_e, sPar3_e, par2K_e, par3K_e, sFrz_e, cErr_e, cChain_e, bAdd_i, bSub_i, bCmp_i, bEq_i, bNe_i, bEq_s, bNe_s, bEq_b, iAdd_i, bIs_n, bIsNot_n, bIs_b, bIsNot_b, isNon_n, isNon_b, isNon_i, isNon_t, isNon_l, truth_b, truth_n, truth_i, truth_t, locO_l, lstOf_l, lstOf_o, rdOf_r, rdOf_l, rdOf_o, rdOf_t, seqOf_t, seqOf_r, seqOf_l, seqOf_o, lO_s, tO_s, iV_t, iV_l, iV_r, iV_o, iVo_s, enI_t, enI_l, lcB_s, lS_l, pO_s, kS_s, kSub_e, retD_non, retD_bl, retD_int, retD_str, retD_tup, retD_lst, retD_rol, retD_dct, retD_obj, retD_loc, retO_l, retO_d, tgD_non, tgD_bl, tgD_int, tgD_str, tgD_tup, tgD_lst, tgD_rol, tgD_dct, bIx_t, bIx_l, bIx_r, fCut_t, fCut_l, fTuple_t, fInt_i, Bool.and_true, Bool.true_and, Bool.and_false, Bool.false_and, Bool.or_true, Bool.true_or, Bool.or_false, Bool.false_or, Bool.not_true, Bool.not_false, Bool.and_self, Bool.false_eq_true, if_true, if_false, decide_true, decide_false, reduceIte, List.set_cons_zero, List.set_cons_succ, List.length_cons, List.length_nil, List.map_cons, List.map_nil, List.nil_append, List.cons_append, px, py, pz, hv, h, I__law_refused_place_2, I__law_refused_place_3, H__law_refused_place_2_e, A__law_refused_place_2, I__law_refused_place_1, atR, isR, hr, fTup_e, Nat.reduceAdd, l3]
theorem refused_place_let {x y z e : D} (px : x.pure = true) (py : y.pure = true) (pz : z.pure = true) (h : m_place_of [x, y, z] = .ok e false) : m__law_refused_place [x, y, z] = .ok letD false := by
  have l1 : ((1 : Nat) ≤ lim) = True := by simp [lim]
  simp only [r__law_refused_place, b__law_refused_place_e, B__law_refused_place_1_e, rB_ok, rB_ex, aB_ok, aB_ex, lB_ok, lB_ex, llB_ok, llB_ex, liB_ok, lsB_ok, lsB_ex, vB_ok, vB_ex, sB_nx, sB_rt, sB_bk, sB_ct, sB_ex, tB_ok, tB_ex, iS_ok, iS_ex, fB_st, fB_dy, oS_nx, oS_ct, oS_bk, oS_rt, oS_ex, gB_s, fin_rt, fin_nx, fin_ex, vO_s, vOS_s, trO_s, oD_s, oL_s, newK_l, newK_d, gets_z, gets_s, cVar_e, cD_e, cTrue_e, cBin_e, cTru_e, cNot_e, cAnd_e, cOr_e, cIf_e, cAndB_e, cOrB_e, cNotB_e, cNil_e, cCons_e, cApp_e, iApp_e, sSkip_e, sBreak_e, sCont_e, sRetN_e, sSeq_e, sAsg_e, sNew_e, sExpr_e, sRet_e, sIf_e, sAsgT_e, sFor_e, sWhile_e, setD_e, tgName_e, tgTup_e, tB2_s, tgCons_e, tgNil_e, callD_e, callKw_e, pick_e, pureL_n, pureL_c, pure_non, pure_bl, pure_int, pure_str, pure_tup, pure_lst, pure_rol, pure_dct, pure_obj, sMethE_e, sMethA_e, sSub_e, sAug_e, augK_s, iVal_e, cComp_e, cB_st, cB_dy, coB_s, wipeD_n, wipeD_c, cTwo_e, cCutA_e, cCutH_e, cCutL_e, cCutLH_e, kInt_i, sTry_e, tryB_nx, tryB_ex, tryB_rt, sRaise_e, raiseK_e, runH_c, runH_n, hdK_t, hdK_f, noE_bl, noE_int, noE_lst, noE_non, noE_str, noE_tup, noEs_c, noEs_n, sPar2_e, sPar3_e, par2K_e, par3K_e, sFrz_e, cErr_e, cChain_e, bAdd_i, bSub_i, bCmp_i, bEq_i, bNe_i, bEq_s, bNe_s, bEq_b, iAdd_i, bIs_n, bIsNot_n, bIs_b, bIsNot_b, isNon_n, isNon_b, isNon_i, isNon_t, isNon_l, truth_b, truth_n, truth_i, truth_t, locO_l, lstOf_l, lstOf_o, rdOf_r, rdOf_l, rdOf_o, rdOf_t, seqOf_t, seqOf_r, seqOf_l, seqOf_o, lO_s, tO_s, iV_t, iV_l, iV_r, iV_o, iVo_s, enI_t, enI_l, lcB_s, lS_l, pO_s, kS_s, kSub_e, retD_non, retD_bl, retD_int, retD_str, retD_tup, retD_lst, retD_rol, retD_dct, retD_obj, retD_loc, retO_l, retO_d, tgD_non, tgD_bl, tgD_int, tgD_str, tgD_tup, tgD_lst, tgD_rol, tgD_dct, bIx_t, bIx_l, bIx_r, fCut_t, fCut_l, fTuple_t, fInt_i, Bool.and_true, Bool.true_and, Bool.and_false, Bool.false_and, Bool.or_true, Bool.true_or, Bool.or_false, Bool.false_or, Bool.not_true, Bool.not_false, Bool.and_self, Bool.false_eq_true, if_true, if_false, decide_true, decide_false, reduceIte, List.set_cons_zero, List.set_cons_succ, List.length_cons, List.length_nil, List.map_cons, List.map_nil, List.nil_append, List.cons_append, px, py, pz, h, fTup_e, Nat.reduceAdd, l1]
end K09

set_option maxRecDepth 4000
namespace K09
open HC PM PL
open PySem (Str)
structure Odd (d : D) : Prop where
  ty : typD d
  no : numD d = false
  rp : RepOk d
theorem Odd.pu {d : D} (h : Odd d) : d.pure = true := typ_pure h.ty
def odds (c : Int) : List D := [.bl true, .bl false, .int (-1), .non, .str (Str.ofString "3"), .tup [.int 2], .lst [.int 1], .int (-1 - c / 512 % 10 ^ 30)]
theorem odds_ok (c : Int) : ∀ d ∈ odds c, Odd d := by
  have h1 := Int.emod_nonneg (c / 512) (b := (10 : Int) ^ 30) (by decide)
  have h2 := Int.emod_lt_of_pos (c / 512) (b := (10 : Int) ^ 30) (by decide)
  have sm : ∀ i : Int, i.natAbs < 1024 → Itm (.int i) 1 11 := fun i h => itm_small h
  intro d hd
  simp only [odds, List.mem_cons, List.not_mem_nil, or_false] at hd
  rcases hd with rfl | rfl | rfl | rfl | rfl | rfl | rfl | rfl
  · exact ⟨⟨_, rfl⟩, rfl, repOk_of itm_bl (tx_bl _)⟩
  · exact ⟨⟨_, rfl⟩, rfl, repOk_of itm_bl (tx_bl _)⟩
  · exact ⟨⟨_, rfl⟩, rfl, repOk_of ((sm _ (by decide)).le (by omega) (by omega)) (tx_int _)⟩
  · exact ⟨⟨_, rfl⟩, rfl, repOk_of itm_non tx_non⟩
  · exact ⟨⟨_, rfl⟩, rfl, repOk_of (itm_str (by decide +kernel) (by decide +kernel)) ⟨_, rfl, by decide +kernel⟩⟩
  · exact ⟨⟨_, rfl⟩, rfl, repOk_of ((itm_tup (itms_cons (sm 2 (by decide)) itms_nil)).le (by omega) (by omega)) (tx_tup (txs_of fun d hd => by rw [List.mem_singleton.mp hd]; exact tx_int _))⟩
  · exact ⟨⟨_, rfl⟩, rfl, repOk_of ((itm_lst (itms_cons (sm 1 (by decide)) itms_nil)).le (by omega) (by omega)) (tx_lst (txs_of fun d hd => by rw [List.mem_singleton.mp hd]; exact tx_int _))⟩
  · refine ⟨⟨_, rfl⟩, ?_, repOk_of ((itm_int (dp := 1) (log2_small ?_)).le (by omega) (by omega)) (tx_int _)⟩
    · show decide _ = false
      rw [decide_eq_false_iff_not]
      omega
    · have : (10 : Int) ^ 30 = 1000000000000000000000000000000 := by decide
      have e : (1000000000000000000000000000000 : Nat) + 2 < 2 ^ 600 := by decide +kernel
      omega
theorem sp_for {n : Nat} {a c : Int} {A Oc P : Option D} : ∀ (ps : List Nat) (T : List D) (s5 : Option D), T.length = n → (∀ p ∈ ps, p < n) → n ≤ 1000 →
    ∃ T' s5', forL (tgName 5) L__law_spoilt_1 (nts ps) [A, some (.int c), some (.lst (odds c)), some (.loc 0), P, s5] [.lst T] = .nx [A, some (.int c), some (.lst (odds c)), some (.loc 0), P, s5'] [.lst T'] ∧ T'.length = n ∧
      ∀ i, i < n → (i ∈ ps ∧ ∃ d, T'[i]? = some d ∧ Odd d) ∨ (i ∉ ps ∧ T'[i]? = T[i]?)
  | [], T, s5, hl, _, _ => ⟨T, s5, rfl, hl, fun i hi => .inr ⟨by simp, rfl⟩⟩
  | p :: ps, T, s5, hl, hp, hn => by
    have hpn := hp p (List.mem_cons_self ..)
    obtain ⟨j, ej, hj0, hj⟩ := draw_is c p 8 (by omega) (by omega)
    obtain ⟨k, rfl⟩ : ∃ k : Nat, j = (k : Int) := ⟨j.toNat, by omega⟩
    have hk : k < (odds c).length := by show k < 8; omega
    have ho := odds_ok c _ (List.getElem_mem hk)
    obtain ⟨T', s5', e, h1, h2⟩ := sp_for (n := n) (a := a) (c := c) (A := A) (Oc := Oc) (P := P) ps (T.set p (odds c)[k]) (some (.int (p : Int))) (by rw [List.length_set, hl]) (fun q hq => hp q (List.mem_cons_of_mem _ hq)) hn
    refine ⟨T', s5', ?_, h1, fun i hi => ?_⟩
    · have e0 : nts (p :: ps) = .int (p : Int) :: nts ps := rfl
      have a1 : atD (odds c) (k : Int) = some (odds c)[k] := by rw [atD_n, List.getElem?_eq_getElem hk]
      have a2 : setI T (p : Int) (odds c)[k] = some (T.set p (odds c)[k]) := setI_n (by omega)
      rw [e0, forL_c]
      simp only [L__law_spoilt_1_e, rB_ok, rB_ex, aB_ok, aB_ex, lB_ok, lB_ex, llB_ok, llB_ex, liB_ok, lsB_ok, lsB_ex, vB_ok, vB_ex, sB_nx, sB_rt, sB_bk, sB_ct, sB_ex, tB_ok, tB_ex, iS_ok, iS_ex, fB_st, fB_dy, oS_nx, oS_ct, oS_bk, oS_rt, oS_ex, gB_s, fin_rt, fin_nx, fin_ex, vO_s, vOS_s, trO_s, oD_s, oL_s, newK_l, newK_d, gets_z, gets_s, cVar_e, cD_e, cTrue_e, cBin_e, cTru_e, cNot_e, cAnd_e, cOr_e, cIf_e, cAndB_e, cOrB_e, cNotB_e, cNil_e, cCons_e, cApp_e, iApp_e, sSkip_e, sBreak_e, sCont_e, sRetN_e, sSeq_e, sAsg_e, sNew_e, sExpr_e, sRet_e, sIf_e, sAsgT_e, sFor_e, sWhile_e, setD_e, tgName_e, tgTup_e, tB2_s, tgCons_e, tgNil_e, callD_e, callKw_e, pick_e, pureL_n, pureL_c, pure_non, pure_bl, pure_int, pure_str, pure_tup, pure_lst, pure_rol, pure_dct, pure_obj, sMethE_e, sMethA_e, sSub_e, sAug_e, augK_s, iVal_e, cComp_e, cB_st, cB_dy, coB_s, wipeD_n, wipeD_c, cTwo_e, cCutA_e, cCutH_e, cCutL_e, cCutLH_e, kInt_i, sTry_e, tryB_nx, tryB_ex, tryB_rt, sRaise_e, raiseK_e, runH_c, runH_n, hdK_t, hdK_f, noE_bl, noE_int, noE_lst, noE_non, noE_str, noE_tup, noEs_c, noEs_n, sPar2_e, sPar3_e, par2K_e, par3K_e, sFrz_e, cErr_e, cChain_e, bAdd_i, bSub_i, bCmp_i, bEq_i, bNe_i, bEq_s, bNe_s, bEq_b, iAdd_i, bIs_n, bIsNot_n, bIs_b, bIsNot_b, isNon_n, isNon_b, isNon_i, isNon_t, isNon_l, truth_b, truth_n, truth_i, truth_t, locO_l, lstOf_l, lstOf_o, rdOf_r, rdOf_l, rdOf_o, rdOf_t, seqOf_t, seqOf_r, seqOf_l, seqOf_o, lO_s, tO_s, iV_t, iV_l, iV_r, iV_o, iVo_s, enI_t, enI_l, lcB_s, lS_l, pO_s, kS_s, kSub_e, retD_non, retD_bl, retD_int, retD_str, retD_tup, retD_lst, retD_rol, retD_dct, retD_obj, retD_loc, retO_l, retO_d, tgD_non, tgD_bl, tgD_int, tgD_str, tgD_tup, tgD_lst, tgD_rol, tgD_dct, bIx_t, bIx_l, bIx_r, fCut_t, fCut_l, fTuple_t, fInt_i, Bool.and_true, Bool.true_and, Bool.and_false, Bool.false_and, Bool.or_true, Bool.true_or, Bool.or_false, Bool.false_or, Bool.not_true, Bool.not_false, Bool.and_self, Bool.false_eq_true, if_true, if_false, decide_true, decide_false, reduceIte, List.set_cons_zero, List.set_cons_succ, List.length_cons, List.length_nil, List.map_cons, List.map_nil, List.nil_append, List.cons_append, ej, a1, a2]
      exact e
    · rcases h2 i hi with ⟨q1, q2⟩ | ⟨q1, q2⟩
      · exact .inl ⟨List.mem_cons_of_mem _ q1, q2⟩
      · by_cases e : i = p
        · subst e
          refine .inl ⟨List.mem_cons_self .., (odds c)[k], ?_, ho⟩
          rw [q2, List.getElem?_set_self (by omega)]
        · refine .inr ⟨fun h => (List.mem_cons.mp h).elim e q1, ?_⟩
          rw [q2, List.getElem?_set_ne (fun z => e z.symm)]
def bit (c : Int) (k : Nat) : Bool := decide (c / 4 / (([1, 2, 4, 8] : List Nat).getD k 1 : Nat) % 2 = 1)
theorem spoilt_is {N : List Nat} (c : Int) (hN : N.length ≤ 4) (h0 : 0 < N.length) : ∃ T v pre post, m__law_spoilt [.lst (nts N), .int c] = .ok (.tup [.lst T, v]) false ∧ T.length = N.length ∧ T = pre ++ v :: post ∧ (∀ d ∈ pre, typD d ∧ numD d = true) ∧ Odd v ∧ pureL T = true := by
  obtain ⟨k, hk, ek⟩ := mod_nat c N.length h0
  obtain ⟨P, hP⟩ : ∃ P, P = (List.range N.length).filter (bit c) := ⟨_, rfl⟩
  obtain ⟨Q, hQ⟩ : ∃ Q, Q = if P.length = 0 then [k] else P := ⟨_, rfl⟩
  have hQn : ∀ p ∈ Q, p < N.length := fun p hp => by
    rw [hQ] at hp
    split at hp
    · rw [List.mem_singleton.mp hp]; exact hk
    · rw [hP] at hp; exact List.mem_range.mp (List.mem_filter.mp hp).1
  have hQs : Q.Pairwise (· < ·) := by
    rw [hQ]
    split
    · exact List.pairwise_singleton _ _
    · rw [hP]; exact (List.pairwise_lt_range).filter _
  have hQ0 : Q ≠ [] := by
    rw [hQ]
    split
    · simp
    · rename_i h; exact fun e => h (by rw [e]; rfl)
  obtain ⟨T, s5, e, hT, hi⟩ := sp_for (n := N.length) (a := c) (c := c) (A := some (.lst (nts N))) (Oc := none) (P := some (.lst (nts Q))) Q (nts N) none (by rw [nts_len]) hQn (by omega)
  obtain ⟨p, Q', rfl⟩ : ∃ p Q', Q = p :: Q' := by
    cases Q with
    | nil => exact absurd rfl hQ0
    | cons p Q' => exact ⟨p, Q', rfl⟩
  have hp := hQn p (List.mem_cons_self ..)
  obtain ⟨v, hv, ov⟩ : ∃ d, T[p]? = some d ∧ Odd d := by
    rcases hi p hp with ⟨_, q⟩ | ⟨q, _⟩
    · exact q
    · exact absurd (List.mem_cons_self ..) q
  have pT : pureL T = true := by
    have : ∀ d ∈ T, d.pure = true := fun d hd => by
      obtain ⟨i, hl, rfl⟩ := List.getElem_of_mem hd
      rcases hi i (by omega) with ⟨_, d, q1, q2⟩ | ⟨_, q⟩
      · rw [List.getElem?_eq_getElem hl] at q1
        cases q1
        exact q2.pu
      · rw [List.getElem?_eq_getElem hl, List.getElem?_eq_getElem (by rw [nts_len]; omega)] at q
        injection q with q
        rw [q]
        exact typ_pure (nts_typ N _ (List.getElem_mem _))
    clear hi hv e hT
    induction T with
    | nil => rfl
    | cons d T ih =>
      show (d.pure && pureL T) = true
      rw [this d (List.mem_cons_self ..), ih fun e he => this e (List.mem_cons_of_mem _ he)]
      rfl
  refine ⟨T, v, T.take p, T.drop (p + 1), ?_, hT, ?_, fun d hd => ?_, ov, pT⟩
  · have d1 : ∀ S, bFdiv S (.int c) (.int 512) = .ok (.int (c / 512)) false := fun S => div_p (by omega) (by omega)
    have d2 : ∀ S, bFdiv S (.int c) (.int 4) = .ok (.int (c / 4)) false := fun S => div_p (by omega) (by omega)
    have pw : ∀ S, bPow S (.int 10) (.int 30) = .ok (.int (10 ^ 30)) false := fun S => rfl
    have m1 : ∀ S, bMod S (.int (c / 512)) (.int (10 ^ 30)) = .ok (.int (c / 512 % 10 ^ 30)) false := fun S => mod_p (by decide)
    have m2 : ∀ S, bMod S (.int c) (.int ((N.length : Nat) : Int)) = .ok (.int (k : Int)) false := fun S => by rw [mod_p (by omega), ek]
    have c1 : ∀ σ S, cNeg (cD (.int 1)) σ S = .ok (.int (-1)) false := fun σ S => rfl
    have l8 : ((8 : Nat) ≤ lim) = True := by simp [lim]
    have l4 : ((4 : Nat) ≤ lim) = True := by simp [lim]
    have l2 : ((2 : Nat) ≤ lim) = True := by simp [lim]
    have l1 : ((1 : Nat) ≤ lim) = True := by simp [lim]
    have o8 : [D.bl true, .bl false, .int (-1), .non, .str (Str.ofString "3"), .tup [.int 2], .lst [.int 1], .int (-1 - c / 512 % 10 ^ 30)] = odds c := rfl
    have po : pureL (odds c) = true := rfl
    have lo : ((odds c).length ≤ lim) = True := by simp [odds, lim]
    have hli : ∀ S, fList S [.lst (nts N)] = .ok (.lst (nts N)) true := fun S => by rw [fList_e, seqOf_l, lO_s, nts_pure, if_pos rfl]
    have hln : ∀ S, gets S 0 = some (.lst (nts N)) → fLen S [.loc 0] = .ok (.int (N.length : Nat)) false := fun S h => by rw [fLen_s (xs := nts N) (by rw [seqOf_o, h]; rfl), nts_len]
    have r1 : ∀ S, rg1 S [.int (N.length : Nat)] = .st (rangeD 0 N.length) := fun S => rg1_nat (by omega)
    have hc : compL (tgName 5) T__law_spoilt_1 (cVar 5) [some (.lst (nts N)), some (.int c), some (.lst (odds c)), some (.loc 0), none, none] [.lst (nts N)] (rangeD 0 N.length) = some (nts P) := by
      rw [range_0, hP]
      refine comp_some (fun i : Nat => D.int (i : Int)) (bit c) (fun i : Nat => D.int (i : Int)) (List.range N.length) fun i hi => ⟨_, false, rfl, ?_, fun _ => ⟨false, rfl, rfl⟩⟩
      have hi := List.mem_range.mp hi
      have h4 : i < 4 := by omega
      have a1 : atD [D.int 1, .int 2, .int 4, .int 8] (i : Int) = some (.int (([1, 2, 4, 8] : List Nat).getD i 1 : Nat)) := by
        match i, h4 with
        | 0, _ => rfl
        | 1, _ => rfl
        | 2, _ => rfl
        | 3, _ => rfl
      have ge : 0 < ([1, 2, 4, 8] : List Nat).getD i 1 ∧ ([1, 2, 4, 8] : List Nat).getD i 1 ≤ 8 := by
        match i, h4 with
        | 0, _ => decide
        | 1, _ => decide
        | 2, _ => decide
        | 3, _ => decide
      have d3 : ∀ S, bFdiv S (.int (c / 4)) (.int (([1, 2, 4, 8] : List Nat).getD i 1 : Nat)) = .ok (.int (c / 4 / (([1, 2, 4, 8] : List Nat).getD i 1 : Nat))) false := fun S => div_p (by omega) (by omega)
      have m3 : ∀ S x, bMod S (.int x) (.int 2) = .ok (.int (x % 2)) false := fun S x => mod_p (by omega)
      simp only [T__law_spoilt_1_e, rB_ok, rB_ex, aB_ok, aB_ex, lB_ok, lB_ex, llB_ok, llB_ex, liB_ok, lsB_ok, lsB_ex, vB_ok, vB_ex, sB_nx, sB_rt, sB_bk, sB_ct, sB_ex, tB_ok, tB_ex, iS_ok, iS_ex, fB_st, fB_dy, oS_nx, oS_ct, oS_bk, oS_rt, oS_ex, gB_s, fin_rt, fin_nx, fin_ex, vO_s, vOS_s, trO_s, oD_s, oL_s, newK_l, newK_d, gets_z, gets_s, cVar_e, cD_e, cTrue_e, cBin_e, cTru_e, cNot_e, cAnd_e, cOr_e, cIf_e, cAndB_e, cOrB_e, cNotB_e, cNil_e, cCons_e, cApp_e, iApp_e, sSkip_e, sBreak_e, sCont_e, sRetN_e, sSeq_e, sAsg_e, sNew_e, sExpr_e, sRet_e, sIf_e, sAsgT_e, sFor_e, sWhile_e, setD_e, tgName_e, tgTup_e, tB2_s, tgCons_e, tgNil_e, callD_e, callKw_e, pick_e, pureL_n, pureL_c, pure_non, pure_bl, pure_int, pure_str, pure_tup, pure_lst, pure_rol, pure_dct, pure_obj, sMethE_e, sMethA_e, sSub_e, sAug_e, augK_s, iVal_e, cComp_e, cB_st, cB_dy, coB_s, wipeD_n, wipeD_c, cTwo_e, cCutA_e, cCutH_e, cCutL_e, cCutLH_e, kInt_i, sTry_e, tryB_nx, tryB_ex, tryB_rt, sRaise_e, raiseK_e, runH_c, runH_n, hdK_t, hdK_f, noE_bl, noE_int, noE_lst, noE_non, noE_str, noE_tup, noEs_c, noEs_n, sPar2_e, sPar3_e, par2K_e, par3K_e, sFrz_e, cErr_e, cChain_e, bAdd_i, bSub_i, bCmp_i, bEq_i, bNe_i, bEq_s, bNe_s, bEq_b, iAdd_i, bIs_n, bIsNot_n, bIs_b, bIsNot_b, isNon_n, isNon_b, isNon_i, isNon_t, isNon_l, truth_b, truth_n, truth_i, truth_t, locO_l, lstOf_l, lstOf_o, rdOf_r, rdOf_l, rdOf_o, rdOf_t, seqOf_t, seqOf_r, seqOf_l, seqOf_o, lO_s, tO_s, iV_t, iV_l, iV_r, iV_o, iVo_s, enI_t, enI_l, lcB_s, lS_l, pO_s, kS_s, kSub_e, retD_non, retD_bl, retD_int, retD_str, retD_tup, retD_lst, retD_rol, retD_dct, retD_obj, retD_loc, retO_l, retO_d, tgD_non, tgD_bl, tgD_int, tgD_str, tgD_tup, tgD_lst, tgD_rol, tgD_dct, bIx_t, bIx_l, bIx_r, fCut_t, fCut_l, fTuple_t, fInt_i, Bool.and_true, Bool.true_and, Bool.and_false, Bool.false_and, Bool.or_true, Bool.true_or, Bool.or_false, Bool.false_or, Bool.not_true, Bool.not_false, Bool.and_self, Bool.false_eq_true, if_true, if_false, decide_true, decide_false, reduceIte, List.set_cons_zero, List.set_cons_succ, List.length_cons, List.length_nil, List.map_cons, List.map_nil, List.nil_append, List.cons_append, d2, fLst_e, Nat.reduceAdd, l4, a1, d3, m3]
      rfl
    have hlP : ∀ S l, fLen S [.lst (nts l)] = .ok (.int (l.length : Nat)) false := fun S l => by rw [fLen_s (xs := nts l) rfl, nts_len]
    have fz : ∀ σ : Sl, fz1 0 (.nx σ [.lst T]) = .nx (subS 0 (.lst T) σ) [] := fun σ => by
      rw [fz1_e, if_pos (by show 0 < 1; omega)]
      show fzK σ [.lst T] (some (.lst T)) = _
      rw [fzK_l, if_pos pT]
      rfl
    have xp : atD (nts (p :: Q')) 0 = some (.int (p : Int)) := rfl
    have xT : atD T (p : Int) = some v := by rw [atD_n, hv]
    have pv := ov.pu
    have eP : ((P.length : Int) = 0) = (P.length = 0) := by simp
    have eQ : [D.int (k : Int)] = nts [k] := rfl
    by_cases hz : P.length = 0
    · rw [if_pos hz] at hQ
      rw [hQ] at e xp
      have z1 : ((P.length : Int) = 0) = True := by simp [hz]
      have lk : ((nts [k]).length ≤ lim) = True := by simp [lim]
      simp only [r__law_spoilt, b__law_spoilt_e, rB_ok, rB_ex, aB_ok, aB_ex, lB_ok, lB_ex, llB_ok, llB_ex, liB_ok, lsB_ok, lsB_ex, vB_ok, vB_ex, sB_nx, sB_rt, sB_bk, sB_ct, sB_ex, tB_ok, tB_ex, iS_ok, iS_ex, fB_st, fB_dy, oS_nx, oS_ct, oS_bk, oS_rt, oS_ex, gB_s, fin_rt, fin_nx, fin_ex, vO_s, vOS_s, trO_s, oD_s, oL_s, newK_l, newK_d, gets_z, gets_s, cVar_e, cD_e, cTrue_e, cBin_e, cTru_e, cNot_e, cAnd_e, cOr_e, cIf_e, cAndB_e, cOrB_e, cNotB_e, cNil_e, cCons_e, cApp_e, iApp_e, sSkip_e, sBreak_e, sCont_e, sRetN_e, sSeq_e, sAsg_e, sNew_e, sExpr_e, sRet_e, sIf_e, sAsgT_e, sFor_e, sWhile_e, setD_e, tgName_e, tgTup_e, tB2_s, tgCons_e, tgNil_e, callD_e, callKw_e, pick_e, pureL_n, pureL_c, pure_non, pure_bl, pure_int, pure_str, pure_tup, pure_lst, pure_rol, pure_dct, pure_obj, sMethE_e, sMethA_e, sSub_e, sAug_e, augK_s, iVal_e, cComp_e, cB_st, cB_dy, coB_s, wipeD_n, wipeD_c, cTwo_e, cCutA_e, cCutH_e, cCutL_e, cCutLH_e, kInt_i, sTry_e, tryB_nx, tryB_ex, tryB_rt, sRaise_e, raiseK_e, runH_c, runH_n, hdK_t, hdK_f, noE_bl, noE_int, noE_lst, noE_non, noE_str, noE_tup, noEs_c, noEs_n, sPar2_e, sPar3_e, par2K_e, par3K_e, sFrz_e, cErr_e, cChain_e, bAdd_i, bSub_i, bCmp_i, bEq_i, bNe_i, bEq_s, bNe_s, bEq_b, iAdd_i, bIs_n, bIsNot_n, bIs_b, bIsNot_b, isNon_n, isNon_b, isNon_i, isNon_t, isNon_l, truth_b, truth_n, truth_i, truth_t, locO_l, lstOf_l, lstOf_o, rdOf_r, rdOf_l, rdOf_o, rdOf_t, seqOf_t, seqOf_r, seqOf_l, seqOf_o, lO_s, tO_s, iV_t, iV_l, iV_r, iV_o, iVo_s, enI_t, enI_l, lcB_s, lS_l, pO_s, kS_s, kSub_e, retD_non, retD_bl, retD_int, retD_str, retD_tup, retD_lst, retD_rol, retD_dct, retD_obj, retD_loc, retO_l, retO_d, tgD_non, tgD_bl, tgD_int, tgD_str, tgD_tup, tgD_lst, tgD_rol, tgD_dct, bIx_t, bIx_l, bIx_r, fCut_t, fCut_l, fTuple_t, fInt_i, Bool.and_true, Bool.true_and, Bool.and_false, Bool.false_and, Bool.or_true, Bool.true_or, Bool.or_false, Bool.false_or, Bool.not_true, Bool.not_false, Bool.and_self, Bool.false_eq_true, if_true, if_false, decide_true, decide_false, reduceIte, List.set_cons_zero, List.set_cons_succ, List.length_cons, List.length_nil, List.map_cons, List.map_nil, List.nil_append, List.cons_append, d1, d2, pw, m1, m2, c1, fTup_e, fLst_e, Nat.reduceAdd, l1, l2, l8, o8, po, lo, hli, hln, r1, hc, hlP, z1, eQ, nts_pure, lk, e, fz, subS, Option.map_some, Option.map_none, subD, sFz_e, xp, xT, pv]
    · rw [if_neg hz] at hQ
      rw [hQ] at e xp
      have z1 : ((P.length : Int) = 0) = False := by simp; intro z; exact hz (by rw [z]; rfl)
      simp only [r__law_spoilt, b__law_spoilt_e, rB_ok, rB_ex, aB_ok, aB_ex, lB_ok, lB_ex, llB_ok, llB_ex, liB_ok, lsB_ok, lsB_ex, vB_ok, vB_ex, sB_nx, sB_rt, sB_bk, sB_ct, sB_ex, tB_ok, tB_ex, iS_ok, iS_ex, fB_st, fB_dy, oS_nx, oS_ct, oS_bk, oS_rt, oS_ex, gB_s, fin_rt, fin_nx, fin_ex, vO_s, vOS_s, trO_s, oD_s, oL_s, newK_l, newK_d, gets_z, gets_s, cVar_e, cD_e, cTrue_e, cBin_e, cTru_e, cNot_e, cAnd_e, cOr_e, cIf_e, cAndB_e, cOrB_e, cNotB_e, cNil_e, cCons_e, cApp_e, iApp_e, sSkip_e, sBreak_e, sCont_e, sRetN_e, sSeq_e, sAsg_e, sNew_e, sExpr_e, sRet_e, sIf_e, sAsgT_e, sFor_e, sWhile_e, setD_e, tgName_e, tgTup_e, tB2_s, tgCons_e, tgNil_e, callD_e, callKw_e, pick_e, pureL_n, pureL_c, pure_non, pure_bl, pure_int, pure_str, pure_tup, pure_lst, pure_rol, pure_dct, pure_obj, sMethE_e, sMethA_e, sSub_e, sAug_e, augK_s, iVal_e, cComp_e, cB_st, cB_dy, coB_s, wipeD_n, wipeD_c, cTwo_e, cCutA_e, cCutH_e, cCutL_e, cCutLH_e, kInt_i, sTry_e, tryB_nx, tryB_ex, tryB_rt, sRaise_e, raiseK_e, runH_c, runH_n, hdK_t, hdK_f, noE_bl, noE_int, noE_lst, noE_non, noE_str, noE_tup, noEs_c, noEs_n, sPar2_e, sPar3_e, par2K_e, par3K_e, sFrz_e, cErr_e, cChain_e, bAdd_i, bSub_i, bCmp_i, bEq_i, bNe_i, bEq_s, bNe_s, bEq_b, iAdd_i, bIs_n, bIsNot_n, bIs_b, bIsNot_b, isNon_n, isNon_b, isNon_i, isNon_t, isNon_l, truth_b, truth_n, truth_i, truth_t, locO_l, lstOf_l, lstOf_o, rdOf_r, rdOf_l, rdOf_o, rdOf_t, seqOf_t, seqOf_r, seqOf_l, seqOf_o, lO_s, tO_s, iV_t, iV_l, iV_r, iV_o, iVo_s, enI_t, enI_l, lcB_s, lS_l, pO_s, kS_s, kSub_e, retD_non, retD_bl, retD_int, retD_str, retD_tup, retD_lst, retD_rol, retD_dct, retD_obj, retD_loc, retO_l, retO_d, tgD_non, tgD_bl, tgD_int, tgD_str, tgD_tup, tgD_lst, tgD_rol, tgD_dct, bIx_t, bIx_l, bIx_r, fCut_t, fCut_l, fTuple_t, fInt_i, Bool.and_true, Bool.true_and, Bool.and_false, Bool.false_and, Bool.or_true, Bool.true_or, Bool.or_false, Bool.false_or, Bool.not_true, Bool.not_false, Bool.and_self, Bool.false_eq_true, if_true, if_false, decide_true, decide_false, reduceIte, List.set_cons_zero, List.set_cons_succ, List.length_cons, List.length_nil, List.map_cons, List.map_nil, List.nil_append, List.cons_append, d1, d2, pw, m1, m2, c1, fTup_e, fLst_e, Nat.reduceAdd, l1, l2, l8, o8, po, lo, hli, hln, r1, hc, hlP, z1, eQ, nts_pure, e, fz, subS, Option.map_some, Option.map_none, subD, sFz_e, xp, xT, pv]
  · have hl := (List.getElem?_eq_some_iff.mp hv).1
    have := (List.getElem?_eq_some_iff.mp hv).2
    rw [← this, List.getElem_cons_drop, List.take_append_drop]
  · obtain ⟨i, hl, rfl⟩ := List.getElem_of_mem hd
    rw [List.length_take] at hl
    rw [List.getElem_take]
    rcases hi i (by omega) with ⟨q, _⟩ | ⟨_, q⟩
    · rcases List.mem_cons.mp q with q | q
      · omega
      · have := (List.pairwise_cons.mp hQs).1 i q
        omega
    · rw [List.getElem?_eq_getElem (by omega), List.getElem?_eq_getElem (by rw [nts_len]; omega)] at q
      injection q with q
      rw [q]
      have hm : (nts N)[i]'(by rw [nts_len]; omega) ∈ nts N := List.getElem_mem _
      exact ⟨nts_typ N _ hm, nts_num _ hm⟩
end K09

set_option maxRecDepth 8000
namespace K09
open HC PM PL
open PySem (Str)
theorem is_num (i j : Int) : m__law_is_number [.int i, .int j] = .ok (.bl (decide (i = j))) false := by
  unfold m__law_is_number
  simp [runF_e, b__law_is_number_e, isa]
theorem row_at {n h w k : Nat} (hk : k < cw w h n) : atD (rowsD (allP n h w)) (k : Int) = some (.tup (nts (atP n h w k))) := by
  rw [atD_n]
  unfold rowsD allP
  rw [List.getElem?_map, List.getElem?_map, List.getElem?_range hk]
  rfl
theorem law_turn {n h w : Nat} (hn : n ≤ 12) (hh : h ≤ 12) (hw : w ≤ 12) {s0 s5 s7 s8 s9 s10 s11 s12 s13 : Option D} {S : List SO} : ∀ (m k : Nat) (s6 : Option D), k + m ≤ cw w h n →
    ∃ s6', forL (tgName 6) L_law_1 (rangeD (k : Int) m) [s0, some (.int (n : Int)), some (.int (h : Int)), some (.int (w : Int)), some (.lst (rowsD (allP n h w))), s5, s6, s7, s8, s9, s10, s11, s12, s13] S = .nx [s0, some (.int (n : Int)), some (.int (h : Int)), some (.int (w : Int)), some (.lst (rowsD (allP n h w))), s5, s6', s7, s8, s9, s10, s11, s12, s13] S
  | 0, k, s6, _ => ⟨s6, rfl⟩
  | m + 1, k, s6, hk => by
    obtain ⟨s6', ih⟩ := law_turn hn hh hw (s0 := s0) (s5 := s5) (s7 := s7) (s8 := s8) (s9 := s9) (s10 := s10) (s11 := s11) (s12 := s12) (s13 := s13) (S := S) m (k + 1) (some (.int (k : Int))) (by omega)
    refine ⟨s6', ?_⟩
    have u := atP_unr (n := n) (h := h) (w := w) (p := k) (by omega)
    have e1 := (at_is (n := n) (h := h) (w := w) (p := k) (by omega) (by omega) (by omega)).1 _ u
    have e2 := place_is (by omega) (by omega) (by omega) u
    have hl : (atP n h w k).length ≤ 1000000 := by have := u.box.le; omega
    have e3 := is_row_t (atP n h w k) hl
    have e4 : m__law_is_number [.int (k : Int), .int (k : Int)] = .ok (.bl true) false := by rw [is_num, decide_eq_true rfl]
    have e5 := row_at (n := n) (h := h) (w := w) (k := k) (by omega)
    rw [rangeD_s, forL_c]
    simp only [L_law_1_e, rB_ok, rB_ex, aB_ok, aB_ex, lB_ok, lB_ex, llB_ok, llB_ex, liB_ok, lsB_ok, lsB_ex, vB_ok, vB_ex, sB_nx, sB_rt, sB_bk, sB_ct, sB_ex, tB_ok, tB_ex, iS_ok, iS_ex, fB_st, fB_dy, oS_nx, oS_ct, oS_bk, oS_rt, oS_ex, gB_s, fin_rt, fin_nx, fin_ex, vO_s, vOS_s, trO_s, oD_s, oL_s, newK_l, newK_d, gets_z, gets_s, cVar_e, cD_e, cTrue_e, cBin_e, cTru_e, cNot_e, cAnd_e, cOr_e, cIf_e, cAndB_e, cOrB_e, cNotB_e, cNil_e, cCons_e, cApp_e, iApp_e, sSkip_e, sBreak_e, sCont_e, sRetN_e, sSeq_e, sAsg_e, sNew_e, sExpr_e, sRet_e, sIf_e, sAsgT_e, sFor_e, sWhile_e, setD_e, tgName_e, tgTup_e, tB2_s, tgCons_e, tgNil_e, callD_e, callKw_e, pick_e, pureL_n, pureL_c, pure_non, pure_bl, pure_int, pure_str, pure_tup, pure_lst, pure_rol, pure_dct, pure_obj, sMethE_e, sMethA_e, sSub_e, sAug_e, augK_s, iVal_e, cComp_e, cB_st, cB_dy, coB_s, wipeD_n, wipeD_c, cTwo_e, cCutA_e, cCutH_e, cCutL_e, cCutLH_e, kInt_i, sTry_e, tryB_nx, tryB_ex, tryB_rt, sRaise_e, raiseK_e, runH_c, runH_n, hdK_t, hdK_f, noE_bl, noE_int, noE_lst, noE_non, noE_str, noE_tup, noEs_c, noEs_n, sPar2_e, sPar3_e, par2K_e, par3K_e, sFrz_e, cErr_e, cChain_e, bAdd_i, bSub_i, bCmp_i, bEq_i, bNe_i, bEq_s, bNe_s, bEq_b, iAdd_i, bIs_n, bIsNot_n, bIs_b, bIsNot_b, isNon_n, isNon_b, isNon_i, isNon_t, isNon_l, truth_b, truth_n, truth_i, truth_t, locO_l, lstOf_l, lstOf_o, rdOf_r, rdOf_l, rdOf_o, rdOf_t, seqOf_t, seqOf_r, seqOf_l, seqOf_o, lO_s, tO_s, iV_t, iV_l, iV_r, iV_o, iVo_s, enI_t, enI_l, lcB_s, lS_l, pO_s, kS_s, kSub_e, retD_non, retD_bl, retD_int, retD_str, retD_tup, retD_lst, retD_rol, retD_dct, retD_obj, retD_loc, retO_l, retO_d, tgD_non, tgD_bl, tgD_int, tgD_str, tgD_tup, tgD_lst, tgD_rol, tgD_dct, bIx_t, bIx_l, bIx_r, fCut_t, fCut_l, fTuple_t, fInt_i, Bool.and_true, Bool.true_and, Bool.and_false, Bool.false_and, Bool.or_true, Bool.true_or, Bool.or_false, Bool.false_or, Bool.not_true, Bool.not_false, Bool.and_self, Bool.false_eq_true, if_true, if_false, decide_true, decide_false, reduceIte, List.set_cons_zero, List.set_cons_succ, List.length_cons, List.length_nil, List.map_cons, List.map_nil, List.nil_append, List.cons_append, e1, e2, e3, e4, e5]
    exact ih
/-- the six wrong ones -/
def wrongs (s : List Nat) : List D := [.lst (nts s), .tup (nts s ++ [.int 0]), .tup (nts s ++ [.bl true]), .non, .str (Str.ofString "2 1"), .tup ([.int 1] ++ nts s ++ [.int 2])]
theorem wrong_bad {s : List Nat} (hs : Stair s) (hx : ∀ x ∈ s, x < 1000) (hl : s.length ≤ 20) : ∀ d ∈ wrongs s, Bad d ∧ RepOk d := by
  have l0 : ∀ d ∈ nts s, Leaf d := leaf_nts fun x h => Nat.lt_trans (hx x h) (by omega)
  have l1 : ∀ (e : D), Leaf e → ∀ d ∈ nts s ++ [e], Leaf d := fun e he d hd => (List.mem_append.mp hd).elim (l0 d) fun h => by rw [List.mem_singleton.mp h]; exact he
  have t1 : ∀ (e : D), typD e → ∀ d ∈ nts s ++ [e], typD d := fun e he => typ_nts_app fun d h => by rw [List.mem_singleton.mp h]; exact he
  have g1 : ∀ (e : D), goodD e = false → ∃ d ∈ nts s ++ [e], goodD d = false := fun e he => ⟨e, by simp, he⟩
  have n1 : ∀ (e : D), (nts s ++ [e]).length ≤ 30 := fun e => by rw [List.length_append, nts_len]; simp; omega
  have lint : ∀ i : Int, i.natAbs < 1000 → Leaf (.int i) := fun i h => leaf_int (log2_small (Nat.lt_trans h (by decide)))
  intro d hd
  simp only [wrongs, List.mem_cons, List.not_mem_nil, or_false] at hd
  rcases hd with rfl | rfl | rfl | rfl | rfl | rfl
  · exact ⟨bad_any (t := .lst) rfl rfl, (rep_leafs l0 (by rw [nts_len]; omega)).2⟩
  · exact ⟨bad_tup (t1 _ ⟨_, rfl⟩) (stairB_bad none (g1 _ rfl)), (rep_leafs (l1 _ (lint 0 (by decide))) (n1 _)).1⟩
  · exact ⟨bad_tup (t1 _ ⟨_, rfl⟩) (stairB_bad none (g1 _ rfl)), (rep_leafs (l1 _ leaf_bl) (n1 _)).1⟩
  · exact ⟨bad_any (t := .non) rfl rfl, ⟨_, fun S => rfl, strOk_of _⟩⟩
  · exact ⟨bad_any (t := .str) rfl rfl, repOk_of (itm_str (by decide +kernel) (by decide +kernel)) ⟨_, rfl, by decide +kernel⟩⟩
  · refine ⟨bad_tup ?_ ?_, (rep_leafs ?_ ?_).1⟩
    · intro d hd
      rcases List.mem_append.mp hd with h | h
      · rcases List.mem_append.mp h with h | h
        · rw [List.mem_singleton.mp h]; exact ⟨_, rfl⟩
        · exact nts_typ s d h
      · rw [List.mem_singleton.mp h]; exact ⟨_, rfl⟩
    · cases e : stairB none ([D.int 1] ++ nts s ++ [D.int 2])
      · rfl
      · have h : (goodD (.int 1) && (true && stairB (some 1) (nts s ++ [.int 2]))) = true := e
        simp only [Bool.and_eq_true] at h
        have := stairB_last _ _ _ h.2.2
        omega
    · intro d hd
      rcases List.mem_append.mp hd with h | h
      · rcases List.mem_append.mp h with h | h
        · rw [List.mem_singleton.mp h]; exact lint 1 (by decide)
        · exact l0 d h
      · rw [List.mem_singleton.mp h]; exact lint 2 (by decide)
    · rw [List.length_append, List.length_append, nts_len]; simp; omega
theorem refused_odd {T pre post : List D} {v : D} {r : Str} (hl : T.length = 3 ∨ T.length = 4) (hT : T = pre ++ v :: post) (hp : ∀ d ∈ pre, typD d ∧ numD d = true) (ov : Odd v) (pT : pureL T = true) (hr : ∀ S, fRepr S [v] = .ok (.str r) false) : m__law_refused [.lst T] = .ok (ansD "number" r) false := by
  have h : m__need_numbers [.tup T] = .ex 1 [v] := by rw [hT]; exact need_numbers_no hp ov.ty ov.no
  refine refused_x pT ov.pu ?_ (.inl ⟨rfl, rfl⟩) hr
  match T, pT, hl, h with
  | [a, b, c], pT, _, h =>
    have pT : (a.pure && (b.pure && (c.pure && true))) = true := pT
    simp only [Bool.and_eq_true] at pT
    exact count_no pT.1 pT.2.1 pT.2.2.1 ov.pu h
  | [a, b, c, d], pT, _, h =>
    have pT : (a.pure && (b.pure && (c.pure && (d.pure && true)))) = true := pT
    simp only [Bool.and_eq_true] at pT
    exact at_no pT.1 pT.2.1 pT.2.2.1 pT.2.2.2.1 ov.pu h
  | [], _, hl, _ => simp at hl
  | [_], _, hl, _ => simp at hl
  | [_, _], _, hl, _ => simp at hl
  | _ :: _ :: _ :: _ :: _ :: _, _, hl, _ => simp at hl
end K09

set_option maxRecDepth 10000
namespace K09
open HC PM PL
open PySem (Str)
theorem some_beside (n : Nat) : 0 < cw n n n := by
  have b : Box n n n (if n = 0 then [] else [n]) := by
    by_cases h : n = 0
    · rw [if_pos h, h]; exact ⟨stair_nil, rfl, Nat.zero_le _, fun x hx => (nomatch hx)⟩
    · rw [if_neg h]; exact ⟨⟨List.pairwise_singleton _ _, fun x hx => by rw [List.mem_singleton.mp hx]; omega⟩, by simp, by simp; omega, fun x hx => by rw [List.mem_singleton.mp hx]; omega⟩
  obtain ⟨p, u⟩ := box_unr (n + n) n n n _ (Nat.le_refl _) b
  have := u.lt
  omega
theorem law_true : ∀ ns : List Int, ns.length ≤ 63 → m_law [.rol (its ns)] = .ok (.bl true) false := by
  intro ns _
  obtain ⟨c0, h0⟩ := cell_is ns 0 (by omega)
  obtain ⟨c1, h1⟩ := cell_is ns 1 (by omega)
  obtain ⟨c2, h2⟩ := cell_is ns 2 (by omega)
  obtain ⟨c3, h3⟩ := cell_is ns 3 (by omega)
  obtain ⟨c4, h4⟩ := cell_is ns 4 (by omega)
  obtain ⟨c5, h5⟩ := cell_is ns 5 (by omega)
  obtain ⟨c6, h6⟩ := cell_is ns 6 (by omega)
  obtain ⟨c7, h7⟩ := cell_is ns 7 (by omega)
  obtain ⟨c8, h8⟩ := cell_is ns 8 (by omega)
  have h0 : m__law_cell [.rol (its ns), .int 0] = .ok (.int c0) false := h0
  have h1 : m__law_cell [.rol (its ns), .int 1] = .ok (.int c1) false := h1
  have h2 : m__law_cell [.rol (its ns), .int 2] = .ok (.int c2) false := h2
  have h3 : m__law_cell [.rol (its ns), .int 3] = .ok (.int c3) false := h3
  have h4 : m__law_cell [.rol (its ns), .int 4] = .ok (.int c4) false := h4
  have h5 : m__law_cell [.rol (its ns), .int 5] = .ok (.int c5) false := h5
  have h6 : m__law_cell [.rol (its ns), .int 6] = .ok (.int c6) false := h6
  have h7 : m__law_cell [.rol (its ns), .int 7] = .ok (.int c7) false := h7
  have h8 : m__law_cell [.rol (its ns), .int 8] = .ok (.int c8) false := h8
  obtain ⟨n, hn, en⟩ := mod_nat c0 11 (by omega)
  obtain ⟨h, hh, eh⟩ := mod_nat c1 12 (by omega)
  obtain ⟨w, hw, ew⟩ := mod_nat c2 12 (by omega)
  obtain ⟨M, hM⟩ : ∃ M, M = cw w h n := ⟨_, rfl⟩
  have a1 := all_in (n := n) (h := h) (w := w) (by omega)
  have a2 := all_in (n := n) (h := n) (w := n) (by omega)
  have m11 : ∀ S, bMod S (.int c0) (.int 11) = .ok (.int (n : Int)) false := fun S => by rw [mod_p (by omega)]; exact congrArg (fun i => Res.ok (.int i) false) en
  have m12 : ∀ S, bMod S (.int c1) (.int 12) = .ok (.int (h : Int)) false := fun S => by rw [mod_p (by omega)]; exact congrArg (fun i => Res.ok (.int i) false) eh
  have m13 : ∀ S, bMod S (.int c2) (.int 12) = .ok (.int (w : Int)) false := fun S => by rw [mod_p (by omega)]; exact congrArg (fun i => Res.ok (.int i) false) ew
  have hlen : ∀ S, fLen S [.lst (rowsD (allP n h w))] = .ok (.int (M : Int)) false := fun S => by rw [fLen_s (xs := rowsD (allP n h w)) rfl, rowsD_len, allP_len, hM]
  have hlen2 : ∀ S, fLen S [.lst (rowsD (allP n n n))] = .ok (.int (cw n n n : Nat)) false := fun S => by rw [fLen_s (xs := rowsD (allP n n n)) rfl, rowsD_len, allP_len]
  have ct := count_is (n := n) (h := h) (w := w) (by omega) (by omega) (by omega)
  rw [← hM] at ct
  have nu : m__law_is_number [.int (M : Int), .int (M : Int)] = .ok (.bl true) false := by rw [is_num, decide_eq_true rfl]
  have Mb : M ≤ 1000000 := by
    have := dones_all n h w
    have e := this.length_eq
    rw [allP_len] at e
    have := dones_len n h w (n + 1)
    have q : 2 ^ n ≤ 2 ^ 10 := Nat.pow_le_pow_right (by omega) (by omega)
    have q2 : (n + 1) * 2 ^ n ≤ 11 * 2 ^ 10 := Nat.mul_le_mul (by omega) q
    have q3 : (2 : Nat) ^ 10 = 1024 := by decide
    omega
  have rM : ∀ S, rg1 S [.int (M : Int)] = .st (rangeD 0 M) := fun S => rg1_nat Mb
  obtain ⟨fz, hf⟩ : ∃ fz : Option D → Option D → Option D, ∀ s0 s5, forL (tgName 6) L_law_1 (rangeD 0 M) [s0, some (.int (n : Int)), some (.int (h : Int)), some (.int (w : Int)), some (.lst (rowsD (allP n h w))), s5, none, none, none, none, none, none, none, none] [] = .nx [s0, some (.int (n : Int)), some (.int (h : Int)), some (.int (w : Int)), some (.lst (rowsD (allP n h w))), s5, fz s0 s5, none, none, none, none, none, none, none] [] :=
    ⟨fun s0 s5 => (law_turn (n := n) (h := h) (w := w) (by omega) (by omega) (by omega) (s0 := s0) (s5 := s5) (s7 := none) (s8 := none) (s9 := none) (s10 := none) (s11 := none) (s12 := none) (s13 := none) (S := []) M 0 none (by omega)).choose, fun s0 s5 => (law_turn (n := n) (h := h) (w := w) (by omega) (by omega) (by omega) (s0 := s0) (s5 := s5) (s7 := none) (s8 := none) (s9 := none) (s10 := none) (s11 := none) (s12 := none) (s13 := none) (S := []) M 0 none (by omega)).choose_spec⟩
  -- behind
  obtain ⟨j3, hj3, ej3⟩ := mod_nat c4 3 (by omega)
  have m3 : ∀ S, bMod S (.int c4) (.int 3) = .ok (.int (j3 : Int)) false := fun S => by rw [mod_p (by omega)]; exact congrArg (fun i => Res.ok (.int i) false) ej3
  obtain ⟨g, hg, eg⟩ := mod_nat c3 (10 ^ 30) (by decide)
  have mg : ∀ S, bMod S (.int c3) (.int (10 ^ 30)) = .ok (.int (g : Int)) false := fun S => by rw [mod_p (by decide)]; exact congrArg (fun i => Res.ok (.int i) false) eg
  have pw : ∀ S, bPow S (.int 10) (.int 30) = .ok (.int (10 ^ 30)) false := fun S => rfl
  obtain ⟨b, hb⟩ : ∃ b : Nat, atD [.int 0, .int 1, .int (g : Int)] (j3 : Int) = some (.int (b : Int)) := by
    match j3, hj3 with
    | 0, _ => exact ⟨0, rfl⟩
    | 1, _ => exact ⟨1, rfl⟩
    | 2, _ => exact ⟨g, rfl⟩
  have ub : (M : Int) + (b : Int) = ((M + b : Nat) : Int) := by omega
  have at2 := (at_is (n := n) (h := h) (w := w) (p := M + b) (by omega) (by omega) (by omega)).2 (by omega)
  obtain ⟨rp, hrp, krp⟩ : RepOk (.str (Str.ofString "place")) := repOk_of (itm_str (by decide +kernel) (by decide +kernel)) ⟨_, rfl, by decide +kernel⟩
  obtain ⟨rb, hrb, krb⟩ : RepOk (.str (Str.ofString "box")) := repOk_of (itm_str (by decide +kernel) (by decide +kernel)) ⟨_, rfl, by decide +kernel⟩
  have rf1 : m__law_refused [.lst [.int (n : Int), .int (h : Int), .int (w : Int), .int ((M + b : Nat) : Int)]] = .ok (ansD "undefined" rp) false := refused_x rfl rfl at2 (.inr ⟨rfl, rfl⟩) hrp
  have rf2 : 0 < M → m__law_refused [.lst [.int (n : Int), .int (h : Int), .int (w : Int), .int ((M : Int) - 1)]] = .ok letD false := fun hp => by
    have u := atP_unr (n := n) (h := h) (w := w) (p := M - 1) (by omega)
    have := (at_is (n := n) (h := h) (w := w) (p := M - 1) (by omega) (by omega) (by omega)).1 _ u
    rw [show (M : Int) - 1 = ((M - 1 : Nat) : Int) by omega]
    exact refused_let rfl rfl rfl rfl this
  -- spoilt
  obtain ⟨T1, v1, p1, q1, s1, l1, d1, k1, o1, pT1⟩ := spoilt_is (N := [n, h, w]) c5 (by simp) (by simp)
  have s1 : m__law_spoilt [.lst [.int (n : Int), .int (h : Int), .int (w : Int)], .int c5] = _ := s1
  obtain ⟨r1, hr1, kr1⟩ := o1.rp
  have rf3 := refused_odd (.inl l1) d1 k1 o1 pT1 hr1
  obtain ⟨T2, v2, p2, q2, s2, l2, d2, k2, o2, pT2⟩ := spoilt_is (N := [n, h, w, M + b]) c6 (by simp) (by simp)
  have s2 : m__law_spoilt [.lst [.int (n : Int), .int (h : Int), .int (w : Int), .int ((M + b : Nat) : Int)], .int c6] = _ := s2
  obtain ⟨r2, hr2, kr2⟩ := o2.rp
  have rf4 := refused_odd (.inr l2) d2 k2 o2 pT2 hr2
  -- beside
  obtain ⟨k, hk, ek⟩ := mod_nat c7 (cw n n n) (some_beside n)
  have mk : ∀ S, bMod S (.int c7) (.int (cw n n n : Nat)) = .ok (.int (k : Int)) false := fun S => by rw [mod_p (by have := some_beside n; omega)]; exact congrArg (fun i => Res.ok (.int i) false) ek
  have rk := row_at (n := n) (h := n) (w := n) (k := k) hk
  have bx := (atP_unr (n := n) (h := n) (w := n) (p := k) hk).box
  obtain ⟨s, hs⟩ : ∃ s, s = atP n n n k := ⟨_, rfl⟩
  rw [← hs] at rk bx
  have ls : ∀ S, fLen S [.tup (nts s)] = .ok (.int (s.length : Nat)) false := fun S => by rw [fLen_s (xs := nts s) rfl, nts_len]
  have cs : ∀ S, fCut S (.tup (nts s)) none (some 1) = .ok (.tup (nts (s.take 1))) false := fun S => by rw [fCut_t, show (some (1 : Int)) = some ((1 : Nat) : Int) from rfl, cut_h, nts_take]
  have ss : ∀ S, fSum S [.tup (nts (s.take 1))] = .ok (.int ((s.take 1).sum : Nat)) false := fun S => sum_nts rfl
  -- wrong ones
  obtain ⟨i, hi, ei⟩ := mod_nat c8 6 (by omega)
  have m6 : ∀ S, bMod S (.int c8) (.int 6) = .ok (.int (i : Int)) false := fun S => by rw [mod_p (by omega)]; exact congrArg (fun i => Res.ok (.int i) false) ei
  have hi2 : i < (wrongs s).length := hi
  obtain ⟨bw, rw', hrw, krw⟩ := wrong_bad bx.st (fun x hx => by have := bx.wd x hx; omega) (by have := bx.le; omega) _ (List.getElem_mem hi2)
  have xw : atD (wrongs s) (i : Int) = some (wrongs s)[i] := by rw [atD_n, List.getElem?_eq_getElem hi2]
  have pb := place_bad bw (x := .int (h : Int)) (y := .int (w : Int)) rfl rfl
  have rf5 := refused_place_x bw.pu rfl rfl bw.pu pb (.inl ⟨rfl, rfl⟩) hrw
  have pbw := bw.pu
  have lst4 : ∀ S (a b c d : Int), fLst S [.int a, .int b, .int c, .int d] = .ok (.lst [.int a, .int b, .int c, .int d]) true := fun S a b c d => rfl
  have lst3 : ∀ S (a b c : Int), fLst S [.int a, .int b, .int c] = .ok (.lst [.int a, .int b, .int c]) true := fun S a b c => rfl
  have tup3 : ∀ S (a b : Str) (c : Bool), fTup S [.str a, .str b, .bl c] = .ok (.tup [.str a, .str b, .bl c]) false := fun S a b c => rfl
  have tup1 : ∀ S (a : Str), fTup S [.str a] = .ok (.tup [.str a]) false := fun S a => rfl
  have tupi : ∀ S (a : Int), fTup S [.int a] = .ok (.tup [.int a]) false := fun S a => rfl
  have tupb : ∀ S (a : Bool), fTup S [.bl a] = .ok (.tup [.bl a]) false := fun S a => rfl
  have x0 : ∀ a b : D, atD [a, b] 0 = some a := fun _ _ => rfl
  have x1 : ∀ a b : D, atD [a, b] 1 = some b := fun _ _ => rfl
  have sl := bx.le
  have q1 : ((nts s).length + (0 + 1) ≤ lim) = True := by rw [nts_len]; simp [lim]; omega
  have q2 : (0 + 1 + (nts s).length ≤ lim) = True := by rw [nts_len]; simp [lim]; omega
  have q3 : ((nts s).length + 1 + 1 ≤ lim) = True := by rw [nts_len]; simp [lim]; omega
  have fl : ∀ S, fList S [.tup (nts s)] = .ok (.lst (nts s)) true := fun S => by rw [fList_e, seqOf_t, lO_s, nts_pure, if_pos rfl]
  have w6 : [D.lst (nts s), .tup (nts s ++ [.int 0]), .tup (nts s ++ [.bl true]), .non, .str (Str.ofString "2 1"), .tup (.int 1 :: (nts s ++ [.int 2]))] = wrongs s := rfl
  have fw : ∀ S, fLst S (wrongs s) = .ok (.lst (wrongs s)) true := fun S => by rw [fLst_e, if_pos]; rfl
  have an1 := fun S => (ans_ne (k := "undefined") krp S).1
  have an2 := fun S => (ans_ne (k := "number") kr1 S).1
  have an3 := fun S => (ans_ne (k := "number") kr2 S).1
  have an4 := fun S => (ans_ne (k := "stair") krw S).2
  have an5 := fun S => (ans_ne (k := "undefined") krb S).1
  obtain ⟨due, rdue, hdue⟩ : ∃ due, m__law_refused_place [.tup (nts s), .int (h : Int), .int (w : Int)] = .ok due false ∧ ((h < s.length ∨ w < (s.take 1).sum) ∧ due = ansD "undefined" rb ∨ (¬ (h < s.length ∨ w < (s.take 1).sum)) ∧ due = letD) := by
    by_cases e : h < s.length ∨ w < (s.take 1).sum
    · refine ⟨_, refused_place_x rfl rfl rfl rfl (place_no bx.st ?_) (.inr ⟨rfl, rfl⟩) hrb, .inl ⟨e, rfl⟩⟩
      refine e.imp_right fun e => ?_
      cases s with
      | nil => simp at e
      | cons x s => exact ⟨by simp, by simpa using e⟩
    · have b2 : Box n h w s := ⟨bx.st, bx.su, by omega, fun x hx => by
        cases s with
        | nil => exact nomatch hx
        | cons y s =>
          simp at e
          rcases List.mem_cons.mp hx with rfl | hx
          · omega
          · have := (List.pairwise_cons.mp bx.st.dn).1 x hx; omega⟩
      obtain ⟨p, u⟩ := box_unr (n + w) n h w s (Nat.le_refl _) b2
      exact ⟨_, refused_place_let rfl rfl rfl (place_is (by omega) (by omega) (by omega) u), .inr ⟨e, rfl⟩⟩
  have hM0 : (M = 0 ∧ ((0 : Int) < (M : Int)) = False) ∨ (0 < M ∧ ((0 : Int) < (M : Int)) = True) := by
    rcases Nat.eq_zero_or_pos M with e | e
    · exact .inl ⟨e, by simp [e]⟩
    · exact .inr ⟨e, by simp; exact e⟩
  have st1 : ∃ s6, b_law [some (.rol (its ns)), none, none, none, none, none, none, none, none, none, none, none, none, none] [] = (sSeq S_law_14 (sSeq S_law_15 (sSeq S_law_16 (sSeq S_law_17 S_law_18)))) [some (.rol (its ns)), some (.int (n : Int)), some (.int (h : Int)), some (.int (w : Int)), some (.lst (rowsD (allP n h w))), some (.int (M : Int)), s6, some (.int ((M + b : Nat) : Int)), some (.tup [.lst T2, v2]), some (.lst (rowsD (allP n n n))), some (.tup (nts s)), some letD, none, none] [] := by
    rcases hM0 with ⟨e0, e1⟩ | ⟨e0, e1⟩
    · refine ⟨fz (some (.rol (its ns))) (some (.int (M : Int))), ?_⟩
      simp only [b_law_e, rB_ok, rB_ex, aB_ok, aB_ex, lB_ok, lB_ex, llB_ok, llB_ex, liB_ok, lsB_ok, lsB_ex, vB_ok, vB_ex, sB_nx, sB_rt, sB_bk, sB_ct, sB_ex, tB_ok, tB_ex, iS_ok, iS_ex, fB_st, fB_dy, oS_nx, oS_ct, oS_bk, oS_rt, oS_ex, gB_s, fin_rt, fin_nx, fin_ex, vO_s, vOS_s, trO_s, oD_s, oL_s, newK_l, newK_d, gets_z, gets_s, cVar_e, cD_e, cTrue_e, cBin_e, cTru_e, cNot_e, cAnd_e, cOr_e, cIf_e, cAndB_e, cOrB_e, cNotB_e, cNil_e, cCons_e, cApp_e, iApp_e, sSkip_e, sBreak_e, sCont_e, sRetN_e, sSeq_e, sAsg_e, sNew_e, sExpr_e, sRet_e, sIf_e, sAsgT_e, sFor_e, sWhile_e, setD_e, tgName_e, tgTup_e, tB2_s, tgCons_e, tgNil_e, callD_e, callKw_e, pick_e, pureL_n, pureL_c, pure_non, pure_bl, pure_int, pure_str, pure_tup, pure_lst, pure_rol, pure_dct, pure_obj, sMethE_e, sMethA_e, sSub_e, sAug_e, augK_s, iVal_e, cComp_e, cB_st, cB_dy, coB_s, wipeD_n, wipeD_c, cTwo_e, cCutA_e, cCutH_e, cCutL_e, cCutLH_e, kInt_i, sTry_e, tryB_nx, tryB_ex, tryB_rt, sRaise_e, raiseK_e, runH_c, runH_n, hdK_t, hdK_f, noE_bl, noE_int, noE_lst, noE_non, noE_str, noE_tup, noEs_c, noEs_n, sPar2_e, sPar3_e, par2K_e, par3K_e, sFrz_e, cErr_e, cChain_e, bAdd_i, bSub_i, bCmp_i, bEq_i, bNe_i, bEq_s, bNe_s, bEq_b, iAdd_i, bIs_n, bIsNot_n, bIs_b, bIsNot_b, isNon_n, isNon_b, isNon_i, isNon_t, isNon_l, truth_b, truth_n, truth_i, truth_t, locO_l, lstOf_l, lstOf_o, rdOf_r, rdOf_l, rdOf_o, rdOf_t, seqOf_t, seqOf_r, seqOf_l, seqOf_o, lO_s, tO_s, iV_t, iV_l, iV_r, iV_o, iVo_s, enI_t, enI_l, lcB_s, lS_l, pO_s, kS_s, kSub_e, retD_non, retD_bl, retD_int, retD_str, retD_tup, retD_lst, retD_rol, retD_dct, retD_obj, retD_loc, retO_l, retO_d, tgD_non, tgD_bl, tgD_int, tgD_str, tgD_tup, tgD_lst, tgD_rol, tgD_dct, bIx_t, bIx_l, bIx_r, fCut_t, fCut_l, fTuple_t, fInt_i, Bool.and_true, Bool.true_and, Bool.and_false, Bool.false_and, Bool.or_true, Bool.true_or, Bool.or_false, Bool.false_or, Bool.not_true, Bool.not_false, Bool.and_self, Bool.false_eq_true, if_true, if_false, decide_true, decide_false, reduceIte, List.set_cons_zero, List.set_cons_succ, List.length_cons, List.length_nil, List.map_cons, List.map_nil, List.nil_append, List.cons_append, S_law_1_e, S_law_2_e, S_law_3_e, S_law_4_e, S_law_5_e, S_law_6_e, S_law_7_e, S_law_8_e, S_law_9_e, S_law_10_e, S_law_11_e, S_law_12_e, S_law_13_e, h0, h1, h2, h3, h4, h5, h6, h7, m11, m12, m13, a1, a2, hlen, hlen2, List.getD_cons_zero, List.getD_cons_succ, ct, nu, rM, hf, m3, mg, pw, hb, ub, lst3, lst4, tup3, tup1, rf1, hrp, an1, e1, s1, s2, x0, x1, rf3, rf4, hr1, hr2, an2, an3, pT1, pT2, mk, rk]
    · have rf2 := rf2 e0
      refine ⟨fz (some (.rol (its ns))) (some (.int (M : Int))), ?_⟩
      simp only [b_law_e, rB_ok, rB_ex, aB_ok, aB_ex, lB_ok, lB_ex, llB_ok, llB_ex, liB_ok, lsB_ok, lsB_ex, vB_ok, vB_ex, sB_nx, sB_rt, sB_bk, sB_ct, sB_ex, tB_ok, tB_ex, iS_ok, iS_ex, fB_st, fB_dy, oS_nx, oS_ct, oS_bk, oS_rt, oS_ex, gB_s, fin_rt, fin_nx, fin_ex, vO_s, vOS_s, trO_s, oD_s, oL_s, newK_l, newK_d, gets_z, gets_s, cVar_e, cD_e, cTrue_e, cBin_e, cTru_e, cNot_e, cAnd_e, cOr_e, cIf_e, cAndB_e, cOrB_e, cNotB_e, cNil_e, cCons_e, cApp_e, iApp_e, sSkip_e, sBreak_e, sCont_e, sRetN_e, sSeq_e, sAsg_e, sNew_e, sExpr_e, sRet_e, sIf_e, sAsgT_e, sFor_e, sWhile_e, setD_e, tgName_e, tgTup_e, tB2_s, tgCons_e, tgNil_e, callD_e, callKw_e, pick_e, pureL_n, pureL_c, pure_non, pure_bl, pure_int, pure_str, pure_tup, pure_lst, pure_rol, pure_dct, pure_obj, sMethE_e, sMethA_e, sSub_e, sAug_e, augK_s, iVal_e, cComp_e, cB_st, cB_dy, coB_s, wipeD_n, wipeD_c, cTwo_e, cCutA_e, cCutH_e, cCutL_e, cCutLH_e, kInt_i, sTry_e, tryB_nx, tryB_ex, tryB_rt, sRaise_e, raiseK_e, runH_c, runH_n, hdK_t, hdK_f, noE_bl, noE_int, noE_lst, noE_non, noE_str, noE_tup, noEs_c, noEs_n, sPar2_e, sPar3_e, par2K_e, par3K_e, sFrz_e, cErr_e, cChain_e, bAdd_i, bSub_i, bCmp_i, bEq_i, bNe_i, bEq_s, bNe_s, bEq_b, iAdd_i, bIs_n, bIsNot_n, bIs_b, bIsNot_b, isNon_n, isNon_b, isNon_i, isNon_t, isNon_l, truth_b, truth_n, truth_i, truth_t, locO_l, lstOf_l, lstOf_o, rdOf_r, rdOf_l, rdOf_o, rdOf_t, seqOf_t, seqOf_r, seqOf_l, seqOf_o, lO_s, tO_s, iV_t, iV_l, iV_r, iV_o, iVo_s, enI_t, enI_l, lcB_s, lS_l, pO_s, kS_s, kSub_e, retD_non, retD_bl, retD_int, retD_str, retD_tup, retD_lst, retD_rol, retD_dct, retD_obj, retD_loc, retO_l, retO_d, tgD_non, tgD_bl, tgD_int, tgD_str, tgD_tup, tgD_lst, tgD_rol, tgD_dct, bIx_t, bIx_l, bIx_r, fCut_t, fCut_l, fTuple_t, fInt_i, Bool.and_true, Bool.true_and, Bool.and_false, Bool.false_and, Bool.or_true, Bool.true_or, Bool.or_false, Bool.false_or, Bool.not_true, Bool.not_false, Bool.and_self, Bool.false_eq_true, if_true, if_false, decide_true, decide_false, reduceIte, List.set_cons_zero, List.set_cons_succ, List.length_cons, List.length_nil, List.map_cons, List.map_nil, List.nil_append, List.cons_append, S_law_1_e, S_law_2_e, S_law_3_e, S_law_4_e, S_law_5_e, S_law_6_e, S_law_7_e, S_law_8_e, S_law_9_e, S_law_10_e, S_law_11_e, S_law_12_e, S_law_13_e, h0, h1, h2, h3, h4, h5, h6, h7, m11, m12, m13, a1, a2, hlen, hlen2, List.getD_cons_zero, List.getD_cons_succ, ct, nu, rM, hf, m3, mg, pw, hb, ub, lst3, lst4, tup3, tup1, rf1, hrp, an1, e1, rf2, let_ne, s1, s2, x0, x1, rf3, rf4, hr1, hr2, an2, an3, pT1, pT2, mk, rk]
  obtain ⟨s6, st1⟩ := st1
  rw [r_law, st1]
  rcases hdue with ⟨e, rfl⟩ | ⟨e, rfl⟩
  · have z : (decide ((h : Int) < ((s.length : Nat) : Int)) || decide ((w : Int) < (((s.take 1).sum : Nat) : Int))) = true := by simp; omega
    by_cases z1 : (h : Int) < ((s.length : Nat) : Int)
    · simp only [rB_ok, rB_ex, aB_ok, aB_ex, lB_ok, lB_ex, llB_ok, llB_ex, liB_ok, lsB_ok, lsB_ex, vB_ok, vB_ex, sB_nx, sB_rt, sB_bk, sB_ct, sB_ex, tB_ok, tB_ex, iS_ok, iS_ex, fB_st, fB_dy, oS_nx, oS_ct, oS_bk, oS_rt, oS_ex, gB_s, fin_rt, fin_nx, fin_ex, vO_s, vOS_s, trO_s, oD_s, oL_s, newK_l, newK_d, gets_z, gets_s, cVar_e, cD_e, cTrue_e, cBin_e, cTru_e, cNot_e, cAnd_e, cOr_e, cIf_e, cAndB_e, cOrB_e, cNotB_e, cNil_e, cCons_e, cApp_e, iApp_e, sSkip_e, sBreak_e, sCont_e, sRetN_e, sSeq_e, sAsg_e, sNew_e, sExpr_e, sRet_e, sIf_e, sAsgT_e, sFor_e, sWhile_e, setD_e, tgName_e, tgTup_e, tB2_s, tgCons_e, tgNil_e, callD_e, callKw_e, pick_e, pureL_n, pureL_c, pure_non, pure_bl, pure_int, pure_str, pure_tup, pure_lst, pure_rol, pure_dct, pure_obj, sMethE_e, sMethA_e, sSub_e, sAug_e, augK_s, iVal_e, cComp_e, cB_st, cB_dy, coB_s, wipeD_n, wipeD_c, cTwo_e, cCutA_e, cCutH_e, cCutL_e, cCutLH_e, kInt_i, sTry_e, tryB_nx, tryB_ex, tryB_rt, sRaise_e, raiseK_e, runH_c, runH_n, hdK_t, hdK_f, noE_bl, noE_int, noE_lst, noE_non, noE_str, noE_tup, noEs_c, noEs_n, sPar2_e, sPar3_e, par2K_e, par3K_e, sFrz_e, cErr_e, cChain_e, bAdd_i, bSub_i, bCmp_i, bEq_i, bNe_i, bEq_s, bNe_s, bEq_b, iAdd_i, bIs_n, bIsNot_n, bIs_b, bIsNot_b, isNon_n, isNon_b, isNon_i, isNon_t, isNon_l, truth_b, truth_n, truth_i, truth_t, locO_l, lstOf_l, lstOf_o, rdOf_r, rdOf_l, rdOf_o, rdOf_t, seqOf_t, seqOf_r, seqOf_l, seqOf_o, lO_s, tO_s, iV_t, iV_l, iV_r, iV_o, iVo_s, enI_t, enI_l, lcB_s, lS_l, pO_s, kS_s, kSub_e, retD_non, retD_bl, retD_int, retD_str, retD_tup, retD_lst, retD_rol, retD_dct, retD_obj, retD_loc, retO_l, retO_d, tgD_non, tgD_bl, tgD_int, tgD_str, tgD_tup, tgD_lst, tgD_rol, tgD_dct, bIx_t, bIx_l, bIx_r, fCut_t, fCut_l, fTuple_t, fInt_i, Bool.and_true, Bool.true_and, Bool.and_false, Bool.false_and, Bool.or_true, Bool.true_or, Bool.or_false, Bool.false_or, Bool.not_true, Bool.not_false, Bool.and_self, Bool.false_eq_true, if_true, if_false, decide_true, decide_false, reduceIte, List.set_cons_zero, List.set_cons_succ, List.length_cons, List.length_nil, List.map_cons, List.map_nil, List.nil_append, List.cons_append, S_law_14_e, S_law_15_e, S_law_16_e, S_law_17_e, S_law_18_e, ls, cs, ss, z1, tup3, hrb, rdue, an5, fl, tupi, tupb, bAdd_t, q1, q2, q3, w6, fw, h8, m6, xw, pbw, rf5, hrw, an4]
    · have z2 : ((w : Int) < (((s.take 1).sum : Nat) : Int)) = True := by simp; omega
      simp only [rB_ok, rB_ex, aB_ok, aB_ex, lB_ok, lB_ex, llB_ok, llB_ex, liB_ok, lsB_ok, lsB_ex, vB_ok, vB_ex, sB_nx, sB_rt, sB_bk, sB_ct, sB_ex, tB_ok, tB_ex, iS_ok, iS_ex, fB_st, fB_dy, oS_nx, oS_ct, oS_bk, oS_rt, oS_ex, gB_s, fin_rt, fin_nx, fin_ex, vO_s, vOS_s, trO_s, oD_s, oL_s, newK_l, newK_d, gets_z, gets_s, cVar_e, cD_e, cTrue_e, cBin_e, cTru_e, cNot_e, cAnd_e, cOr_e, cIf_e, cAndB_e, cOrB_e, cNotB_e, cNil_e, cCons_e, cApp_e, iApp_e, sSkip_e, sBreak_e, sCont_e, sRetN_e, sSeq_e, sAsg_e, sNew_e, sExpr_e, sRet_e, sIf_e, sAsgT_e, sFor_e, sWhile_e, setD_e, tgName_e, tgTup_e, tB2_s, tgCons_e, tgNil_e, callD_e, callKw_e, pick_e, pureL_n, pureL_c, pure_non, pure_bl, pure_int, pure_str, pure_tup, pure_lst, pure_rol, pure_dct, pure_obj, sMethE_e, sMethA_e, sSub_e, sAug_e, augK_s, iVal_e, cComp_e, cB_st, cB_dy, coB_s, wipeD_n, wipeD_c, cTwo_e, cCutA_e, cCutH_e, cCutL_e, cCutLH_e, kInt_i, sTry_e, tryB_nx, tryB_ex, tryB_rt, sRaise_e, raiseK_e, runH_c, runH_n, hdK_t, hdK_f, noE_bl, noE_int, noE_lst, noE_non, noE_str, noE_tup, noEs_c, noEs_n, sPar2_e, sPar3_e, par2K_e, par3K_e, sFrz_e, cErr_e, cChain_e, bAdd_i, bSub_i, bCmp_i, bEq_i, bNe_i, bEq_s, bNe_s, bEq_b, iAdd_i, bIs_n, bIsNot_n, bIs_b, bIsNot_b, isNon_n, isNon_b, isNon_i, isNon_t, isNon_l, truth_b, truth_n, truth_i, truth_t, locO_l, lstOf_l, lstOf_o, rdOf_r, rdOf_l, rdOf_o, rdOf_t, seqOf_t, seqOf_r, seqOf_l, seqOf_o, lO_s, tO_s, iV_t, iV_l, iV_r, iV_o, iVo_s, enI_t, enI_l, lcB_s, lS_l, pO_s, kS_s, kSub_e, retD_non, retD_bl, retD_int, retD_str, retD_tup, retD_lst, retD_rol, retD_dct, retD_obj, retD_loc, retO_l, retO_d, tgD_non, tgD_bl, tgD_int, tgD_str, tgD_tup, tgD_lst, tgD_rol, tgD_dct, bIx_t, bIx_l, bIx_r, fCut_t, fCut_l, fTuple_t, fInt_i, Bool.and_true, Bool.true_and, Bool.and_false, Bool.false_and, Bool.or_true, Bool.true_or, Bool.or_false, Bool.false_or, Bool.not_true, Bool.not_false, Bool.and_self, Bool.false_eq_true, if_true, if_false, decide_true, decide_false, reduceIte, List.set_cons_zero, List.set_cons_succ, List.length_cons, List.length_nil, List.map_cons, List.map_nil, List.nil_append, List.cons_append, S_law_14_e, S_law_15_e, S_law_16_e, S_law_17_e, S_law_18_e, ls, cs, ss, z1, z2, tup3, hrb, rdue, an5, fl, tupi, tupb, bAdd_t, q1, q2, q3, w6, fw, h8, m6, xw, pbw, rf5, hrw, an4]
  · have z1 : ((h : Int) < ((s.length : Nat) : Int)) = False := by simp; omega
    have z2 : ((w : Int) < (((s.take 1).sum : Nat) : Int)) = False := by simp; omega
    simp only [rB_ok, rB_ex, aB_ok, aB_ex, lB_ok, lB_ex, llB_ok, llB_ex, liB_ok, lsB_ok, lsB_ex, vB_ok, vB_ex, sB_nx, sB_rt, sB_bk, sB_ct, sB_ex, tB_ok, tB_ex, iS_ok, iS_ex, fB_st, fB_dy, oS_nx, oS_ct, oS_bk, oS_rt, oS_ex, gB_s, fin_rt, fin_nx, fin_ex, vO_s, vOS_s, trO_s, oD_s, oL_s, newK_l, newK_d, gets_z, gets_s, cVar_e, cD_e, cTrue_e, cBin_e, cTru_e, cNot_e, cAnd_e, cOr_e, cIf_e, cAndB_e, cOrB_e, cNotB_e, cNil_e, cCons_e, cApp_e, iApp_e, sSkip_e, sBreak_e, sCont_e, sRetN_e, sSeq_e, sAsg_e, sNew_e, sExpr_e, sRet_e, sIf_e, sAsgT_e, sFor_e, sWhile_e, setD_e, tgName_e, tgTup_e, tB2_s, tgCons_e, tgNil_e, callD_e, callKw_e, pick_e, pureL_n, pureL_c, pure_non, pure_bl, pure_int, pure_str, pure_tup, pure_lst, pure_rol, pure_dct, pure_obj, sMethE_e, sMethA_e, sSub_e, sAug_e, augK_s, iVal_e, cComp_e, cB_st, cB_dy, coB_s, wipeD_n, wipeD_c, cTwo_e, cCutA_e, cCutH_e, cCutL_e, cCutLH_e, kInt_i, sTry_e, tryB_nx, tryB_ex, tryB_rt, sRaise_e, raiseK_e, runH_c, runH_n, hdK_t, hdK_f, noE_bl, noE_int, noE_lst, noE_non, noE_str, noE_tup, noEs_c, noEs_n, sPar2_e, sPar3_e, par2K_e, par3K_e, sFrz_e, cErr_e, cChain_e, bAdd_i, bSub_i, bCmp_i, bEq_i, bNe_i, bEq_s, bNe_s, bEq_b, iAdd_i, bIs_n, bIsNot_n, bIs_b, bIsNot_b, isNon_n, isNon_b, isNon_i, isNon_t, isNon_l, truth_b, truth_n, truth_i, truth_t, locO_l, lstOf_l, lstOf_o, rdOf_r, rdOf_l, rdOf_o, rdOf_t, seqOf_t, seqOf_r, seqOf_l, seqOf_o, lO_s, tO_s, iV_t, iV_l, iV_r, iV_o, iVo_s, enI_t, enI_l, lcB_s, lS_l, pO_s, kS_s, kSub_e, retD_non, retD_bl, retD_int, retD_str, retD_tup, retD_lst, retD_rol, retD_dct, retD_obj, retD_loc, retO_l, retO_d, tgD_non, tgD_bl, tgD_int, tgD_str, tgD_tup, tgD_lst, tgD_rol, tgD_dct, bIx_t, bIx_l, bIx_r, fCut_t, fCut_l, fTuple_t, fInt_i, Bool.and_true, Bool.true_and, Bool.and_false, Bool.false_and, Bool.or_true, Bool.true_or, Bool.or_false, Bool.false_or, Bool.not_true, Bool.not_false, Bool.and_self, Bool.false_eq_true, if_true, if_false, decide_true, decide_false, reduceIte, List.set_cons_zero, List.set_cons_succ, List.length_cons, List.length_nil, List.map_cons, List.map_nil, List.nil_append, List.cons_append, S_law_14_e, S_law_15_e, S_law_16_e, S_law_17_e, S_law_18_e, ls, cs, ss, z1, z2, tup3, tup1, rdue, let_ne, fl, tupi, tupb, bAdd_t, q1, q2, q3, w6, fw, h8, m6, xw, pbw, rf5, hrw, an4]
end K09

set_option maxRecDepth 100000
namespace K09
open PySem PySem.Spec L2 HC PL
open PyProof.Rows hiding St
/-! the defs of k09_listing_there_and_back -/
abbrev topS (i : Nat) : Stmt := PySem.Challenge.pw_hornstairs_k09_listing_there_and_back.main.body.getD i (.Pass ⟨0, 0, 0, 0⟩)
structure Txt (P : Program) (K : PySem.W.Frag) (mg : Str → Option Value) where
  C_StairError : Addr
  g_StairError : mg "StairError" = some (.ref C_StairError)
  C_InvalidNumber : Addr
  g_InvalidNumber : mg "InvalidNumber" = some (.ref C_InvalidNumber)
  C_InvalidStair : Addr
  g_InvalidStair : mg "InvalidStair" = some (.ref C_InvalidStair)
  C_Undefined : Addr
  g_Undefined : mg "Undefined" = some (.ref C_Undefined)
  I_InvalidNumber : Addr
  X_InvalidNumber : XSup K P C_InvalidNumber I_InvalidNumber "value" "value"
  k_InvalidNumber : XcK K C_InvalidNumber
  I_InvalidStair : Addr
  X_InvalidStair : XSup K P C_InvalidStair I_InvalidStair "value" "value"
  k_InvalidStair : XcK K C_InvalidStair
  I_Undefined : Addr
  X_Undefined : XSup K P C_Undefined I_Undefined "what" "what"
  k_Undefined : XcK K C_Undefined
  e_InvalidNumber_InvalidNumber : PySem.W.exmOne K (.ref C_InvalidNumber) (.ref C_InvalidNumber) = some true
  e_InvalidNumber_InvalidStair : PySem.W.exmOne K (.ref C_InvalidNumber) (.ref C_InvalidStair) = some false
  e_InvalidNumber_Undefined : PySem.W.exmOne K (.ref C_InvalidNumber) (.ref C_Undefined) = some false
  e_InvalidStair_InvalidNumber : PySem.W.exmOne K (.ref C_InvalidStair) (.ref C_InvalidNumber) = some false
  e_InvalidStair_InvalidStair : PySem.W.exmOne K (.ref C_InvalidStair) (.ref C_InvalidStair) = some true
  e_InvalidStair_Undefined : PySem.W.exmOne K (.ref C_InvalidStair) (.ref C_Undefined) = some false
  e_Undefined_InvalidNumber : PySem.W.exmOne K (.ref C_Undefined) (.ref C_InvalidNumber) = some false
  e_Undefined_InvalidStair : PySem.W.exmOne K (.ref C_Undefined) (.ref C_InvalidStair) = some false
  e_Undefined_Undefined : PySem.W.exmOne K (.ref C_Undefined) (.ref C_Undefined) = some true
  i_InvalidNumber_StairError : PySem.W.kitOne K (.ref C_InvalidNumber) (.ref C_StairError) = some true
  i_InvalidStair_StairError : PySem.W.kitOne K (.ref C_InvalidStair) (.ref C_StairError) = some true
  i_Undefined_StairError : PySem.W.kitOne K (.ref C_Undefined) (.ref C_StairError) = some true
  a_is_integer : Addr
  d_is_integer : FuncData
  F_is_integer : L2.Fun K "is_integer" "is_integer" (topS 1) a_is_integer d_is_integer
  g_is_integer : mg "is_integer" = some (.ref a_is_integer)
  b_is_integer : Binds K d_is_integer ["value"] []
  a_is_number : Addr
  d_is_number : FuncData
  F_is_number : L2.Fun K "is_number" "is_number" (topS 2) a_is_number d_is_number
  g_is_number : mg "is_number" = some (.ref a_is_number)
  b_is_number : Binds K d_is_number ["value"] []
  a_is_positive : Addr
  d_is_positive : FuncData
  F_is_positive : L2.Fun K "is_positive" "is_positive" (topS 3) a_is_positive d_is_positive
  g_is_positive : mg "is_positive" = some (.ref a_is_positive)
  b_is_positive : Binds K d_is_positive ["value"] []
  a_is_stair : Addr
  d_is_stair : FuncData
  F_is_stair : L2.Fun K "is_stair" "is_stair" (topS 10) a_is_stair d_is_stair
  g_is_stair : mg "is_stair" = some (.ref a_is_stair)
  b_is_stair : Binds K d_is_stair ["value"] []
  a_need_stair : Addr
  d_need_stair : FuncData
  F_need_stair : L2.Fun K "need_stair" "need_stair" (topS 11) a_need_stair d_need_stair
  g_need_stair : mg "need_stair" = some (.ref a_need_stair)
  b_need_stair : Binds K d_need_stair ["value"] []
  a__need_numbers : Addr
  d__need_numbers : FuncData
  F__need_numbers : L2.Fun K "_need_numbers" "_need_numbers" (topS 13) a__need_numbers d__need_numbers
  g__need_numbers : mg "_need_numbers" = some (.ref a__need_numbers)
  b__need_numbers : Binds K d__need_numbers ["values"] []
  a__next_counts : Addr
  d__next_counts : FuncData
  F__next_counts : L2.Fun K "_next_counts" "_next_counts" (topS 14) a__next_counts d__next_counts
  g__next_counts : mg "_next_counts" = some (.ref a__next_counts)
  b__next_counts : Binds K d__next_counts ["counts", "width"] []
  a__all_counts : Addr
  d__all_counts : FuncData
  F__all_counts : L2.Fun K "_all_counts" "_all_counts" (topS 15) a__all_counts d__all_counts
  g__all_counts : mg "_all_counts" = some (.ref a__all_counts)
  b__all_counts : Binds K d__all_counts ["size", "height", "width"] []
  a_count_stairs : Addr
  d_count_stairs : FuncData
  F_count_stairs : L2.Fun K "count_stairs" "count_stairs" (topS 16) a_count_stairs d_count_stairs
  g_count_stairs : mg "count_stairs" = some (.ref a_count_stairs)
  b_count_stairs : Binds K d_count_stairs ["size", "height", "width"] []
  a_stair_at : Addr
  d_stair_at : FuncData
  F_stair_at : L2.Fun K "stair_at" "stair_at" (topS 17) a_stair_at d_stair_at
  g_stair_at : mg "stair_at" = some (.ref a_stair_at)
  b_stair_at : Binds K d_stair_at ["size", "height", "width", "place"] []
  a_place_of : Addr
  d_place_of : FuncData
  F_place_of : L2.Fun K "place_of" "place_of" (topS 18) a_place_of d_place_of
  g_place_of : mg "place_of" = some (.ref a_place_of)
  b_place_of : Binds K d_place_of ["stair", "height", "width"] []
  a__law_cell : Addr
  d__law_cell : FuncData
  F__law_cell : L2.Fun K "_law_cell" "_law_cell" (topS 20) a__law_cell d__law_cell
  g__law_cell : mg "_law_cell" = some (.ref a__law_cell)
  b__law_cell : Binds K d__law_cell ["script", "k"] []
  a__law_draw : Addr
  d__law_draw : FuncData
  F__law_draw : L2.Fun K "_law_draw" "_law_draw" (topS 21) a__law_draw d__law_draw
  g__law_draw : mg "_law_draw" = some (.ref a__law_draw)
  b__law_draw : Binds K d__law_draw ["cell", "k", "limit"] []
  a__law_all_in : Addr
  d__law_all_in : FuncData
  F__law_all_in : L2.Fun K "_law_all_in" "_law_all_in" (topS 22) a__law_all_in d__law_all_in
  g__law_all_in : mg "_law_all_in" = some (.ref a__law_all_in)
  b__law_all_in : Binds K d__law_all_in ["total", "height", "width"] []
  a__law_is_row : Addr
  d__law_is_row : FuncData
  F__law_is_row : L2.Fun K "_law_is_row" "_law_is_row" (topS 23) a__law_is_row d__law_is_row
  g__law_is_row : mg "_law_is_row" = some (.ref a__law_is_row)
  b__law_is_row : Binds K d__law_is_row ["actual", "due"] []
  a__law_is_number : Addr
  d__law_is_number : FuncData
  F__law_is_number : L2.Fun K "_law_is_number" "_law_is_number" (topS 24) a__law_is_number d__law_is_number
  g__law_is_number : mg "_law_is_number" = some (.ref a__law_is_number)
  b__law_is_number : Binds K d__law_is_number ["actual", "due"] []
  a__law_refused : Addr
  d__law_refused : FuncData
  F__law_refused : L2.Fun K "_law_refused" "_law_refused" (topS 25) a__law_refused d__law_refused
  g__law_refused : mg "_law_refused" = some (.ref a__law_refused)
  b__law_refused : Binds K d__law_refused ["handed"] []
  a__law_refused_place : Addr
  d__law_refused_place : FuncData
  F__law_refused_place : L2.Fun K "_law_refused_place" "_law_refused_place" (topS 26) a__law_refused_place d__law_refused_place
  g__law_refused_place : mg "_law_refused_place" = some (.ref a__law_refused_place)
  b__law_refused_place : Binds K d__law_refused_place ["stair", "height", "width"] []
  a__law_spoilt : Addr
  d__law_spoilt : FuncData
  F__law_spoilt : L2.Fun K "_law_spoilt" "_law_spoilt" (topS 27) a__law_spoilt d__law_spoilt
  g__law_spoilt : mg "_law_spoilt" = some (.ref a__law_spoilt)
  b__law_spoilt : Binds K d__law_spoilt ["numbers", "cell"] []
  a_law : Addr
  d_law : FuncData
  F_law : L2.Fun K "law" "law" (topS 28) a_law d_law
  g_law : mg "law" = some (.ref a_law)
  b_law : Binds K d_law ["script"] []
  z_bool : mg "bool" = none
  z_enumerate : mg "enumerate" = none
  z_int : mg "int" = none
  z_isinstance : mg "isinstance" = none
  z_len : mg "len" = none
  z_list : mg "list" = none
  z_min : mg "min" = none
  z_range : mg "range" = none
  z_repr : mg "repr" = none
  z_sorted : mg "sorted" = none
  z_sum : mg "sum" = none
  z_super : mg "super" = none
  z_tuple : mg "tuple" = none
def gx {P : Program} {K : PySem.W.Frag} {mg : Str → Option Value} (T : Txt P K mg) : GX := ⟨K, fun c => match c with | 1 => T.C_InvalidNumber | 2 => T.C_InvalidStair | 10 => T.C_Undefined | _ => 0, fun c => match c with | 1 => ["value"] | 2 => ["value"] | 10 => ["what"] | _ => [], none⟩
theorem sc_is_integer : FnScope ["value"] ["value"] (defScope (topS 1)) := ⟨rfl, rfl, rfl, by decide +kernel, rfl, by decide +kernel, by decide +kernel⟩
theorem ok_is_integer {P : Program} {w : World} {K : PySem.W.Frag} {mg : Str → Option Value} {base : Heap} (T : Txt P K mg) : FnG P w K mg base (L2.CX P w) 1 T.a_is_integer T.d_is_integer ["value"] (fnSp (gx T) m_is_integer) := by
  refine fn_okG (N := ["value"]) T.F_is_integer sc_is_integer rfl fun cdv A outer s H E hr => ?_
  have hu := hr.1.units
  exact (s_one (s_ret (q_and (q_isi (by rfl) T.z_isinstance (by rfl) (q_var 0) (pcl (by rfl) T.z_int (by decide +kernel))) (q_one (q_not (q_isi (by rfl) T.z_isinstance (by rfl) (q_var 0) (pcl (by rfl) T.z_bool (by decide +kernel))) (by rfl))) (by rfl))))
theorem sc_is_number : FnScope ["value"] ["value"] (defScope (topS 2)) := ⟨rfl, rfl, rfl, by decide +kernel, rfl, by decide +kernel, by decide +kernel⟩
theorem ok_is_number {P : Program} {w : World} {K : PySem.W.Frag} {mg : Str → Option Value} {base : Heap} (T : Txt P K mg) : FnG P w K mg base (L2.CX P w) 2 T.a_is_number T.d_is_number ["value"] (fnSp (gx T) m_is_number) := by
  have C_is_integer := ok_is_integer (w := w) (base := base) T
  refine fn_okG (N := ["value"]) T.F_is_number sc_is_number rfl fun cdv A outer s H E hr => ?_
  have hu := hr.1.units
  exact (s_one (s_ret (q_and (q_call (C_is_integer) (by exact hr.mono (by decide)) (by rfl) T.g_is_integer T.F_is_integer.kp T.b_is_integer (by exact takes_of rfl rfl rfl rfl) (qa_cons (q_var 0) qa_nil)) (q_one (q_cmp op_ge lk_cmp (q_var 0) q_int)) (by rfl))))
theorem sc_is_positive : FnScope ["value"] ["value"] (defScope (topS 3)) := ⟨rfl, rfl, rfl, by decide +kernel, rfl, by decide +kernel, by decide +kernel⟩
theorem ok_is_positive {P : Program} {w : World} {K : PySem.W.Frag} {mg : Str → Option Value} {base : Heap} (T : Txt P K mg) : FnG P w K mg base (L2.CX P w) 2 T.a_is_positive T.d_is_positive ["value"] (fnSp (gx T) m_is_positive) := by
  have C_is_integer := ok_is_integer (w := w) (base := base) T
  refine fn_okG (N := ["value"]) T.F_is_positive sc_is_positive rfl fun cdv A outer s H E hr => ?_
  have hu := hr.1.units
  exact (s_one (s_ret (q_and (q_call (C_is_integer) (by exact hr.mono (by decide)) (by rfl) T.g_is_integer T.F_is_integer.kp T.b_is_integer (by exact takes_of rfl rfl rfl rfl) (qa_cons (q_var 0) qa_nil)) (q_one (q_cmp op_ge lk_cmp (q_var 0) q_int)) (by rfl))))
theorem sc_is_stair : FnScope ["value", "i", "row"] ["value"] (defScope (topS 10)) := ⟨rfl, rfl, rfl, by decide +kernel, rfl, by decide +kernel, by decide +kernel⟩
theorem ok_is_stair {P : Program} {w : World} {K : PySem.W.Frag} {mg : Str → Option Value} {base : Heap} (T : Txt P K mg) : FnG P w K mg base (L2.CX P w) 3 T.a_is_stair T.d_is_stair ["value"] (fnSp (gx T) m_is_stair) := by
  have C_is_positive := ok_is_positive (w := w) (base := base) T
  refine fn_okG (N := ["value", "i", "row"]) T.F_is_stair sc_is_stair rfl fun cdv A outer s H E hr => ?_
  have hu := hr.1.units
  exact (s_cons (s_if (q_notT (q_tru (q_isi (by rfl) T.z_isinstance (by rfl) (q_var 0) (pcl (by rfl) T.z_tuple (by decide +kernel))) (by rfl))) (s_one (s_ret q_bl)) s_nil)
    (s_cons (s_for (by exact L2.passes_of rfl) (by rfl) (it_enum (by rfl) T.z_enumerate (qa_cons (q_var 0) qa_nil) (by rfl)) (tg_tup (by rfl) (tgs_cons (tg_name (i := 1) sc_is_stair.nd (by rfl) (by first | exact Or.inl rfl | exact Or.inr rfl)) (tgs_cons (tg_name (i := 2) sc_is_stair.nd (by rfl) (by first | exact Or.inl rfl | exact Or.inr rfl)) tgs_nil)) (by rfl)) (s_cons (s_if (q_notT (q_tru (q_call (C_is_positive) (by exact hr.mono (by decide)) (by rfl) T.g_is_positive T.F_is_positive.kp T.b_is_positive (by exact takes_of rfl rfl rfl rfl) (qa_cons (q_var 2) qa_nil)) (by rfl))) (s_one (s_ret q_bl)) s_nil)
    (s_one (s_if (w_and (q_cmpT op_gt lk_cmp (q_var 1) q_int) (w_and1 (q_cmpT op_gt lk_cmp (q_var 2) (q_ix (q_var 0) (q_op op_sub lk_sub (q_var 1) q_int) (by rfl))))).pt (s_one (s_ret q_bl)) s_nil))))
    (s_one (s_ret q_bl))))
theorem sc_need_stair : FnScope ["value"] ["value"] (defScope (topS 11)) := ⟨rfl, rfl, rfl, by decide +kernel, rfl, by decide +kernel, by decide +kernel⟩
theorem ok_need_stair {P : Program} {w : World} {K : PySem.W.Frag} {mg : Str → Option Value} {base : Heap} (T : Txt P K mg) : FnG P w K mg base (L2.CX P w) 4 T.a_need_stair T.d_need_stair ["value"] (fnSp (gx T) m_need_stair) := by
  have C_is_stair := ok_is_stair (w := w) (base := base) T
  refine fn_okG (N := ["value"]) T.F_need_stair sc_need_stair rfl fun cdv A outer s H E hr => ?_
  have hu := hr.1.units
  exact (s_one (s_if (q_notT (q_tru (q_call (C_is_stair) (by exact hr.mono (by decide)) (by rfl) T.g_is_stair T.F_is_stair.kp T.b_is_stair (by exact takes_of rfl rfl rfl rfl) (qa_cons (q_var 0) qa_nil)) (by rfl))) (s_one (s_raise (k := 0) (by rfl) (by exact takes_of rfl rfl rfl rfl) T.X_InvalidStair rfl rfl (by rfl) T.g_InvalidStair T.z_super (by exact hr.mono (by decide)) (qa_cons (q_var 0) qa_nil))) s_nil))
theorem sc__need_numbers : FnScope ["values", "value"] ["values"] (defScope (topS 13)) := ⟨rfl, rfl, rfl, by decide +kernel, rfl, by decide +kernel, by decide +kernel⟩
theorem ok__need_numbers {P : Program} {w : World} {K : PySem.W.Frag} {mg : Str → Option Value} {base : Heap} (T : Txt P K mg) : FnG P w K mg base (L2.CX P w) 3 T.a__need_numbers T.d__need_numbers ["values"] (fnSp (gx T) m__need_numbers) := by
  have C_is_number := ok_is_number (w := w) (base := base) T
  refine fn_okG (N := ["values", "value"]) T.F__need_numbers sc__need_numbers rfl fun cdv A outer s H E hr => ?_
  have hu := hr.1.units
  exact (s_one (s_for (by exact L2.passes_of rfl) (by rfl) (it_val (q_var 0) (by rfl)) (tg_name (i := 1) sc__need_numbers.nd (by rfl) (by first | exact Or.inl rfl | exact Or.inr rfl)) (s_one (s_if (q_notT (q_tru (q_call (C_is_number) (by exact hr.mono (by decide)) (by rfl) T.g_is_number T.F_is_number.kp T.b_is_number (by exact takes_of rfl rfl rfl rfl) (qa_cons (q_var 1) qa_nil)) (by rfl))) (s_one (s_raise (k := 0) (by rfl) (by exact takes_of rfl rfl rfl rfl) T.X_InvalidNumber rfl rfl (by rfl) T.g_InvalidNumber T.z_super (by exact hr.mono (by decide)) (qa_cons (q_var 1) qa_nil))) s_nil))))
theorem sc__next_counts : FnScope ["counts", "width", "found", "high", "less", "row", "many"] ["counts", "width"] (defScope (topS 14)) := ⟨rfl, rfl, rfl, by decide +kernel, rfl, by decide +kernel, by decide +kernel⟩
theorem ok__next_counts {P : Program} {w : World} {K : PySem.W.Frag} {mg : Str → Option Value} {base : Heap} (T : Txt P K mg) : FnG P w K mg base (L2.CX P w) 1 T.a__next_counts T.d__next_counts ["counts", "width"] (fnSp (gx T) m__next_counts) := by
  refine fn_okG (N := ["counts", "width", "found", "high", "less", "row", "many"]) T.F__next_counts sc__next_counts rfl fun cdv A outer s H E hr => ?_
  have hu := hr.1.units
  exact (s_cons (s_new (i := 2) sc__next_counts.nd (by rfl) (by first | exact Or.inl rfl | exact Or.inr rfl) (q_lst (qa_cons (q_callTy call_list_of lk_list (by rfl) T.z_list (by decide +kernel) (qa_cons (q_ix (q_var 0) q_int (by rfl)) qa_nil)) qa_nil)))
    (s_cons (s_for (by exact L2.passes_of rfl) (by rfl) (it_range2 (by rfl) T.z_range (qa_cons q_int (qa_cons (q_callB call_len lk_len (by rfl) T.z_len (by decide +kernel) (qa_cons (q_var 0) qa_nil)) qa_nil))) (tg_name (i := 3) sc__next_counts.nd (by rfl) (by first | exact Or.inl rfl | exact Or.inr rfl)) (ss_frz (s_cons (s_asg (i := 4) sc__next_counts.nd (by rfl) (by first | exact Or.inl rfl | exact Or.inr rfl) (q_ix (q_var 2) (q_op op_sub lk_sub (q_var 3) q_int) (by rfl)))
    (s_cons (s_new (i := 5) sc__next_counts.nd (by rfl) (by first | exact Or.inl rfl | exact Or.inr rfl) (q_callTy call_list_of lk_list (by rfl) T.z_list (by decide +kernel) (qa_cons (q_ix (q_var 0) (q_var 3) (by rfl)) qa_nil)))
    (s_cons (s_for (by exact L2.passes_of rfl) (by rfl) (it_range2 (by rfl) T.z_range (qa_cons (q_var 1) (qa_cons (q_callB call_len lk_len (by rfl) T.z_len (by decide +kernel) (qa_cons (q_var 5) qa_nil)) qa_nil))) (tg_name (i := 6) sc__next_counts.nd (by rfl) (by first | exact Or.inl rfl | exact Or.inr rfl)) (s_one (s_augS (q_var 5) (q_var 6) (q_ix (q_var 4) (q_op op_sub lk_sub (q_var 6) (q_var 1)) (by rfl)) iop_add lk_iadd rfl)))
    (s_one (s_methE PySem.F.slot_list_append PySem.F.type_list_append mt_append lm_append (q_var 2) (qa_cons (q_var 5) qa_nil) (by rfl))))))))
    (s_one (s_ret (q_var 2)))))
theorem sc__all_counts : FnScope ["size", "height", "width", "counts", "wide", "_"] ["size", "height", "width"] (defScope (topS 15)) := ⟨rfl, rfl, rfl, by decide +kernel, rfl, by decide +kernel, by decide +kernel⟩
theorem ok__all_counts {P : Program} {w : World} {K : PySem.W.Frag} {mg : Str → Option Value} {base : Heap} (T : Txt P K mg) : FnG P w K mg base (L2.CX P w) 2 T.a__all_counts T.d__all_counts ["size", "height", "width"] (fnSp (gx T) m__all_counts) := by
  have C__next_counts := ok__next_counts (w := w) (base := base) T
  refine fn_okG (N := ["size", "height", "width", "counts", "wide", "_"]) T.F__all_counts sc__all_counts rfl fun cdv A outer s H E hr => ?_
  have hu := hr.1.units
  exact (s_cons (s_new (i := 3) sc__all_counts.nd (by rfl) (by first | exact Or.inl rfl | exact Or.inr rfl) (q_lst (qa_cons (q_comp (by rfl) sc__all_counts.nd (it_range1 (by rfl) T.z_range (qa_cons (q_op op_addA lk_add (q_var 1) q_int) qa_nil)) (blkOk_by (own := [("_", 5)]) (by kernel_rfl)) (by decide) (fun _ _ _ _ _ => (tg_name (i := 5) sc__all_counts.nd (by rfl) (by first | exact Or.inl rfl | exact Or.inr rfl))) (fun _ _ _ _ _ => qt_nil) (fun _ _ _ _ _ => (q_op op_addA lk_add (q_lst (qa_cons q_int qa_nil)) (q_op op_mulA lk_mul (q_lst (qa_cons q_int qa_nil)) (q_var 0))))) qa_nil)))
    (s_cons (s_for (by exact L2.passes_of rfl) (by rfl) (it_range2 (by rfl) T.z_range (qa_cons q_int (qa_cons (q_op op_addA lk_add (q_var 2) q_int) qa_nil))) (tg_name (i := 4) sc__all_counts.nd (by rfl) (by first | exact Or.inl rfl | exact Or.inr rfl)) (s_one (s_methE PySem.F.slot_list_append PySem.F.type_list_append mt_append lm_append (q_var 3) (qa_cons (q_call (C__next_counts) (by exact hr.mono (by decide)) (by rfl) T.g__next_counts T.F__next_counts.kp T.b__next_counts (by exact takes_of rfl rfl rfl rfl) (qa_cons (q_ix (q_var 3) (q_op op_sub lk_sub (q_var 4) q_int) (by rfl)) (qa_cons (q_var 4) qa_nil))) qa_nil) (by rfl))))
    (s_one (s_ret (q_var 3)))))
theorem sc_count_stairs : FnScope ["size", "height", "width", "high", "wide"] ["size", "height", "width"] (defScope (topS 16)) := ⟨rfl, rfl, rfl, by decide +kernel, rfl, by decide +kernel, by decide +kernel⟩
theorem ok_count_stairs {P : Program} {w : World} {K : PySem.W.Frag} {mg : Str → Option Value} {base : Heap} (T : Txt P K mg) : FnG P w K mg base (L2.CX P w) 4 T.a_count_stairs T.d_count_stairs ["size", "height", "width"] (fnSp (gx T) m_count_stairs) := by
  have C__all_counts := ok__all_counts (w := w) (base := base) T
  have C__need_numbers := ok__need_numbers (w := w) (base := base) T
  refine fn_okG (N := ["size", "height", "width", "high", "wide"]) T.F_count_stairs sc_count_stairs rfl fun cdv A outer s H E hr => ?_
  have hu := hr.1.units
  exact (s_cons (s_expr (q_call (C__need_numbers) (by exact hr.mono (by decide)) (by rfl) T.g__need_numbers T.F__need_numbers.kp T.b__need_numbers (by exact takes_of rfl rfl rfl rfl) (qa_cons (q_tup (qa_cons (q_var 0) (qa_cons (q_var 1) (qa_cons (q_var 2) qa_nil)))) qa_nil)))
    (s_cons (s_asg (i := 3) sc_count_stairs.nd (by rfl) (by first | exact Or.inl rfl | exact Or.inr rfl) (q_callB (call_min2 (by rfl)) lk_min2 (by rfl) T.z_min (by decide +kernel) (qa_cons (q_var 1) (qa_cons (q_var 0) qa_nil))))
    (s_cons (s_asg (i := 4) sc_count_stairs.nd (by rfl) (by first | exact Or.inl rfl | exact Or.inr rfl) (q_callB (call_min2 (by rfl)) lk_min2 (by rfl) T.z_min (by decide +kernel) (qa_cons (q_var 2) (qa_cons (q_var 0) qa_nil))))
    (s_cons (s_if (q_cmpT op_gt lk_cmp (q_var 0) (q_op op_mulA lk_mul (q_var 3) (q_var 4))) (s_one (s_ret q_int)) s_nil)
    (s_one (s_ret (q_ix (q_ix (q_ix (q_call (C__all_counts) (by exact hr.mono (by decide)) (by rfl) T.g__all_counts T.F__all_counts.kp T.b__all_counts (by exact takes_of rfl rfl rfl rfl) (qa_cons (q_var 0) (qa_cons (q_var 3) (qa_cons (q_var 4) qa_nil)))) (q_var 4) (by rfl)) (q_var 3) (by rfl)) (q_var 0) (by rfl))))))))
theorem sc_stair_at : FnScope ["size", "height", "width", "place", "high", "wide", "counts", "left", "found", "many"] ["size", "height", "width", "place"] (defScope (topS 17)) := ⟨rfl, rfl, rfl, by decide +kernel, rfl, by decide +kernel, by decide +kernel⟩
theorem ok_stair_at {P : Program} {w : World} {K : PySem.W.Frag} {mg : Str → Option Value} {base : Heap} (T : Txt P K mg) : FnG P w K mg base (L2.CX P w) 4 T.a_stair_at T.d_stair_at ["size", "height", "width", "place"] (fnSp (gx T) m_stair_at) := by
  have C__all_counts := ok__all_counts (w := w) (base := base) T
  have C__need_numbers := ok__need_numbers (w := w) (base := base) T
  refine fn_okG (N := ["size", "height", "width", "place", "high", "wide", "counts", "left", "found", "many"]) T.F_stair_at sc_stair_at rfl fun cdv A outer s H E hr => ?_
  have hu := hr.1.units
  exact (s_cons (s_expr (q_call (C__need_numbers) (by exact hr.mono (by decide)) (by rfl) T.g__need_numbers T.F__need_numbers.kp T.b__need_numbers (by exact takes_of rfl rfl rfl rfl) (qa_cons (q_tup (qa_cons (q_var 0) (qa_cons (q_var 1) (qa_cons (q_var 2) (qa_cons (q_var 3) qa_nil))))) qa_nil)))
    (s_cons (s_asg (i := 4) sc_stair_at.nd (by rfl) (by first | exact Or.inl rfl | exact Or.inr rfl) (q_callB (call_min2 (by rfl)) lk_min2 (by rfl) T.z_min (by decide +kernel) (qa_cons (q_var 1) (qa_cons (q_var 0) qa_nil))))
    (s_cons (s_asg (i := 5) sc_stair_at.nd (by rfl) (by first | exact Or.inl rfl | exact Or.inr rfl) (q_callB (call_min2 (by rfl)) lk_min2 (by rfl) T.z_min (by decide +kernel) (qa_cons (q_var 2) (qa_cons (q_var 0) qa_nil))))
    (s_cons (s_if (q_cmpT op_gt lk_cmp (q_var 0) (q_op op_mulA lk_mul (q_var 4) (q_var 5))) (s_one (s_raise (k := 0) (by rfl) (by exact takes_of rfl rfl rfl rfl) T.X_Undefined rfl rfl (by rfl) T.g_Undefined T.z_super (by exact hr.mono (by decide)) (qa_cons q_str qa_nil))) s_nil)
    (s_cons (s_asg (i := 6) sc_stair_at.nd (by rfl) (by first | exact Or.inl rfl | exact Or.inr rfl) (q_call (C__all_counts) (by exact hr.mono (by decide)) (by rfl) T.g__all_counts T.F__all_counts.kp T.b__all_counts (by exact takes_of rfl rfl rfl rfl) (qa_cons (q_var 0) (qa_cons (q_var 4) (qa_cons (q_var 5) qa_nil)))))
    (s_cons (s_if (q_cmpT op_ge lk_cmp (q_var 3) (q_ix (q_ix (q_ix (q_var 6) (q_var 5) (by rfl)) (q_var 4) (by rfl)) (q_var 0) (by rfl))) (s_one (s_raise (k := 0) (by rfl) (by exact takes_of rfl rfl rfl rfl) T.X_Undefined rfl rfl (by rfl) T.g_Undefined T.z_super (by exact hr.mono (by decide)) (qa_cons q_str qa_nil))) s_nil)
    (s_cons (s_asg (i := 7) sc_stair_at.nd (by rfl) (by first | exact Or.inl rfl | exact Or.inr rfl) (q_var 0))
    (s_cons (s_new (i := 8) sc_stair_at.nd (by rfl) (by first | exact Or.inl rfl | exact Or.inr rfl) (q_lst qa_nil))
    (s_cons (s_while (by exact L2.passes_of rfl) (q_cmpT op_gt lk_cmp (q_var 7) q_int) (s_cons (s_asg (i := 5) sc_stair_at.nd (by rfl) (by first | exact Or.inl rfl | exact Or.inr rfl) (q_callB (call_min2 (by rfl)) lk_min2 (by rfl) T.z_min (by decide +kernel) (qa_cons (q_var 5) (qa_cons (q_var 7) qa_nil))))
    (s_cons (s_asg (i := 9) sc_stair_at.nd (by rfl) (by first | exact Or.inl rfl | exact Or.inr rfl) (q_ix (q_ix (q_ix (q_var 6) (q_var 5) (by rfl)) (q_op op_sub lk_sub (q_var 4) q_int) (by rfl)) (q_op op_sub lk_sub (q_var 7) (q_var 5)) (by rfl)))
    (s_one (s_if (q_cmpT op_lt lk_cmp (q_var 3) (q_var 9)) (s_cons (s_methE PySem.F.slot_list_append PySem.F.type_list_append mt_append lm_append (q_var 8) (qa_cons (q_var 5) qa_nil) (by rfl))
    (s_cons (s_aug (k := 7) sc_stair_at.nd (by rfl) (by first | exact Or.inl rfl | exact Or.inr rfl) (q_var 5) iop_sub lk_sub)
    (s_one (s_aug (k := 4) sc_stair_at.nd (by rfl) (by first | exact Or.inl rfl | exact Or.inr rfl) q_int iop_sub lk_sub)))) (s_cons (s_aug (k := 3) sc_stair_at.nd (by rfl) (by first | exact Or.inl rfl | exact Or.inr rfl) (q_var 9) iop_sub lk_sub)
    (s_one (s_aug (k := 5) sc_stair_at.nd (by rfl) (by first | exact Or.inl rfl | exact Or.inr rfl) q_int iop_sub lk_sub))))))))
    (s_one (s_ret (q_callTy call_tuple_of lk_tuple (by rfl) T.z_tuple (by decide +kernel) (qa_cons (q_var 8) qa_nil)))))))))))))
theorem sc_place_of : FnScope ["stair", "height", "width", "left", "high", "wide", "counts", "found", "row", "first"] ["stair", "height", "width"] (defScope (topS 18)) := ⟨rfl, rfl, rfl, by decide +kernel, rfl, by decide +kernel, by decide +kernel⟩
theorem ok_place_of {P : Program} {w : World} {K : PySem.W.Frag} {mg : Str → Option Value} {base : Heap} (T : Txt P K mg) : FnG P w K mg base (L2.CX P w) 5 T.a_place_of T.d_place_of ["stair", "height", "width"] (fnSp (gx T) m_place_of) := by
  have C__all_counts := ok__all_counts (w := w) (base := base) T
  have C_need_stair := ok_need_stair (w := w) (base := base) T
  refine fn_okG (N := ["stair", "height", "width", "left", "high", "wide", "counts", "found", "row", "first"]) T.F_place_of sc_place_of rfl fun cdv A outer s H E hr => ?_
  have hu := hr.1.units
  exact (s_cons (s_expr (q_call (C_need_stair) (by exact hr.mono (by decide)) (by rfl) T.g_need_stair T.F_need_stair.kp T.b_need_stair (by exact takes_of rfl rfl rfl rfl) (qa_cons (q_var 0) qa_nil)))
    (s_cons (s_if (w_or (q_cmpT op_gt lk_cmp (q_callB call_len lk_len (by rfl) T.z_len (by decide +kernel) (qa_cons (q_var 0) qa_nil)) (q_var 1)) (w_or1 (w_and (q_cmpT op_gt lk_cmp (q_callB call_len lk_len (by rfl) T.z_len (by decide +kernel) (qa_cons (q_var 0) qa_nil)) q_int) (w_and1 (q_cmpT op_gt lk_cmp (q_ix (q_var 0) q_int (by rfl)) (q_var 2)))).pt)).pt (s_one (s_raise (k := 0) (by rfl) (by exact takes_of rfl rfl rfl rfl) T.X_Undefined rfl rfl (by rfl) T.g_Undefined T.z_super (by exact hr.mono (by decide)) (qa_cons q_str qa_nil))) s_nil)
    (s_cons (s_asg (i := 3) sc_place_of.nd (by rfl) (by first | exact Or.inl rfl | exact Or.inr rfl) (q_callB (cr_sumA (by rfl)) lk_sum (by rfl) T.z_sum (by decide +kernel) (qa_cons (q_var 0) qa_nil)))
    (s_cons (s_asg (i := 4) sc_place_of.nd (by rfl) (by first | exact Or.inl rfl | exact Or.inr rfl) (q_callB (call_min2 (by rfl)) lk_min2 (by rfl) T.z_min (by decide +kernel) (qa_cons (q_var 1) (qa_cons (q_var 3) qa_nil))))
    (s_cons (s_asg (i := 5) sc_place_of.nd (by rfl) (by first | exact Or.inl rfl | exact Or.inr rfl) (q_callB (call_min2 (by rfl)) lk_min2 (by rfl) T.z_min (by decide +kernel) (qa_cons (q_var 2) (qa_cons (q_var 3) qa_nil))))
    (s_cons (s_asg (i := 6) sc_place_of.nd (by rfl) (by first | exact Or.inl rfl | exact Or.inr rfl) (q_call (C__all_counts) (by exact hr.mono (by decide)) (by rfl) T.g__all_counts T.F__all_counts.kp T.b__all_counts (by exact takes_of rfl rfl rfl rfl) (qa_cons (q_var 3) (qa_cons (q_var 4) (qa_cons (q_var 5) qa_nil)))))
    (s_cons (s_asg (i := 7) sc_place_of.nd (by rfl) (by first | exact Or.inl rfl | exact Or.inr rfl) q_int)
    (s_cons (s_for (by exact L2.passes_of rfl) (by rfl) (it_val (q_var 0) (by rfl)) (tg_name (i := 8) sc_place_of.nd (by rfl) (by first | exact Or.inl rfl | exact Or.inr rfl)) (s_cons (s_for (by exact L2.passes_of rfl) (by rfl) (it_range2 (by rfl) T.z_range (qa_cons (q_op op_addA lk_add (q_var 8) q_int) (qa_cons (q_op op_addA lk_add (q_callB (call_min2 (by rfl)) lk_min2 (by rfl) T.z_min (by decide +kernel) (qa_cons (q_var 5) (qa_cons (q_var 3) qa_nil))) q_int) qa_nil))) (tg_name (i := 9) sc_place_of.nd (by rfl) (by first | exact Or.inl rfl | exact Or.inr rfl)) (s_one (s_aug (k := 7) sc_place_of.nd (by rfl) (by first | exact Or.inl rfl | exact Or.inr rfl) (q_ix (q_ix (q_ix (q_var 6) (q_var 9) (by rfl)) (q_op op_sub lk_sub (q_var 4) q_int) (by rfl)) (q_op op_sub lk_sub (q_var 3) (q_var 9)) (by rfl)) iop_add lk_iadd)))
    (s_cons (s_asg (i := 5) sc_place_of.nd (by rfl) (by first | exact Or.inl rfl | exact Or.inr rfl) (q_var 8))
    (s_cons (s_aug (k := 3) sc_place_of.nd (by rfl) (by first | exact Or.inl rfl | exact Or.inr rfl) (q_var 8) iop_sub lk_sub)
    (s_one (s_aug (k := 4) sc_place_of.nd (by rfl) (by first | exact Or.inl rfl | exact Or.inr rfl) q_int iop_sub lk_sub))))))
    (s_one (s_ret (q_var 7)))))))))))
theorem sc__law_cell : FnScope ["script", "k"] ["script", "k"] (defScope (topS 20)) := ⟨rfl, rfl, rfl, by decide +kernel, rfl, by decide +kernel, by decide +kernel⟩
theorem ok__law_cell {P : Program} {w : World} {K : PySem.W.Frag} {mg : Str → Option Value} {base : Heap} (T : Txt P K mg) : FnG P w K mg base (L2.CX P w) 1 T.a__law_cell T.d__law_cell ["script", "k"] (fnSp (gx T) m__law_cell) := by
  refine fn_okG (N := ["script", "k"]) T.F__law_cell sc__law_cell rfl fun cdv A outer s H E hr => ?_
  have hu := hr.1.units
  exact (s_cons (s_if (q_cmpT op_lt lk_cmp (q_var 1) (q_callB call_len lk_len (by rfl) T.z_len (by decide +kernel) (qa_cons (q_var 0) qa_nil))) (s_one (s_ret (q_callTy call_int1 lk_int (by rfl) T.z_int (by decide +kernel) (qa_cons (q_ix (q_var 0) (q_var 1) (by rfl)) qa_nil)))) s_nil)
    (s_cons (s_if (q_cmpT (op_eq.or (op_eqD hu)) lk_eq (q_callB call_len lk_len (by rfl) T.z_len (by decide +kernel) (qa_cons (q_var 0) qa_nil)) q_int) (s_one (s_ret (q_var 1))) s_nil)
    (s_one (s_ret (q_op op_addA lk_add (q_op op_fdivA lk_fdiv (q_callTy call_int1 lk_int (by rfl) T.z_int (by decide +kernel) (qa_cons (q_ix (q_var 0) (q_op op_mod lk_mod (q_var 1) (q_callB call_len lk_len (by rfl) T.z_len (by decide +kernel) (qa_cons (q_var 0) qa_nil))) (by rfl)) qa_nil)) (q_op op_addA lk_add (q_var 1) q_int)) (q_var 1))))))
theorem sc__law_draw : FnScope ["cell", "k", "limit", "mixed"] ["cell", "k", "limit"] (defScope (topS 21)) := ⟨rfl, rfl, rfl, by decide +kernel, rfl, by decide +kernel, by decide +kernel⟩
theorem ok__law_draw {P : Program} {w : World} {K : PySem.W.Frag} {mg : Str → Option Value} {base : Heap} (T : Txt P K mg) : FnG P w K mg base (L2.CX P w) 1 T.a__law_draw T.d__law_draw ["cell", "k", "limit"] (fnSp (gx T) m__law_draw) := by
  refine fn_okG (N := ["cell", "k", "limit", "mixed"]) T.F__law_draw sc__law_draw rfl fun cdv A outer s H E hr => ?_
  have hu := hr.1.units
  exact (s_cons (s_asg (i := 3) sc__law_draw.nd (by rfl) (by first | exact Or.inl rfl | exact Or.inr rfl) (q_op op_mod lk_mod (q_callTy call_int1 lk_int (by rfl) T.z_int (by decide +kernel) (qa_cons (q_op op_addA lk_add (q_op op_addA lk_add (q_op op_mulA lk_mul (q_var 0) q_int) (q_op op_mulA lk_mul (q_op op_addA lk_add (q_var 1) q_int) q_int)) q_int) qa_nil)) q_int))
    (s_cons (s_asg (i := 3) sc__law_draw.nd (by rfl) (by first | exact Or.inl rfl | exact Or.inr rfl) (q_op op_mod lk_mod (q_callTy call_int1 lk_int (by rfl) T.z_int (by decide +kernel) (qa_cons (q_op op_addA lk_add (q_op op_addA lk_add (q_op op_mulA lk_mul (q_var 3) (q_var 3)) (q_op op_mulA lk_mul q_int (q_var 1))) q_int) qa_nil)) q_int))
    (s_cons (s_asg (i := 3) sc__law_draw.nd (by rfl) (by first | exact Or.inl rfl | exact Or.inr rfl) (q_op op_mod lk_mod (q_callTy call_int1 lk_int (by rfl) T.z_int (by decide +kernel) (qa_cons (q_op op_addA lk_add (q_op op_mulA lk_mul (q_var 3) (q_op op_addA lk_add (q_op op_mod lk_mod (q_callTy call_int1 lk_int (by rfl) T.z_int (by decide +kernel) (qa_cons (q_var 3) qa_nil)) q_int) q_int)) q_int) qa_nil)) q_int))
    (s_one (s_ret (q_op op_mod lk_mod (q_op op_fdivA lk_fdiv (q_callTy call_int1 lk_int (by rfl) T.z_int (by decide +kernel) (qa_cons (q_var 3) qa_nil)) q_int) (q_var 2)))))))
theorem sc__law_all_in : FnScope ["total", "height", "width", "done", "begun", "k", "following", "made", "left", "top", "part"] ["total", "height", "width"] (defScope (topS 22)) := ⟨rfl, rfl, rfl, by decide +kernel, rfl, by decide +kernel, by decide +kernel⟩
theorem ok__law_all_in {P : Program} {w : World} {K : PySem.W.Frag} {mg : Str → Option Value} {base : Heap} (T : Txt P K mg) : FnG P w K mg base (L2.CX P w) 1 T.a__law_all_in T.d__law_all_in ["total", "height", "width"] (fnSp (gx T) m__law_all_in) := by
  refine fn_okG (N := ["total", "height", "width", "done", "begun", "k", "following", "made", "left", "top", "part"]) T.F__law_all_in sc__law_all_in rfl fun cdv A outer s H E hr => ?_
  have hu := hr.1.units
  exact (s_cons (s_new (i := 3) sc__law_all_in.nd (by rfl) (by first | exact Or.inl rfl | exact Or.inr rfl) (q_lst qa_nil))
    (s_cons (s_asg (i := 4) sc__law_all_in.nd (by rfl) (by first | exact Or.inl rfl | exact Or.inr rfl) (q_lst (qa_cons (q_tup (qa_cons (q_tup qa_nil) (qa_cons (q_var 0) qa_nil))) qa_nil)))
    (s_cons (s_for (by exact L2.passes_of rfl) (by rfl) (it_range1 (by rfl) T.z_range (qa_cons (q_op op_addA lk_add (q_var 0) q_int) qa_nil)) (tg_name (i := 5) sc__law_all_in.nd (by rfl) (by first | exact Or.inl rfl | exact Or.inr rfl)) (ss_frz (s_cons (s_new (i := 6) sc__law_all_in.nd (by rfl) (by first | exact Or.inl rfl | exact Or.inr rfl) (q_lst qa_nil))
    (s_cons (s_for (by exact L2.passes_of rfl) (by rfl) (it_val (q_var 4) (by rfl)) (tg_tup (by rfl) (tgs_cons (tg_name (i := 7) sc__law_all_in.nd (by rfl) (by first | exact Or.inl rfl | exact Or.inr rfl)) (tgs_cons (tg_name (i := 8) sc__law_all_in.nd (by rfl) (by first | exact Or.inl rfl | exact Or.inr rfl)) tgs_nil)) (by rfl)) (s_one (s_if (q_cmpT (op_eq.or (op_eqD hu)) lk_eq (q_var 8) q_int) (s_one (s_methE PySem.F.slot_list_append PySem.F.type_list_append mt_append lm_append (q_var 3) (qa_cons (q_var 7) qa_nil) (by rfl))) (s_one (s_if (q_cmpT op_lt lk_cmp (q_callB call_len lk_len (by rfl) T.z_len (by decide +kernel) (qa_cons (q_var 7) qa_nil)) (q_var 1)) (s_cons (s_asg (i := 9) sc__law_all_in.nd (by rfl) (by first | exact Or.inl rfl | exact Or.inr rfl) (q_callB (call_min2 (by rfl)) lk_min2 (by rfl) T.z_min (by decide +kernel) (qa_cons (q_var 8) (qa_cons (q_var 2) qa_nil))))
    (s_cons (s_if (q_cmpT op_gt lk_cmp (q_callB call_len lk_len (by rfl) T.z_len (by decide +kernel) (qa_cons (q_var 7) qa_nil)) q_int) (s_one (s_asg (i := 9) sc__law_all_in.nd (by rfl) (by first | exact Or.inl rfl | exact Or.inr rfl) (q_callB (call_min2 (by rfl)) lk_min2 (by rfl) T.z_min (by decide +kernel) (qa_cons (q_var 8) (qa_cons (q_ix (q_var 7) (q_neg q_int) (by rfl)) qa_nil))))) s_nil)
    (s_one (s_for (by exact L2.passes_of rfl) (by rfl) (it_range2 (by rfl) T.z_range (qa_cons q_int (qa_cons (q_op op_addA lk_add (q_var 9) q_int) qa_nil))) (tg_name (i := 10) sc__law_all_in.nd (by rfl) (by first | exact Or.inl rfl | exact Or.inr rfl)) (s_one (s_methE PySem.F.slot_list_append PySem.F.type_list_append mt_append lm_append (q_var 6) (qa_cons (q_tup (qa_cons (q_op op_addA lk_add (q_var 7) (q_tup (qa_cons (q_var 10) qa_nil))) (qa_cons (q_op op_sub lk_sub (q_var 8) (q_var 10)) qa_nil))) qa_nil) (by rfl))))))) s_nil)))))
    (s_one (s_asg (i := 4) sc__law_all_in.nd (by rfl) (by first | exact Or.inl rfl | exact Or.inr rfl) (q_var 6)))))))
    (s_one (s_ret (q_sortedDRev (by exact hr.rep) (by rfl) (by rfl) T.z_sorted (qa_cons (q_var 3) qa_nil)))))))
theorem sc__law_is_row : FnScope ["actual", "due", "k"] ["actual", "due"] (defScope (topS 23)) := ⟨rfl, rfl, rfl, by decide +kernel, rfl, by decide +kernel, by decide +kernel⟩
theorem ok__law_is_row {P : Program} {w : World} {K : PySem.W.Frag} {mg : Str → Option Value} {base : Heap} (T : Txt P K mg) : FnG P w K mg base (L2.CX P w) 1 T.a__law_is_row T.d__law_is_row ["actual", "due"] (fnSp (gx T) m__law_is_row) := by
  refine fn_okG (N := ["actual", "due", "k"]) T.F__law_is_row sc__law_is_row rfl fun cdv A outer s H E hr => ?_
  have hu := hr.1.units
  exact (s_cons (s_if (w_or (q_notT (q_tru (q_isi (by rfl) T.z_isinstance (by rfl) (q_var 0) (pcl (by rfl) T.z_tuple (by decide +kernel))) (by rfl))) (w_or1 (q_cmpT (op_ne.or (op_neD hu)) lk_ne (q_callB call_len lk_len (by rfl) T.z_len (by decide +kernel) (qa_cons (q_var 0) qa_nil)) (q_callB call_len lk_len (by rfl) T.z_len (by decide +kernel) (qa_cons (q_var 1) qa_nil))))).pt (s_one (s_ret q_bl)) s_nil)
    (s_cons (s_for (by exact L2.passes_of rfl) (by rfl) (it_range1 (by rfl) T.z_range (qa_cons (q_callB call_len lk_len (by rfl) T.z_len (by decide +kernel) (qa_cons (q_var 1) qa_nil)) qa_nil)) (tg_name (i := 2) sc__law_is_row.nd (by rfl) (by first | exact Or.inl rfl | exact Or.inr rfl)) (s_one (s_if (w_or (q_notT (q_tru (q_isi (by rfl) T.z_isinstance (by rfl) (q_ix (q_var 0) (q_var 2) (by rfl)) (pcl (by rfl) T.z_int (by decide +kernel))) (by rfl))) (w_or (q_tru (q_isi (by rfl) T.z_isinstance (by rfl) (q_ix (q_var 0) (q_var 2) (by rfl)) (pcl (by rfl) T.z_bool (by decide +kernel))) (by rfl)) (w_or1 (q_cmpT (op_ne.or (op_neD hu)) lk_ne (q_ix (q_var 0) (q_var 2) (by rfl)) (q_ix (q_var 1) (q_var 2) (by rfl)))))).pt (s_one (s_ret q_bl)) s_nil)))
    (s_one (s_ret q_bl))))
theorem sc__law_is_number : FnScope ["actual", "due"] ["actual", "due"] (defScope (topS 24)) := ⟨rfl, rfl, rfl, by decide +kernel, rfl, by decide +kernel, by decide +kernel⟩
theorem ok__law_is_number {P : Program} {w : World} {K : PySem.W.Frag} {mg : Str → Option Value} {base : Heap} (T : Txt P K mg) : FnG P w K mg base (L2.CX P w) 1 T.a__law_is_number T.d__law_is_number ["actual", "due"] (fnSp (gx T) m__law_is_number) := by
  refine fn_okG (N := ["actual", "due"]) T.F__law_is_number sc__law_is_number rfl fun cdv A outer s H E hr => ?_
  have hu := hr.1.units
  exact (s_one (s_ret (q_and (q_isi (by rfl) T.z_isinstance (by rfl) (q_var 0) (pcl (by rfl) T.z_int (by decide +kernel))) (q_and (q_not (q_isi (by rfl) T.z_isinstance (by rfl) (q_var 0) (pcl (by rfl) T.z_bool (by decide +kernel))) (by rfl)) (q_one (q_cmp (op_eq.or (op_eqD hu)) lk_eq (q_var 0) (q_var 1))) (by rfl)) (by rfl))))
theorem sc__law_refused : FnScope ["handed", "e"] ["handed"] (defScope (topS 25)) := ⟨rfl, rfl, rfl, by decide +kernel, rfl, by decide +kernel, by decide +kernel⟩
theorem ok__law_refused {P : Program} {w : World} {K : PySem.W.Frag} {mg : Str → Option Value} {base : Heap} (T : Txt P K mg) : FnG P w K mg base (L2.CX P w) 5 T.a__law_refused T.d__law_refused ["handed"] (fnSp (gx T) m__law_refused) := by
  have C_count_stairs := ok_count_stairs (w := w) (base := base) T
  have C_stair_at := ok_stair_at (w := w) (base := base) T
  refine fn_okG (N := ["handed", "e"]) T.F__law_refused sc__law_refused rfl fun cdv A outer s H E hr => ?_
  have hu := hr.1.units
  exact (s_cons (s_try (i := 1) rfl rfl rfl sc__law_refused.nd (by rfl) (by rfl) (by exact takes_of rfl rfl rfl rfl) (fun W pn xe tk pz => (s_one (s_if (q_cmpT (op_eq.or (op_eqD hu)) lk_eq (q_callB call_len lk_len (by rfl) T.z_len (by decide +kernel) (qa_cons (q_var 0) qa_nil)) q_int) (s_one (s_expr (q_call (C_count_stairs) (by exact hr.mono (by decide)) (by rfl) T.g_count_stairs T.F_count_stairs.kp T.b_count_stairs tk (qa_cons (q_ix (q_var 0) q_int (by rfl)) (qa_cons (q_ix (q_var 0) q_int (by rfl)) (qa_cons (q_ix (q_var 0) q_int (by rfl)) qa_nil)))))) (s_one (s_expr (q_callKw [3, 2, 1, 0] (C_stair_at) (by exact hr.mono (by decide)) (by rfl) T.g_stair_at T.F_stair_at.kp (bindsKw (ps := ["size", "height", "width", "place"]) (ks := ["place", "width", "height", "size"]) (ix := [3, 2, 1, 0]) T.F_stair_at fun _ _ _ _ _ _ us hl => match us, hl with | [_, _, _, _], _ => by first | rfl | kernel_rfl) tk (qk_cons (q_ix (q_var 0) q_int (by rfl)) (qk_cons (q_ix (q_var 0) q_int (by rfl)) (qk_cons (q_ix (q_var 0) q_int (by rfl)) (qk_cons (q_ix (q_var 0) q_int (by rfl)) qk_nil)))))))))) (.cons ⟨by rfl, by decide, .inl T.g_InvalidNumber⟩ (fun c b h => match c, h with | 0, h => by cases h | 1, h => by cases h; exact T.e_InvalidNumber_InvalidNumber | 2, h => by cases h; exact T.e_InvalidStair_InvalidNumber | 3, h => by cases h | 4, h => by cases h | 5, h => by cases h | 6, h => by cases h | 7, h => by cases h | 8, h => by cases h | 9, h => by cases h | 10, h => by cases h; exact T.e_Undefined_InvalidNumber | (n + 11), h => by cases h) (fun a o d pn c as hz hv => (s_one (s_ret (q_tup (qa_cons q_str (qa_cons (q_callB (call_rep (by rfl) (by exact hr.rep)) lk_repr (by rfl) T.z_repr (by decide +kernel) (qa_cons (q_xat (i := 1) hz hv (by rfl) (by first | exact Or.inl rfl | exact Or.inr (Or.inl rfl)) (by decide) (by decide) (fun c j h => match c, h with | 0, h => by cases h | 1, h => by cases h; exact ⟨T.k_InvalidNumber, T.X_InvalidNumber.noA, rfl⟩ | 2, h => by cases h; exact ⟨T.k_InvalidStair, T.X_InvalidStair.noA, rfl⟩ | (n + 3), h => by cases h)) qa_nil)) (qa_cons (q_isX (i := 1) hz hv (by rfl) (by first | exact Or.inl rfl | exact Or.inr (Or.inl rfl)) (by decide) (by decide) (by rfl) T.z_isinstance (nmc_own (by rfl) T.g_StairError) (fun c b h => match c, h with | 0, h => by cases h | 1, h => by cases h; exact ⟨T.k_InvalidNumber, T.i_InvalidNumber_StairError⟩ | 2, h => by cases h; exact ⟨T.k_InvalidStair, T.i_InvalidStair_StairError⟩ | 3, h => by cases h | 4, h => by cases h | 5, h => by cases h | 6, h => by cases h | 7, h => by cases h | 8, h => by cases h | 9, h => by cases h | 10, h => by cases h; exact ⟨T.k_Undefined, T.i_Undefined_StairError⟩ | (n + 11), h => by cases h)) qa_nil))))))) (.cons ⟨by rfl, by decide, .inl T.g_Undefined⟩ (fun c b h => match c, h with | 0, h => by cases h | 1, h => by cases h; exact T.e_InvalidNumber_Undefined | 2, h => by cases h; exact T.e_InvalidStair_Undefined | 3, h => by cases h | 4, h => by cases h | 5, h => by cases h | 6, h => by cases h | 7, h => by cases h | 8, h => by cases h | 9, h => by cases h | 10, h => by cases h; exact T.e_Undefined_Undefined | (n + 11), h => by cases h) (fun a o d pn c as hz hv => (s_one (s_ret (q_tup (qa_cons q_str (qa_cons (q_callB (call_rep (by rfl) (by exact hr.rep)) lk_repr (by rfl) T.z_repr (by decide +kernel) (qa_cons (q_xat (i := 1) hz hv (by rfl) (by first | exact Or.inl rfl | exact Or.inr (Or.inl rfl)) (by decide) (by decide) (fun c j h => match c, h with | 0, h => by cases h | 1, h => by cases h | 2, h => by cases h | 3, h => by cases h | 4, h => by cases h | 5, h => by cases h | 6, h => by cases h | 7, h => by cases h | 8, h => by cases h | 9, h => by cases h | 10, h => by cases h; exact ⟨T.k_Undefined, T.X_Undefined.noA, rfl⟩ | (n + 11), h => by cases h)) qa_nil)) (qa_cons (q_isX (i := 1) hz hv (by rfl) (by first | exact Or.inl rfl | exact Or.inr (Or.inl rfl)) (by decide) (by decide) (by rfl) T.z_isinstance (nmc_own (by rfl) T.g_StairError) (fun c b h => match c, h with | 0, h => by cases h | 1, h => by cases h; exact ⟨T.k_InvalidNumber, T.i_InvalidNumber_StairError⟩ | 2, h => by cases h; exact ⟨T.k_InvalidStair, T.i_InvalidStair_StairError⟩ | 3, h => by cases h | 4, h => by cases h | 5, h => by cases h | 6, h => by cases h | 7, h => by cases h | 8, h => by cases h | 9, h => by cases h | 10, h => by cases h; exact ⟨T.k_Undefined, T.i_Undefined_StairError⟩ | (n + 11), h => by cases h)) qa_nil))))))) .nil)))
    (s_one (s_ret (q_tup (qa_cons q_str qa_nil)))))
theorem sc__law_refused_place : FnScope ["stair", "height", "width", "e"] ["stair", "height", "width"] (defScope (topS 26)) := ⟨rfl, rfl, rfl, by decide +kernel, rfl, by decide +kernel, by decide +kernel⟩
theorem ok__law_refused_place {P : Program} {w : World} {K : PySem.W.Frag} {mg : Str → Option Value} {base : Heap} (T : Txt P K mg) : FnG P w K mg base (L2.CX P w) 6 T.a__law_refused_place T.d__law_refused_place ["stair", "height", "width"] (fnSp (gx T) m__law_refused_place) := by
  have C_place_of := ok_place_of (w := w) (base := base) T
  refine fn_okG (N := ["stair", "height", "width", "e"]) T.F__law_refused_place sc__law_refused_place rfl fun cdv A outer s H E hr => ?_
  have hu := hr.1.units
  exact (s_cons (s_try (i := 3) rfl rfl rfl sc__law_refused_place.nd (by rfl) (by rfl) (by exact takes_of rfl rfl rfl rfl) (fun W pn xe tk pz => (s_one (s_expr (q_call (C_place_of) (by exact hr.mono (by decide)) (by rfl) T.g_place_of T.F_place_of.kp T.b_place_of tk (qa_cons (q_var 0) (qa_cons (q_var 1) (qa_cons (q_var 2) qa_nil))))))) (.cons ⟨by rfl, by decide, .inl T.g_InvalidStair⟩ (fun c b h => match c, h with | 0, h => by cases h | 1, h => by cases h; exact T.e_InvalidNumber_InvalidStair | 2, h => by cases h; exact T.e_InvalidStair_InvalidStair | 3, h => by cases h | 4, h => by cases h | 5, h => by cases h | 6, h => by cases h | 7, h => by cases h | 8, h => by cases h | 9, h => by cases h | 10, h => by cases h; exact T.e_Undefined_InvalidStair | (n + 11), h => by cases h) (fun a o d pn c as hz hv => (s_one (s_ret (q_tup (qa_cons q_str (qa_cons (q_callB (call_rep (by rfl) (by exact hr.rep)) lk_repr (by rfl) T.z_repr (by decide +kernel) (qa_cons (q_xat (i := 3) hz hv (by rfl) (by first | exact Or.inl rfl | exact Or.inr (Or.inl rfl)) (by decide) (by decide) (fun c j h => match c, h with | 0, h => by cases h | 1, h => by cases h; exact ⟨T.k_InvalidNumber, T.X_InvalidNumber.noA, rfl⟩ | 2, h => by cases h; exact ⟨T.k_InvalidStair, T.X_InvalidStair.noA, rfl⟩ | (n + 3), h => by cases h)) qa_nil)) (qa_cons (q_isX (i := 3) hz hv (by rfl) (by first | exact Or.inl rfl | exact Or.inr (Or.inl rfl)) (by decide) (by decide) (by rfl) T.z_isinstance (nmc_own (by rfl) T.g_StairError) (fun c b h => match c, h with | 0, h => by cases h | 1, h => by cases h; exact ⟨T.k_InvalidNumber, T.i_InvalidNumber_StairError⟩ | 2, h => by cases h; exact ⟨T.k_InvalidStair, T.i_InvalidStair_StairError⟩ | 3, h => by cases h | 4, h => by cases h | 5, h => by cases h | 6, h => by cases h | 7, h => by cases h | 8, h => by cases h | 9, h => by cases h | 10, h => by cases h; exact ⟨T.k_Undefined, T.i_Undefined_StairError⟩ | (n + 11), h => by cases h)) qa_nil))))))) (.cons ⟨by rfl, by decide, .inl T.g_Undefined⟩ (fun c b h => match c, h with | 0, h => by cases h | 1, h => by cases h; exact T.e_InvalidNumber_Undefined | 2, h => by cases h; exact T.e_InvalidStair_Undefined | 3, h => by cases h | 4, h => by cases h | 5, h => by cases h | 6, h => by cases h | 7, h => by cases h | 8, h => by cases h | 9, h => by cases h | 10, h => by cases h; exact T.e_Undefined_Undefined | (n + 11), h => by cases h) (fun a o d pn c as hz hv => (s_one (s_ret (q_tup (qa_cons q_str (qa_cons (q_callB (call_rep (by rfl) (by exact hr.rep)) lk_repr (by rfl) T.z_repr (by decide +kernel) (qa_cons (q_xat (i := 3) hz hv (by rfl) (by first | exact Or.inl rfl | exact Or.inr (Or.inl rfl)) (by decide) (by decide) (fun c j h => match c, h with | 0, h => by cases h | 1, h => by cases h | 2, h => by cases h | 3, h => by cases h | 4, h => by cases h | 5, h => by cases h | 6, h => by cases h | 7, h => by cases h | 8, h => by cases h | 9, h => by cases h | 10, h => by cases h; exact ⟨T.k_Undefined, T.X_Undefined.noA, rfl⟩ | (n + 11), h => by cases h)) qa_nil)) (qa_cons (q_isX (i := 3) hz hv (by rfl) (by first | exact Or.inl rfl | exact Or.inr (Or.inl rfl)) (by decide) (by decide) (by rfl) T.z_isinstance (nmc_own (by rfl) T.g_StairError) (fun c b h => match c, h with | 0, h => by cases h | 1, h => by cases h; exact ⟨T.k_InvalidNumber, T.i_InvalidNumber_StairError⟩ | 2, h => by cases h; exact ⟨T.k_InvalidStair, T.i_InvalidStair_StairError⟩ | 3, h => by cases h | 4, h => by cases h | 5, h => by cases h | 6, h => by cases h | 7, h => by cases h | 8, h => by cases h | 9, h => by cases h | 10, h => by cases h; exact ⟨T.k_Undefined, T.i_Undefined_StairError⟩ | (n + 11), h => by cases h)) qa_nil))))))) .nil)))
    (s_one (s_ret (q_tup (qa_cons q_str qa_nil)))))
theorem sc__law_spoilt : FnScope ["numbers", "cell", "odd", "told", "places", "k"] ["numbers", "cell"] (defScope (topS 27)) := ⟨rfl, rfl, rfl, by decide +kernel, rfl, by decide +kernel, by decide +kernel⟩
theorem ok__law_spoilt {P : Program} {w : World} {K : PySem.W.Frag} {mg : Str → Option Value} {base : Heap} (T : Txt P K mg) : FnG P w K mg base (L2.CX P w) 2 T.a__law_spoilt T.d__law_spoilt ["numbers", "cell"] (fnSp (gx T) m__law_spoilt) := by
  have C__law_draw := ok__law_draw (w := w) (base := base) T
  refine fn_okG (N := ["numbers", "cell", "odd", "told", "places", "k"]) T.F__law_spoilt sc__law_spoilt rfl fun cdv A outer s H E hr => ?_
  have hu := hr.1.units
  exact (s_cons (s_asg (i := 2) sc__law_spoilt.nd (by rfl) (by first | exact Or.inl rfl | exact Or.inr rfl) (q_lst (qa_cons q_bl (qa_cons q_bl (qa_cons (q_neg q_int) (qa_cons q_non (qa_cons q_str (qa_cons (q_tup (qa_cons q_int qa_nil)) (qa_cons (q_lst (qa_cons q_int qa_nil)) (qa_cons (q_op op_sub lk_sub (q_neg q_int) (q_op op_mod lk_mod (q_op op_fdivA lk_fdiv (q_var 1) q_int) (q_op op_pow lk_pow q_int q_int))) qa_nil))))))))))
    (s_bk4 (fun _ _ _ h => fz_of (h)) (s_new (i := 3) sc__law_spoilt.nd (by rfl) (by first | exact Or.inl rfl | exact Or.inr rfl) (q_callTy call_list_of lk_list (by rfl) T.z_list (by decide +kernel) (qa_cons (q_var 0) qa_nil))) (s_asgLc (i := 4) (by rfl) sc__law_spoilt.nd (by rfl) (by rfl) (by exact sw_true rfl rfl rfl (by decide +kernel)) (it_range1 (by rfl) T.z_range (qa_cons (q_callB call_len lk_len (by rfl) T.z_len (by decide +kernel) (qa_cons (q_var 3) qa_nil)) qa_nil)) (blkOk_by (own := [("k", 5)]) (by kernel_rfl)) (by decide) (fun _ _ _ _ _ => (tg_name (i := 5) sc__law_spoilt.nd (by rfl) (by first | exact Or.inl rfl | exact Or.inr rfl))) (fun _ _ _ _ _ => (qt_one (q_cmpT (op_eq.or (op_eqD hu)) lk_eq (q_op op_mod lk_mod (q_op op_fdivA lk_fdiv (q_op op_fdivA lk_fdiv (q_var 1) q_int) (q_ix (q_lst (qa_cons q_int (qa_cons q_int (qa_cons q_int (qa_cons q_int qa_nil))))) (q_var 5) (by rfl))) q_int) q_int))) (fun _ _ _ _ _ => (q_var 5))) (s_if (q_cmpT (op_eq.or (op_eqD hu)) lk_eq (q_callB call_len lk_len (by rfl) T.z_len (by decide +kernel) (qa_cons (q_var 4) qa_nil)) q_int) (s_one (s_asg (i := 4) sc__law_spoilt.nd (by rfl) (by first | exact Or.inl rfl | exact Or.inr rfl) (q_lst (qa_cons (q_op op_mod lk_mod (q_var 1) (q_callB call_len lk_len (by rfl) T.z_len (by decide +kernel) (qa_cons (q_var 3) qa_nil))) qa_nil)))) s_nil) (s_for (by exact L2.passes_of rfl) (by rfl) (it_val (q_var 4) (by rfl)) (tg_name (i := 5) sc__law_spoilt.nd (by rfl) (by first | exact Or.inl rfl | exact Or.inr rfl)) (s_one (s_sub (q_ix (q_var 2) (q_call (C__law_draw) (by exact hr.mono (by decide)) (by rfl) T.g__law_draw T.F__law_draw.kp T.b__law_draw (by exact takes_of rfl rfl rfl rfl) (qa_cons (q_var 1) (qa_cons (q_var 5) (qa_cons q_int qa_nil)))) (by rfl)) (q_var 3) (q_var 5))))
    (s_one (s_ret (q_tup (qa_cons (q_var 3) (qa_cons (q_ix (q_var 3) (q_ix (q_var 4) q_int (by rfl)) (by rfl)) qa_nil)))))))
theorem sc_law : FnScope ["script", "total", "height", "width", "stairs", "many", "k", "behind", "spoilt", "beside", "stair", "due", "wrongs", "wrong"] ["script"] (defScope (topS 28)) := ⟨rfl, rfl, rfl, by decide +kernel, rfl, by decide +kernel, by decide +kernel⟩
theorem ok_law {P : Program} {w : World} {K : PySem.W.Frag} {mg : Str → Option Value} {base : Heap} (T : Txt P K mg) : FnG P w K mg base (L2.CX P w) 7 T.a_law T.d_law ["script"] (fnSp (gx T) m_law) := by
  have C__law_all_in := ok__law_all_in (w := w) (base := base) T
  have C__law_cell := ok__law_cell (w := w) (base := base) T
  have C__law_is_number := ok__law_is_number (w := w) (base := base) T
  have C__law_is_row := ok__law_is_row (w := w) (base := base) T
  have C__law_refused := ok__law_refused (w := w) (base := base) T
  have C__law_refused_place := ok__law_refused_place (w := w) (base := base) T
  have C__law_spoilt := ok__law_spoilt (w := w) (base := base) T
  have C_count_stairs := ok_count_stairs (w := w) (base := base) T
  have C_place_of := ok_place_of (w := w) (base := base) T
  have C_stair_at := ok_stair_at (w := w) (base := base) T
  refine fn_okG (N := ["script", "total", "height", "width", "stairs", "many", "k", "behind", "spoilt", "beside", "stair", "due", "wrongs", "wrong"]) T.F_law sc_law rfl fun cdv A outer s H E hr => ?_
  have hu := hr.1.units
  exact (s_cons (s_asg (i := 1) sc_law.nd (by rfl) (by first | exact Or.inl rfl | exact Or.inr rfl) (q_op op_mod lk_mod (q_call (C__law_cell) (by exact hr.mono (by decide)) (by rfl) T.g__law_cell T.F__law_cell.kp T.b__law_cell (by exact takes_of rfl rfl rfl rfl) (qa_cons (q_var 0) (qa_cons q_int qa_nil))) q_int))
    (s_cons (s_asg (i := 2) sc_law.nd (by rfl) (by first | exact Or.inl rfl | exact Or.inr rfl) (q_op op_mod lk_mod (q_call (C__law_cell) (by exact hr.mono (by decide)) (by rfl) T.g__law_cell T.F__law_cell.kp T.b__law_cell (by exact takes_of rfl rfl rfl rfl) (qa_cons (q_var 0) (qa_cons q_int qa_nil))) q_int))
    (s_cons (s_asg (i := 3) sc_law.nd (by rfl) (by first | exact Or.inl rfl | exact Or.inr rfl) (q_op op_mod lk_mod (q_call (C__law_cell) (by exact hr.mono (by decide)) (by rfl) T.g__law_cell T.F__law_cell.kp T.b__law_cell (by exact takes_of rfl rfl rfl rfl) (qa_cons (q_var 0) (qa_cons q_int qa_nil))) q_int))
    (s_cons (s_asg (i := 4) sc_law.nd (by rfl) (by first | exact Or.inl rfl | exact Or.inr rfl) (q_call (C__law_all_in) (by exact hr.mono (by decide)) (by rfl) T.g__law_all_in T.F__law_all_in.kp T.b__law_all_in (by exact takes_of rfl rfl rfl rfl) (qa_cons (q_var 1) (qa_cons (q_var 2) (qa_cons (q_var 3) qa_nil)))))
    (s_cons (s_asg (i := 5) sc_law.nd (by rfl) (by first | exact Or.inl rfl | exact Or.inr rfl) (q_callB call_len lk_len (by rfl) T.z_len (by decide +kernel) (qa_cons (q_var 4) qa_nil)))
    (s_cons (s_if (q_notT (q_tru (q_call (C__law_is_number) (by exact hr.mono (by decide)) (by rfl) T.g__law_is_number T.F__law_is_number.kp T.b__law_is_number (by exact takes_of rfl rfl rfl rfl) (qa_cons (q_callKw [1, 2, 0] (C_count_stairs) (by exact hr.mono (by decide)) (by rfl) T.g_count_stairs T.F_count_stairs.kp (bindsKw (ps := ["size", "height", "width"]) (ks := ["width", "size", "height"]) (ix := [1, 2, 0]) T.F_count_stairs fun _ _ _ _ _ _ us hl => match us, hl with | [_, _, _], _ => by first | rfl | kernel_rfl) (by exact takes_of rfl rfl rfl rfl) (qk_cons (q_var 3) (qk_cons (q_var 1) (qk_cons (q_var 2) qk_nil)))) (qa_cons (q_var 5) qa_nil))) (by rfl))) (s_one (s_ret q_bl)) s_nil)
    (s_cons (s_for (by exact L2.passes_of rfl) (by rfl) (it_range1 (by rfl) T.z_range (qa_cons (q_var 5) qa_nil)) (tg_name (i := 6) sc_law.nd (by rfl) (by first | exact Or.inl rfl | exact Or.inr rfl)) (s_cons (s_if (q_notT (q_tru (q_call (C__law_is_row) (by exact hr.mono (by decide)) (by rfl) T.g__law_is_row T.F__law_is_row.kp T.b__law_is_row (by exact takes_of rfl rfl rfl rfl) (qa_cons (q_call (C_stair_at) (by exact hr.mono (by decide)) (by rfl) T.g_stair_at T.F_stair_at.kp T.b_stair_at (by exact takes_of rfl rfl rfl rfl) (qa_cons (q_var 1) (qa_cons (q_var 2) (qa_cons (q_var 3) (qa_cons (q_var 6) qa_nil))))) (qa_cons (q_ix (q_var 4) (q_var 6) (by rfl)) qa_nil))) (by rfl))) (s_one (s_ret q_bl)) s_nil)
    (s_one (s_if (q_notT (q_tru (q_call (C__law_is_number) (by exact hr.mono (by decide)) (by rfl) T.g__law_is_number T.F__law_is_number.kp T.b__law_is_number (by exact takes_of rfl rfl rfl rfl) (qa_cons (q_call (C_place_of) (by exact hr.mono (by decide)) (by rfl) T.g_place_of T.F_place_of.kp T.b_place_of (by exact takes_of rfl rfl rfl rfl) (qa_cons (q_ix (q_var 4) (q_var 6) (by rfl)) (qa_cons (q_var 2) (qa_cons (q_var 3) qa_nil)))) (qa_cons (q_var 6) qa_nil))) (by rfl))) (s_one (s_ret q_bl)) s_nil))))
    (s_cons (s_asg (i := 7) sc_law.nd (by rfl) (by first | exact Or.inl rfl | exact Or.inr rfl) (q_op op_addA lk_add (q_var 5) (q_ix (q_lst (qa_cons q_int (qa_cons q_int (qa_cons (q_op op_mod lk_mod (q_call (C__law_cell) (by exact hr.mono (by decide)) (by rfl) T.g__law_cell T.F__law_cell.kp T.b__law_cell (by exact takes_of rfl rfl rfl rfl) (qa_cons (q_var 0) (qa_cons q_int qa_nil))) (q_op op_pow lk_pow q_int q_int)) qa_nil)))) (q_op op_mod lk_mod (q_call (C__law_cell) (by exact hr.mono (by decide)) (by rfl) T.g__law_cell T.F__law_cell.kp T.b__law_cell (by exact takes_of rfl rfl rfl rfl) (qa_cons (q_var 0) (qa_cons q_int qa_nil))) q_int) (by rfl))))
    (s_cons (s_if (q_cmpT (op_ne.or (op_neD hu)) lk_ne (q_call (C__law_refused) (by exact hr.mono (by decide)) (by rfl) T.g__law_refused T.F__law_refused.kp T.b__law_refused (by exact takes_of rfl rfl rfl rfl) (qa_cons (q_lst (qa_cons (q_var 1) (qa_cons (q_var 2) (qa_cons (q_var 3) (qa_cons (q_var 7) qa_nil))))) qa_nil)) (q_tup (qa_cons q_str (qa_cons (q_callB (call_rep (by rfl) (by exact hr.rep)) lk_repr (by rfl) T.z_repr (by decide +kernel) (qa_cons q_str qa_nil)) (qa_cons q_bl qa_nil))))) (s_one (s_ret q_bl)) s_nil)
    (s_cons (s_if (w_and (q_cmpT op_gt lk_cmp (q_var 5) q_int) (w_and1 (q_cmpT (op_ne.or (op_neD hu)) lk_ne (q_call (C__law_refused) (by exact hr.mono (by decide)) (by rfl) T.g__law_refused T.F__law_refused.kp T.b__law_refused (by exact takes_of rfl rfl rfl rfl) (qa_cons (q_lst (qa_cons (q_var 1) (qa_cons (q_var 2) (qa_cons (q_var 3) (qa_cons (q_op op_sub lk_sub (q_var 5) q_int) qa_nil))))) qa_nil)) (q_tup (qa_cons q_str qa_nil))))).pt (s_one (s_ret q_bl)) s_nil)
    (s_cons (s_asg (i := 8) sc_law.nd (by rfl) (by first | exact Or.inl rfl | exact Or.inr rfl) (q_call (C__law_spoilt) (by exact hr.mono (by decide)) (by rfl) T.g__law_spoilt T.F__law_spoilt.kp T.b__law_spoilt (by exact takes_of rfl rfl rfl rfl) (qa_cons (q_lst (qa_cons (q_var 1) (qa_cons (q_var 2) (qa_cons (q_var 3) qa_nil)))) (qa_cons (q_call (C__law_cell) (by exact hr.mono (by decide)) (by rfl) T.g__law_cell T.F__law_cell.kp T.b__law_cell (by exact takes_of rfl rfl rfl rfl) (qa_cons (q_var 0) (qa_cons q_int qa_nil))) qa_nil))))
    (s_cons (s_if (q_cmpT (op_ne.or (op_neD hu)) lk_ne (q_call (C__law_refused) (by exact hr.mono (by decide)) (by rfl) T.g__law_refused T.F__law_refused.kp T.b__law_refused (by exact takes_of rfl rfl rfl rfl) (qa_cons (q_ix (q_var 8) q_int (by rfl)) qa_nil)) (q_tup (qa_cons q_str (qa_cons (q_callB (call_rep (by rfl) (by exact hr.rep)) lk_repr (by rfl) T.z_repr (by decide +kernel) (qa_cons (q_ix (q_var 8) q_int (by rfl)) qa_nil)) (qa_cons q_bl qa_nil))))) (s_one (s_ret q_bl)) s_nil)
    (s_cons (s_asg (i := 8) sc_law.nd (by rfl) (by first | exact Or.inl rfl | exact Or.inr rfl) (q_call (C__law_spoilt) (by exact hr.mono (by decide)) (by rfl) T.g__law_spoilt T.F__law_spoilt.kp T.b__law_spoilt (by exact takes_of rfl rfl rfl rfl) (qa_cons (q_lst (qa_cons (q_var 1) (qa_cons (q_var 2) (qa_cons (q_var 3) (qa_cons (q_var 7) qa_nil))))) (qa_cons (q_call (C__law_cell) (by exact hr.mono (by decide)) (by rfl) T.g__law_cell T.F__law_cell.kp T.b__law_cell (by exact takes_of rfl rfl rfl rfl) (qa_cons (q_var 0) (qa_cons q_int qa_nil))) qa_nil))))
    (s_cons (s_if (q_cmpT (op_ne.or (op_neD hu)) lk_ne (q_call (C__law_refused) (by exact hr.mono (by decide)) (by rfl) T.g__law_refused T.F__law_refused.kp T.b__law_refused (by exact takes_of rfl rfl rfl rfl) (qa_cons (q_ix (q_var 8) q_int (by rfl)) qa_nil)) (q_tup (qa_cons q_str (qa_cons (q_callB (call_rep (by rfl) (by exact hr.rep)) lk_repr (by rfl) T.z_repr (by decide +kernel) (qa_cons (q_ix (q_var 8) q_int (by rfl)) qa_nil)) (qa_cons q_bl qa_nil))))) (s_one (s_ret q_bl)) s_nil)
    (s_cons (s_asg (i := 9) sc_law.nd (by rfl) (by first | exact Or.inl rfl | exact Or.inr rfl) (q_call (C__law_all_in) (by exact hr.mono (by decide)) (by rfl) T.g__law_all_in T.F__law_all_in.kp T.b__law_all_in (by exact takes_of rfl rfl rfl rfl) (qa_cons (q_var 1) (qa_cons (q_var 1) (qa_cons (q_var 1) qa_nil)))))
    (s_cons (s_asg (i := 10) sc_law.nd (by rfl) (by first | exact Or.inl rfl | exact Or.inr rfl) (q_ix (q_var 9) (q_op op_mod lk_mod (q_call (C__law_cell) (by exact hr.mono (by decide)) (by rfl) T.g__law_cell T.F__law_cell.kp T.b__law_cell (by exact takes_of rfl rfl rfl rfl) (qa_cons (q_var 0) (qa_cons q_int qa_nil))) (q_callB call_len lk_len (by rfl) T.z_len (by decide +kernel) (qa_cons (q_var 9) qa_nil))) (by rfl)))
    (s_cons (s_asg (i := 11) sc_law.nd (by rfl) (by first | exact Or.inl rfl | exact Or.inr rfl) (q_tup (qa_cons q_str qa_nil)))
    (s_cons (s_if (w_or (q_cmpT op_gt lk_cmp (q_callB call_len lk_len (by rfl) T.z_len (by decide +kernel) (qa_cons (q_var 10) qa_nil)) (q_var 2)) (w_or1 (q_cmpT op_gt lk_cmp (q_callB (cr_sumA (by rfl)) lk_sum (by rfl) T.z_sum (by decide +kernel) (qa_cons (q_slH (q_var 10) q_int (by rfl)) qa_nil)) (q_var 3)))).pt (s_one (s_asg (i := 11) sc_law.nd (by rfl) (by first | exact Or.inl rfl | exact Or.inr rfl) (q_tup (qa_cons q_str (qa_cons (q_callB (call_rep (by rfl) (by exact hr.rep)) lk_repr (by rfl) T.z_repr (by decide +kernel) (qa_cons q_str qa_nil)) (qa_cons q_bl qa_nil)))))) s_nil)
    (s_cons (s_if (q_cmpT (op_ne.or (op_neD hu)) lk_ne (q_call (C__law_refused_place) (by exact hr.mono (by decide)) (by rfl) T.g__law_refused_place T.F__law_refused_place.kp T.b__law_refused_place (by exact takes_of rfl rfl rfl rfl) (qa_cons (q_var 10) (qa_cons (q_var 2) (qa_cons (q_var 3) qa_nil)))) (q_var 11)) (s_one (s_ret q_bl)) s_nil)
    (s_cons (s_asg (i := 12) sc_law.nd (by rfl) (by first | exact Or.inl rfl | exact Or.inr rfl) (q_lst (qa_cons (q_callTy call_list_of lk_list (by rfl) T.z_list (by decide +kernel) (qa_cons (q_var 10) qa_nil)) (qa_cons (q_op op_addA lk_add (q_var 10) (q_tup (qa_cons q_int qa_nil))) (qa_cons (q_op op_addA lk_add (q_var 10) (q_tup (qa_cons q_bl qa_nil))) (qa_cons q_non (qa_cons q_str (qa_cons (q_op op_addA lk_add (q_op op_addA lk_add (q_tup (qa_cons q_int qa_nil)) (q_var 10)) (q_tup (qa_cons q_int qa_nil))) qa_nil))))))))
    (s_cons (s_asg (i := 13) sc_law.nd (by rfl) (by first | exact Or.inl rfl | exact Or.inr rfl) (q_ix (q_var 12) (q_op op_mod lk_mod (q_call (C__law_cell) (by exact hr.mono (by decide)) (by rfl) T.g__law_cell T.F__law_cell.kp T.b__law_cell (by exact takes_of rfl rfl rfl rfl) (qa_cons (q_var 0) (qa_cons q_int qa_nil))) q_int) (by rfl)))
    (s_one (s_ret (q_cmp (op_eq.or (op_eqD hu)) lk_eq (q_call (C__law_refused_place) (by exact hr.mono (by decide)) (by rfl) T.g__law_refused_place T.F__law_refused_place.kp T.b__law_refused_place (by exact takes_of rfl rfl rfl rfl) (qa_cons (q_var 13) (qa_cons (q_var 2) (qa_cons (q_var 3) qa_nil)))) (q_tup (qa_cons q_str (qa_cons (q_callB (call_rep (by rfl) (by exact hr.rep)) lk_repr (by rfl) T.z_repr (by decide +kernel) (qa_cons (q_var 13) qa_nil)) (qa_cons q_bl qa_nil))))))))))))))))))))))))))))
theorem all_mk {w : World} {K : PySem.W.Frag} {h : Heap} {mg : Str → Option Value} {fa : Addr} (X : K.In h) (G : h.Ns mainGlobals mg) (hfa : mg "law" = some (.ref fa))
    {f0 : Addr} {od0 an0 : Option Addr} {sl0 : Array (Option Value)} {oc0 kV0 dc0 pm0 cd0 ct0 : Value}
    (a0 : PySem.W.nsIn K mainGlobals "is_integer" = some (some (.ref f0))) (l0 : K.lookup f0 = some ⟨oc0, od0, .func (PySem.W.fnOf "is_integer" "is_integer" (defArgs (topS 1)) (defBody (topS 1)) (defScope (topS 1)) .none kV0 dc0 pm0 an0 cd0 ct0), sl0⟩) (c0 : PySem.W.codeIn K cd0 "is_integer" = true) (k0 : PySem.W.keepIn K (.ref f0) = true)
    {f1 : Addr} {od1 an1 : Option Addr} {sl1 : Array (Option Value)} {oc1 kV1 dc1 pm1 cd1 ct1 : Value}
    (a1 : PySem.W.nsIn K mainGlobals "is_number" = some (some (.ref f1))) (l1 : K.lookup f1 = some ⟨oc1, od1, .func (PySem.W.fnOf "is_number" "is_number" (defArgs (topS 2)) (defBody (topS 2)) (defScope (topS 2)) .none kV1 dc1 pm1 an1 cd1 ct1), sl1⟩) (c1 : PySem.W.codeIn K cd1 "is_number" = true) (k1 : PySem.W.keepIn K (.ref f1) = true)
    {f2 : Addr} {od2 an2 : Option Addr} {sl2 : Array (Option Value)} {oc2 kV2 dc2 pm2 cd2 ct2 : Value}
    (a2 : PySem.W.nsIn K mainGlobals "is_positive" = some (some (.ref f2))) (l2 : K.lookup f2 = some ⟨oc2, od2, .func (PySem.W.fnOf "is_positive" "is_positive" (defArgs (topS 3)) (defBody (topS 3)) (defScope (topS 3)) .none kV2 dc2 pm2 an2 cd2 ct2), sl2⟩) (c2 : PySem.W.codeIn K cd2 "is_positive" = true) (k2 : PySem.W.keepIn K (.ref f2) = true)
    {f3 : Addr} {od3 an3 : Option Addr} {sl3 : Array (Option Value)} {oc3 kV3 dc3 pm3 cd3 ct3 : Value}
    (a3 : PySem.W.nsIn K mainGlobals "is_stair" = some (some (.ref f3))) (l3 : K.lookup f3 = some ⟨oc3, od3, .func (PySem.W.fnOf "is_stair" "is_stair" (defArgs (topS 10)) (defBody (topS 10)) (defScope (topS 10)) .none kV3 dc3 pm3 an3 cd3 ct3), sl3⟩) (c3 : PySem.W.codeIn K cd3 "is_stair" = true) (k3 : PySem.W.keepIn K (.ref f3) = true)
    {f4 : Addr} {od4 an4 : Option Addr} {sl4 : Array (Option Value)} {oc4 kV4 dc4 pm4 cd4 ct4 : Value}
    (a4 : PySem.W.nsIn K mainGlobals "need_stair" = some (some (.ref f4))) (l4 : K.lookup f4 = some ⟨oc4, od4, .func (PySem.W.fnOf "need_stair" "need_stair" (defArgs (topS 11)) (defBody (topS 11)) (defScope (topS 11)) .none kV4 dc4 pm4 an4 cd4 ct4), sl4⟩) (c4 : PySem.W.codeIn K cd4 "need_stair" = true) (k4 : PySem.W.keepIn K (.ref f4) = true)
    {f5 : Addr} {od5 an5 : Option Addr} {sl5 : Array (Option Value)} {oc5 kV5 dc5 pm5 cd5 ct5 : Value}
    (a5 : PySem.W.nsIn K mainGlobals "_need_numbers" = some (some (.ref f5))) (l5 : K.lookup f5 = some ⟨oc5, od5, .func (PySem.W.fnOf "_need_numbers" "_need_numbers" (defArgs (topS 13)) (defBody (topS 13)) (defScope (topS 13)) .none kV5 dc5 pm5 an5 cd5 ct5), sl5⟩) (c5 : PySem.W.codeIn K cd5 "_need_numbers" = true) (k5 : PySem.W.keepIn K (.ref f5) = true)
    {f6 : Addr} {od6 an6 : Option Addr} {sl6 : Array (Option Value)} {oc6 kV6 dc6 pm6 cd6 ct6 : Value}
    (a6 : PySem.W.nsIn K mainGlobals "_next_counts" = some (some (.ref f6))) (l6 : K.lookup f6 = some ⟨oc6, od6, .func (PySem.W.fnOf "_next_counts" "_next_counts" (defArgs (topS 14)) (defBody (topS 14)) (defScope (topS 14)) .none kV6 dc6 pm6 an6 cd6 ct6), sl6⟩) (c6 : PySem.W.codeIn K cd6 "_next_counts" = true) (k6 : PySem.W.keepIn K (.ref f6) = true)
    {f7 : Addr} {od7 an7 : Option Addr} {sl7 : Array (Option Value)} {oc7 kV7 dc7 pm7 cd7 ct7 : Value}
    (a7 : PySem.W.nsIn K mainGlobals "_all_counts" = some (some (.ref f7))) (l7 : K.lookup f7 = some ⟨oc7, od7, .func (PySem.W.fnOf "_all_counts" "_all_counts" (defArgs (topS 15)) (defBody (topS 15)) (defScope (topS 15)) .none kV7 dc7 pm7 an7 cd7 ct7), sl7⟩) (c7 : PySem.W.codeIn K cd7 "_all_counts" = true) (k7 : PySem.W.keepIn K (.ref f7) = true)
    {f8 : Addr} {od8 an8 : Option Addr} {sl8 : Array (Option Value)} {oc8 kV8 dc8 pm8 cd8 ct8 : Value}
    (a8 : PySem.W.nsIn K mainGlobals "count_stairs" = some (some (.ref f8))) (l8 : K.lookup f8 = some ⟨oc8, od8, .func (PySem.W.fnOf "count_stairs" "count_stairs" (defArgs (topS 16)) (defBody (topS 16)) (defScope (topS 16)) .none kV8 dc8 pm8 an8 cd8 ct8), sl8⟩) (c8 : PySem.W.codeIn K cd8 "count_stairs" = true) (k8 : PySem.W.keepIn K (.ref f8) = true)
    {f9 : Addr} {od9 an9 : Option Addr} {sl9 : Array (Option Value)} {oc9 kV9 dc9 pm9 cd9 ct9 : Value}
    (a9 : PySem.W.nsIn K mainGlobals "stair_at" = some (some (.ref f9))) (l9 : K.lookup f9 = some ⟨oc9, od9, .func (PySem.W.fnOf "stair_at" "stair_at" (defArgs (topS 17)) (defBody (topS 17)) (defScope (topS 17)) .none kV9 dc9 pm9 an9 cd9 ct9), sl9⟩) (c9 : PySem.W.codeIn K cd9 "stair_at" = true) (k9 : PySem.W.keepIn K (.ref f9) = true)
    {f10 : Addr} {od10 an10 : Option Addr} {sl10 : Array (Option Value)} {oc10 kV10 dc10 pm10 cd10 ct10 : Value}
    (a10 : PySem.W.nsIn K mainGlobals "place_of" = some (some (.ref f10))) (l10 : K.lookup f10 = some ⟨oc10, od10, .func (PySem.W.fnOf "place_of" "place_of" (defArgs (topS 18)) (defBody (topS 18)) (defScope (topS 18)) .none kV10 dc10 pm10 an10 cd10 ct10), sl10⟩) (c10 : PySem.W.codeIn K cd10 "place_of" = true) (k10 : PySem.W.keepIn K (.ref f10) = true)
    {f11 : Addr} {od11 an11 : Option Addr} {sl11 : Array (Option Value)} {oc11 kV11 dc11 pm11 cd11 ct11 : Value}
    (a11 : PySem.W.nsIn K mainGlobals "_law_cell" = some (some (.ref f11))) (l11 : K.lookup f11 = some ⟨oc11, od11, .func (PySem.W.fnOf "_law_cell" "_law_cell" (defArgs (topS 20)) (defBody (topS 20)) (defScope (topS 20)) .none kV11 dc11 pm11 an11 cd11 ct11), sl11⟩) (c11 : PySem.W.codeIn K cd11 "_law_cell" = true) (k11 : PySem.W.keepIn K (.ref f11) = true)
    {f12 : Addr} {od12 an12 : Option Addr} {sl12 : Array (Option Value)} {oc12 kV12 dc12 pm12 cd12 ct12 : Value}
    (a12 : PySem.W.nsIn K mainGlobals "_law_draw" = some (some (.ref f12))) (l12 : K.lookup f12 = some ⟨oc12, od12, .func (PySem.W.fnOf "_law_draw" "_law_draw" (defArgs (topS 21)) (defBody (topS 21)) (defScope (topS 21)) .none kV12 dc12 pm12 an12 cd12 ct12), sl12⟩) (c12 : PySem.W.codeIn K cd12 "_law_draw" = true) (k12 : PySem.W.keepIn K (.ref f12) = true)
    {f13 : Addr} {od13 an13 : Option Addr} {sl13 : Array (Option Value)} {oc13 kV13 dc13 pm13 cd13 ct13 : Value}
    (a13 : PySem.W.nsIn K mainGlobals "_law_all_in" = some (some (.ref f13))) (l13 : K.lookup f13 = some ⟨oc13, od13, .func (PySem.W.fnOf "_law_all_in" "_law_all_in" (defArgs (topS 22)) (defBody (topS 22)) (defScope (topS 22)) .none kV13 dc13 pm13 an13 cd13 ct13), sl13⟩) (c13 : PySem.W.codeIn K cd13 "_law_all_in" = true) (k13 : PySem.W.keepIn K (.ref f13) = true)
    {f14 : Addr} {od14 an14 : Option Addr} {sl14 : Array (Option Value)} {oc14 kV14 dc14 pm14 cd14 ct14 : Value}
    (a14 : PySem.W.nsIn K mainGlobals "_law_is_row" = some (some (.ref f14))) (l14 : K.lookup f14 = some ⟨oc14, od14, .func (PySem.W.fnOf "_law_is_row" "_law_is_row" (defArgs (topS 23)) (defBody (topS 23)) (defScope (topS 23)) .none kV14 dc14 pm14 an14 cd14 ct14), sl14⟩) (c14 : PySem.W.codeIn K cd14 "_law_is_row" = true) (k14 : PySem.W.keepIn K (.ref f14) = true)
    {f15 : Addr} {od15 an15 : Option Addr} {sl15 : Array (Option Value)} {oc15 kV15 dc15 pm15 cd15 ct15 : Value}
    (a15 : PySem.W.nsIn K mainGlobals "_law_is_number" = some (some (.ref f15))) (l15 : K.lookup f15 = some ⟨oc15, od15, .func (PySem.W.fnOf "_law_is_number" "_law_is_number" (defArgs (topS 24)) (defBody (topS 24)) (defScope (topS 24)) .none kV15 dc15 pm15 an15 cd15 ct15), sl15⟩) (c15 : PySem.W.codeIn K cd15 "_law_is_number" = true) (k15 : PySem.W.keepIn K (.ref f15) = true)
    {f16 : Addr} {od16 an16 : Option Addr} {sl16 : Array (Option Value)} {oc16 kV16 dc16 pm16 cd16 ct16 : Value}
    (a16 : PySem.W.nsIn K mainGlobals "_law_refused" = some (some (.ref f16))) (l16 : K.lookup f16 = some ⟨oc16, od16, .func (PySem.W.fnOf "_law_refused" "_law_refused" (defArgs (topS 25)) (defBody (topS 25)) (defScope (topS 25)) .none kV16 dc16 pm16 an16 cd16 ct16), sl16⟩) (c16 : PySem.W.codeIn K cd16 "_law_refused" = true) (k16 : PySem.W.keepIn K (.ref f16) = true)
    {f17 : Addr} {od17 an17 : Option Addr} {sl17 : Array (Option Value)} {oc17 kV17 dc17 pm17 cd17 ct17 : Value}
    (a17 : PySem.W.nsIn K mainGlobals "_law_refused_place" = some (some (.ref f17))) (l17 : K.lookup f17 = some ⟨oc17, od17, .func (PySem.W.fnOf "_law_refused_place" "_law_refused_place" (defArgs (topS 26)) (defBody (topS 26)) (defScope (topS 26)) .none kV17 dc17 pm17 an17 cd17 ct17), sl17⟩) (c17 : PySem.W.codeIn K cd17 "_law_refused_place" = true) (k17 : PySem.W.keepIn K (.ref f17) = true)
    {f18 : Addr} {od18 an18 : Option Addr} {sl18 : Array (Option Value)} {oc18 kV18 dc18 pm18 cd18 ct18 : Value}
    (a18 : PySem.W.nsIn K mainGlobals "_law_spoilt" = some (some (.ref f18))) (l18 : K.lookup f18 = some ⟨oc18, od18, .func (PySem.W.fnOf "_law_spoilt" "_law_spoilt" (defArgs (topS 27)) (defBody (topS 27)) (defScope (topS 27)) .none kV18 dc18 pm18 an18 cd18 ct18), sl18⟩) (c18 : PySem.W.codeIn K cd18 "_law_spoilt" = true) (k18 : PySem.W.keepIn K (.ref f18) = true)
    {f19 : Addr} {od19 an19 : Option Addr} {sl19 : Array (Option Value)} {oc19 kV19 dc19 pm19 cd19 ct19 : Value}
    (a19 : PySem.W.nsIn K mainGlobals "law" = some (some (.ref f19))) (l19 : K.lookup f19 = some ⟨oc19, od19, .func (PySem.W.fnOf "law" "law" (defArgs (topS 28)) (defBody (topS 28)) (defScope (topS 28)) .none kV19 dc19 pm19 an19 cd19 ct19), sl19⟩) (c19 : PySem.W.codeIn K cd19 "law" = true) (k19 : PySem.W.keepIn K (.ref f19) = true)
    (z_bool : PySem.W.nsIn K mainGlobals "bool" = some none)
    (z_enumerate : PySem.W.nsIn K mainGlobals "enumerate" = some none)
    (z_int : PySem.W.nsIn K mainGlobals "int" = some none)
    (z_isinstance : PySem.W.nsIn K mainGlobals "isinstance" = some none)
    (z_len : PySem.W.nsIn K mainGlobals "len" = some none)
    (z_list : PySem.W.nsIn K mainGlobals "list" = some none)
    (z_min : PySem.W.nsIn K mainGlobals "min" = some none)
    (z_range : PySem.W.nsIn K mainGlobals "range" = some none)
    (z_repr : PySem.W.nsIn K mainGlobals "repr" = some none)
    (z_sorted : PySem.W.nsIn K mainGlobals "sorted" = some none)
    (z_sum : PySem.W.nsIn K mainGlobals "sum" = some none)
    (z_super : PySem.W.nsIn K mainGlobals "super" = some none)
    (z_tuple : PySem.W.nsIn K mainGlobals "tuple" = some none)
    {C_StairError : Addr} (g_StairError : PySem.W.nsIn K mainGlobals "StairError" = some (some (.ref C_StairError)))
    {C_InvalidNumber : Addr} (g_InvalidNumber : PySem.W.nsIn K mainGlobals "InvalidNumber" = some (some (.ref C_InvalidNumber)))
    {C_InvalidStair : Addr} (g_InvalidStair : PySem.W.nsIn K mainGlobals "InvalidStair" = some (some (.ref C_InvalidStair)))
    {C_Undefined : Addr} (g_Undefined : PySem.W.nsIn K mainGlobals "Undefined" = some (some (.ref C_Undefined)))
    {I_InvalidNumber : Addr} (X_InvalidNumber : XSup K PySem.Challenge.rw_hornstairs_k09_listing_there_and_back.prog C_InvalidNumber I_InvalidNumber "value" "value") (k_InvalidNumber : XcK K C_InvalidNumber)
    {I_InvalidStair : Addr} (X_InvalidStair : XSup K PySem.Challenge.rw_hornstairs_k09_listing_there_and_back.prog C_InvalidStair I_InvalidStair "value" "value") (k_InvalidStair : XcK K C_InvalidStair)
    {I_Undefined : Addr} (X_Undefined : XSup K PySem.Challenge.rw_hornstairs_k09_listing_there_and_back.prog C_Undefined I_Undefined "what" "what") (k_Undefined : XcK K C_Undefined)
    (e_InvalidNumber_InvalidNumber : PySem.W.exmOne K (.ref C_InvalidNumber) (.ref C_InvalidNumber) = some true)
    (e_InvalidNumber_InvalidStair : PySem.W.exmOne K (.ref C_InvalidNumber) (.ref C_InvalidStair) = some false)
    (e_InvalidNumber_Undefined : PySem.W.exmOne K (.ref C_InvalidNumber) (.ref C_Undefined) = some false)
    (e_InvalidStair_InvalidNumber : PySem.W.exmOne K (.ref C_InvalidStair) (.ref C_InvalidNumber) = some false)
    (e_InvalidStair_InvalidStair : PySem.W.exmOne K (.ref C_InvalidStair) (.ref C_InvalidStair) = some true)
    (e_InvalidStair_Undefined : PySem.W.exmOne K (.ref C_InvalidStair) (.ref C_Undefined) = some false)
    (e_Undefined_InvalidNumber : PySem.W.exmOne K (.ref C_Undefined) (.ref C_InvalidNumber) = some false)
    (e_Undefined_InvalidStair : PySem.W.exmOne K (.ref C_Undefined) (.ref C_InvalidStair) = some false)
    (e_Undefined_Undefined : PySem.W.exmOne K (.ref C_Undefined) (.ref C_Undefined) = some true)
    (i_InvalidNumber_StairError : PySem.W.kitOne K (.ref C_InvalidNumber) (.ref C_StairError) = some true)
    (i_InvalidStair_StairError : PySem.W.kitOne K (.ref C_InvalidStair) (.ref C_StairError) = some true)
    (i_Undefined_StairError : PySem.W.kitOne K (.ref C_Undefined) (.ref C_StairError) = some true)
    : ∃ (fd : FuncData) (g : GX), g.K = K ∧ (∀ (s : Shared) (v : Value), BindsTo s fd ⟨[v], []⟩ [("script", v)]) ∧ ∀ base : Heap, K.In base → base.Ns mainGlobals mg → FnG PySem.Challenge.rw_hornstairs_k09_listing_there_and_back.prog w K mg base (L2.CX PySem.Challenge.rw_hornstairs_k09_listing_there_and_back.prog w) 7 fa fd ["script"] (fnSp g m_law) := by
  have e := hfa.symm.trans (PySem.W.mg_of X G a19)
  cases e
  have F0 := fun_mk (st := topS 1) l0 c0 k0
  have F1 := fun_mk (st := topS 2) l1 c1 k1
  have F2 := fun_mk (st := topS 3) l2 c2 k2
  have F3 := fun_mk (st := topS 10) l3 c3 k3
  have F4 := fun_mk (st := topS 11) l4 c4 k4
  have F5 := fun_mk (st := topS 13) l5 c5 k5
  have F6 := fun_mk (st := topS 14) l6 c6 k6
  have F7 := fun_mk (st := topS 15) l7 c7 k7
  have F8 := fun_mk (st := topS 16) l8 c8 k8
  have F9 := fun_mk (st := topS 17) l9 c9 k9
  have F10 := fun_mk (st := topS 18) l10 c10 k10
  have F11 := fun_mk (st := topS 20) l11 c11 k11
  have F12 := fun_mk (st := topS 21) l12 c12 k12
  have F13 := fun_mk (st := topS 22) l13 c13 k13
  have F14 := fun_mk (st := topS 23) l14 c14 k14
  have F15 := fun_mk (st := topS 24) l15 c15 k15
  have F16 := fun_mk (st := topS 25) l16 c16 k16
  have F17 := fun_mk (st := topS 26) l17 c17 k17
  have F18 := fun_mk (st := topS 27) l18 c18 k18
  have F19 := fun_mk (st := topS 28) l19 c19 k19
  let T : Txt PySem.Challenge.rw_hornstairs_k09_listing_there_and_back.prog K mg := {
    C_StairError := C_StairError, g_StairError := PySem.W.mg_of X G g_StairError,
    C_InvalidNumber := C_InvalidNumber, g_InvalidNumber := PySem.W.mg_of X G g_InvalidNumber,
    C_InvalidStair := C_InvalidStair, g_InvalidStair := PySem.W.mg_of X G g_InvalidStair,
    C_Undefined := C_Undefined, g_Undefined := PySem.W.mg_of X G g_Undefined,
    I_InvalidNumber := I_InvalidNumber, X_InvalidNumber := X_InvalidNumber, k_InvalidNumber := k_InvalidNumber,
    I_InvalidStair := I_InvalidStair, X_InvalidStair := X_InvalidStair, k_InvalidStair := k_InvalidStair,
    I_Undefined := I_Undefined, X_Undefined := X_Undefined, k_Undefined := k_Undefined,
    e_InvalidNumber_InvalidNumber := e_InvalidNumber_InvalidNumber,
    e_InvalidNumber_InvalidStair := e_InvalidNumber_InvalidStair,
    e_InvalidNumber_Undefined := e_InvalidNumber_Undefined,
    e_InvalidStair_InvalidNumber := e_InvalidStair_InvalidNumber,
    e_InvalidStair_InvalidStair := e_InvalidStair_InvalidStair,
    e_InvalidStair_Undefined := e_InvalidStair_Undefined,
    e_Undefined_InvalidNumber := e_Undefined_InvalidNumber,
    e_Undefined_InvalidStair := e_Undefined_InvalidStair,
    e_Undefined_Undefined := e_Undefined_Undefined,
    i_InvalidNumber_StairError := i_InvalidNumber_StairError,
    i_InvalidStair_StairError := i_InvalidStair_StairError,
    i_Undefined_StairError := i_Undefined_StairError,
    a_is_integer := _, d_is_integer := _, F_is_integer := F0, g_is_integer := PySem.W.mg_of X G a0, b_is_integer := F0.binds (ps := ["value"]) fun _ _ _ _ _ _ us hl => (match us, hl with | [_], _ => rfl),
    a_is_number := _, d_is_number := _, F_is_number := F1, g_is_number := PySem.W.mg_of X G a1, b_is_number := F1.binds (ps := ["value"]) fun _ _ _ _ _ _ us hl => (match us, hl with | [_], _ => rfl),
    a_is_positive := _, d_is_positive := _, F_is_positive := F2, g_is_positive := PySem.W.mg_of X G a2, b_is_positive := F2.binds (ps := ["value"]) fun _ _ _ _ _ _ us hl => (match us, hl with | [_], _ => rfl),
    a_is_stair := _, d_is_stair := _, F_is_stair := F3, g_is_stair := PySem.W.mg_of X G a3, b_is_stair := F3.binds (ps := ["value"]) fun _ _ _ _ _ _ us hl => (match us, hl with | [_], _ => rfl),
    a_need_stair := _, d_need_stair := _, F_need_stair := F4, g_need_stair := PySem.W.mg_of X G a4, b_need_stair := F4.binds (ps := ["value"]) fun _ _ _ _ _ _ us hl => (match us, hl with | [_], _ => rfl),
    a__need_numbers := _, d__need_numbers := _, F__need_numbers := F5, g__need_numbers := PySem.W.mg_of X G a5, b__need_numbers := F5.binds (ps := ["values"]) fun _ _ _ _ _ _ us hl => (match us, hl with | [_], _ => rfl),
    a__next_counts := _, d__next_counts := _, F__next_counts := F6, g__next_counts := PySem.W.mg_of X G a6, b__next_counts := F6.binds (ps := ["counts", "width"]) fun _ _ _ _ _ _ us hl => (match us, hl with | [_, _], _ => rfl),
    a__all_counts := _, d__all_counts := _, F__all_counts := F7, g__all_counts := PySem.W.mg_of X G a7, b__all_counts := F7.binds (ps := ["size", "height", "width"]) fun _ _ _ _ _ _ us hl => (match us, hl with | [_, _, _], _ => rfl),
    a_count_stairs := _, d_count_stairs := _, F_count_stairs := F8, g_count_stairs := PySem.W.mg_of X G a8, b_count_stairs := F8.binds (ps := ["size", "height", "width"]) fun _ _ _ _ _ _ us hl => (match us, hl with | [_, _, _], _ => rfl),
    a_stair_at := _, d_stair_at := _, F_stair_at := F9, g_stair_at := PySem.W.mg_of X G a9, b_stair_at := F9.binds (ps := ["size", "height", "width", "place"]) fun _ _ _ _ _ _ us hl => (match us, hl with | [_, _, _, _], _ => rfl),
    a_place_of := _, d_place_of := _, F_place_of := F10, g_place_of := PySem.W.mg_of X G a10, b_place_of := F10.binds (ps := ["stair", "height", "width"]) fun _ _ _ _ _ _ us hl => (match us, hl with | [_, _, _], _ => rfl),
    a__law_cell := _, d__law_cell := _, F__law_cell := F11, g__law_cell := PySem.W.mg_of X G a11, b__law_cell := F11.binds (ps := ["script", "k"]) fun _ _ _ _ _ _ us hl => (match us, hl with | [_, _], _ => rfl),
    a__law_draw := _, d__law_draw := _, F__law_draw := F12, g__law_draw := PySem.W.mg_of X G a12, b__law_draw := F12.binds (ps := ["cell", "k", "limit"]) fun _ _ _ _ _ _ us hl => (match us, hl with | [_, _, _], _ => rfl),
    a__law_all_in := _, d__law_all_in := _, F__law_all_in := F13, g__law_all_in := PySem.W.mg_of X G a13, b__law_all_in := F13.binds (ps := ["total", "height", "width"]) fun _ _ _ _ _ _ us hl => (match us, hl with | [_, _, _], _ => rfl),
    a__law_is_row := _, d__law_is_row := _, F__law_is_row := F14, g__law_is_row := PySem.W.mg_of X G a14, b__law_is_row := F14.binds (ps := ["actual", "due"]) fun _ _ _ _ _ _ us hl => (match us, hl with | [_, _], _ => rfl),
    a__law_is_number := _, d__law_is_number := _, F__law_is_number := F15, g__law_is_number := PySem.W.mg_of X G a15, b__law_is_number := F15.binds (ps := ["actual", "due"]) fun _ _ _ _ _ _ us hl => (match us, hl with | [_, _], _ => rfl),
    a__law_refused := _, d__law_refused := _, F__law_refused := F16, g__law_refused := PySem.W.mg_of X G a16, b__law_refused := F16.binds (ps := ["handed"]) fun _ _ _ _ _ _ us hl => (match us, hl with | [_], _ => rfl),
    a__law_refused_place := _, d__law_refused_place := _, F__law_refused_place := F17, g__law_refused_place := PySem.W.mg_of X G a17, b__law_refused_place := F17.binds (ps := ["stair", "height", "width"]) fun _ _ _ _ _ _ us hl => (match us, hl with | [_, _, _], _ => rfl),
    a__law_spoilt := _, d__law_spoilt := _, F__law_spoilt := F18, g__law_spoilt := PySem.W.mg_of X G a18, b__law_spoilt := F18.binds (ps := ["numbers", "cell"]) fun _ _ _ _ _ _ us hl => (match us, hl with | [_, _], _ => rfl),
    a_law := _, d_law := _, F_law := F19, g_law := PySem.W.mg_of X G a19, b_law := F19.binds (ps := ["script"]) fun _ _ _ _ _ _ us hl => (match us, hl with | [_], _ => rfl),
    z_bool := PySem.W.mg_none_of X G z_bool,
    z_enumerate := PySem.W.mg_none_of X G z_enumerate,
    z_int := PySem.W.mg_none_of X G z_int,
    z_isinstance := PySem.W.mg_none_of X G z_isinstance,
    z_len := PySem.W.mg_none_of X G z_len,
    z_list := PySem.W.mg_none_of X G z_list,
    z_min := PySem.W.mg_none_of X G z_min,
    z_range := PySem.W.mg_none_of X G z_range,
    z_repr := PySem.W.mg_none_of X G z_repr,
    z_sorted := PySem.W.mg_none_of X G z_sorted,
    z_sum := PySem.W.mg_none_of X G z_sum,
    z_super := PySem.W.mg_none_of X G z_super,
    z_tuple := PySem.W.mg_none_of X G z_tuple }
  exact ⟨T.d_law, gx T, rfl, fun s v => .of_eq rfl, fun base _ _ => ok_law (w := w) (base := base) T⟩
end K09

set_option maxRecDepth 100000
open PySem PySem.W PyProof.Rows
set_option maxHeartbeats 0 in
theorem PySem.Challenge.cw_hornstairs_k09_listing_there_and_back_holds : PySem.Challenge.rw_hornstairs_k09_listing_there_and_back.Holds := by
  w_on; o_law; k_head; (case hw => w_witness2)
  k_fill
  refine HC.walk_hx (l := PySem.Challenge.rw_hornstairs_k09_listing_there_and_back) (n := 63) (k := 7) (x := "script") (m := K09.m_law) rfl (by decide) rfl ⟨⟨rfl, by decide, by decide⟩, rfl⟩ (fun w h Y => PySem.W.kIn_of Y) ?F K09.law_true (fun _ _ _ _ _ h => HC.no_cx h)
  case F =>
    intro w mg fa h KX G hmg
    refine' K09.all_mk KX G hmg ?a0 ?l0 ?c0 ?k0 ?a1 ?l1 ?c1 ?k1 ?a2 ?l2 ?c2 ?k2 ?a3 ?l3 ?c3 ?k3 ?a4 ?l4 ?c4 ?k4 ?a5 ?l5 ?c5 ?k5 ?a6 ?l6 ?c6 ?k6 ?a7 ?l7 ?c7 ?k7 ?a8 ?l8 ?c8 ?k8 ?a9 ?l9 ?c9 ?k9 ?a10 ?l10 ?c10 ?k10 ?a11 ?l11 ?c11 ?k11 ?a12 ?l12 ?c12 ?k12 ?a13 ?l13 ?c13 ?k13 ?a14 ?l14 ?c14 ?k14 ?a15 ?l15 ?c15 ?k15 ?a16 ?l16 ?c16 ?k16 ?a17 ?l17 ?c17 ?k17 ?a18 ?l18 ?c18 ?k18 ?a19 ?l19 ?c19 ?k19 ?z_bool ?z_enumerate ?z_int ?z_isinstance ?z_len ?z_list ?z_min ?z_range ?z_repr ?z_sorted ?z_sum ?z_super ?z_tuple ?g_StairError ?g_InvalidNumber ?g_InvalidStair ?g_Undefined ?X_InvalidNumber ?k_InvalidNumber ?X_InvalidStair ?k_InvalidStair ?X_Undefined ?k_Undefined ?e_InvalidNumber_InvalidNumber ?e_InvalidNumber_InvalidStair ?e_InvalidNumber_Undefined ?e_InvalidStair_InvalidNumber ?e_InvalidStair_InvalidStair ?e_InvalidStair_Undefined ?e_Undefined_InvalidNumber ?e_Undefined_InvalidStair ?e_Undefined_Undefined ?i_InvalidNumber_StairError ?i_InvalidStair_StairError ?i_Undefined_StairError
    (case a0 => k_is); (case l0 => k_is); (case c0 => k_is); (case k0 => k_is)
    (case a1 => k_is); (case l1 => k_is); (case c1 => k_is); (case k1 => k_is)
    (case a2 => k_is); (case l2 => k_is); (case c2 => k_is); (case k2 => k_is)
    (case a3 => k_is); (case l3 => k_is); (case c3 => k_is); (case k3 => k_is)
    (case a4 => k_is); (case l4 => k_is); (case c4 => k_is); (case k4 => k_is)
    (case a5 => k_is); (case l5 => k_is); (case c5 => k_is); (case k5 => k_is)
    (case a6 => k_is); (case l6 => k_is); (case c6 => k_is); (case k6 => k_is)
    (case a7 => k_is); (case l7 => k_is); (case c7 => k_is); (case k7 => k_is)
    (case a8 => k_is); (case l8 => k_is); (case c8 => k_is); (case k8 => k_is)
    (case a9 => k_is); (case l9 => k_is); (case c9 => k_is); (case k9 => k_is)
    (case a10 => k_is); (case l10 => k_is); (case c10 => k_is); (case k10 => k_is)
    (case a11 => k_is); (case l11 => k_is); (case c11 => k_is); (case k11 => k_is)
    (case a12 => k_is); (case l12 => k_is); (case c12 => k_is); (case k12 => k_is)
    (case a13 => k_is); (case l13 => k_is); (case c13 => k_is); (case k13 => k_is)
    (case a14 => k_is); (case l14 => k_is); (case c14 => k_is); (case k14 => k_is)
    (case a15 => k_is); (case l15 => k_is); (case c15 => k_is); (case k15 => k_is)
    (case a16 => k_is); (case l16 => k_is); (case c16 => k_is); (case k16 => k_is)
    (case a17 => k_is); (case l17 => k_is); (case c17 => k_is); (case k17 => k_is)
    (case a18 => k_is); (case l18 => k_is); (case c18 => k_is); (case k18 => k_is)
    (case a19 => k_is); (case l19 => k_is); (case c19 => k_is); (case k19 => k_is)
    (case z_bool => k_is); (case z_enumerate => k_is); (case z_int => k_is); (case z_isinstance => k_is)
    (case z_len => k_is); (case z_list => k_is); (case z_min => k_is); (case z_range => k_is)
    (case z_repr => k_is); (case z_sorted => k_is); (case z_sum => k_is); (case z_super => k_is)
    (case z_tuple => k_is); (case g_StairError => k_is); (case g_InvalidNumber => k_is); (case g_InvalidStair => k_is)
    (case g_Undefined => k_is)
    case X_InvalidNumber =>
      refine' HC.xsup_of ?lf ?hC ?hbm ?hcd ?hcode ?hvs ?hfile ?hcell ?hsub ?hB ?hsup ?ho ?sa ?exC ?tyC ?kC ?iC ?tI ?noA ?hks ?hkc ?hka ?hkp ?hk ?hco ?hgen ?hce ?hp ?ha0 ?hps ?hdp ?hev ?hsw1 ?hsw2 ?htop ?bind
      case iC => k_is
      case lf => k_is
      case hC => k_is
      case hbm => first | rfl | decide
      case hcd => k_is
      case hcode => k_is
      case hvs => rfl
      case hfile => first | rfl | decide +kernel
      case hcell => k_is
      case hsub => k_is
      case hB => k_is
      case hsup => ks_is
      case ho => k_is
      case sa => k_is
      case exC => k_is
      case tyC => k_is
      case kC => k_is
      case tI => k_is
      case noA => k_is
      case hks => rfl
      case hkc => rfl
      case hka => rfl
      case hkp => rfl
      case hk => rfl
      case hco => rfl
      case hgen => rfl
      case hce => decide
      case hp => rfl
      case ha0 => rfl
      case hps => decide
      case hdp => decide
      case hev => exact fun _ => rfl
      case hsw1 => exact fun _ => rfl
      case hsw2 => exact fun _ => rfl
      case htop => first | rfl | decide +kernel
      case bind => exact fun _ _ _ => .of_eq rfl
    case k_InvalidNumber => exact ⟨by k_is, by k_is, by k_is, by k_is, by k_is, by k_is, by k_is, by k_is⟩
    case X_InvalidStair =>
      refine' HC.xsup_of ?lf ?hC ?hbm ?hcd ?hcode ?hvs ?hfile ?hcell ?hsub ?hB ?hsup ?ho ?sa ?exC ?tyC ?kC ?iC ?tI ?noA ?hks ?hkc ?hka ?hkp ?hk ?hco ?hgen ?hce ?hp ?ha0 ?hps ?hdp ?hev ?hsw1 ?hsw2 ?htop ?bind
      case iC => k_is
      case lf => k_is
      case hC => k_is
      case hbm => first | rfl | decide
      case hcd => k_is
      case hcode => k_is
      case hvs => rfl
      case hfile => first | rfl | decide +kernel
      case hcell => k_is
      case hsub => k_is
      case hB => k_is
      case hsup => ks_is
      case ho => k_is
      case sa => k_is
      case exC => k_is
      case tyC => k_is
      case kC => k_is
      case tI => k_is
      case noA => k_is
      case hks => rfl
      case hkc => rfl
      case hka => rfl
      case hkp => rfl
      case hk => rfl
      case hco => rfl
      case hgen => rfl
      case hce => decide
      case hp => rfl
      case ha0 => rfl
      case hps => decide
      case hdp => decide
      case hev => exact fun _ => rfl
      case hsw1 => exact fun _ => rfl
      case hsw2 => exact fun _ => rfl
      case htop => first | rfl | decide +kernel
      case bind => exact fun _ _ _ => .of_eq rfl
    case k_InvalidStair => exact ⟨by k_is, by k_is, by k_is, by k_is, by k_is, by k_is, by k_is, by k_is⟩
    case X_Undefined =>
      refine' HC.xsup_of ?lf ?hC ?hbm ?hcd ?hcode ?hvs ?hfile ?hcell ?hsub ?hB ?hsup ?ho ?sa ?exC ?tyC ?kC ?iC ?tI ?noA ?hks ?hkc ?hka ?hkp ?hk ?hco ?hgen ?hce ?hp ?ha0 ?hps ?hdp ?hev ?hsw1 ?hsw2 ?htop ?bind
      case iC => k_is
      case lf => k_is
      case hC => k_is
      case hbm => first | rfl | decide
      case hcd => k_is
      case hcode => k_is
      case hvs => rfl
      case hfile => first | rfl | decide +kernel
      case hcell => k_is
      case hsub => k_is
      case hB => k_is
      case hsup => ks_is
      case ho => k_is
      case sa => k_is
      case exC => k_is
      case tyC => k_is
      case kC => k_is
      case tI => k_is
      case noA => k_is
      case hks => rfl
      case hkc => rfl
      case hka => rfl
      case hkp => rfl
      case hk => rfl
      case hco => rfl
      case hgen => rfl
      case hce => decide
      case hp => rfl
      case ha0 => rfl
      case hps => decide
      case hdp => decide
      case hev => exact fun _ => rfl
      case hsw1 => exact fun _ => rfl
      case hsw2 => exact fun _ => rfl
      case htop => first | rfl | decide +kernel
      case bind => exact fun _ _ _ => .of_eq rfl
    case k_Undefined => exact ⟨by k_is, by k_is, by k_is, by k_is, by k_is, by k_is, by k_is, by k_is⟩
    case e_InvalidNumber_InvalidNumber => exact PySem.W.exm_ref (by k_is) (by k_is) (by k_is) (by k_is)
    case e_InvalidNumber_InvalidStair => exact PySem.W.exm_ref (by k_is) (by k_is) (by k_is) (by k_is)
    case e_InvalidNumber_Undefined => exact PySem.W.exm_ref (by k_is) (by k_is) (by k_is) (by k_is)
    case e_InvalidStair_InvalidNumber => exact PySem.W.exm_ref (by k_is) (by k_is) (by k_is) (by k_is)
    case e_InvalidStair_InvalidStair => exact PySem.W.exm_ref (by k_is) (by k_is) (by k_is) (by k_is)
    case e_InvalidStair_Undefined => exact PySem.W.exm_ref (by k_is) (by k_is) (by k_is) (by k_is)
    case e_Undefined_InvalidNumber => exact PySem.W.exm_ref (by k_is) (by k_is) (by k_is) (by k_is)
    case e_Undefined_InvalidStair => exact PySem.W.exm_ref (by k_is) (by k_is) (by k_is) (by k_is)
    case e_Undefined_Undefined => exact PySem.W.exm_ref (by k_is) (by k_is) (by k_is) (by k_is)
    case i_InvalidNumber_StairError => exact HC.kit_own (by decide) (by k_is) (by k_is) (by k_is)
    case i_InvalidStair_StairError => exact HC.kit_own (by decide) (by k_is) (by k_is) (by k_is)
    case i_Undefined_StairError => exact HC.kit_own (by decide) (by k_is) (by k_is) (by k_is)
