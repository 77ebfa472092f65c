import PyProof.Rows.All
import Wide.All
import OpenK.AllK
import Wide.FinOn
import HandS.ForMost
import HandS.Exc
import HandS.ExcOwn
import HandS.TryOnly
import HandS.TryMany
import HandS.ExcInit
import HandS.ExcField
import HandS.ExcIs
import HandS.WordsExc
import HandS.IsInst
import HandS.TupAny
import HandS.Rev
import HandS.Wide
import HandS.TupLe
import HandS.NoneIn
import HandS.Flow
import HandS.Deep
import HandS.SortInts
import KE.KTupSum
import HandS.SortKw
import KE.KSortedM
import KE.GoesMore
import PyProof.EnumMake
import HandS.CallSlots
import PyProof.ReprLen
import PyProof.FitsInt
import KE.KExcSuper
import KE.KExcIs
import HandS.More
import HandS.Style
import PyProof.StrLaws
import HandS.SortRule
import KE.SortData
import PyProof.MaxThree
import HandS.List
import KE.KDictDisplayH
import PySem.Challenge.RW_hornstairs_k04_above_by_single_boxes
set_option Elab.async false
set_option linter.all false
set_option maxRecDepth 100000
set_option maxRecDepth 100000
namespace HC
open PySem PySem.Spec L2
open PyProof.Rows hiding St

/-! ## data -/
inductive D where
  | non | bl (b : Bool) | int (i : Int) | str (x : Str)
  | tup (xs : List D) | lst (xs : List D) | rol (xs : List D) | dct (ks vs : List D) | obj (c : Nat) (vs : List D) | loc (n : Nat) | err
instance : Inhabited D := ⟨.non⟩
inductive SO where
  | lst (xs : List D) | dct (ks vs : List D) | ins (c : Nat) (vs : List D)
/-- what an expression comes to: a value (fresh: an object that nobody else holds), an exception of the class c with its attributes, or nothing told -/
inductive Res where
  | ok (d : D) (fr : Bool) | ex (c : Nat) (as : List D) | bad
abbrev Sl := List (Option D)
abbrev CE := Sl → List SO → Res

/-- what is known of the text: the written part, the classes' places and the names of their attributes -/
structure GX where
  K : PySem.W.Frag
  cl : Nat → Addr
  fn : Nat → List Str
  xc : Option (Addr × Nat × List D × Value × Option Addr) := none

abbrev FZ := Addr → Prop
/-- a list that is never written: the script -/
def Rol (K : PySem.W.Frag) (H : Hp) (a : Addr) (xs : List V) : Prop := (∃ o, H a = some (.frz o (.lst xs))) ∨
    ∃ (o : Obj) (its : Array Value) (n : Nat), K.lookup a = some o ∧ o.cls = .type "list" ∧ o.dict = none ∧ o.data = .seq its n ∧ its.size ≤ sizeLine ∧ Vals xs its.toList
theorem Rol.sq {K : PySem.W.Frag} {H : Hp} {a : Addr} {xs : List V} (h : Rol K H a xs) : SqL K H a xs := h.imp .inr fun h => h
def SqF (H : Hp) (F : FZ) (a : Addr) (xs : List V) : Prop := F a ∧ H a = some (.lst xs) ∧ xs.length ≤ sizeLine
def keyD : Key → D
  | .inl i => .int i
  | .inr x => .str x
def keysD : List Key → D := fun ks => .tup (ks.map keyD)

mutual
/-- the value v is the data d; F: the frozen objects -/
def RepP (g : GX) (H : Hp) (F : FZ) : D → V → Prop
  | .non, v => v = .non
  | .bl b, v => v = .bl b
  | .int i, v => v = .int i
  | .str x, v => v = .str x
  | .tup ds, v => ∃ a vs, v = .ref a ∧ (H a = some (.tup vs) ∧ vs.length ≤ sizeLine) ∧ RepL g H F ds vs
  | .lst ds, v => ∃ a vs, v = .ref a ∧ SqF H F a vs ∧ RepL g H F ds vs
  | .rol ds, v => ∃ a vs, v = .ref a ∧ (Rol g.K H a vs ∧ vs.length ≤ sizeLine) ∧ RepL g H F ds vs
  | .dct ks ds, v => ∃ a vs, v = .ref a ∧ F a ∧ RepL g H F ds vs ∧
      ((∃ kvs, Rd H a (.dK kvs) ∧ ks = kvs.map (fun p => keyD p.1) ∧ vs = kvs.map (·.2)) ∨
       (∃ kvs, Rd H a (.dT kvs) ∧ ks = kvs.map (fun p => keysD p.1) ∧ vs = kvs.map (·.2)))
  | .obj c ds, v => ∃ a dx fs vs, v = .ref a ∧ F a ∧ H a = some (.ins (g.cl c) dx fs) ∧ fs.map (·.1) = g.fn c ∧ vs = fs.map (·.2) ∧ RepL g H F ds vs
  | .loc _, _ => False
  | .err, v => ∃ p, g.xc = some p ∧ v = .ref p.1
def RepL (g : GX) (H : Hp) (F : FZ) : List D → List V → Prop
  | [], vs => vs = []
  | d :: ds, vs => ∃ v ws, vs = v :: ws ∧ RepP g H F d v ∧ RepL g H F ds ws
end

/-- a value that may be one of the store -/
def RepV (g : GX) (H : Hp) (F : FZ) (μ : List Addr) (d : D) (v : V) : Prop :=
  (∃ n a, d = .loc n ∧ μ[n]? = some a ∧ v = .ref a) ∨ RepP g H F d v
def RepVs (g : GX) (H : Hp) (F : FZ) (μ : List Addr) (ds : List D) (vs : List V) : Prop := Paired (RepV g H F μ) ds vs
def RepO (g : GX) (H : Hp) (F : FZ) (μ : List Addr) : SO → Addr → Prop
  | .lst xs, a => ∃ vs, H a = some (.lst vs) ∧ vs.length ≤ sizeLine ∧ RepVs g H F μ xs vs
  | .dct ks ws, a => ∃ vs, RepVs g H F μ ws vs ∧
      ((∃ kvs, H a = some (.dK kvs) ∧ ks = kvs.map (fun p => keyD p.1) ∧ vs = kvs.map (·.2)) ∨
       (∃ kvs, H a = some (.dT kvs) ∧ ks = kvs.map (fun p => keysD p.1) ∧ vs = kvs.map (·.2)))
  | .ins c ws, a => ∃ dx fs vs, H a = some (.ins (g.cl c) dx fs) ∧ (∃ m, fs.map (·.1) = (g.fn c).take m) ∧ vs = fs.map (·.2) ∧ RepVs g H F μ ws vs
/-- a fresh object -/
def RepN (g : GX) (H : Hp) (F : FZ) : D → Addr → Prop
  | .lst xs, a => ∃ vs, H a = some (.lst vs) ∧ vs.length ≤ sizeLine ∧ RepL g H F xs vs
  | .dct ks ws, a => ∃ vs, RepL g H F ws vs ∧
      ((∃ kvs, H a = some (.dK kvs) ∧ ks = kvs.map (fun p => keyD p.1) ∧ vs = kvs.map (·.2)) ∨
       (∃ kvs, H a = some (.dT kvs) ∧ ks = kvs.map (fun p => keysD p.1) ∧ vs = kvs.map (·.2)))
  | .obj c ws, a => ∃ dx fs vs, H a = some (.ins (g.cl c) dx fs) ∧ fs.map (·.1) = g.fn c ∧ vs = fs.map (·.2) ∧ RepL g H F ws vs
  | _, _ => False

/-- an exception's class and attributes -/
def RepX (g : GX) (H : Hp) (F : FZ) (μ : List Addr) (c : Nat) (as : List D) (cls : Value) (dx : Option Addr) : Prop :=
  cls = .ref (g.cl c) ∧ ∃ (x : Addr) (vs : List V), dx = some x ∧ RepVs g H F μ as vs ∧ ∃ fs : List (Str × V), H x = some (.xd fs) ∧ ∀ (i : Nat) (f : Str) (v : V), (g.fn c)[i]? = some f → vs[i]? = some v → fs.lookup f = some v

structure Rel (g : GX) (μ : List Addr) (F : FZ) (σ : Sl) (S : List SO) (σc : St) (H : Hp) : Prop where
  env : ∀ (i : Nat) d, σ[i]? = some (some d) → ∃ v, σc[i]? = some (some v) ∧ RepV g H F μ d v
  len : σ.length = σc.length
  st : ∀ (n : Nat) o, S[n]? = some o → ∃ a, μ[n]? = some a ∧ RepO g H F μ o a
  ml : μ.length = S.length
  nd : μ.Nodup
  ap : ∀ a, a ∈ μ → ¬ F a
  dom : ∀ a, F a → ∃ o, H a = some o
  xc : ∀ p, g.xc = some p → RepX g H F μ p.2.1 p.2.2.1 p.2.2.2.1 p.2.2.2.2

/-- the frozen ones grow by what was free -/
structure FX (F : FZ) (H : Hp) (F' : FZ) (H' : Hp) : Prop where
  up : ∀ a, F a → F' a
  nw : ∀ a, F' a → F a ∨ H a = none
  dom : ∀ a, F' a → ∃ o, H' a = some o

def RepR (g : GX) (H0 H : Hp) (F : FZ) (μ : List Addr) (d : D) (fr : Bool) (v : V) : Prop :=
  (fr = false ∧ RepV g H F μ d v) ∨ (fr = true ∧ ∃ a, v = .ref a ∧ H0 a = none ∧ ¬ F a ∧ a ∉ μ ∧ RepN g H F d a)
def Ok (g : GX) (E : XK) (H : Hp) (F : FZ) (μ : List Addr) (r : Res) (Q : VK) : Prop := match r with
  | .ok d fr => ∀ v H' F', Same H H' → FX F H F' H' → RepR g H H' F' μ d fr v → Q v H'
  | .ex c as => ∀ cls dx H' F', Same H H' → FX F H F' H' → RepX g H' F' μ c as cls dx → E cls dx H'
  | .bad => False
/-- a wish about exceptions at the slots as they are -/
abbrev wat (W : WX) (σ : St) : XK := fun c d H => W c d σ H
/-- the reading of an expression, from the function that tells what it comes to -/
def T (g : GX) (W : WX) (f : CE) : TE := fun σc H Q => ∃ μ F σ S, Rel g μ F σ S σc H ∧ Ok g (wat W σc) H F μ (f σ S) Q
/-- .. of a test -/
abbrev TB (g : GX) (E : WX) (f : CE) : TT := tTest (T g E f)

theorem _root_.L2.PE.hc {X : Cx} {e : Expr} {t t' : TE} (h : PE X e t) (w : ∀ σ H Q, t' σ H Q → t σ H Q) : PE X e t' := ⟨fun pins s σ H Q I q => h.run pins s σ H Q I (w _ _ _ q)⟩
theorem _root_.L2.PT.hc {X : Cx} {e : Expr} {t t' : TT} (h : PT X e t) (w : ∀ σ H Q, t' σ H Q → t σ H Q) : PT X e t' := ⟨fun pins s σ H Q I q => h.run pins s σ H Q I (w _ _ _ q)⟩
theorem _root_.L2.PW.hc {X : Cx} {e : Expr} {t t' : TT} (h : PW X e t) (w : ∀ σ H Q, t' σ H Q → t σ H Q) : PW X e t' := ⟨fun wh pins s σ H Q I q => h.run wh pins s σ H Q I (w _ _ _ q)⟩
theorem _root_.L2.PA.hc {X : Cx} {es : List Expr} {t t' : TA} (h : PA X es t) (w : ∀ σ H Q, t' σ H Q → t σ H Q) : PA X es t' := ⟨fun pos pins s σ H Q I q => h.run pos pins s σ H Q I (w _ _ _ q)⟩
theorem _root_.L2.PS.hc {X : Cx} {st : Stmt} {t t' : TS} (h : PS X st t) (w : ∀ D σ H, t' D σ H → t D σ H) : PS X st t' := ⟨fun pins s σ H D I q => h.run pins s σ H D I (w _ _ _ q)⟩
theorem _root_.L2.PSs.hc {X : Cx} {st : List Stmt} {t t' : TS} (h : PSs X st t) (w : ∀ D σ H, t' D σ H → t D σ H) : PSs X st t' := ⟨fun pins s σ H D I q => h.run pins s σ H D I (w _ _ _ q)⟩
theorem _root_.L2.PI.hc {X : Cx} {tg it : Expr} {t t' : TI} (h : PI X tg it t) (w : ∀ σ H Q, t' σ H Q → t σ H Q) : PI X tg it t' := ⟨fun pins s σ H Q I q => h.run pins s σ H Q I (w _ _ _ q)⟩
theorem _root_.L2.PG.hc {X : Cx} {tg : Expr} {t t' : TG} (h : PG X tg t) (w : ∀ v σ H Q, t' v σ H Q → t v σ H Q) : PG X tg t' := ⟨fun pins s σ H v u Q I r q => h.run pins s σ H v u Q I r (w _ _ _ _ q)⟩

/-! ## how the relations are carried on -/
theorem Rd.same {H H' : Hp} (s : Same H H') {a : Addr} {o : HO} (h : Rd H a o) : Rd H' a o := h.elim (fun h => .inl (s _ _ h)) fun ⟨ob, h⟩ => .inr ⟨ob, s _ _ h⟩
theorem SqT.same {K : PySem.W.Frag} {H H' : Hp} {a : Addr} {xs : List V} (s : Same H H') (h : SqT K H a xs) : SqT K H' a xs := h.elim (fun h => .inl (Rd.same s h)) .inr
theorem SqF.mono {H H' : Hp} {F F' : FZ} {a : Addr} {xs : List V} (s : Same H H') (u : ∀ a, F a → F' a) (h : SqF H F a xs) : SqF H' F' a xs := ⟨u _ h.1, s _ _ h.2.1, h.2.2⟩
section
variable {g : GX} {H H' : Hp} {F F' : FZ}
mutual
theorem RepP.mono (s : Same H H') (u : ∀ a, F a → F' a) : ∀ (d : D) (v : V), RepP g H F d v → RepP g H' F' d v
  | .non, _, h => h
  | .bl _, _, h => h
  | .int _, _, h => h
  | .str _, _, h => h
  | .tup ds, v, h => by
    obtain ⟨a, vs, e, h1, h2⟩ := h
    exact ⟨a, vs, e, ⟨s _ _ h1.1, h1.2⟩, RepL.mono s u ds vs h2⟩
  | .lst ds, v, h => by
    obtain ⟨a, vs, e, h1, h2⟩ := h
    exact ⟨a, vs, e, SqF.mono s u h1, RepL.mono s u ds vs h2⟩
  | .rol ds, v, h => by
    obtain ⟨a, vs, e, h1, h2⟩ := h
    exact ⟨a, vs, e, ⟨h1.1.imp (fun ⟨o, h⟩ => ⟨o, s _ _ h⟩) fun h => h, h1.2⟩, RepL.mono s u ds vs h2⟩
  | .dct ks ds, v, h => by
    obtain ⟨a, vs, e, h1, h2, h3⟩ := h
    refine ⟨a, vs, e, u _ h1, RepL.mono s u ds vs h2, ?_⟩
    rcases h3 with ⟨kvs, q1, q2⟩ | ⟨kvs, q1, q2⟩
    · exact .inl ⟨kvs, Rd.same s q1, q2⟩
    · exact .inr ⟨kvs, Rd.same s q1, q2⟩
  | .obj c ds, v, h => by
    obtain ⟨a, dx, fs, vs, e, h1, h2, h3, h4, h5⟩ := h
    exact ⟨a, dx, fs, vs, e, u _ h1, s _ _ h2, h3, h4, RepL.mono s u ds vs h5⟩
  | .loc _, _, h => h
  | .err, _, h => h
theorem RepL.mono (s : Same H H') (u : ∀ a, F a → F' a) : ∀ (ds : List D) (vs : List V), RepL g H F ds vs → RepL g H' F' ds vs
  | [], _, h => h
  | d :: ds, vs, h => by
    obtain ⟨v, ws, e, h1, h2⟩ := h
    exact ⟨v, ws, e, RepP.mono s u d v h1, RepL.mono s u ds ws h2⟩
end
theorem RepV.mono {μ : List Addr} {d : D} {v : V} (s : Same H H') (u : ∀ a, F a → F' a) (h : RepV g H F μ d v) : RepV g H' F' μ d v := h.imp (fun h => h) (RepP.mono s u _ _)
theorem RepVs.mono {μ : List Addr} {ds : List D} {vs : List V} (s : Same H H') (u : ∀ a, F a → F' a) (h : RepVs g H F μ ds vs) : RepVs g H' F' μ ds vs := Paired.mapP h fun _ _ => RepV.mono s u
theorem RepO.mono {μ : List Addr} (s : Same H H') (u : ∀ a, F a → F' a) : ∀ {o : SO} {a : Addr}, RepO g H F μ o a → RepO g H' F' μ o a
  | .lst xs, a, ⟨vs, h1, h2, h3⟩ => ⟨vs, s _ _ h1, h2, h3.mono s u⟩
  | .dct ks ws, a, ⟨vs, h1, h2⟩ => ⟨vs, h1.mono s u, h2.imp (fun ⟨kvs, q1, q2⟩ => ⟨kvs, s _ _ q1, q2⟩) fun ⟨kvs, q1, q2⟩ => ⟨kvs, s _ _ q1, q2⟩⟩
  | .ins c ws, a, ⟨dx, fs, vs, h1, h2, h3, h4⟩ => ⟨dx, fs, vs, s _ _ h1, h2, h3, h4.mono s u⟩
theorem RepN.mono (s : Same H H') (u : ∀ a, F a → F' a) : ∀ {d : D} {a : Addr}, RepN g H F d a → RepN g H' F' d a
  | .lst xs, a, ⟨vs, h1, h2, h3⟩ => ⟨vs, s _ _ h1, h2, RepL.mono s u _ _ h3⟩
  | .dct ks ws, a, ⟨vs, h1, h2⟩ => ⟨vs, RepL.mono s u _ _ h1, h2.imp (fun ⟨kvs, q1, q2⟩ => ⟨kvs, s _ _ q1, q2⟩) fun ⟨kvs, q1, q2⟩ => ⟨kvs, s _ _ q1, q2⟩⟩
  | .obj c ws, a, ⟨dx, fs, vs, h1, h2, h3, h4⟩ => ⟨dx, fs, vs, s _ _ h1, h2, h3, RepL.mono s u _ _ h4⟩
  | .non, _, h => h.elim | .bl _, _, h => h.elim | .int _, _, h => h.elim | .str _, _, h => h.elim | .tup _, _, h => h.elim | .rol _, _, h => h.elim | .loc _, _, h => h.elim | .err, _, h => h.elim
theorem RepX.mono {μ : List Addr} {c : Nat} {as : List D} {cls : Value} {dx : Option Addr} (s : Same H H') (u : ∀ a, F a → F' a) : RepX g H F μ c as cls dx → RepX g H' F' μ c as cls dx :=
  fun ⟨h1, x, vs, h2, h3, fs, h4, h5⟩ => ⟨h1, x, vs, h2, h3.mono s u, fs, s _ _ h4, h5⟩
theorem RepO.there {μ : List Addr} : ∀ {o : SO} {a : Addr}, RepO g H F μ o a → ∃ u, H a = some u
  | .lst xs, a, ⟨vs, h1, _⟩ => ⟨_, h1⟩
  | .dct ks ws, a, ⟨vs, h1, h2⟩ => h2.elim (fun ⟨_, q, _⟩ => ⟨_, q⟩) fun ⟨_, q, _⟩ => ⟨_, q⟩
  | .ins c ws, a, ⟨dx, fs, vs, h1, _⟩ => ⟨_, h1⟩
theorem RepN.there : ∀ {d : D} {a : Addr}, RepN g H F d a → ∃ u, H a = some u
  | .lst xs, a, ⟨vs, h1, _⟩ => ⟨_, h1⟩
  | .dct ks ws, a, ⟨vs, h1, h2⟩ => h2.elim (fun ⟨_, q, _⟩ => ⟨_, q⟩) fun ⟨_, q, _⟩ => ⟨_, q⟩
  | .obj c ws, a, ⟨dx, fs, vs, h1, _⟩ => ⟨_, h1⟩
  | .non, _, h => h.elim | .bl _, _, h => h.elim | .int _, _, h => h.elim | .str _, _, h => h.elim | .tup _, _, h => h.elim | .rol _, _, h => h.elim | .loc _, _, h => h.elim | .err, _, h => h.elim
end

theorem FX.refl {F : FZ} {H : Hp} (d : ∀ a, F a → ∃ o, H a = some o) : FX F H F H := ⟨fun _ h => h, fun _ h => .inl h, d⟩
theorem same_none {H H' : Hp} (s : Same H H') {a : Addr} (h : H' a = none) : H a = none := by
  cases e : H a with
  | none => rfl
  | some o => rw [s _ _ e] at h; cases h
theorem FX.trans {F F1 F2 : FZ} {H H1 H2 : Hp} (s : Same H H1) (a : FX F H F1 H1) (b : FX F1 H1 F2 H2) : FX F H F2 H2 :=
  ⟨fun x h => b.up _ (a.up _ h), fun x h => (b.nw _ h).elim (fun h => a.nw _ h) fun h => .inr (same_none s h), b.dom⟩
theorem same_new {H : Hp} {p : Addr} {o : HO} (h : H p = none) : Same H (upd H p o) := fun b x e => by
  rw [upd_ne (ne_of_none e h)]; exact e

section
variable {g : GX} {μ : List Addr} {F F' : FZ} {σ : Sl} {S : List SO} {σc : St} {H H' : Hp}
theorem Rel.at_mu (R : Rel g μ F σ S σc H) {a : Addr} (h : a ∈ μ) : ∃ (n : Nat) (o : SO), S[n]? = some o ∧ μ[n]? = some a ∧ RepO g H F μ o a := by
  obtain ⟨n, hn, e⟩ := List.getElem_of_mem h
  have hs : n < S.length := by rw [← R.ml]; exact hn
  obtain ⟨b, h1, h2⟩ := R.st n _ (List.getElem?_eq_getElem hs)
  rw [List.getElem?_eq_getElem hn, e] at h1
  cases h1
  exact ⟨n, _, List.getElem?_eq_getElem hs, by rw [List.getElem?_eq_getElem hn, e], h2⟩
theorem Rel.mu_there (R : Rel g μ F σ S σc H) {a : Addr} (h : a ∈ μ) : ∃ u, H a = some u := let ⟨_, _, _, _, q⟩ := R.at_mu h; q.there
theorem Rel.mono (R : Rel g μ F σ S σc H) (s : Same H H') (x : FX F H F' H') : Rel g μ F' σ S σc H' :=
  ⟨fun i d h => let ⟨v, h1, h2⟩ := R.env i d h; ⟨v, h1, h2.mono s x.up⟩, R.len, fun n o h => let ⟨a, h1, h2⟩ := R.st n o h; ⟨a, h1, h2.mono s x.up⟩, R.ml, R.nd,
    fun a h f => (x.nw a f).elim (R.ap a h) fun z => by
      obtain ⟨u, e⟩ := R.mu_there h
      rw [z] at e
      exact (nomatch e), x.dom, fun p h => (R.xc p h).mono s x.up⟩
theorem Rel.fx (R : Rel g μ F σ S σc H) : FX F H F H := FX.refl R.dom
theorem RepR.val {d : D} {v : V} {H0 : Hp} (h : RepV g H F μ d v) : RepR g H0 H F μ d false v := .inl ⟨rfl, h⟩
/-- a fresh object is frozen -/
theorem RepR.frz {d : D} {fr : Bool} {v : V} (x : FX F H F' H') (r : RepR g H H' F' μ d fr v) : ∃ F2 : FZ, FX F H F2 H' ∧ (∀ a, F' a → F2 a) ∧ RepV g H' F2 μ d v := by
  rcases r with ⟨_, r⟩ | ⟨_, a, rfl, h0, nf, nm, r⟩
  · exact ⟨F', x, fun _ h => h, r⟩
  · have hd : ∀ b, (F' b ∨ b = a) → ∃ o, H' b = some o := fun b h => h.elim (x.dom b) fun e => by subst e; exact r.there
    refine ⟨fun b => F' b ∨ b = a, ⟨fun b h => .inl (x.up b h), fun b h => h.elim (x.nw b) fun e => .inr (by rw [e]; exact h0), hd⟩, fun b h => .inl h, .inr ?_⟩
    · have r2 := r.mono (F' := fun b => F' b ∨ b = a) (fun _ _ e => e) fun b h => .inl h
      cases d with
      | lst xs =>
        obtain ⟨vs, q1, q2, q3⟩ := r2
        exact ⟨a, vs, rfl, ⟨.inr rfl, q1, q2⟩, q3⟩
      | dct ks ws =>
        obtain ⟨vs, q1, q2⟩ := r2
        exact ⟨a, vs, rfl, .inr rfl, q1, q2.imp (fun ⟨kvs, z, y⟩ => ⟨kvs, .inl z, y⟩) fun ⟨kvs, z, y⟩ => ⟨kvs, .inl z, y⟩⟩
      | obj c ws =>
        obtain ⟨dx, fs, vs, q1, q2, q3, q4⟩ := r2
        exact ⟨a, dx, fs, vs, rfl, .inr rfl, q1, q2, q3, q4⟩
      | _ => exact r2.elim
end
end HC

set_option maxRecDepth 100000
namespace HC
open PySem PySem.Spec L2
open PyProof.Rows hiding St

/-! ## functions of data -/
def lim : Nat := 16777216
theorem lim_eq : sizeLine = lim := sizeLine_eq
def gets {α : Type} : List α → Nat → Option α
  | [], _ => none
  | d :: _, 0 => some d
  | _ :: r, n + 1 => gets r n
theorem gets_eq {α : Type} : ∀ (l : List α) (n : Nat), gets l n = l[n]?
  | [], _ => by simp [gets]
  | _ :: _, 0 => rfl
  | _ :: r, n + 1 => by simp [gets, gets_eq r n]
def D.pure : D → Bool
  | .loc _ => false
  | _ => true
def pureL : List D → Bool
  | [] => true
  | d :: r => d.pure && pureL r
/-- the items of a list (a frozen one, one of the store) -/
def lstOf (S : List SO) : D → Option (List D)
  | .lst xs => some xs
  | .loc n => match gets S n with
    | some (.lst xs) => some xs
    | _ => none
  | _ => none
def tupOf : D → Option (List D)
  | .tup xs => some xs
  | _ => none
/-- .. of a list that is read -/
def rdOf (S : List SO) : D → Option (List D)
  | .rol xs => some xs
  | d => lstOf S d
/-- .. of a list or a tuple -/
def seqOf (S : List SO) : D → Option (List D)
  | .tup xs => some xs
  | d => rdOf S d

section
variable {g : GX} {μ : List Addr} {F F' : FZ} {σ : Sl} {S : List SO} {σc : St} {H H' : Hp}
theorem RepV.pure {d : D} {v : V} (r : RepV g H F μ d v) (p : d.pure = true) : RepP g H F d v := by
  rcases r with ⟨n, a, rfl, _, _⟩ | r
  · exact (nomatch p)
  · exact r
theorem RepP.v {d : D} {v : V} (r : RepP g H F d v) : RepV g H F μ d v := .inr r
theorem RepL.vs : ∀ {ds : List D} {vs : List V}, RepL g H F ds vs → RepVs g H F μ ds vs
  | [], _, h => by
    cases (show _ = [] from h)
    exact .nil
  | d :: ds, vs, h => by
    obtain ⟨v, ws, rfl, h1, h2⟩ := h
    exact .cons h1.v h2.vs
theorem RepVs.pure : ∀ {ds : List D} {vs : List V}, RepVs g H F μ ds vs → pureL ds = true → RepL g H F ds vs
  | _, _, .nil, _ => rfl
  | _, _, .cons (a := d) r t, p => by
    have p2 : (d.pure && pureL _) = true := p
    rw [Bool.and_eq_true] at p2
    exact ⟨_, _, rfl, r.pure p2.1, RepVs.pure t p2.2⟩
theorem RepVs.length {ds : List D} {vs : List V} (r : RepVs g H F μ ds vs) : ds.length = vs.length := Paired.length r
theorem RepL.length {ds : List D} {vs : List V} (r : RepL g H F ds vs) : ds.length = vs.length := (r.vs (μ := [])).length
theorem RepVs.get {ds : List D} {vs : List V} (r : RepVs g H F μ ds vs) : ∀ {i : Nat} {d : D}, ds[i]? = some d → ∃ v, vs[i]? = some v ∧ RepV g H F μ d v := by
  induction r with
  | nil =>
    intro i d h
    simp at h
  | cons r t ih =>
    intro i d h
    cases i with
    | zero =>
      simp at h
      subst h
      exact ⟨_, rfl, r⟩
    | succ i =>
      simp at h
      obtain ⟨v, h1, h2⟩ := ih h
      exact ⟨v, by simpa using h1, h2⟩
theorem Rel.get (R : Rel g μ F σ S σc H) {i : Nat} {d : D} (h : gets σ i = some (some d)) : ∃ v, σc[i]? = some (some v) ∧ RepV g H F μ d v := R.env i d (by rw [← gets_eq]; exact h)
/-- a list of the data is a list of the heap -/
theorem Rel.lst (R : Rel g μ F σ S σc H) {d : D} {v : V} {xs : List D} (r : RepV g H F μ d v) (h : lstOf S d = some xs) : ∃ a vs, v = .ref a ∧ H a = some (.lst vs) ∧ vs.length ≤ sizeLine ∧ RepVs g H F μ xs vs := by
  rcases r with ⟨n, a, rfl, e, rfl⟩ | r
  · have h : (match gets S n with | some (.lst xs) => some xs | _ => none) = some xs := h
    cases q : gets S n with
    | none => rw [q] at h; cases h
    | some o =>
      rw [q] at h
      cases o with
      | lst ys =>
        have e2 : ys = xs := Option.some.inj h
        subst e2
        obtain ⟨b, e3, vs, h1, h2, h3⟩ := R.st n _ (by rw [← gets_eq]; exact q)
        rw [e] at e3
        cases e3
        exact ⟨a, vs, rfl, h1, h2, h3⟩
      | _ => cases h
  · cases d with
    | lst ys =>
      have e2 : ys = xs := Option.some.inj h
      subst e2
      obtain ⟨a, vs, rfl, h1, h2⟩ := r
      exact ⟨a, vs, rfl, h1.2.1, h1.2.2, h2.vs⟩
    | loc n => exact r.elim
    | _ => cases h
theorem Rel.rd (R : Rel g μ F σ S σc H) {d : D} {v : V} {xs : List D} (r : RepV g H F μ d v) (h : rdOf S d = some xs) : ∃ a vs, v = .ref a ∧ SqL g.K H a vs ∧ vs.length ≤ sizeLine ∧ RepVs g H F μ xs vs := by
  cases d with
  | rol ys =>
    have e2 : ys = xs := Option.some.inj h
    subst e2
    rcases r with ⟨n, a, e, _⟩ | ⟨a, vs, rfl, h1, h2⟩
    · cases e
    · exact ⟨a, vs, rfl, h1.1.sq, h1.2, h2.vs⟩
  | _ =>
    obtain ⟨a, vs, e, h1, h2⟩ := R.lst r h
    exact ⟨a, vs, e, SqL.of h1, h2⟩
theorem RepV.tup {d : D} {v : V} {xs : List D} (r : RepV g H F μ d v) (h : tupOf d = some xs) : ∃ a vs, v = .ref a ∧ SqT g.K H a vs ∧ vs.length ≤ sizeLine ∧ RepL g H F xs vs := by
  cases d with
  | tup ys =>
    have e2 : ys = xs := Option.some.inj h
    subst e2
    rcases r with ⟨n, a, e, _⟩ | ⟨a, vs, rfl, h1, h2⟩
    · cases e
    · exact ⟨a, vs, rfl, (.inl (.inl h1.1)), h1.2, h2⟩
  | _ => cases h
theorem seqOf_cases {d : D} {xs : List D} (h : seqOf S d = some xs) : tupOf d = some xs ∨ rdOf S d = some xs := by
  cases d with
  | tup ys => exact .inl h
  | _ => exact .inr h
theorem RepV.int {i : Int} {v : V} (r : RepV g H F μ (.int i) v) : v = .int i := by
  rcases r with ⟨n, a, e, _⟩ | r
  · cases e
  · exact r
theorem RepV.bl {b : Bool} {v : V} (r : RepV g H F μ (.bl b) v) : v = .bl b := by
  rcases r with ⟨n, a, e, _⟩ | r
  · cases e
  · exact r
theorem RepV.str {x : Str} {v : V} (r : RepV g H F μ (.str x) v) : v = .str x := by
  rcases r with ⟨n, a, e, _⟩ | r
  · cases e
  · exact r
theorem RepV.non {v : V} (r : RepV g H F μ .non v) : v = .non := by
  rcases r with ⟨n, a, e, _⟩ | r
  · cases e
  · exact r
end

/-! ## names and constants -/
def cVar (i : Nat) : CE := fun σ _ => match gets σ i with
  | some (some d) => .ok d false
  | _ => .bad
def cD (d : D) : CE := fun _ _ => .ok d false
section
variable {X : Cx} {g : GX} {E : WX}
theorem q_var (i : Nat) {x : Str} {pos : Pos} (hN : X.N[i]? = some x := by rfl) (hv : Vis X.env.scope x := by first | exact Or.inl rfl | exact Or.inr (Or.inl rfl) | exact Or.inr (Or.inr rfl)) (hd : (x == ("__debug__" : Str)) = false := by decide)
    (hcd : (x == ("__classdict__" : Str)) = false := by decide) : PE X (.Name x pos) (T g E (cVar i)) := (pe_var hN hv hd hcd).hc fun σc H Q ⟨μ, F, σ, S, R, q⟩ => by
  unfold cVar at q
  split at q
  · rename_i d e
    obtain ⟨v, h1, h2⟩ := R.get e
    exact ⟨v, h1, q v H F (Same.refl H) R.fx (.val h2)⟩
  · exact q.elim
theorem q_int {i j pos} : PE X (.Constant (.int i) j pos) (T g E (cD (.int i))) := pe_int.hc fun σc H Q ⟨μ, F, σ, S, R, q⟩ => q _ H F (Same.refl H) R.fx (.val (.inr rfl))
theorem q_bl {b j pos} : PE X (.Constant (.bool b) j pos) (T g E (cD (.bl b))) := pe_bl.hc fun σc H Q ⟨μ, F, σ, S, R, q⟩ => q _ H F (Same.refl H) R.fx (.val (.inr rfl))
theorem q_non {j pos} : PE X (.Constant .none j pos) (T g E (cD .non)) := pe_non.hc fun σc H Q ⟨μ, F, σ, S, R, q⟩ => q _ H F (Same.refl H) R.fx (.val (.inr rfl))
theorem q_str {x j pos} : PE X (.Constant (.str x) j pos) (T g E (cD (.str x))) := pe_str.hc fun σc H Q ⟨μ, F, σ, S, R, q⟩ => q _ H F (Same.refl H) R.fx (.val (.inr rfl))
end

/-! ## two values in a row; operators -/
def cBin (fn : List SO → D → D → Res) (a b : CE) : CE := fun σ S => match a σ S with
  | .ok x _ => match b σ S with
    | .ok y _ => fn S x y
    | .ex c as => .ex c as
    | .bad => .bad
  | .ex c as => .ex c as
  | .bad => .bad
/-- what an operator's reading asks follows from what is told of the data -/
def Lk2 (g : GX) (r : R2) (fn : List SO → D → D → Res) : Prop :=
  ∀ (E : XK) (μ : List Addr) (F : FZ) (σ : Sl) (S : List SO) (σc : St) (H : Hp) (x y : D) (vx vy : V) (Q : VK), Rel g μ F σ S σc H → RepV g H F μ x vx → RepV g H F μ y vy → Ok g E H F μ (fn S x y) Q → r vx vy H Q
theorem Ok.from {g : GX} {E : XK} {H H1 : Hp} {F F1 : FZ} {μ : List Addr} {r : Res} {Q : VK} (h : Ok g E H F μ r Q) (s : Same H H1) (x : FX F H F1 H1) : Ok g E H1 F1 μ r Q := by
  cases r with
  | ok d fr =>
    intro v H' F' s' x' rr
    refine h v H' F' (s.trans s') (x.trans s x') ?_
    rcases rr with ⟨e, rr⟩ | ⟨e, a, ev, h0, r2⟩
    · exact .inl ⟨e, rr⟩
    · exact .inr ⟨e, a, ev, same_none s h0, r2⟩
  | ex c as => exact fun cls dx H' F' s' x' rr => h cls dx H' F' (s.trans s') (x.trans s x') rr
  | bad => exact h
theorem Ok.x {g : GX} {E : XK} {H : Hp} {F : FZ} {μ : List Addr} {c : Nat} {as : List D} {Q Q' : VK} (h : Ok g E H F μ (.ex c as) Q) : Ok g E H F μ (.ex c as) Q' := h
/-- both operands -/
theorem T.two {g : GX} {E : WX} {a b : CE} {fn : List SO → D → D → Res} {σc : St} {H : Hp} {Q : VK} {R2' : V → V → Hp → Prop}
    (h : T g E (cBin fn a b) σc H Q)
    (w : ∀ (μ : List Addr) (F : FZ) (σ : Sl) (S : List SO) (H2 : Hp) (x y : D) (vx vy : V), Rel g μ F σ S σc H2 → RepV g H2 F μ x vx → RepV g H2 F μ y vy → Ok g (wat E σc) H2 F μ (fn S x y) Q → R2' vx vy H2) :
    T g E a σc H fun x H1 => T g E b σc H1 fun y H2 => R2' x y H2 := by
  obtain ⟨μ, F, σ, S, R, q⟩ := h
  refine ⟨μ, F, σ, S, R, ?_⟩
  unfold cBin at q
  cases ea : a σ S with
  | bad => rw [ea] at q; exact q
  | ex c as => rw [ea] at q; exact q
  | ok x fx =>
    rw [ea] at q
    intro vx H1 F1 s1 x1 r1
    obtain ⟨F2, x2, u2, rx⟩ := r1.frz x1
    have R2 := R.mono s1 x2
    refine ⟨μ, F2, σ, S, R2, ?_⟩
    have q : Ok g (wat E σc) H F μ (match b σ S with | .ok y _ => fn S x y | .ex c as => .ex c as | .bad => .bad) Q := q
    cases eb : b σ S with
    | bad => rw [eb] at q; exact q
    | ex c as => rw [eb] at q; exact (q.from s1 x2).x
    | ok y fy =>
      rw [eb] at q
      intro vy H3 F3 s3 x3 r3
      obtain ⟨F4, x4, u4, ry⟩ := r3.frz x3
      exact w μ F4 σ S H3 x y vx vy (R2.mono s3 x4) (rx.mono s3 x4.up) ry ((q.from s1 x2).from s3 x4)
section
variable {X : Cx} {g : GX} {E : WX} {a b : Expr} {fa fb : CE} {pos : Pos} {r : R2} {fn : List SO → D → D → Res}
theorem q_op {op : Operator} (ho : OpR X (binaryOp op) r) (l : Lk2 g r fn) (ha : PE X a (T g E fa)) (hb : PE X b (T g E fb)) : PE X (.BinOp a op b pos) (T g E (cBin fn fa fb)) :=
  (pe_op ho ha hb).hc fun σc H Q h => T.two h fun μ F σ S H2 x y vx vy R rx ry q => l (wat E σc) μ F σ S σc H2 x y vx vy Q R rx ry q
theorem q_cmp {op : CmpOp} (ho : OpR X (compareOp op) r) (l : Lk2 g r fn) (ha : PE X a (T g E fa)) (hb : PE X b (T g E fb)) (hm : behindInMarks op b = false := by first | exact nomark _ | rfl) : PE X (.Compare a [op] [b] pos) (T g E (cBin fn fa fb)) :=
  (pe_cmpR ho ha hb hm).hc fun σc H Q h => T.two h fun μ F σ S H2 x y vx vy R rx ry q => l (wat E σc) μ F σ S σc H2 x y vx vy Q R rx ry q
/-- a comparison as a test -/
theorem q_cmpT {op : CmpOp} (ho : OpR X (compareOp op) r) (l : Lk2 g r fn) (ha : PE X a (T g E fa)) (hb : PE X b (T g E fb)) (hm : behindInMarks op b = false := by first | exact nomark _ | rfl) : PT X (.Compare a [op] [b] pos) (TB g E (cBin fn fa fb)) :=
  (pt_cmpR ho ha hb hm).hc fun σc H Q h => T.two h fun μ F σ S H2 x y vx vy R rx ry q => l (wat E σc) μ F σ S σc H2 x y vx vy _ R rx ry q
end

/-! ### arithmetic -/
def bAdd (S : List SO) (x y : D) : Res := match x, y with
  | .int i, .int j => .ok (.int (i + j)) false
  | .tup xs, .tup ys => if xs.length + ys.length ≤ lim then .ok (.tup (xs ++ ys)) false else .bad
  | .str i, .str j => if i.length + j.length ≤ lim then .ok (.str (i ++ j)) false else .bad
  | x, y => match lstOf S x, lstOf S y with
    | some xs, some ys => if xs.length + ys.length ≤ lim then (if pureL xs && pureL ys then .ok (.lst (xs ++ ys)) true else .bad) else .bad
    | _, _ => .bad
def bSub (_ : List SO) (x y : D) : Res := match x, y with
  | .int i, .int j => .ok (.int (i - j)) false
  | _, _ => .bad
/-- a size that the machine takes -/
def small (i : Int) : Bool := i.natAbs < 18446744073709551616
def repL (n : Nat) (xs : List D) : List D := match n with
  | 0 => []
  | n + 1 => xs ++ repL n xs
def bMul (S : List SO) (x y : D) : Res := match x, y with
  | .int i, .int j => if small i || small j || (i.natAbs.log2 + j.natAbs.log2 < 100000) then .ok (.int (i * j)) false else .bad
  | x, .int k => match lstOf S x with
    | some xs => if 0 ≤ k && xs.length * k.toNat ≤ lim && k.toNat ≤ lim && pureL xs then .ok (.lst (repL k.toNat xs)) true else .bad
    | none => .bad
  | _, _ => .bad
def bFdiv (_ : List SO) (x y : D) : Res := match x, y with
  | .int i, .int j => if 0 < j && j < 1073741824 then .ok (.int (i / j)) false else (if 0 < j && j.natAbs.log2 < 8000 then .ok (.int (i / j)) false else .bad)
  | _, _ => .bad
def bMod (_ : List SO) (x y : D) : Res := match x, y with
  | .int i, .int j => if 0 < j then .ok (.int (i % j)) false else .bad
  | _, _ => .bad
def bPow (_ : List SO) (x y : D) : Res := match x, y with
  | .int i, .int j => if 0 ≤ j && j ≤ 1000000 && i.natAbs < 18446744073709551616 then .ok (.int (i ^ j.toNat)) false else .bad
  | _, _ => .bad
end HC

set_option maxRecDepth 100000
namespace HC
open PySem PySem.Spec L2
open PyProof.Rows hiding St

section
variable {g : GX} {E : XK} {H : Hp} {F : FZ} {μ : List Addr} {Q : VK} {d : D}
/-- a value that stands already -/
theorem Ok.here (dom : ∀ a, F a → ∃ o, H a = some o) (q : Ok g E H F μ (.ok d false) Q) {v : V} (r : RepV g H F μ d v) : Q v H := q v H F (Same.refl H) (FX.refl dom) (.inl ⟨rfl, r⟩)
/-- a new tuple -/
theorem Ok.tup {p : Addr} {ds : List D} {vs : List V} (dom : ∀ a, F a → ∃ o, H a = some o) (q : Ok g E H F μ (.ok (.tup ds) false) Q) (hp : H p = none) (hl : vs.length ≤ sizeLine) (r : RepL g H F ds vs) : Q (.ref p) (upd H p (.tup vs)) := by
  have s : Same H (upd H p (.tup vs)) := same_new hp
  refine q _ _ F s ⟨fun _ h => h, fun _ h => .inl h, fun a h => ?_⟩ (.inl ⟨rfl, .inr ⟨p, vs, rfl, ⟨upd_same, hl⟩, RepL.mono s (fun _ h => h) _ _ r⟩⟩)
  obtain ⟨o, e⟩ := dom a h
  exact ⟨o, s _ _ e⟩
/-- a new list -/
theorem Ok.lst {p : Addr} {ds : List D} {vs : List V} (dom : ∀ a, F a → ∃ o, H a = some o) (mu : ∀ a, a ∈ μ → ∃ o, H a = some o) (q : Ok g E H F μ (.ok (.lst ds) true) Q) (hp : H p = none) (hl : vs.length ≤ sizeLine) (r : RepL g H F ds vs) : Q (.ref p) (upd H p (.lst vs)) := by
  have s : Same H (upd H p (.lst vs)) := same_new hp
  refine q _ _ F s ⟨fun _ h => h, fun _ h => .inl h, fun a h => ?_⟩ (.inr ⟨rfl, p, rfl, hp, fun h => ?_, fun h => ?_, vs, upd_same, hl, RepL.mono s (fun _ h => h) _ _ r⟩)
  · obtain ⟨o, e⟩ := dom a h
    exact ⟨o, s _ _ e⟩
  · obtain ⟨o, e⟩ := dom p h
    rw [hp] at e; cases e
  · obtain ⟨o, e⟩ := mu p h
    rw [hp] at e; cases e
end
theorem RepL.append {g : GX} {H : Hp} {F : FZ} : ∀ {xs ys : List D} {vs ws : List V}, RepL g H F xs vs → RepL g H F ys ws → RepL g H F (xs ++ ys) (vs ++ ws)
  | [], _, _, _, h, k => by
    cases (show _ = [] from h)
    exact k
  | _ :: _, _, _, _, h, k => by
    obtain ⟨v, us, rfl, h1, h2⟩ := h
    exact ⟨v, _, rfl, h1, h2.append k⟩
theorem RepL.drop {g : GX} {H : Hp} {F : FZ} : ∀ (n : Nat) {xs : List D} {vs : List V}, RepL g H F xs vs → RepL g H F (xs.drop n) (vs.drop n)
  | 0, _, _, h => h
  | n + 1, [], _, h => by
    cases (show _ = [] from h)
    exact rfl
  | n + 1, _ :: _, _, h => by
    obtain ⟨v, us, rfl, h1, h2⟩ := h
    exact h2.drop n
theorem RepL.take {g : GX} {H : Hp} {F : FZ} : ∀ (n : Nat) {xs : List D} {vs : List V}, RepL g H F xs vs → RepL g H F (xs.take n) (vs.take n)
  | 0, _, _, h => rfl
  | n + 1, [], _, h => by
    cases (show _ = [] from h)
    exact rfl
  | n + 1, _ :: _, _, h => by
    obtain ⟨v, us, rfl, h1, h2⟩ := h
    exact ⟨v, _, rfl, h1, h2.take n⟩
theorem RepL.rep {g : GX} {H : Hp} {F : FZ} {xs : List D} {vs : List V} (h : RepL g H F xs vs) : ∀ n, RepL g H F (repL n xs) (List.replicate n vs).flatten
  | 0 => rfl
  | n + 1 => by
    show RepL g H F (xs ++ repL n xs) (vs ++ (List.replicate n vs).flatten)
    exact h.append (h.rep n)

section
variable {X : Cx} {g : GX}
theorem lk_add : Lk2 g (fun x y H Q => rI0 (fun i j => .int (i + j)) x y H Q ∨ (rCatA g.K x y H Q ∨ ((∃ i j, x = .str i ∧ y = .str j ∧ i.length + j.length ≤ sizeLine ∧ Q (.str (i ++ j)) H) ∨ rCat x y H Q))) bAdd := by
  intro E μ F σ S σc H x y vx vy Q R rx ry q
  unfold bAdd at q
  split at q
  · exact .inl ⟨_, _, rx.int, ry.int, q.here R.dom (.inr rfl)⟩
  · rename_i xs ys
    split at q
    · rename_i hl
      obtain ⟨a, vs, rfl, h1, h2, h3⟩ := rx.tup (xs := xs) rfl
      obtain ⟨b, ws, rfl, k1, k2, k3⟩ := ry.tup (xs := ys) rfl
      have l1 := h3.length
      have l2 := k3.length
      have hl2 : vs.length + ws.length ≤ sizeLine := by rw [lim_eq, ← l1, ← l2]; exact hl
      refine .inr (.inl ⟨a, b, vs, ws, rfl, rfl, h1, k1, hl2, fun e => ?_, fun _ e => ?_, fun n1 n2 p hp => ?_⟩)
      · subst e
        have e2 : xs = [] := List.length_eq_zero_iff.mp l1
        subst e2
        exact q.here R.dom ry
      · subst e
        have e2 : ys = [] := List.length_eq_zero_iff.mp l2
        subst e2
        rw [List.append_nil] at q
        exact q.here R.dom rx
      · exact q.tup R.dom hp (by rw [List.length_append]; exact hl2) (h3.append k3)
    · exact q.elim
  · split at q
    · rename_i hl
      exact .inr (.inr (.inl ⟨_, _, rx.str, ry.str, by rw [lim_eq]; exact hl, q.here R.dom (.inr rfl)⟩))
    · exact q.elim
  · split at q
    · rename_i xs ys ex ey
      split at q
      · rename_i hl
        split at q
        · rename_i hp
          rw [Bool.and_eq_true] at hp
          obtain ⟨a, vs, rfl, h1, h2, h3⟩ := R.lst rx ex
          obtain ⟨b, ws, rfl, k1, k2, k3⟩ := R.lst ry ey
          have l1 := h3.length
          have l2 := k3.length
          have hl2 : vs.length + ws.length ≤ sizeLine := by rw [lim_eq, ← l1, ← l2]; exact hl
          refine .inr (.inr (.inr ⟨a, b, vs, ws, rfl, rfl, h1, k1, hl2, fun p hn => ?_⟩))
          exact q.lst R.dom (fun a h => R.mu_there h) hn (by rw [List.length_append]; exact hl2) ((h3.pure hp.1).append (k3.pure hp.2))
        · exact q.elim
      · exact q.elim
    · exact q.elim
theorem op_addA : OpR X (binaryOp .Add) (fun x y H Q => rI0 (fun i j => .int (i + j)) x y H Q ∨ (rCatA X.K x y H Q ∨ ((∃ i j, x = .str i ∧ y = .str j ∧ i.length + j.length ≤ sizeLine ∧ Q (.str (i ++ j)) H) ∨ rCat x y H Q))) := op_add.or (op_catA.or (op_add_str.or op_cat))
theorem lk_sub : Lk2 g (rI0 fun i j => .int (i - j)) bSub := by
  intro E μ F σ S σc H x y vx vy Q R rx ry q
  unfold bSub at q
  split at q
  · exact ⟨_, _, rx.int, ry.int, q.here R.dom (.inr rfl)⟩
  · exact q.elim
theorem small_ok {i : Int} (h : small i = true) : -(2 ^ 64) < i ∧ i < 2 ^ 64 := by
  have h2 : i.natAbs < 18446744073709551616 := of_decide_eq_true h
  omega
theorem lk_mul : Lk2 g (fun x y H Q => rI CMul (fun i j => .int (i * j)) x y H Q ∨ (rI CMulW (fun i j => .int (i * j)) x y H Q ∨ rRep x y H Q)) bMul := by
  intro E μ F σ S σc H x y vx vy Q R rx ry q
  unfold bMul at q
  split at q
  · rename_i i j
    split at q
    · rename_i h
      rw [Bool.or_eq_true, Bool.or_eq_true] at h
      have q2 := q.here R.dom (v := .int (i * j)) (.inr rfl)
      rcases h with (h | h) | h
      · exact .inl ⟨_, _, rx.int, ry.int, .inl (small_ok h), q2⟩
      · exact .inl ⟨_, _, rx.int, ry.int, .inr (small_ok h), q2⟩
      · exact .inr (.inl ⟨_, _, rx.int, ry.int, Nat.lt_trans (of_decide_eq_true h) (by decide), q2⟩)
    · exact q.elim
  · rename_i k _
    split at q
    · rename_i xs ex
      split at q
      · rename_i h
        simp only [Bool.and_eq_true, decide_eq_true_eq] at h
        obtain ⟨⟨⟨h1, h2⟩, h3⟩, h4⟩ := h
        obtain ⟨a, vs, rfl, k1, k2, k3⟩ := R.lst rx ex
        have l1 := k3.length
        have hk : k.toNat ≤ 16777216 := h3
        have hl : vs.length * k.toNat ≤ sizeLine := by rw [lim_eq, ← l1]; exact h2
        refine .inr (.inr ⟨a, k, vs, rfl, ry.int, k1, by omega, by omega, hl, fun p hp => ?_⟩)
        refine q.lst R.dom (fun a h => R.mu_there h) hp ?_ ((k3.pure h4).rep _)
        rw [List.length_flatten, List.map_replicate, List.sum_replicate_nat, Nat.mul_comm]
        exact hl
      · exact q.elim
    · exact q.elim
  · exact q.elim
theorem op_mulA : OpR X (binaryOp .Mult) (fun x y H Q => rI CMul (fun i j => .int (i * j)) x y H Q ∨ (rI CMulW (fun i j => .int (i * j)) x y H Q ∨ rRep x y H Q)) := op_mul.or (op_mulW.or op_rep)
theorem lk_fdiv : Lk2 g (fun x y H Q => rI CDiv (fun i j => .int (i / j)) x y H Q ∨ rI CDivW (fun i j => .int (i / j)) x y H Q) bFdiv := by
  intro E μ F σ S σc H x y vx vy Q R rx ry q
  unfold bFdiv at q
  split at q
  · rename_i i j
    split at q
    · rename_i h
      simp only [Bool.and_eq_true, decide_eq_true_eq] at h
      exact .inl ⟨_, _, rx.int, ry.int, h, q.here R.dom (.inr rfl)⟩
    · split at q
      · rename_i h
        simp only [Bool.and_eq_true, decide_eq_true_eq] at h
        exact .inr ⟨_, _, rx.int, ry.int, ⟨h.1, by omega⟩, q.here R.dom (.inr rfl)⟩
      · exact q.elim
  · exact q.elim
theorem op_fdivA : OpR X (binaryOp .FloorDiv) (fun x y H Q => rI CDiv (fun i j => .int (i / j)) x y H Q ∨ rI CDivW (fun i j => .int (i / j)) x y H Q) := op_fdiv.or op_fdivW
theorem lk_mod : Lk2 g (rI (fun _ j => 0 < j) fun i j => .int (i % j)) bMod := by
  intro E μ F σ S σc H x y vx vy Q R rx ry q
  unfold bMod at q
  split at q
  · split at q
    · rename_i h
      exact ⟨_, _, rx.int, ry.int, h, q.here R.dom (.inr rfl)⟩
    · exact q.elim
  · exact q.elim
theorem lk_pow : Lk2 g (rI CPow fun i j => .int (i ^ j.toNat)) bPow := by
  intro E μ F σ S σc H x y vx vy Q R rx ry q
  unfold bPow at q
  split at q
  · split at q
    · rename_i h
      simp only [Bool.and_eq_true, decide_eq_true_eq] at h
      exact ⟨_, _, rx.int, ry.int, ⟨h.1.1, h.1.2, h.2⟩, q.here R.dom (.inr rfl)⟩
    · exact q.elim
  · exact q.elim
end

/-! ### == -/
mutual
/-- Python's == -/
def eqD : D → D → Bool
  | .non, .non => true
  | .bl a, .bl b => a == b
  | .bl a, .int j => (if a then 1 else 0) == j
  | .int i, .bl b => i == (if b then 1 else 0)
  | .int i, .int j => i == j
  | .str x, .str y => x == y
  | .lst xs, .lst ys => eqL xs ys
  | .rol xs, .lst ys => eqL xs ys
  | .lst xs, .rol ys => eqL xs ys
  | .rol xs, .rol ys => eqL xs ys
  | .tup xs, .tup ys => eqL xs ys
  | _, _ => false
def eqL : List D → List D → Bool
  | [], [] => true
  | x :: xs, y :: ys => eqD x y && eqL xs ys
  | _, _ => false
end
mutual
/-- plain data, no more than n deep -/
def plainD : Nat → D → Bool
  | _, .non => true
  | _, .bl _ => true
  | _, .int _ => true
  | _, .str x => PyData.strOk x
  | 0, _ => false
  | n + 1, .tup xs => plainDs n xs
  | n + 1, .lst xs => plainDs n xs
  | n + 1, .rol xs => plainDs n xs
  | _, _ => false
def plainDs : Nat → List D → Bool
  | _, [] => true
  | n, x :: xs => plainD n x && plainDs n xs
end
/-- a list of the store, frozen for a look -/
def look (S : List SO) (d : D) : D := match d with
  | .loc n => match gets S n with
    | some (.lst xs) => .lst xs
    | _ => d
  | d => d
def bEq (S : List SO) (x y : D) : Res := match x, y with
  | .int i, .int j => .ok (.bl (decide (i = j))) false
  | .str i, .str j => .ok (.bl (decide (i = j))) false
  | .bl i, .bl j => .ok (.bl (decide (i = j))) false
  | x, y => let a := look S x; let b := look S y; if plainD 30 a && plainD 30 b then .ok (.bl (eqD a b)) false else .bad
def bNe (S : List SO) (x y : D) : Res := match x, y with
  | .int i, .int j => .ok (.bl (!decide (i = j))) false
  | .str i, .str j => .ok (.bl (!decide (i = j))) false
  | .bl i, .bl j => .ok (.bl (!decide (i = j))) false
  | x, y => let a := look S x; let b := look S y; if plainD 30 a && plainD 30 b then .ok (.bl (!eqD a b)) false else .bad

mutual
def toPy : D → PyData
  | .non => .none
  | .bl b => .bool b
  | .int i => .int i
  | .str x => .str x
  | .tup xs => .tuple (toPys xs)
  | .lst xs => .list (toPys xs)
  | .rol xs => .list (toPys xs)
  | _ => .dict []
def toPys : List D → List PyData
  | [] => []
  | x :: xs => toPy x :: toPys xs
end
mutual
theorem plain_can : ∀ (n : Nat) (d : D), plainD n d = true → (toPy d).canLay0 = true ∧ (toPy d).depth ≤ n
  | _, .non, _ => by simp [toPy, PyData.canLay0, PyData.depth]
  | _, .bl _, _ => by simp [toPy, PyData.canLay0, PyData.depth]
  | _, .int _, _ => by simp [toPy, PyData.canLay0, PyData.depth]
  | _, .str x, h => by
    cases ‹Nat› <;> (simp only [plainD] at h; simp [toPy, PyData.canLay0, PyData.depth, h])
  | 0, .tup xs, h => by simp [plainD] at h
  | 0, .lst xs, h => by simp [plainD] at h
  | 0, .rol xs, h => by simp [plainD] at h
  | n + 1, .tup xs, h => by
    have h2 := plains_can n xs (by simpa [plainD] using h)
    simp only [toPy, PyData.canLay0, PyData.depth]
    exact ⟨h2.1, by omega⟩
  | n + 1, .lst xs, h => by
    have h2 := plains_can n xs (by simpa [plainD] using h)
    simp only [toPy, PyData.canLay0, PyData.depth]
    exact ⟨h2.1, by omega⟩
  | n + 1, .rol xs, h => by
    have h2 := plains_can n xs (by simpa [plainD] using h)
    simp only [toPy, PyData.canLay0, PyData.depth]
    exact ⟨h2.1, by omega⟩
  | n, .dct _ _, h => by cases n <;> simp [plainD] at h
  | n, .obj _ _, h => by cases n <;> simp [plainD] at h
  | n, .loc _, h => by cases n <;> simp [plainD] at h
  | n, .err, h => by cases n <;> simp [plainD] at h
theorem plains_can : ∀ (n : Nat) (xs : List D), plainDs n xs = true → PyData.canLayAll0 (toPys xs) = true ∧ PyData.depthAll (toPys xs) ≤ n
  | _, [], _ => by simp [toPys, PyData.canLayAll0, PyData.depthAll]
  | n, x :: xs, h => by
    simp only [plainDs, Bool.and_eq_true] at h
    have h1 := plain_can n x h.1
    have h2 := plains_can n xs h.2
    simp only [toPys, PyData.canLayAll0, PyData.depthAll, Bool.and_eq_true]
    exact ⟨⟨h1.1, h2.1⟩, by omega⟩
end

mutual
theorem eq_py : ∀ (n m : Nat) (a b : D), plainD n a = true → plainD m b = true → eqD a b = PyData.eqv (toPy a) (toPy b)
  | n, m, a, b, ha, hb => by
    cases a with
    | dct _ _ => cases n <;> simp [plainD] at ha
    | obj _ _ => cases n <;> simp [plainD] at ha
    | loc _ => cases n <;> simp [plainD] at ha
    | err => cases n <;> simp [plainD] at ha
    | tup xs =>
      cases b with
      | dct _ _ => cases m <;> simp [plainD] at hb
      | obj _ _ => cases m <;> simp [plainD] at hb
      | loc _ => cases m <;> simp [plainD] at hb
      | err => cases m <;> simp [plainD] at hb
      | tup ys =>
        cases n with
        | zero => simp [plainD] at ha
        | succ n =>
          cases m with
          | zero => simp [plainD] at hb
          | succ m =>
            simp only [eqD, toPy, PyData.eqv]
            exact eqs_py n m xs ys (by simpa [plainD] using ha) (by simpa [plainD] using hb)
      | _ => simp [eqD, toPy, PyData.eqv]
    | lst xs =>
      cases b with
      | dct _ _ => cases m <;> simp [plainD] at hb
      | obj _ _ => cases m <;> simp [plainD] at hb
      | loc _ => cases m <;> simp [plainD] at hb
      | err => cases m <;> simp [plainD] at hb
      | lst ys =>
        cases n with
        | zero => simp [plainD] at ha
        | succ n =>
          cases m with
          | zero => simp [plainD] at hb
          | succ m =>
            simp only [eqD, toPy, PyData.eqv]
            exact eqs_py n m xs ys (by simpa [plainD] using ha) (by simpa [plainD] using hb)
      | rol ys =>
        cases n with
        | zero => simp [plainD] at ha
        | succ n =>
          cases m with
          | zero => simp [plainD] at hb
          | succ m =>
            simp only [eqD, toPy, PyData.eqv]
            exact eqs_py n m xs ys (by simpa [plainD] using ha) (by simpa [plainD] using hb)
      | _ => simp [eqD, toPy, PyData.eqv]
    | rol xs =>
      cases b with
      | dct _ _ => cases m <;> simp [plainD] at hb
      | obj _ _ => cases m <;> simp [plainD] at hb
      | loc _ => cases m <;> simp [plainD] at hb
      | err => cases m <;> simp [plainD] at hb
      | lst ys =>
        cases n with
        | zero => simp [plainD] at ha
        | succ n =>
          cases m with
          | zero => simp [plainD] at hb
          | succ m =>
            simp only [eqD, toPy, PyData.eqv]
            exact eqs_py n m xs ys (by simpa [plainD] using ha) (by simpa [plainD] using hb)
      | rol ys =>
        cases n with
        | zero => simp [plainD] at ha
        | succ n =>
          cases m with
          | zero => simp [plainD] at hb
          | succ m =>
            simp only [eqD, toPy, PyData.eqv]
            exact eqs_py n m xs ys (by simpa [plainD] using ha) (by simpa [plainD] using hb)
      | _ => simp [eqD, toPy, PyData.eqv]
    | _ =>
      cases b with
      | dct _ _ => cases m <;> simp [plainD] at hb
      | obj _ _ => cases m <;> simp [plainD] at hb
      | loc _ => cases m <;> simp [plainD] at hb
      | err => cases m <;> simp [plainD] at hb
      | _ => simp [eqD, toPy, PyData.eqv]
theorem eqs_py : ∀ (n m : Nat) (xs ys : List D), plainDs n xs = true → plainDs m ys = true → eqL xs ys = PyData.eqvAll (toPys xs) (toPys ys)
  | n, m, [], [], _, _ => by simp [eqL, toPys, PyData.eqvAll]
  | n, m, [], y :: ys, _, _ => by simp [eqL, toPys, PyData.eqvAll]
  | n, m, x :: xs, [], _, _ => by simp [eqL, toPys, PyData.eqvAll]
  | n, m, x :: xs, y :: ys, ha, hb => by
    simp only [plainDs, Bool.and_eq_true] at ha hb
    simp only [eqL, toPys, PyData.eqvAll]
    rw [eq_py n m x y ha.1 hb.1, eqs_py n m xs ys ha.2 hb.2]
end
section
variable {g : GX} {H : Hp} {F : FZ} {μ : List Addr}
mutual
theorem dp_of : ∀ (n : Nat) (d : D) (v : V), RepP g H F d v → plainD n d = true → Dp g.K H v (toPy d)
  | _, .non, v, r, _ => by
    cases (show v = .non from r)
    exact .non
  | _, .bl b, v, r, _ => by
    cases (show v = .bl b from r)
    exact .bl b
  | _, .int i, v, r, _ => by
    cases (show v = .int i from r)
    exact .int i
  | _, .str x, v, r, _ => by
    cases (show v = .str x from r)
    exact .str x
  | 0, .tup xs, _, _, h => by simp [plainD] at h
  | 0, .lst xs, _, _, h => by simp [plainD] at h
  | 0, .rol xs, _, _, h => by simp [plainD] at h
  | n + 1, .tup xs, v, r, h => by
    obtain ⟨a, vs, rfl, h1, h2⟩ := r
    exact .tup (.inl (.inl h1.1)) (dps_of n xs vs h2 (by simpa [plainD] using h))
  | n + 1, .lst xs, v, r, h => by
    obtain ⟨a, vs, rfl, h1, h2⟩ := r
    exact .lst (SqL.of h1.2.1) (dps_of n xs vs h2 (by simpa [plainD] using h))
  | n + 1, .rol xs, v, r, h => by
    obtain ⟨a, vs, rfl, h1, h2⟩ := r
    exact .lst h1.1.sq (dps_of n xs vs h2 (by simpa [plainD] using h))
  | n, .dct _ _, _, _, h => by cases n <;> simp [plainD] at h
  | n, .obj _ _, _, _, h => by cases n <;> simp [plainD] at h
  | n, .loc _, _, _, h => by cases n <;> simp [plainD] at h
  | n, .err, _, _, h => by cases n <;> simp [plainD] at h
theorem dps_of : ∀ (n : Nat) (ds : List D) (vs : List V), RepL g H F ds vs → plainDs n ds = true → DpAll g.K H vs (toPys ds)
  | _, [], vs, r, _ => by
    cases (show vs = [] from r)
    exact .nil
  | n, d :: ds, vs, r, h => by
    obtain ⟨v, ws, rfl, h1, h2⟩ := r
    simp only [plainDs, Bool.and_eq_true] at h
    exact .cons (dp_of n d v h1 h.1) (dps_of n ds ws h2 h.2)
end
theorem plain_pure : ∀ {n : Nat} {d : D}, plainD n d = true → d.pure = true := fun {n d} h => by
  cases d with
  | loc _ => cases n <;> simp [plainD] at h
  | _ => rfl
theorem plains_pure : ∀ {n : Nat} {ds : List D}, plainDs n ds = true → pureL ds = true
  | _, [], _ => rfl
  | n, d :: ds, h => by
    simp only [plainDs, Bool.and_eq_true] at h
    show (d.pure && pureL ds) = true
    rw [plain_pure h.1, plains_pure h.2] <;> rfl
variable {σ : Sl} {S : List SO} {σc : St}
theorem Rel.dp (R : Rel g μ F σ S σc H) {n : Nat} {d : D} {v : V} (r : RepV g H F μ d v) (h : plainD n (look S d) = true) : Dp g.K H v (toPy (look S d)) := by
  cases d with
  | loc k =>
    cases q : gets S k with
    | none =>
      have e : look S (.loc k) = .loc k := by unfold look; simp only [q]
      rw [e] at h
      cases n <;> simp [plainD] at h
    | some o =>
      cases o with
      | lst xs =>
        have e : look S (.loc k) = .lst xs := by unfold look; simp only [q]
        have e2 : lstOf S (.loc k) = some xs := by unfold lstOf; simp only [q]
        rw [e] at h ⊢
        obtain ⟨a, vs, rfl, k1, k2, k3⟩ := R.lst r e2
        cases n with
        | zero => simp [plainD] at h
        | succ n =>
          have h' : plainDs n xs = true := by simpa [plainD] using h
          exact .lst (SqL.of k1) (dps_of n xs vs (k3.pure (plains_pure h')) h')
      | dct _ _ =>
        have e : look S (.loc k) = .loc k := by unfold look; simp only [q]
        rw [e] at h
        cases n <;> simp [plainD] at h
      | ins _ _ =>
        have e : look S (.loc k) = .loc k := by unfold look; simp only [q]
        rw [e] at h
        cases n <;> simp [plainD] at h
  | _ => exact dp_of n _ v (r.pure rfl) h
theorem shaped_of {n : Nat} {d : D} (h : plainD n d = true) (hn : n ≤ 64) : SeqAt.shaped (toPy d) = true := by
  obtain ⟨h1, h2⟩ := plain_can n d h
  unfold SeqAt.shaped
  rw [h1]
  simp
  omega
theorem lk_eq : Lk2 g (fun x y H Q => rEq x y H Q ∨ rEqD g.K x y H Q) bEq := by
  intro E μ F σ S σc H x y vx vy Q R rx ry q
  have key : Ok g E H F μ (let a := look S x; let b := look S y; if plainD 30 a && plainD 30 b then .ok (.bl (eqD a b)) false else .bad) Q → rEqD g.K vx vy H Q := by
    intro q
    dsimp only at q
    split at q
    · rename_i h
      rw [Bool.and_eq_true] at h
      refine ⟨_, _, R.dp rx h.1, R.dp ry h.2, shaped_of h.1 (by decide), shaped_of h.2 (by decide), ?_⟩
      rw [← eq_py 30 30 _ _ h.1 h.2]
      exact q.here R.dom (.inr rfl)
    · exact q.elim
  unfold bEq at q
  split at q
  · rename_i i j
    refine .inr ⟨.int i, .int j, by cases rx.int; exact .int i, by cases ry.int; exact .int j, rfl, rfl, ?_⟩
    have e : PyData.eqv (.int i) (.int j) = decide (i = j) := by simp only [PyData.eqv, Bool.beq_eq_decide_eq]
    rw [e]
    exact q.here R.dom (.inr rfl)
  · rename_i i j
    cases rx.str
    cases ry.str
    exact .inl ⟨rfl, by rw [show decide (V.str i = V.str j) = decide (i = j) by simp]; exact q.here R.dom (.inr rfl)⟩
  · rename_i i j
    cases rx.bl
    cases ry.bl
    exact .inl ⟨rfl, by rw [show decide (V.bl i = V.bl j) = decide (i = j) by simp]; exact q.here R.dom (.inr rfl)⟩
  · exact .inr (key q)
theorem lk_ne : Lk2 g (fun x y H Q => rNe x y H Q ∨ rNeD g.K x y H Q) bNe := by
  intro E μ F σ S σc H x y vx vy Q R rx ry q
  have key : Ok g E H F μ (let a := look S x; let b := look S y; if plainD 30 a && plainD 30 b then .ok (.bl (!eqD a b)) false else .bad) Q → rNeD g.K vx vy H Q := by
    intro q
    dsimp only at q
    split at q
    · rename_i h
      rw [Bool.and_eq_true] at h
      refine ⟨_, _, R.dp rx h.1, R.dp ry h.2, shaped_of h.1 (by decide), shaped_of h.2 (by decide), ?_⟩
      rw [← eq_py 30 30 _ _ h.1 h.2]
      exact q.here R.dom (.inr rfl)
    · exact q.elim
  unfold bNe at q
  split at q
  · rename_i i j
    refine .inr ⟨.int i, .int j, by cases rx.int; exact .int i, by cases ry.int; exact .int j, rfl, rfl, ?_⟩
    have e : PyData.eqv (.int i) (.int j) = decide (i = j) := by simp only [PyData.eqv, Bool.beq_eq_decide_eq]
    rw [e]
    exact q.here R.dom (.inr rfl)
  · rename_i i j
    cases rx.str
    cases ry.str
    exact .inl ⟨rfl, by rw [show decide (V.str i = V.str j) = decide (i = j) by simp]; exact q.here R.dom (.inr rfl)⟩
  · rename_i i j
    cases rx.bl
    cases ry.bl
    exact .inl ⟨rfl, by rw [show decide (V.bl i = V.bl j) = decide (i = j) by simp]; exact q.here R.dom (.inr rfl)⟩
  · exact .inr (key q)
end
end HC

set_option maxRecDepth 100000
namespace HC
open PySem PySem.Spec L2
open PyProof.Rows hiding St

/-! ### orders of ints, None -/
def bCmp (p : Int → Int → Bool) (_ : List SO) (x y : D) : Res := match x, y with
  | .int i, .int j => .ok (.bl (p i j)) false
  | _, _ => .bad
theorem lk_cmp {g : GX} {p : Int → Int → Bool} : Lk2 g (rI0 fun i j => .bl (p i j)) (bCmp p) := by
  intro E μ F σ S σc H x y vx vy Q R rx ry q
  unfold bCmp at q
  split at q
  · exact ⟨_, _, rx.int, ry.int, q.here R.dom (.inr rfl)⟩
  · exact q.elim
abbrev bLt := bCmp fun i j => decide (i < j)
abbrev bLe := bCmp fun i j => decide (i ≤ j)
abbrev bGt := bCmp fun i j => decide (j < i)
abbrev bGe := bCmp fun i j => decide (j ≤ i)
def isNon : D → Bool
  | .non => true
  | _ => false
def bIs (_ : List SO) (x y : D) : Res := match y with
  | .non => .ok (.bl (isNon x)) false
  | .bl b => match x with
    | .bl a => .ok (.bl (decide (a = b))) false
    | _ => .bad
  | _ => .bad
def bIsNot (_ : List SO) (x y : D) : Res := match y with
  | .non => .ok (.bl (!isNon x)) false
  | .bl b => match x with
    | .bl a => .ok (.bl (!decide (a = b))) false
    | _ => .bad
  | _ => .bad
theorem isNon_v {g : GX} {H : Hp} {F : FZ} {μ : List Addr} {x : D} {v : V} (r : RepV g H F μ x v) : decide (v = .non) = isNon x := by
  rcases r with ⟨n, a, rfl, _, rfl⟩ | r
  · rfl
  · cases x with
    | non => cases (show v = .non from r); rfl
    | bl b => cases (show v = .bl b from r); rfl
    | int b => cases (show v = .int b from r); rfl
    | str b => cases (show v = .str b from r); rfl
    | tup _ => obtain ⟨a, vs, rfl, _⟩ := r; rfl
    | lst _ => obtain ⟨a, vs, rfl, _⟩ := r; rfl
    | rol _ => obtain ⟨a, vs, rfl, _⟩ := r; rfl
    | dct _ _ => obtain ⟨a, vs, rfl, _⟩ := r; rfl
    | obj _ _ => obtain ⟨a, _, _, _, rfl, _⟩ := r; rfl
    | loc _ => exact r.elim
    | err => obtain ⟨p, _, rfl⟩ := r; rfl
theorem lk_is {g : GX} : Lk2 g (fun x y H Q => (y = .non ∧ Q (.bl (decide (x = .non))) H) ∨ (∃ a b, x = .bl a ∧ y = .bl b ∧ Q (.bl (decide (a = b))) H)) bIs := by
  intro E μ F σ S σc H x y vx vy Q R rx ry q
  unfold bIs at q
  split at q
  · exact .inl ⟨ry.non, by rw [isNon_v rx]; exact q.here R.dom (.inr rfl)⟩
  · split at q
    · exact .inr ⟨_, _, rx.bl, ry.bl, q.here R.dom (.inr rfl)⟩
    · exact q.elim
  · exact q.elim
theorem lk_isnot {g : GX} : Lk2 g (fun x y H Q => (y = .non ∧ Q (.bl (!decide (x = .non))) H) ∨ (∃ a b, x = .bl a ∧ y = .bl b ∧ Q (.bl (!decide (a = b))) H)) bIsNot := by
  intro E μ F σ S σc H x y vx vy Q R rx ry q
  unfold bIsNot at q
  split at q
  · exact .inl ⟨ry.non, by rw [isNon_v rx]; exact q.here R.dom (.inr rfl)⟩
  · split at q
    · exact .inr ⟨_, _, rx.bl, ry.bl, q.here R.dom (.inr rfl)⟩
    · exact q.elim
  · exact q.elim
theorem op_isA {X : Cx} : OpR X (compareOp .Is) (fun x y H Q => (y = .non ∧ Q (.bl (decide (x = .non))) H) ∨ (∃ a b, x = .bl a ∧ y = .bl b ∧ Q (.bl (decide (a = b))) H)) := op_isN.or op_is_bl
theorem op_isnotA {X : Cx} : OpR X (compareOp .IsNot) (fun x y H Q => (y = .non ∧ Q (.bl (!decide (x = .non))) H) ∨ (∃ a b, x = .bl a ∧ y = .bl b ∧ Q (.bl (!decide (a = b))) H)) := op_notN.or op_isnot_bl

/-! ### truth, and, or, not, if -/
def truth (S : List SO) (d : D) : Option Bool := match d with
  | .non => some false
  | .bl b => some b
  | .int i => some (i != 0)
  | .str x => if x.length ≤ lim then some ((x.length : Int) != 0) else none
  | .tup xs => some (!xs.isEmpty)
  | d => match rdOf S d with
    | some xs => some (!xs.isEmpty)
    | none => none
theorem isEmpty_len {α β : Type} {xs : List α} {ys : List β} (h : xs.length = ys.length) : xs.isEmpty = ys.isEmpty := by
  cases xs <;> cases ys <;> simp at h <;> rfl
theorem Rel.tru {g : GX} {μ : List Addr} {F : FZ} {σ : Sl} {S : List SO} {σc : St} {H : Hp} (R : Rel g μ F σ S σc H) {d : D} {v : V} {b : Bool} (r : RepV g H F μ d v) (h : truth S d = some b) : TruV g.K v H b := by
  unfold truth at h
  split at h
  · cases r.non
    exact (Option.some.inj h).symm
  · cases r.bl
    exact (Option.some.inj h).symm
  · cases r.int
    exact (Option.some.inj h).symm
  · cases r.str
    split at h
    · rename_i hl
      exact ⟨by rw [lim_eq]; exact hl, (Option.some.inj h).symm⟩
    · cases h
  · rename_i xs
    obtain ⟨a, vs, rfl, h1, h2, h3⟩ := r.tup (xs := xs) rfl
    rw [← Option.some.inj h, isEmpty_len h3.length]
    exact .inr (.inl ⟨vs, h1, rfl⟩)
  · split at h
    · rename_i xs ex
      obtain ⟨a, vs, rfl, h1, h2, h3⟩ := R.rd r ex
      rw [← Option.some.inj h, isEmpty_len h3.length]
      exact .inl ⟨vs, h1, rfl⟩
    · cases h

def cTru (f : CE) : CE := fun σ S => match f σ S with
  | .ok d _ => match truth S d with
    | some b => .ok (.bl b) false
    | none => .bad
  | .ex c as => .ex c as
  | .bad => .bad
def cNot (f : CE) : CE := fun σ S => match f σ S with
  | .ok d _ => match truth S d with
    | some b => .ok (.bl (!b)) false
    | none => .bad
  | .ex c as => .ex c as
  | .bad => .bad
def cAnd (a b : CE) : CE := fun σ S => match a σ S with
  | .ok d _ => match truth S d with
    | some true => b σ S
    | some false => .ok d false
    | none => .bad
  | .ex c as => .ex c as
  | .bad => .bad
def cOr (a b : CE) : CE := fun σ S => match a σ S with
  | .ok d _ => match truth S d with
    | some true => .ok d false
    | some false => b σ S
    | none => .bad
  | .ex c as => .ex c as
  | .bad => .bad
def cIf (c a b : CE) : CE := fun σ S => match c σ S with
  | .ok (.bl true) _ => a σ S
  | .ok (.bl false) _ => b σ S
  | .ok _ _ => .bad
  | .ex c as => .ex c as
  | .bad => .bad
section
variable {X : Cx} {g : GX} {E : WX} {a b c : Expr} {fa fb fc : CE} {pos : Pos}
/-- one value, then what follows of it -/
theorem T.one {f : CE} {k : Sl → List SO → D → Res} {σc : St} {H : Hp} {Q : VK} {R1 : V → Hp → Prop}
    (h : T g E (fun σ S => match f σ S with | .ok d _ => k σ S d | .ex c as => .ex c as | .bad => .bad) σc H Q)
    (w : ∀ (μ : List Addr) (F : FZ) (σ : Sl) (S : List SO) (H1 : Hp) (d : D) (v : V), Rel g μ F σ S σc H1 → RepV g H1 F μ d v → Ok g (wat E σc) H1 F μ (k σ S d) Q → R1 v H1) : T g E f σc H R1 := by
  obtain ⟨μ, F, σ, S, R, q⟩ := h
  refine ⟨μ, F, σ, S, R, ?_⟩
  dsimp only at q
  cases ea : f σ S with
  | bad => rw [ea] at q; exact q
  | ex c as => rw [ea] at q; exact q
  | ok d fr =>
    rw [ea] at q
    intro v H1 F1 s1 x1 r1
    obtain ⟨F2, x2, u2, rx⟩ := r1.frz x1
    exact w μ F2 σ S H1 d v (R.mono s1 x2) rx (q.from s1 x2)
def cTwo (f : CE) (k : Sl → List SO → D → Res) : CE := fun σ S => match f σ S with
  | .ok d _ => k σ S d
  | .ex c as => .ex c as
  | .bad => .bad
theorem Rel.bind {μ : List Addr} {F : FZ} {σ : Sl} {S : List SO} {f : CE} {k : Sl → List SO → D → Res} {σc : St} {H : Hp} {Q : VK} {R1 : V → Hp → Prop} (R : Rel g μ F σ S σc H) (q : Ok g (wat E σc) H F μ (cTwo f k σ S) Q)
    (w : ∀ (H1 : Hp) (F1 : FZ) (d : D) (v : V), Same H H1 → FX F H F1 H1 → Rel g μ F1 σ S σc H1 → RepV g H1 F1 μ d v → Ok g (wat E σc) H1 F1 μ (k σ S d) Q → R1 v H1) : T g E f σc H R1 := by
  refine ⟨μ, F, σ, S, R, ?_⟩
  unfold cTwo at q
  cases ea : f σ S with
  | bad => rw [ea] at q; exact q
  | ex c as => rw [ea] at q; exact q
  | ok d fr =>
    rw [ea] at q
    intro v H1 F1 s1 x1 r1
    obtain ⟨F2, x2, u2, rx⟩ := r1.frz x1
    exact w H1 F2 d v s1 x2 (R.mono s1 x2) rx (q.from s1 x2)
/-- a test, then what follows of it -/
theorem TB.one {f : CE} {k : Sl → List SO → Bool → Res} {σc : St} {H : Hp} {Q : VK} {R1 : Bool → Hp → Prop}
    (h : T g E (fun σ S => match f σ S with | .ok (.bl b) _ => k σ S b | .ok _ _ => .bad | .ex c as => .ex c as | .bad => .bad) σc H Q)
    (w : ∀ (μ : List Addr) (F : FZ) (σ : Sl) (S : List SO) (H1 : Hp) (b : Bool), Rel g μ F σ S σc H1 → Ok g (wat E σc) H1 F μ (k σ S b) Q → R1 b H1) : TB g E f σc H R1 := by
  obtain ⟨μ, F, σ, S, R, q⟩ := h
  refine ⟨μ, F, σ, S, R, ?_⟩
  dsimp only at q
  cases ea : f σ S with
  | bad => rw [ea] at q; exact q
  | ex c as => rw [ea] at q; exact q
  | ok d fr =>
    rw [ea] at q
    cases d with
    | bl b =>
      intro v H1 F1 s1 x1 r1
      obtain ⟨F2, x2, u2, rx⟩ := r1.frz x1
      exact ⟨b, rx.bl, w μ F2 σ S H1 b (R.mono s1 x2) (q.from s1 x2)⟩
    | _ => exact q.elim
theorem Rel.ok (R : Rel g μ F σ S σc H) {f : CE} {Q : VK} (q : Ok g (wat E σc) H F μ (f σ S) Q) : T g E f σc H Q := ⟨μ, F, σ, S, R, q⟩

theorem q_tru (ha : PE X a (T g E fa)) (hg : X.K = g.K := by rfl) (he : ∀ whole, isTrue a X.env whole = (do let v ← whole; standAt a.pos; holding [v] (truthy v)) := by intro _; rfl) : PT X a (TB g E (cTru fa)) :=
  (pt_truth ha he).hc fun σc H Q h => T.one h fun μ F σ S H1 d v R r q => by
    split at q
    · rename_i b e
      obtain ⟨k, e2, z⟩ := q.here R.dom (v := .bl b) (.inr rfl)
      cases e2
      exact ⟨b, by rw [hg]; exact R.tru r e, z⟩
    · exact q.elim
/-- a value that is True or False, as a test -/
theorem q_trB (ha : PE X a (T g E fa)) (he : ∀ whole, isTrue a X.env whole = (do let v ← whole; standAt a.pos; holding [v] (truthy v)) := by intro _; rfl) : PT X a (TB g E fa) := pt_val ha he
theorem q_not (ha : PE X a (T g E fa)) (hg : X.K = g.K := by rfl) : PE X (.UnaryOp .Not a pos) (T g E (cNot fa)) :=
  (pe_notT ha).hc fun σc H Q h => T.one h fun μ F σ S H1 d v R r q => by
    split at q
    · rename_i b e
      exact ⟨b, by rw [hg]; exact R.tru r e, q.here R.dom (.inr rfl)⟩
    · exact q.elim
def cNotB (f : CE) : CE := fun σ S => match f σ S with
  | .ok (.bl b) _ => .ok (.bl (!b)) false
  | .ok _ _ => .bad
  | .ex c as => .ex c as
  | .bad => .bad
theorem q_notT (ha : PT X a (TB g E fa)) : PT X (.UnaryOp .Not a pos) (TB g E (cNotB fa)) :=
  (pt_not ha).hc fun σc H Q h => TB.one (k := fun _ _ b => .ok (.bl (!b)) false) h fun μ F σ S H1 b R q => by
    obtain ⟨k, e, z⟩ := q.here R.dom (v := .bl (!b)) (.inr rfl)
    cases e
    exact z
theorem q_one {op} (ha : PE X a (T g E fa)) : PE X (.BoolOp op [a] pos) (T g E fa) := pe_one ha
theorem q_and {rest : List Expr} (ha : PE X a (T g E fa)) (hb : PE X (.BoolOp .And (b :: rest) pos) (T g E fb)) (hg : X.K = g.K := by rfl) : PE X (.BoolOp .And (a :: b :: rest) pos) (T g E (cAnd fa fb)) :=
  (pe_andT ha hb).hc fun σc H Q h => T.one (k := fun σ S d => match truth S d with | some true => fb σ S | some false => .ok d false | none => .bad) h fun μ F σ S H1 d v R r q => by
    split at q
    · rename_i e
      exact ⟨true, by rw [hg]; exact R.tru r e, iteT (R.ok q)⟩
    · rename_i e
      exact ⟨false, by rw [hg]; exact R.tru r e, iteF (q.here R.dom r)⟩
    · exact q.elim
theorem q_or {rest : List Expr} (ha : PE X a (T g E fa)) (hb : PE X (.BoolOp .Or (b :: rest) pos) (T g E fb)) (hg : X.K = g.K := by rfl) : PE X (.BoolOp .Or (a :: b :: rest) pos) (T g E (cOr fa fb)) :=
  (pe_orT ha hb).hc fun σc H Q h => T.one (k := fun σ S d => match truth S d with | some true => .ok d false | some false => fb σ S | none => .bad) h fun μ F σ S H1 d v R r q => by
    split at q
    · rename_i e
      exact ⟨true, by rw [hg]; exact R.tru r e, iteT (q.here R.dom r)⟩
    · rename_i e
      exact ⟨false, by rw [hg]; exact R.tru r e, iteF (R.ok q)⟩
    · exact q.elim
/-- tests joined -/
def cAndB (a b : CE) : CE := fun σ S => match a σ S with
  | .ok (.bl true) _ => b σ S
  | .ok (.bl false) _ => .ok (.bl false) false
  | .ok _ _ => .bad
  | .ex c as => .ex c as
  | .bad => .bad
def cOrB (a b : CE) : CE := fun σ S => match a σ S with
  | .ok (.bl true) _ => .ok (.bl true) false
  | .ok (.bl false) _ => b σ S
  | .ok _ _ => .bad
  | .ex c as => .ex c as
  | .bad => .bad
theorem two_b {f : CE} {kt kf : CE} (σ : Sl) (S : List SO) : (match f σ S with | .ok (.bl true) _ => kt σ S | .ok (.bl false) _ => kf σ S | .ok _ _ => .bad | .ex c as => .ex c as | .bad => (.bad : Res)) =
    (match f σ S with | .ok (.bl b) _ => (fun σ S (b : Bool) => if b = true then kt σ S else kf σ S) σ S b | .ok _ _ => .bad | .ex c as => .ex c as | .bad => (.bad : Res)) := by
  cases f σ S with
  | ok d fr =>
    cases d with
    | bl b => cases b <;> rfl
    | _ => rfl
  | _ => rfl
theorem TB.two {f kt kf : CE} {σc : St} {H : Hp} {Q : VK} {R1 : Bool → Hp → Prop}
    (h : T g E (fun σ S => match f σ S with | .ok (.bl true) _ => kt σ S | .ok (.bl false) _ => kf σ S | .ok _ _ => .bad | .ex c as => .ex c as | .bad => .bad) σc H Q)
    (w : ∀ (μ : List Addr) (F : FZ) (σ : Sl) (S : List SO) (H1 : Hp) (b : Bool), Rel g μ F σ S σc H1 → Ok g (wat E σc) H1 F μ (if b = true then kt σ S else kf σ S) Q → R1 b H1) : TB g E f σc H R1 := by
  refine TB.one (k := fun σ S b => if b = true then kt σ S else kf σ S) ?_ w
  obtain ⟨μ, F, σ, S, R, q⟩ := h
  have e := two_b (f := f) (kt := kt) (kf := kf) σ S
  dsimp only at q e
  rw [e] at q
  exact ⟨μ, F, σ, S, R, q⟩
theorem w_and1 (ha : PT X a (TB g E fa)) : PW X (.BoolOp .And [a] pos) (TB g E fa) := pw_and1 ha
theorem w_or1 (ha : PT X a (TB g E fa)) : PW X (.BoolOp .Or [a] pos) (TB g E fa) := pw_or1 ha
theorem w_and {rest : List Expr} (ha : PT X a (TB g E fa)) (hb : PW X (.BoolOp .And (b :: rest) pos) (TB g E fb)) : PW X (.BoolOp .And (a :: b :: rest) pos) (TB g E (cAndB fa fb)) :=
  (pw_and ha hb).hc fun σc H Q h => TB.two (kt := fb) (kf := fun _ _ => .ok (.bl false) false) h fun μ F σ S H1 c R q => by
    cases c with
    | true => exact iteT (R.ok q)
    | false =>
      obtain ⟨k, e, z⟩ := q.here R.dom (v := .bl false) (.inr rfl)
      cases e
      exact iteF z
theorem w_or {rest : List Expr} (ha : PT X a (TB g E fa)) (hb : PW X (.BoolOp .Or (b :: rest) pos) (TB g E fb)) : PW X (.BoolOp .Or (a :: b :: rest) pos) (TB g E (cOrB fa fb)) :=
  (pw_or ha hb).hc fun σc H Q h => TB.two (kt := fun _ _ => .ok (.bl true) false) (kf := fb) h fun μ F σ S H1 c R q => by
    cases c with
    | true =>
      obtain ⟨k, e, z⟩ := q.here R.dom (v := .bl true) (.inr rfl)
      cases e
      exact iteT z
    | false => exact iteF (R.ok q)
theorem q_if (hc : PT X c (TB g E fc)) (ha : PE X a (T g E fa)) (hb : PE X b (T g E fb)) : PE X (.IfExp c a b pos) (T g E (cIf fc fa fb)) :=
  (pe_ifExp hc ha hb).hc fun σc H Q h => TB.two (kt := fa) (kf := fb) h fun μ F σ S H1 c R q => by
    cases c with
    | true => exact iteT (R.ok q)
    | false => exact iteF (R.ok q)
end

/-! ### arguments, tuples, lists -/
inductive ResL where
  | ok (ds : List D) | ex (c : Nat) (as : List D) | bad
abbrev CA := Sl → List SO → ResL
def OkL (g : GX) (E : XK) (H : Hp) (F : FZ) (μ : List Addr) (r : ResL) (Q : List V → Hp → Prop) : Prop := match r with
  | .ok ds => ∀ vs H' F', Same H H' → FX F H F' H' → RepVs g H' F' μ ds vs → Q vs H'
  | .ex c as => ∀ cls dx H' F', Same H H' → FX F H F' H' → RepX g H' F' μ c as cls dx → E cls dx H'
  | .bad => False
def TL (g : GX) (E : WX) (f : CA) : TA := fun σc H Q => ∃ μ F σ S, Rel g μ F σ S σc H ∧ OkL g (wat E σc) H F μ (f σ S) Q
theorem OkL.from {g : GX} {E : XK} {H H1 : Hp} {F F1 : FZ} {μ : List Addr} {r : ResL} {Q : List V → Hp → Prop} (h : OkL g E H F μ r Q) (s : Same H H1) (x : FX F H F1 H1) : OkL g E H1 F1 μ r Q := by
  cases r with
  | ok d => exact fun v H' F' s' x' rr => h v H' F' (s.trans s') (x.trans s x') rr
  | ex c as => exact fun cls dx H' F' s' x' rr => h cls dx H' F' (s.trans s') (x.trans s x') rr
  | bad => exact h
def cNil : CA := fun _ _ => .ok []
def cCons (a : CE) (r : CA) : CA := fun σ S => match a σ S with
  | .ok d _ => match r σ S with
    | .ok ds => .ok (d :: ds)
    | .ex c as => .ex c as
    | .bad => .bad
  | .ex c as => .ex c as
  | .bad => .bad
/-- what a call does with its arguments -/
def cApp (fn : List SO → List D → Res) (f : CA) : CE := fun σ S => match f σ S with
  | .ok ds => fn S ds
  | .ex c as => .ex c as
  | .bad => .bad
theorem TL.app {g : GX} {E : WX} {f : CA} {fn : List SO → List D → Res} {σc : St} {H : Hp} {Q : VK} {R1 : List V → Hp → Prop} (h : T g E (cApp fn f) σc H Q)
    (w : ∀ (μ : List Addr) (F : FZ) (σ : Sl) (S : List SO) (H1 : Hp) (ds : List D) (vs : List V), Rel g μ F σ S σc H1 → RepVs g H1 F μ ds vs → Ok g (wat E σc) H1 F μ (fn S ds) Q → R1 vs H1) : TL g E f σc H R1 := by
  obtain ⟨μ, F, σ, S, R, q⟩ := h
  refine ⟨μ, F, σ, S, R, ?_⟩
  unfold cApp at q
  cases ea : f σ S with
  | bad => rw [ea] at q; exact q
  | ex c as => rw [ea] at q; exact q
  | ok ds =>
    rw [ea] at q
    exact fun vs H1 F1 s1 x1 r1 => w μ F1 σ S H1 ds vs (R.mono s1 x1) r1 (q.from s1 x1)
def fTup (_ : List SO) (ds : List D) : Res := if pureL ds && decide (ds.length ≤ lim) then .ok (.tup ds) false else .bad
def fLst (_ : List SO) (ds : List D) : Res := if pureL ds && decide (ds.length ≤ lim) then .ok (.lst ds) true else .bad
section
variable {X : Cx} {g : GX} {E : WX} {e : Expr} {es : List Expr} {f : CE} {fr : CA} {pos : Pos}
theorem qa_nil : PA X [] (TL g E cNil) := pa_nil.hc fun σc H Q ⟨μ, F, σ, S, R, q⟩ => q [] H F (Same.refl H) R.fx .nil
theorem qa_cons (ha : PE X e (T g E f)) (hr : PA X es (TL g E fr)) (hs : starEach (e :: es) X.env = (false, eval e X.env) :: starEach es X.env := by rfl) : PA X (e :: es) (TL g E (cCons f fr)) :=
  (pa_cons ha hr hs).hc fun σc H Q ⟨μ, F, σ, S, R, q⟩ => by
    refine ⟨μ, F, σ, S, R, ?_⟩
    unfold cCons at q
    cases ea : f σ S with
    | bad => rw [ea] at q; exact q
    | ex c as => rw [ea] at q; exact q
    | ok d fl =>
      rw [ea] at q
      intro v H1 F1 s1 x1 r1
      obtain ⟨F2, x2, u2, rx⟩ := r1.frz x1
      refine ⟨μ, F2, σ, S, R.mono s1 x2, ?_⟩
      have q : OkL g (wat E σc) H F μ (match fr σ S with | .ok ds => .ok (d :: ds) | .ex c as => .ex c as | .bad => .bad) Q := q
      cases eb : fr σ S with
      | bad => rw [eb] at q; exact q
      | ex c as =>
        rw [eb] at q
        exact fun cls dx H' F' s' x' rr => q cls dx H' F' (s1.trans s') (x2.trans s1 x') rr
      | ok ds =>
        rw [eb] at q
        exact fun vs H3 F3 s3 x3 r3 => q (v :: vs) H3 F3 (s1.trans s3) (x2.trans s1 x3) (.cons (rx.mono s3 x3.up) r3)
theorem q_tup {x1} (h : PA X es (TL g E fr)) : PE X (.Tuple es x1 pos) (T g E (cApp fTup fr)) := (pe_tup h).hc fun σc H Q h => TL.app h fun μ F σ S H1 ds vs R r q => by
  unfold fTup at q
  split at q
  · rename_i hp
    rw [Bool.and_eq_true, decide_eq_true_eq] at hp
    have hl : vs.length ≤ sizeLine := by rw [lim_eq, ← r.length]; exact hp.2
    exact ⟨hl, fun p hn => q.tup R.dom hn hl (r.pure hp.1)⟩
  · exact q.elim
theorem q_lst (h : PA X es (TL g E fr)) : PE X (.List es pos) (T g E (cApp fLst fr)) := (pe_lst h).hc fun σc H Q h => TL.app h fun μ F σ S H1 ds vs R r q => by
  unfold fLst at q
  split at q
  · rename_i hp
    rw [Bool.and_eq_true, decide_eq_true_eq] at hp
    have hl : vs.length ≤ sizeLine := by rw [lim_eq, ← r.length]; exact hp.2
    exact ⟨hl, fun p hn => q.lst R.dom (fun a h => R.mu_there h) hn hl (r.pure hp.1)⟩
  · exact q.elim
end
end HC

set_option maxRecDepth 100000
namespace HC
open PySem PySem.Spec L2
open PyProof.Rows hiding St

/-! ## places, slices -/
def atD (xs : List D) (i : Int) : Option D := match i with
  | .ofNat n => gets xs n
  | .negSucc m => if m + 1 ≤ xs.length then gets xs (xs.length - (m + 1)) else none
theorem atD_at {xs : List D} {i : Int} {d : D} (h : atD xs i = some d) {α : Type} {vs : List α} (hl : xs.length = vs.length) : ∃ j : Nat, xs[j]? = some d ∧ ∀ v, vs[j]? = some v → atI vs i = some v := by
  unfold atD at h
  split at h
  · rename_i n
    rw [gets_eq] at h
    exact ⟨n, h, fun v e => atI_nat e⟩
  · rename_i m
    split at h
    · rename_i hm
      rw [gets_eq] at h
      refine ⟨_, h, fun v e => ?_⟩
      unfold atI ixN
      rw [if_neg (by omega), ← hl, if_pos (by omega)]
      show vs[(Int.negSucc m + (xs.length : Int)).toNat]? = some v
      rw [show (Int.negSucc m + (xs.length : Int)).toNat = xs.length - (m + 1) by omega]
      exact e
    · cases h
def strAt (z : Str) (i : Int) : Option Nat := match i with
  | .ofNat n => gets z.cps.toList n
  | .negSucc m => if m + 1 ≤ z.cps.toList.length then gets z.cps.toList (z.cps.toList.length - (m + 1)) else none
theorem strAt_at {z : Str} {i : Int} {c : Nat} (h : strAt z i = some c) : atI z.cps.toList i = some c := by
  unfold strAt at h
  split at h
  · rw [gets_eq] at h
    exact atI_nat h
  · rename_i m
    split at h
    · rename_i hm
      rw [gets_eq] at h
      unfold atI ixN
      rw [if_neg (by omega), if_pos (by omega)]
      show z.cps.toList[(Int.negSucc m + (z.cps.toList.length : Int)).toNat]? = some c
      rw [show (Int.negSucc m + (z.cps.toList.length : Int)).toNat = z.cps.toList.length - (m + 1) by omega]
      exact h
    · cases h
def bIx (S : List SO) (x y : D) : Res := match y with
  | .int i => match seqOf S x with
    | some xs => match atD xs i with
      | some d => .ok d false
      | none => .bad
    | none => match x with
      | .str z => if z.length ≤ lim then (match strAt z i with
        | some c => .ok (.str ⟨#[c]⟩) false
        | none => .bad) else .bad
      | _ => .bad
  | _ => .bad
section
variable {g : GX} {μ : List Addr} {F : FZ} {σ : Sl} {S : List SO} {σc : St} {H : Hp}
/-- a list or a tuple -/
theorem Rel.seq (R : Rel g μ F σ S σc H) {d : D} {v : V} {xs : List D} (r : RepV g H F μ d v) (h : seqOf S d = some xs) : ∃ a vs, v = .ref a ∧ (SqL g.K H a vs ∨ SqT g.K H a vs) ∧ vs.length ≤ sizeLine ∧ RepVs g H F μ xs vs := by
  rcases seqOf_cases h with e | e
  · obtain ⟨a, vs, rfl, h1, h2, h3⟩ := r.tup e
    exact ⟨a, vs, rfl, .inr h1, h2, h3.vs⟩
  · obtain ⟨a, vs, rfl, h1, h2, h3⟩ := R.rd r e
    exact ⟨a, vs, rfl, .inl h1, h2, h3⟩
theorem lk_ix : Lk2 g (rIx g.K) bIx := by
  intro E μ F σ S σc H x y vx vy Q R rx ry q
  unfold bIx at q
  split at q
  · split at q
    · rename_i i xs ex
      split at q
      · rename_i d ed
        obtain ⟨a, vs, rfl, h1, h2, h3⟩ := R.seq rx ex
        obtain ⟨j, ej, k⟩ := atD_at ed h3.length
        obtain ⟨v, ev, rv⟩ := h3.get ej
        have z := q.here R.dom rv
        rcases h1 with h1 | h1
        · exact .inl ⟨a, vs, _, v, rfl, ry.int, h1, k v ev, z⟩
        · exact .inr (.inl ⟨a, vs, _, v, rfl, ry.int, h1, k v ev, z⟩)
      · exact q.elim
    · split at q
      · split at q
        · rename_i hl
          split at q
          · rename_i c ec
            exact .inr (.inr ⟨_, _, c, rx.str, ry.int, by rw [lim_eq]; exact hl, strAt_at ec, q.here R.dom (.inr rfl)⟩)
          · exact q.elim
        · exact q.elim
      · exact q.elim
  · exact q.elim
end
section
variable {X : Cx} {g : GX} {E : WX} {a b : Expr} {fa fb fc : CE} {pos p2 : Pos}
theorem q_ix (ha : PE X a (T g E fa)) (hb : PE X b (T g E fb)) (hg : X.K = g.K := by rfl) (hs : PlainIx b := by exact fun _ _ => rfl) : PE X (.Subscript a b pos) (T g E (cBin bIx fa fb)) :=
  (pe_ix ix_seq ha hb hs).hc fun σc H Q h => T.two h fun μ F σ S H2 x y vx vy R rx ry q => by rw [hg]; exact lk_ix (wat E σc) μ F σ S σc H2 x y vx vy Q R rx ry q

/-- a part of a slice -/
inductive ResP where
  | ok (i : Option Int) | ex (c : Nat) (as : List D) | bad
def cutI (n d : Nat) : Option Int → Nat
  | none => d
  | some (.ofNat k) => if k ≤ n then k else n
  | some (.negSucc m) => n - (m + 1)
theorem cutI_eq (n d : Nat) (o : Option Int) : cutI n d o = HT.sIx n d o := by
  cases o with
  | none => rfl
  | some i =>
    cases i with
    | ofNat k =>
      show (if k ≤ n then k else n) = _
      rw [show HT.sIx n d (some (Int.ofNat k)) = min k n from HT.sIx_nat n d k]
      split <;> omega
    | negSucc m =>
      show n - (m + 1) = HT.sIx n d (some (Int.negSucc m))
      have h := HT.clip_eq (Int.negSucc m) n d
      rw [if_pos (by omega)] at h
      omega
def cutD (xs : List D) (lo hi : Option Int) : List D := let n := xs.length; let a := cutI n 0 lo; (xs.drop a).take (cutI n n hi - a)
def fCut (S : List SO) (x : D) (lo hi : Option Int) : Res := match x with
  | .tup xs => .ok (.tup (cutD xs lo hi)) false
  | x => match rdOf S x with
    | some xs => if pureL xs then .ok (.lst (cutD xs lo hi)) true else .bad
    | none => .bad

def kInt (k : Int → Res) : D → Res
  | .int i => k i
  | _ => .bad
def cCutLH (f l h : CE) : CE := cTwo f fun σ S x => cTwo l (fun σ S => kInt fun i => cTwo h (fun _ S => kInt fun j => fCut S x (some i) (some j)) σ S) σ S
def cCutL (f l : CE) : CE := cTwo f fun σ S x => cTwo l (fun _ S => kInt fun i => fCut S x (some i) none) σ S
def cCutH (f h : CE) : CE := cTwo f fun σ S x => cTwo h (fun _ S => kInt fun j => fCut S x none (some j)) σ S
def cCutA (f : CE) : CE := cTwo f fun _ S x => fCut S x none none
theorem RepL.cut {H : Hp} {F : FZ} {xs : List D} {vs : List V} (r : RepL g H F xs vs) (lo hi : Option Int) : RepL g H F (cutD xs lo hi) (cutV vs lo hi) := by
  have e : cutD xs lo hi = (xs.drop (HT.sIx vs.length 0 lo)).take (HT.sIx vs.length vs.length hi - HT.sIx vs.length 0 lo) := by
    unfold cutD
    dsimp only
    rw [cutI_eq, cutI_eq, r.length]
  rw [e]
  exact (r.drop _).take _
theorem cut_whole {vs : List V} {lo hi : Option Int} (h : HT.sIx vs.length 0 lo = 0 ∧ HT.sIx vs.length vs.length hi = vs.length) {xs : List D} (hl : xs.length = vs.length) : cutD xs lo hi = xs := by
  unfold cutD
  dsimp only
  rw [cutI_eq, cutI_eq, hl, h.1, h.2, ← hl]
  simp
theorem lk_cut {E : XK} {H : Hp} {μ : List Addr} {F : FZ} {σ : Sl} {S : List SO} {σc : St} {x : D} {vx : V} {lo hi : Option Int} {Q : VK} (R : Rel g μ F σ S σc H) (rx : RepV g H F μ x vx) (q : Ok g E H F μ (fCut S x lo hi) Q) :
    (rSlA g.K vx lo hi H Q ∨ rSlL g.K vx lo hi H Q) := by
  unfold fCut at q
  split at q
  · rename_i xs
    obtain ⟨a, vs, rfl, h1, h2, h3⟩ := rx.tup (xs := xs) rfl
    refine .inl ⟨a, vs, rfl, h1, fun w => ?_, fun _ p hp => ?_⟩
    · rw [cut_whole w h3.length] at q
      exact q.here R.dom rx
    · exact q.tup R.dom hp (Nat.le_trans (cutV_length _ _ _) h2) (h3.cut _ _)
  · split at q
    · rename_i xs ex
      split at q
      · rename_i hp
        obtain ⟨a, vs, rfl, h1, h2, h3⟩ := R.rd rx ex
        exact .inr ⟨a, vs, rfl, h1, fun p hn => q.lst R.dom (fun a h => R.mu_there h) hn (Nat.le_trans (cutV_length _ _ _) h2) ((h3.pure hp).cut _ _)⟩
      · exact q.elim
    · exact q.elim
theorem kInt_ok {E : XK} {H : Hp} {μ : List Addr} {F : FZ} {k : Int → Res} {d : D} {v : V} {Q : VK} (r : RepV g H F μ d v) (q : Ok g E H F μ (kInt k d) Q) : ∃ i, v = .int i ∧ Ok g E H F μ (k i) Q := by
  cases d with
  | int i => exact ⟨i, r.int, q⟩
  | _ => exact q.elim
theorem q_slLH {l h : Expr} (ha : PE X a (T g E fa)) (hl : PE X l (T g E fb)) (hh : PE X h (T g E fc)) (hg : X.K = g.K := by rfl) : PE X (.Subscript a (.Slice (some l) (some h) none p2) pos) (T g E (cCutLH fa fb fc)) :=
  (pe_slice (sl_tupA.or sl_list) ha (po_some hl) (po_some hh)).hc fun σc H Q ⟨μ, F, σ, S, R, q⟩ => R.bind q fun H1 F1 x v s1 x1 R1 rx q => R1.bind q fun H2 F2 y w s2 x2 R2 ry q => by
    obtain ⟨i, rfl, q⟩ := kInt_ok ry q
    refine ⟨i, rfl, R2.bind q fun H3 F3 z w s3 x3 R3 rz q => ?_⟩
    obtain ⟨j, rfl, q⟩ := kInt_ok rz q
    exact ⟨j, rfl, by rw [hg]; exact lk_cut R3 ((rx.mono s2 x2.up).mono s3 x3.up) q⟩
theorem q_slL {l : Expr} (ha : PE X a (T g E fa)) (hl : PE X l (T g E fb)) (hg : X.K = g.K := by rfl) : PE X (.Subscript a (.Slice (some l) none none p2) pos) (T g E (cCutL fa fb)) :=
  (pe_slice (sl_tupA.or sl_list) ha (po_some hl) po_none).hc fun σc H Q ⟨μ, F, σ, S, R, q⟩ => R.bind q fun H1 F1 x v s1 x1 R1 rx q => R1.bind q fun H2 F2 y w s2 x2 R2 ry q => by
    obtain ⟨i, rfl, q⟩ := kInt_ok ry q
    exact ⟨i, rfl, by rw [hg]; exact lk_cut R2 (rx.mono s2 x2.up) q⟩
theorem q_slH {l : Expr} (ha : PE X a (T g E fa)) (hl : PE X l (T g E fb)) (hg : X.K = g.K := by rfl) : PE X (.Subscript a (.Slice none (some l) none p2) pos) (T g E (cCutH fa fb)) :=
  (pe_slice (sl_tupA.or sl_list) ha po_none (po_some hl)).hc fun σc H Q ⟨μ, F, σ, S, R, q⟩ => R.bind q fun H1 F1 x v s1 x1 R1 rx q => R1.bind q fun H2 F2 y w s2 x2 R2 ry q => by
    obtain ⟨i, rfl, q⟩ := kInt_ok ry q
    exact ⟨i, rfl, by rw [hg]; exact lk_cut R2 (rx.mono s2 x2.up) q⟩
theorem q_slA (ha : PE X a (T g E fa)) (hg : X.K = g.K := by rfl) : PE X (.Subscript a (.Slice none none none p2) pos) (T g E (cCutA fa)) :=
  (pe_slice (sl_tupA.or sl_list) ha po_none po_none).hc fun σc H Q ⟨μ, F, σ, S, R, q⟩ => R.bind q fun H1 F1 x v s1 x1 R1 rx q => by
    show rSlA X.K v none none H1 Q ∨ rSlL X.K v none none H1 Q
    rw [hg]
    exact lk_cut R1 rx q
end
end HC

set_option maxRecDepth 100000
namespace HC
open PySem PySem.Spec L2
open PyProof.Rows hiding St

/-! ## calls of built-ins -/
def LkC (g : GX) (r : List V → Hp → VK → Prop) (fn : List SO → List D → Res) : Prop :=
  ∀ (E : XK) (μ : List Addr) (F : FZ) (σ : Sl) (S : List SO) (σc : St) (H : Hp) (ds : List D) (vs : List V) (Q : VK), Rel g μ F σ S σc H → RepVs g H F μ ds vs → Ok g E H F μ (fn S ds) Q → r vs H Q
section
variable {X : Cx} {g : GX} {E : WX} {x : Str} {p pos : Pos} {e : Expr} {es : List Expr} {f : CA} {id T' : String} {r : List V → Hp → VK → Prop} {fn : List SO → List D → Res}
theorem q_callB (hc : CallR X (.builtin id) r) (l : LkC g r fn) (hg : Gl X x) (hm : X.mg x = none) (hv : bootBuiltins x = some (.builtin id)) (ha : PA X (e :: es) (TL g E f)) (hn : x ≠ "__name__" := by decide) (hdb : (x == ("__debug__" : Str)) = false := by decide)
    (he : starEach (e :: es) X.env = (false, eval e X.env) :: starEach es X.env := by rfl) (hpl : (backTo pos (starEach es X.env)).any (·.1) = false := by rfl) : PE X (.Call (.Name x p) (e :: es) [] pos) (T g E (cApp fn f)) :=
  (pe_callB hc hg hm hv ha hn hdb he hpl).hc fun σc H Q h => TL.app h fun μ F σ S H1 ds vs R r q => l (wat E σc) μ F σ S σc H1 ds vs Q R r q
theorem q_callTy (hc : CallR X (.type T') r) (l : LkC g r fn) (hg : Gl X x) (hm : X.mg x = none) (hv : bootBuiltins x = some (.type T')) (ha : PA X (e :: es) (TL g E f)) (hn : x ≠ "__name__" := by decide) (hdb : (x == ("__debug__" : Str)) = false := by decide)
    (he : starEach (e :: es) X.env = (false, eval e X.env) :: starEach es X.env := by rfl) (hpl : (backTo pos (starEach es X.env)).any (·.1) = false := by rfl) : PE X (.Call (.Name x p) (e :: es) [] pos) (T g E (cApp fn f)) :=
  (pe_callTy hc hg hm hv ha hn hdb he hpl).hc fun σc H Q h => TL.app h fun μ F σ S H1 ds vs R r q => l (wat E σc) μ F σ S σc H1 ds vs Q R r q
theorem CallR.or {f : Value} {r r' : List V → Hp → VK → Prop} (h : CallR X f r) (h' : CallR X f r') : CallR X f (fun xs H Q => r xs H Q ∨ r' xs H Q) := by
  intro pins s σ H xs us Q I rv q
  rcases q with q | q
  · exact h pins s σ H xs us Q I rv q
  · exact h' pins s σ H xs us Q I rv q
end
theorem RepVs.one {g : GX} {H : Hp} {F : FZ} {μ : List Addr} {d : D} {vs : List V} (r : RepVs g H F μ [d] vs) : ∃ v, vs = [v] ∧ RepV g H F μ d v := by
  cases r with
  | cons r t =>
    cases t
    exact ⟨_, rfl, r⟩
theorem RepVs.two {g : GX} {H : Hp} {F : FZ} {μ : List Addr} {d e : D} {vs : List V} (r : RepVs g H F μ [d, e] vs) : ∃ v w, vs = [v, w] ∧ RepV g H F μ d v ∧ RepV g H F μ e w := by
  cases r with
  | cons r t =>
    obtain ⟨w, rfl, t2⟩ := RepVs.one t
    exact ⟨_, w, rfl, r, t2⟩

/-- len -/
def fLen (S : List SO) (ds : List D) : Res := match ds with
  | [d] => match seqOf S d with
    | some xs => .ok (.int xs.length) false
    | none => match d with
      | .str z => if z.length ≤ lim then .ok (.int z.length) false else .bad
      | _ => .bad
  | _ => .bad
theorem lk_len {g : GX} : LkC g (fun xs H Q => ∃ x n, xs = [x] ∧ LenV g.K x H n ∧ Q (.int n) H) fLen := by
  intro E μ F σ S σc H ds vs Q R r q
  unfold fLen at q
  split at q
  · obtain ⟨v, rfl, rv⟩ := r.one
    split at q
    · rename_i d xs ex
      obtain ⟨a, ws, rfl, h1, h2, h3⟩ := R.seq rv ex
      refine ⟨_, ws.length, rfl, ?_, ?_⟩
      · rcases h1 with h1 | h1
        · exact .inl ⟨ws, h1, rfl⟩
        · exact .inr ⟨ws, h1, rfl⟩
      · rw [← h3.length]
        exact q.here R.dom (.inr rfl)
    · split at q
      · split at q
        · rename_i hl
          cases rv.str
          exact ⟨_, _, rfl, ⟨by rw [lim_eq]; exact hl, rfl⟩, q.here R.dom (.inr rfl)⟩
        · exact q.elim
      · exact q.elim
  · exact q.elim
/-- int -/
def fInt (_ : List SO) (ds : List D) : Res := match ds with
  | [.int i] => .ok (.int i) false
  | [.bl b] => .ok (.int (if b then 1 else 0)) false
  | _ => .bad
theorem lk_int {g : GX} : LkC g (fun xs H Q => (∃ i, xs = [.int i] ∧ Q (.int i) H) ∨ ∃ k, xs = [.bl k] ∧ Q (.int (if k then 1 else 0)) H) fInt := by
  intro E μ F σ S σc H ds vs Q R r q
  unfold fInt at q
  split at q
  · obtain ⟨v, rfl, rv⟩ := r.one
    cases rv.int
    exact .inl ⟨_, rfl, q.here R.dom (.inr rfl)⟩
  · obtain ⟨v, rfl, rv⟩ := r.one
    cases rv.bl
    exact .inr ⟨_, rfl, q.here R.dom (.inr rfl)⟩
  · exact q.elim
/-- tuple, list -/
def fTuple (S : List SO) (ds : List D) : Res := match ds with
  | [.tup xs] => .ok (.tup xs) false
  | [d] => match rdOf S d with
    | some xs => if pureL xs then .ok (.tup xs) false else .bad
    | none => .bad
  | _ => .bad
theorem lk_tuple {g : GX} : LkC g (fun xs H Q => ∃ p ys, xs = [.ref p] ∧ ((SqL g.K H p ys ∧ ∀ l, H l = none → Q (.ref l) (upd H l (.tup ys))) ∨ (SqT g.K H p ys ∧ Q (.ref p) H))) fTuple := by
  intro E μ F σ S σc H ds vs Q R r q
  unfold fTuple at q
  split at q
  · rename_i xs
    obtain ⟨v, rfl, rv⟩ := r.one
    obtain ⟨a, ws, rfl, h1, h2, h3⟩ := rv.tup (xs := xs) rfl
    exact ⟨a, ws, rfl, .inr ⟨h1, q.here R.dom rv⟩⟩
  · obtain ⟨v, rfl, rv⟩ := r.one
    split at q
    · rename_i xs ex
      split at q
      · rename_i hp
        obtain ⟨a, ws, rfl, h1, h2, h3⟩ := R.rd rv ex
        exact ⟨a, ws, rfl, .inl ⟨h1, fun l hl => q.tup R.dom hl h2 (h3.pure hp)⟩⟩
      · exact q.elim
    · exact q.elim
  · exact q.elim
def fList (S : List SO) (ds : List D) : Res := match ds with
  | [d] => match seqOf S d with
    | some xs => if pureL xs then .ok (.lst xs) true else .bad
    | none => .bad
  | _ => .bad
theorem lk_list {g : GX} : LkC g (fun xs H Q => ∃ p ys, xs = [.ref p] ∧ (SqL g.K H p ys ∨ SqT g.K H p ys) ∧ ∀ l, H l = none → Q (.ref l) (upd H l (.lst ys))) fList := by
  intro E μ F σ S σc H ds vs Q R r q
  unfold fList at q
  split at q
  · obtain ⟨v, rfl, rv⟩ := r.one
    split at q
    · rename_i xs ex
      split at q
      · rename_i hp
        obtain ⟨a, ws, rfl, h1, h2, h3⟩ := R.seq rv ex
        exact ⟨a, ws, rfl, h1, fun l hl => q.lst R.dom (fun a h => R.mu_there h) hl h2 (h3.pure hp)⟩
      · exact q.elim
    · exact q.elim
  · exact q.elim

/-! ### ints, bools in a row -/
def intsOf : List D → Option (List Int)
  | [] => some []
  | .int i :: r => match intsOf r with
    | some ns => some (i :: ns)
    | none => none
  | _ => none
def blsOf : List D → Option (List Bool)
  | [] => some []
  | .bl i :: r => match blsOf r with
    | some ns => some (i :: ns)
    | none => none
  | _ => none
def sumI : List Int → Int
  | [] => 0
  | i :: r => i + sumI r
theorem sumI_eq : ∀ ns : List Int, sumI ns = ns.sum
  | [] => rfl
  | i :: r => by
    show i + sumI r = _
    rw [sumI_eq r, List.sum_cons]
theorem RepVs.ints {g : GX} {H : Hp} {F : FZ} {μ : List Addr} : ∀ {ds : List D} {vs : List V} {ns : List Int}, RepVs g H F μ ds vs → intsOf ds = some ns → vs = ns.map V.int
  | _, _, ns, .nil, h => by
    cases (show some [] = some ns from h)
    rfl
  | _, _, ns, .cons (a := d) r t, h => by
    cases d with
    | int i =>
      unfold intsOf at h
      split at h
      · rename_i ms e
        cases h
        rw [r.int, RepVs.ints t e]
        rfl
      · cases h
    | _ => cases h
theorem RepVs.bls {g : GX} {H : Hp} {F : FZ} {μ : List Addr} : ∀ {ds : List D} {vs : List V} {ns : List Bool}, RepVs g H F μ ds vs → blsOf ds = some ns → vs = ns.map V.bl
  | _, _, ns, .nil, h => by
    cases (show some [] = some ns from h)
    rfl
  | _, _, ns, .cons (a := d) r t, h => by
    cases d with
    | bl i =>
      unfold blsOf at h
      split at h
      · rename_i ms e
        cases h
        rw [r.bl, RepVs.bls t e]
        rfl
      · cases h
    | _ => cases h
/-- sum of a tuple -/
def rSumT (K : PySem.W.Frag) : List V → Hp → VK → Prop := fun vs H Q => ∃ (a : Addr) (ns : List Int), vs = [V.ref a] ∧ SqT K H a (ns.map V.int) ∧ Q (.int ns.sum) H
theorem vals_intsAre {ns : List Int} : ∀ {us : List Value}, Vals (ns.map V.int) us → IntsAre us ns := by
  induction ns with
  | nil =>
    intro us r
    cases r
    exact .nil
  | cons n ns ih =>
    intro us r
    cases r with
    | cons r t =>
      obtain ⟨tk, rfl⟩ := r
      exact .cons _ _ (ih t)
theorem cr_sumT {X : Cx} (hc : X.calm = true) : CallR X (.builtin "sum") (rSumT X.K) := by
  intro pins s σ H vs us Q I r h
  obtain ⟨a, ns, rfl, hs, q⟩ := h
  obtain ⟨its, rv, hl, hz⟩ := I.tuple hs
  cases r with
  | cons r t =>
    cases t
    cases r
    have hi := vals_intsAre rv
    obtain ⟨xs, hx⟩ := hi.allInts.items
    have hn : numsOf its.toArray.toList = ns := by rw [show its.toArray.toList = its from rfl, hi.numsOf]
    rw [hx] at hn
    rw [nums_intItems] at hn
    rw [hx] at hl
    refine PySem.W.ktm_sumG (I.ok.hd hc) hl fun h' tk t' hk => ⟨.int _, H, I.kept hk, ?_, q⟩
    rw [preSum_eq, List.take_of_length_le (by simp), hn]
    exact ⟨t', rfl⟩
def fSum (S : List SO) (ds : List D) : Res := match ds with
  | [d] => match seqOf S d with
    | some xs => match intsOf xs with
      | some ns => .ok (.int (sumI ns)) false
      | none => .bad
    | none => .bad
  | _ => .bad
theorem lk_sum {g : GX} : LkC g (fun xs H Q => rSum g.K xs H Q ∨ rSumT g.K xs H Q) fSum := by
  intro E μ F σ S σc H ds vs Q R r q
  unfold fSum at q
  split at q
  · obtain ⟨v, rfl, rv⟩ := r.one
    split at q
    · rename_i xs ex
      split at q
      · rename_i ns en
        obtain ⟨a, ws, rfl, h1, h2, h3⟩ := R.seq rv ex
        have e := h3.ints en
        subst e
        have z := q.here R.dom (v := .int (sumI ns)) (.inr rfl)
        rw [sumI_eq] at z
        rcases h1 with h1 | h1
        · exact .inl ⟨a, ns, rfl, h1, z⟩
        · exact .inr ⟨a, ns, rfl, h1, z⟩
      · exact q.elim
    · exact q.elim
  · exact q.elim
theorem cr_sumA {X : Cx} (hc : X.calm = true) : CallR X (.builtin "sum") (fun xs H Q => rSum X.K xs H Q ∨ rSumT X.K xs H Q) := (cr_sum hc).or (cr_sumT hc)
def allB : List Bool → Bool
  | [] => true
  | b :: r => b && allB r
def anyB : List Bool → Bool
  | [] => false
  | b :: r => b || anyB r
theorem allB_eq : ∀ bs : List Bool, allB bs = bs.all id
  | [] => rfl
  | b :: r => by
    show (b && allB r) = _
    rw [allB_eq r] <;> rfl
theorem anyB_eq : ∀ bs : List Bool, anyB bs = bs.any id
  | [] => rfl
  | b :: r => by
    show (b || anyB r) = _
    rw [anyB_eq r] <;> rfl
def fAll (S : List SO) (ds : List D) : Res := match ds with
  | [d] => match rdOf S d with
    | some xs => match blsOf xs with
      | some ns => .ok (.bl (allB ns)) false
      | none => .bad
    | none => .bad
  | _ => .bad
def fAny (S : List SO) (ds : List D) : Res := match ds with
  | [d] => match rdOf S d with
    | some xs => match blsOf xs with
      | some ns => .ok (.bl (anyB ns)) false
      | none => .bad
    | none => .bad
  | _ => .bad
theorem lk_all {g : GX} : LkC g (rAll g.K) fAll := by
  intro E μ F σ S σc H ds vs Q R r q
  unfold fAll at q
  split at q
  · obtain ⟨v, rfl, rv⟩ := r.one
    split at q
    · rename_i xs ex
      split at q
      · rename_i ns en
        obtain ⟨a, ws, rfl, h1, h2, h3⟩ := R.rd rv ex
        have e := h3.bls en
        subst e
        have z := q.here R.dom (v := .bl (allB ns)) (.inr rfl)
        rw [allB_eq] at z
        exact ⟨a, ns, rfl, h1, z⟩
      · exact q.elim
    · exact q.elim
  · exact q.elim
theorem lk_any {g : GX} : LkC g (rAny g.K) fAny := by
  intro E μ F σ S σc H ds vs Q R r q
  unfold fAny at q
  split at q
  · obtain ⟨v, rfl, rv⟩ := r.one
    split at q
    · rename_i xs ex
      split at q
      · rename_i ns en
        obtain ⟨a, ws, rfl, h1, h2, h3⟩ := R.rd rv ex
        have e := h3.bls en
        subst e
        have z := q.here R.dom (v := .bl (anyB ns)) (.inr rfl)
        rw [anyB_eq] at z
        exact ⟨a, ns, rfl, h1, z⟩
      · exact q.elim
    · exact q.elim
  · exact q.elim
def fMax2 (_ : List SO) (ds : List D) : Res := match ds with
  | [.int i, .int j] => .ok (.int (if j > i then j else i)) false
  | _ => .bad
def fMin2 (_ : List SO) (ds : List D) : Res := match ds with
  | [.int i, .int j] => .ok (.int (if j < i then j else i)) false
  | _ => .bad
theorem lk_max2 {g : GX} : LkC g (fun xs H Q => ∃ i j, xs = [.int i, .int j] ∧ Q (.int (if j > i then j else i)) H) fMax2 := by
  intro E μ F σ S σc H ds vs Q R r q
  unfold fMax2 at q
  split at q
  · obtain ⟨v, w, rfl, rv, rw'⟩ := r.two
    cases rv.int
    cases rw'.int
    exact ⟨_, _, rfl, q.here R.dom (.inr rfl)⟩
  · exact q.elim
theorem lk_min2 {g : GX} : LkC g (fun xs H Q => ∃ i j, xs = [.int i, .int j] ∧ Q (.int (if j < i then j else i)) H) fMin2 := by
  intro E μ F σ S σc H ds vs Q R r q
  unfold fMin2 at q
  split at q
  · obtain ⟨v, w, rfl, rv, rw'⟩ := r.two
    cases rv.int
    cases rw'.int
    exact ⟨_, _, rfl, q.here R.dom (.inr rfl)⟩
  · exact q.elim
def fAbs (_ : List SO) (ds : List D) : Res := match ds with
  | [.int i] => .ok (.int (if i < 0 then -i else i)) false
  | _ => .bad
theorem lk_abs {g : GX} : LkC g (fun xs H Q => ∃ i, xs = [.int i] ∧ Q (.int (if i < 0 then -i else i)) H) fAbs := by
  intro E μ F σ S σc H ds vs Q R r q
  unfold fAbs at q
  split at q
  · obtain ⟨v, rfl, rv⟩ := r.one
    cases rv.int
    exact ⟨_, rfl, q.here R.dom (.inr rfl)⟩
  · exact q.elim
/-- max, min of a list -/
def maxI (i : Int) : List Int → Int
  | [] => i
  | j :: r => maxI (if j > i then j else i) r
def minI (i : Int) : List Int → Int
  | [] => i
  | j :: r => minI (if j < i then j else i) r
theorem maxI_spec : ∀ (r : List Int) (i : Int), (maxI i r = i ∨ maxI i r ∈ r) ∧ i ≤ maxI i r ∧ ∀ y, y ∈ r → y ≤ maxI i r
  | [], i => ⟨.inl rfl, Int.le_refl _, fun y h => (nomatch h)⟩
  | j :: r, i => by
    obtain ⟨h1, h2, h3⟩ := maxI_spec r (if j > i then j else i)
    have e : maxI i (j :: r) = maxI (if j > i then j else i) r := rfl
    rw [e]
    refine ⟨?_, ?_, fun y hy => ?_⟩
    · rcases h1 with h1 | h1
      · rw [h1]
        split
        · exact .inr (List.mem_cons_self ..)
        · exact .inl rfl
      · exact .inr (List.mem_cons_of_mem _ h1)
    · refine Int.le_trans ?_ h2
      split <;> omega
    · rcases List.mem_cons.mp hy with rfl | hy
      · refine Int.le_trans ?_ h2
        split <;> omega
      · exact h3 y hy
theorem minI_spec : ∀ (r : List Int) (i : Int), (minI i r = i ∨ minI i r ∈ r) ∧ minI i r ≤ i ∧ ∀ y, y ∈ r → minI i r ≤ y
  | [], i => ⟨.inl rfl, Int.le_refl _, fun y h => (nomatch h)⟩
  | j :: r, i => by
    obtain ⟨h1, h2, h3⟩ := minI_spec r (if j < i then j else i)
    have e : minI i (j :: r) = minI (if j < i then j else i) r := rfl
    rw [e]
    refine ⟨?_, ?_, fun y hy => ?_⟩
    · rcases h1 with h1 | h1
      · rw [h1]
        split
        · exact .inr (List.mem_cons_self ..)
        · exact .inl rfl
      · exact .inr (List.mem_cons_of_mem _ h1)
    · refine Int.le_trans h2 ?_
      split <;> omega
    · rcases List.mem_cons.mp hy with rfl | hy
      · refine Int.le_trans h2 ?_
        split <;> omega
      · exact h3 y hy
def fMaxL (S : List SO) (ds : List D) : Res := match ds with
  | [d] => match rdOf S d with
    | some xs => match intsOf xs with
      | some (i :: ns) => .ok (.int (maxI i ns)) false
      | _ => .bad
    | none => .bad
  | _ => .bad
def fMinL (S : List SO) (ds : List D) : Res := match ds with
  | [d] => match rdOf S d with
    | some xs => match intsOf xs with
      | some (i :: ns) => .ok (.int (minI i ns)) false
      | _ => .bad
    | none => .bad
  | _ => .bad
theorem lk_maxL {g : GX} : LkC g (rMax g.K) fMaxL := by
  intro E μ F σ S σc H ds vs Q R r q
  unfold fMaxL at q
  split at q
  · obtain ⟨v, rfl, rv⟩ := r.one
    split at q
    · rename_i xs ex
      split at q
      · rename_i i ns en
        obtain ⟨a, ws, rfl, h1, h2, h3⟩ := R.rd rv ex
        have e := h3.ints en
        subst e
        refine ⟨a, i :: ns, rfl, h1, Nat.succ_pos _, fun m hm hle => ?_⟩
        obtain ⟨k1, k2, k3⟩ := maxI_spec ns i
        have e2 : m = maxI i ns := by
          refine Int.le_antisymm ?_ (hle _ ?_)
          · rcases List.mem_cons.mp hm with rfl | hm
            · exact k2
            · exact k3 m hm
          · rcases k1 with k1 | k1
            · rw [k1]; exact List.mem_cons_self ..
            · exact List.mem_cons_of_mem _ k1
        rw [e2]
        exact q.here R.dom (.inr rfl)
      · exact q.elim
    · exact q.elim
  · exact q.elim
theorem lk_minL {g : GX} : LkC g (rMin g.K) fMinL := by
  intro E μ F σ S σc H ds vs Q R r q
  unfold fMinL at q
  split at q
  · obtain ⟨v, rfl, rv⟩ := r.one
    split at q
    · rename_i xs ex
      split at q
      · rename_i i ns en
        obtain ⟨a, ws, rfl, h1, h2, h3⟩ := R.rd rv ex
        have e := h3.ints en
        subst e
        refine ⟨a, i :: ns, rfl, h1, Nat.succ_pos _, fun m hm hle => ?_⟩
        obtain ⟨k1, k2, k3⟩ := minI_spec ns i
        have e2 : m = minI i ns := by
          refine Int.le_antisymm (hle _ ?_) ?_
          · rcases k1 with k1 | k1
            · rw [k1]; exact List.mem_cons_self ..
            · exact List.mem_cons_of_mem _ k1
          · rcases List.mem_cons.mp hm with rfl | hm
            · exact k2
            · exact k3 m hm
        rw [e2]
        exact q.here R.dom (.inr rfl)
      · exact q.elim
    · exact q.elim
  · exact q.elim
end HC

set_option maxRecDepth 100000
namespace HC
open PySem PySem.Spec L2
open PyProof.Rows hiding St

/-! ## what is walked -/
/-- the items, told ahead (st) or as the store stands at each turn (dy) -/
inductive ResI where
  | st (ds : List D) | dy (it : List SO → Option (List D)) | ex (c : Nat) (as : List D) | bad
abbrev CI := Sl → List SO → ResI
structure Later (μ : List Addr) (F : FZ) (H : Hp) (μ' : List Addr) (F' : FZ) (H' : Hp) : Prop where
  mu : ∃ ν, μ' = μ ++ ν ∧ ∀ a, a ∈ ν → H a = none
  up : ∀ a, F a → F' a
  keep : ∀ a o, a ∉ μ → H a = some o → H' a = some o
  dom : ∀ a, H' a = none → H a = none
  nw : ∀ a, F' a → F a ∨ H a = none
theorem Later.refl {μ : List Addr} {F : FZ} {H : Hp} : Later μ F H μ F H := ⟨⟨[], by simp, fun a h => (nomatch h)⟩, fun _ h => h, fun _ _ _ h => h, fun _ h => h, fun _ h => .inl h⟩
theorem Later.trans {μ μ1 μ2 : List Addr} {F F1 F2 : FZ} {H H1 H2 : Hp} (a : Later μ F H μ1 F1 H1) (b : Later μ1 F1 H1 μ2 F2 H2) : Later μ F H μ2 F2 H2 := by
  obtain ⟨ν, e, n⟩ := a.mu
  obtain ⟨ν', e', n'⟩ := b.mu
  refine ⟨⟨ν ++ ν', by rw [e', e, List.append_assoc], fun x h => ?_⟩, fun x h => b.up _ (a.up _ h), fun x o h e2 => b.keep x o (fun hm => ?_) (a.keep x o h e2), fun x h => a.dom x (b.dom x h), fun x h => (b.nw x h).elim (a.nw x) fun h => .inr (a.dom x h)⟩
  · rcases List.mem_append.mp h with h | h
    · exact n x h
    · exact a.dom x (n' x h)
  · rw [e] at hm
    rcases List.mem_append.mp hm with hm | hm
    · exact h hm
    · rw [n x hm] at e2; cases e2
theorem Later.of {μ : List Addr} {F F' : FZ} {H H' : Hp} (s : Same H H') (x : FX F H F' H') : Later μ F H μ F' H' := ⟨⟨[], by simp, fun a h => (nomatch h)⟩, x.up, fun a o _ h => s a o h, fun a h => same_none s h, x.nw⟩
/-- what an iterator of the machine yields, from the items of the data -/
def Wk (g : GX) (μ : List Addr) (F : FZ) (H : Hp) (J : It) (it : List SO → Option (List D)) : Prop :=
  ∀ (μ' : List Addr) (F' : FZ) (σ' : Sl) (S' : List SO) (σc' : St) (H' : Hp), Later μ F H μ' F' H' → Rel g μ' F' σ' S' σc' H' → ∀ ds, it S' = some ds → ds.length ≤ sizeLine ∧ ∀ i : Nat,
    (i < ds.length → J.go i H') ∧ (∀ x H2, J.yld i H' x H2 → Same H' H2 ∧ ∀ d, ds[i]? = some d → RepV g H2 F' μ' d x) ∧ (ds.length ≤ i → J.stop i H')
theorem Wk.later {g : GX} {μ μ1 : List Addr} {F F1 : FZ} {H H1 : Hp} {J : It} {it : List SO → Option (List D)} (w : Wk g μ F H J it) (l : Later μ F H μ1 F1 H1) : Wk g μ1 F1 H1 J it :=
  fun μ' F' σ' S' σc' H' l' R => w μ' F' σ' S' σc' H' (l.trans l') R
def OkI (g : GX) (E : XK) (H : Hp) (F : FZ) (μ : List Addr) (r : ResI) (R : It → Hp → Prop) : Prop := match r with
  | .st ds => ∀ J H' F', Same H H' → FX F H F' H' → Wk g μ F' H' J (fun _ => some ds) → R J H'
  | .dy it => ∀ J H' F', Same H H' → FX F H F' H' → Wk g μ F' H' J it → R J H'
  | .ex c as => ∀ cls dx H' F', Same H H' → FX F H F' H' → RepX g H' F' μ c as cls dx → E cls dx H'
  | .bad => False
def TIt (g : GX) (W : WX) (f : CI) : TI := fun σc H R => ∃ μ F σ S, Rel g μ F σ S σc H ∧ OkI g (wat W σc) H F μ (f σ S) R
/-- a value that is walked -/
def iVal (f : CE) : CI := fun σ S => match f σ S with
  | .ok (.tup xs) _ => .st xs
  | .ok (.lst xs) _ => .st xs
  | .ok (.rol xs) _ => .st xs
  | .ok (.loc n) _ => match lstOf S (.loc n) with
    | some _ => .dy fun S => lstOf S (.loc n)
    | none => .bad
  | .ok _ _ => .bad
  | .ex c as => .ex c as
  | .bad => .bad
section
variable {g : GX} {μ μ' : List Addr} {F F' : FZ} {σ : Sl} {S : List SO} {σc : St} {H H' : Hp} {a : Addr} {xs : List V}
theorem Rel.no_mu (R : Rel g μ F σ S σc H) {o : HO} (h : H a = some o) (no : (∀ ys, o ≠ .lst ys) ∧ (∀ ys, o ≠ .dK ys) ∧ (∀ ys, o ≠ .dT ys) ∧ ∀ C dx fs, o ≠ .ins C dx fs) : a ∉ μ := fun hm => by
  obtain ⟨n, o2, _, _, ro⟩ := R.at_mu hm
  cases o2 with
  | lst zs =>
    obtain ⟨vs, q, _⟩ := ro
    rw [h] at q
    exact no.1 _ (Option.some.inj q)
  | dct ks ws =>
    obtain ⟨vs, _, q⟩ := ro
    rcases q with ⟨kvs, q, _⟩ | ⟨kvs, q, _⟩
    · rw [h] at q
      exact no.2.1 _ (Option.some.inj q)
    · rw [h] at q
      exact no.2.2.1 _ (Option.some.inj q)
  | ins c ws =>
    obtain ⟨dx, fs, vs, q, _⟩ := ro
    rw [h] at q
    exact no.2.2.2 _ _ _ (Option.some.inj q)
theorem Later.tup (R : Rel g μ F σ S σc H) (l : Later μ F H μ' F' H') (h : H a = some (.tup xs)) : H' a = some (.tup xs) :=
  l.keep a _ (R.no_mu h ⟨fun _ z => (nomatch z), fun _ z => (nomatch z), fun _ z => (nomatch z), fun _ _ _ z => (nomatch z)⟩) h
theorem Later.frz (R : Rel g μ F σ S σc H) (l : Later μ F H μ' F' H') {o : Obj} {u : HO} (h : H a = some (.frz o u)) : H' a = some (.frz o u) :=
  l.keep a _ (R.no_mu h ⟨fun _ z => (nomatch z), fun _ z => (nomatch z), fun _ z => (nomatch z), fun _ _ _ z => (nomatch z)⟩) h
theorem Later.sq (R : Rel g μ F σ S σc H) (l : Later μ F H μ' F' H') (h : SqT g.K H a xs) : SqT g.K H' a xs := by
  rcases h with (h | ⟨ob, h⟩) | h
  · exact .inl (.inl (l.tup R h))
  · exact .inl (.inr ⟨ob, l.frz R h⟩)
  · exact .inr h
theorem Later.rol (R : Rel g μ F σ S σc H) (l : Later μ F H μ' F' H') (h : Rol g.K H a xs) : Rol g.K H' a xs := h.imp (fun ⟨o, h⟩ => ⟨o, l.frz R h⟩) fun h => h
end
section
variable {g : GX} {μ μ' : List Addr} {F F' : FZ} {σ : Sl} {S : List SO} {σc : St} {H H' : Hp}
mutual
theorem RepP.later (R : Rel g μ F σ S σc H) (l : Later μ F H μ' F' H') : ∀ (d : D) (v : V), RepP g H F d v → RepP g H' F' d v
  | .non, _, h => h
  | .bl _, _, h => h
  | .int _, _, h => h
  | .str _, _, h => h
  | .tup ds, v, h => by
    obtain ⟨a, vs, e, h1, h2⟩ := h
    exact ⟨a, vs, e, ⟨l.tup R h1.1, h1.2⟩, RepL.later R l ds vs h2⟩
  | .lst ds, v, h => by
    obtain ⟨a, vs, e, ⟨h1, h2, h3⟩, h4⟩ := h
    exact ⟨a, vs, e, ⟨l.up _ h1, l.keep _ _ (fun hm => R.ap _ hm h1) h2, h3⟩, RepL.later R l ds vs h4⟩
  | .rol ds, v, h => by
    obtain ⟨a, vs, e, h1, h2⟩ := h
    exact ⟨a, vs, e, ⟨l.rol R h1.1, h1.2⟩, RepL.later R l ds vs h2⟩
  | .dct ks ds, v, h => by
    obtain ⟨a, vs, e, h1, h2, h3⟩ := h
    refine ⟨a, vs, e, l.up _ h1, RepL.later R l ds vs h2, ?_⟩
    have k : ∀ o, Rd H a o → Rd H' a o := fun o h => h.elim (fun h => .inl (l.keep _ _ (fun hm => R.ap _ hm h1) h)) fun ⟨ob, h⟩ => .inr ⟨ob, l.keep _ _ (fun hm => R.ap _ hm h1) h⟩
    rcases h3 with ⟨kvs, q1, q2⟩ | ⟨kvs, q1, q2⟩
    · exact .inl ⟨kvs, k _ q1, q2⟩
    · exact .inr ⟨kvs, k _ q1, q2⟩
  | .obj c ds, v, h => by
    obtain ⟨a, dx, fs, vs, e, h1, h2, h3, h4, h5⟩ := h
    exact ⟨a, dx, fs, vs, e, l.up _ h1, l.keep _ _ (fun hm => R.ap _ hm h1) h2, h3, h4, RepL.later R l ds vs h5⟩
  | .loc _, _, h => h
  | .err, _, h => h
theorem RepL.later (R : Rel g μ F σ S σc H) (l : Later μ F H μ' F' H') : ∀ (ds : List D) (vs : List V), RepL g H F ds vs → RepL g H' F' ds vs
  | [], _, h => h
  | d :: ds, vs, h => by
    obtain ⟨v, ws, e, h1, h2⟩ := h
    exact ⟨v, ws, e, RepP.later R l d v h1, RepL.later R l ds ws h2⟩
end

theorem RepV.later (R : Rel g μ F σ S σc H) (l : Later μ F H μ' F' H') {d : D} {v : V} (r : RepV g H F μ d v) : RepV g H' F' μ' d v := by
  rcases r with ⟨n, a, e, h, e2⟩ | r
  · obtain ⟨ν, en, _⟩ := l.mu
    exact .inl ⟨n, a, e, by rw [en, List.getElem?_append_left (List.getElem?_eq_some_iff.mp h).1]; exact h, e2⟩
  · exact .inr (RepP.later R l d v r)
theorem RepVs.later (R : Rel g μ F σ S σc H) (l : Later μ F H μ' F' H') {ds : List D} {vs : List V} (r : RepVs g H F μ ds vs) : RepVs g H' F' μ' ds vs := Paired.mapP r fun _ _ => RepV.later R l
theorem RepX.later (R : Rel g μ F σ S σc H) (l : Later μ F H μ' F' H') {c : Nat} {as : List D} {cls : Value} {dx : Option Addr} (r : RepX g H F μ c as cls dx) : RepX g H' F' μ' c as cls dx := by
  obtain ⟨h1, x, vs, h2, h3, fs, h4, h5⟩ := r
  exact ⟨h1, x, vs, h2, RepVs.later R l h3, fs, l.keep x _ (R.no_mu h4 ⟨fun _ z => (nomatch z), fun _ z => (nomatch z), fun _ z => (nomatch z), fun _ _ _ z => (nomatch z)⟩) h4, h5⟩
theorem wk_list {a : Addr} {it : List SO → Option (List D)}
    (h : ∀ (μ' : List Addr) (F' : FZ) (σ' : Sl) (S' : List SO) (σc' : St) (H' : Hp), Later μ F H μ' F' H' → Rel g μ' F' σ' S' σc' H' → ∀ ds, it S' = some ds → ∃ vs, SqL g.K H' a vs ∧ vs.length ≤ sizeLine ∧ RepVs g H' F' μ' ds vs) : Wk g μ F H (Itl g.K a) it :=
  fun μ' F' σ' S' σc' H' l R ds e => by
    obtain ⟨vs, h1, hz, h2⟩ := h μ' F' σ' S' σc' H' l R ds e
    have hl := h2.length
    refine ⟨by rw [hl]; exact hz, fun i => ?_⟩
    refine ⟨fun hi => ⟨vs, vs[i]'(by omega), h1, List.getElem?_eq_getElem (by omega)⟩, fun x H2 hy => ?_, fun hi => ⟨vs, h1, by omega⟩⟩
    obtain ⟨e2, hx⟩ := hy
    subst e2
    refine ⟨Same.refl _, fun d hd => ?_⟩
    obtain ⟨v, hv, rv⟩ := h2.get hd
    have hx := hx vs h1
    rw [hv] at hx
    cases hx
    exact rv
theorem wk_tup {a : Addr} {it : List SO → Option (List D)}
    (h : ∀ (μ' : List Addr) (F' : FZ) (σ' : Sl) (S' : List SO) (σc' : St) (H' : Hp), Later μ F H μ' F' H' → Rel g μ' F' σ' S' σc' H' → ∀ ds, it S' = some ds → ∃ vs, SqT g.K H' a vs ∧ vs.length ≤ sizeLine ∧ RepVs g H' F' μ' ds vs) : Wk g μ F H (Itt g.K a) it :=
  fun μ' F' σ' S' σc' H' l R ds e => by
    obtain ⟨vs, h1, hz, h2⟩ := h μ' F' σ' S' σc' H' l R ds e
    have hl := h2.length
    refine ⟨by rw [hl]; exact hz, fun i => ?_⟩
    refine ⟨fun hi => ⟨vs, vs[i]'(by omega), h1, List.getElem?_eq_getElem (by omega)⟩, fun x H2 hy => ?_, fun hi => ⟨vs, h1, by omega⟩⟩
    obtain ⟨e2, hx⟩ := hy
    subst e2
    refine ⟨Same.refl _, fun d hd => ?_⟩
    obtain ⟨v, hv, rv⟩ := h2.get hd
    have hx := hx vs h1
    rw [hv] at hx
    cases hx
    exact rv
/-- a value's list or tuple, for as long as it stands -/
theorem Wk.val (R : Rel g μ F σ S σc H) {d : D} {v : V} (r : RepV g H F μ d v) : match d with
    | .tup xs => ∃ a vs, v = .ref a ∧ SqT g.K H a vs ∧ Wk g μ F H (Itt g.K a) (fun _ => some xs)
    | .lst xs => ∃ a vs, v = .ref a ∧ SqL g.K H a vs ∧ Wk g μ F H (Itl g.K a) (fun _ => some xs)
    | .rol xs => ∃ a vs, v = .ref a ∧ SqL g.K H a vs ∧ Wk g μ F H (Itl g.K a) (fun _ => some xs)
    | .loc n => (∃ xs, lstOf S (.loc n) = some xs) → ∃ a vs, v = .ref a ∧ SqL g.K H a vs ∧ Wk g μ F H (Itl g.K a) (fun S => lstOf S (.loc n))
    | _ => True := by
  cases d with
  | tup xs =>
    obtain ⟨a, vs, rfl, h1, h2, h3⟩ := r.tup (xs := xs) rfl
    exact ⟨a, vs, rfl, h1, wk_tup fun μ' F' σ' S' σc' H' l R' ds e => by
      cases (show some xs = some ds from e)
      exact ⟨vs, l.sq R h1, h2, (RepL.later R l _ _ h3).vs⟩⟩
  | lst xs =>
    obtain ⟨a, vs, rfl, ⟨k1, k2, k3⟩, h2⟩ := r.pure rfl
    exact ⟨a, vs, rfl, SqL.of k2, wk_list fun μ' F' σ' S' σc' H' l R' ds e => by
      cases (show some xs = some ds from e)
      exact ⟨vs, SqL.of (l.keep _ _ (fun hm => R.ap _ hm k1) k2), k3, (RepL.later R l _ _ h2).vs⟩⟩
  | rol xs =>
    obtain ⟨a, vs, rfl, ⟨k1, k2⟩, h2⟩ := r.pure rfl
    exact ⟨a, vs, rfl, k1.sq, wk_list fun μ' F' σ' S' σc' H' l R' ds e => by
      cases (show some xs = some ds from e)
      exact ⟨vs, (l.rol R k1).sq, k2, (RepL.later R l _ _ h2).vs⟩⟩
  | loc n =>
    rintro ⟨xs, ex⟩
    obtain ⟨a, vs, rfl, h1, h2, h3⟩ := R.lst r ex
    refine ⟨a, vs, rfl, SqL.of h1, wk_list fun μ' F' σ' S' σc' H' l R' ds e => ?_⟩
    obtain ⟨b, ws, e2, k1, k2, k3⟩ := R'.lst (RepV.later R l r) e
    cases e2
    exact ⟨ws, SqL.of k1, k2, k3⟩
  | _ => trivial
end
section
variable {X : Cx} {g : GX} {W : WX} {tg e : Expr} {f : CE} {es : List Expr} {fa : CA} {p pos : Pos}
theorem it_val (he : PE X e (T g W f)) (hg : X.K = g.K := by rfl) : PI X tg e (TIt g W (iVal f)) := by
  have key : PI X tg e (fun σ H R => iTup X.K (T g W f) σ H R ∨ iList X.K (T g W f) σ H R) := ⟨fun pins s σ H R I h => h.elim ((pi_tup he).run pins s σ H R I) ((pi_list he).run pins s σ H R I)⟩
  refine key.hc fun σc H R ⟨μ, F, σ, S, Rl, q⟩ => ?_
  unfold iVal at q
  have bad : ∀ {A : Prop}, OkI g (wat W σc) H F μ .bad R → A := fun h => h.elim
  cases ef : f σ S with
  | bad => rw [ef] at q; exact bad q
  | ex c as => rw [ef] at q; exact .inl ⟨μ, F, σ, S, Rl, by rw [ef]; exact q⟩
  | ok d fr =>
    rw [ef] at q
    cases d with
    | tup xs =>
      refine .inl ⟨μ, F, σ, S, Rl, ?_⟩
      rw [ef]
      intro v H1 F1 s1 x1 r1
      obtain ⟨F2, x2, u2, rx⟩ := r1.frz x1
      obtain ⟨a, vs, rfl, h1, w⟩ := Wk.val (Rl.mono s1 x2) rx
      rw [hg]
      exact ⟨a, rfl, ⟨vs, h1⟩, q _ H1 F2 s1 x2 w⟩
    | lst xs =>
      refine .inr ⟨μ, F, σ, S, Rl, ?_⟩
      rw [ef]
      intro v H1 F1 s1 x1 r1
      obtain ⟨F2, x2, u2, rx⟩ := r1.frz x1
      obtain ⟨a, vs, rfl, h1, w⟩ := Wk.val (Rl.mono s1 x2) rx
      rw [hg]
      exact ⟨a, rfl, ⟨vs, h1⟩, q _ H1 F2 s1 x2 w⟩
    | rol xs =>
      refine .inr ⟨μ, F, σ, S, Rl, ?_⟩
      rw [ef]
      intro v H1 F1 s1 x1 r1
      obtain ⟨F2, x2, u2, rx⟩ := r1.frz x1
      obtain ⟨a, vs, rfl, h1, w⟩ := Wk.val (Rl.mono s1 x2) rx
      rw [hg]
      exact ⟨a, rfl, ⟨vs, h1⟩, q _ H1 F2 s1 x2 w⟩
    | loc n =>
      cases el : lstOf S (.loc n) with
      | none =>
        have q : OkI g (wat W σc) H F μ (match lstOf S (.loc n) with | some _ => .dy fun S => lstOf S (.loc n) | none => .bad) R := q
        rw [el] at q
        exact bad q
      | some xs =>
      have q : OkI g (wat W σc) H F μ (match lstOf S (.loc n) with | some _ => .dy fun S => lstOf S (.loc n) | none => .bad) R := q
      rw [el] at q
      refine .inr ⟨μ, F, σ, S, Rl, ?_⟩
      rw [ef]
      intro v H1 F1 s1 x1 r1
      obtain ⟨F2, x2, u2, rx⟩ := r1.frz x1
      have R1 := Rl.mono s1 x2
      obtain ⟨a, vs, rfl, h1, w⟩ := Wk.val R1 rx ⟨xs, el⟩
      rw [hg]
      exact ⟨a, rfl, ⟨vs, h1⟩, q _ H1 F2 s1 x2 w⟩
    | _ => exact bad q
end
end HC

set_option maxRecDepth 100000
/-! enumerate over a tuple -/
namespace HC
section
open PySem
open AutoSeq1 (wpAny_loadPart')
open Sem (wp)
theorem enumT_new (a : Addr) (items : Array Value) (ob : Obj) (hcl : ob.cls = .type "tuple") (n : Nat) (hda : ob.data = .seq items n) :
    Meets (Builtin.«enumerate.__new__» ⟨[.type "enumerate", .ref a], []⟩) (fun _ R s => s.heap.get? a = some ob ∧
      R (.ok (.ret (.ref (s.heap.push { cls := .type "tuple_iterator", data := .fields #[.ref a, .int 0 0] }).objs.size)))
        { s with heap := (s.heap.push { cls := .type "tuple_iterator", data := .fields #[.ref a, .int 0 0] }).push { cls := .type "enumerate", data := .fields #[.none, .bool false, .ref s.heap.objs.size, rawInt 0, .none, .none] } }) :=
  .of_wp fun prog w A R s hh => by
    obtain ⟨hp, gg, dd, tk, os⟩ := s
    obtain ⟨hl, h⟩ := hh
    have hsub := sub_enumerate
    have hT : Heap.IsTuple (Shared.heap ⟨hp, gg, dd, tk, os⟩) a items := ⟨_, hl, hcl, n, hda⟩
    wp_walk using wpAny_loadPart' hl
    refine wpAny_stack_any fun st => wpAny_pure ?_
    split
    · rename_i c _ _ _ _ _
      cases (c == Value.type "enumerate")
      · wp_walk using wpAny_loadPart' hl, wpAny_pyIter_tuple hT
        exact ⟨_, rfl, h⟩
      · wp_walk using wpAny_loadPart' hl, wpAny_pyIter_tuple hT
        exact ⟨_, rfl, h⟩
    · wp_walk using wpAny_loadPart' hl, wpAny_pyIter_tuple hT
      exact ⟨_, rfl, h⟩
theorem enumT_call {prog : Program} {w : World} {A : Around} {E : Value → Shared → Prop} {s : Shared} {l : Addr} {items : Array Value} {Q : Value → Shared → Prop} (hL : s.heap.IsTuple l items)
    (h : ∀ h', IsEnum h' (s.heap.objs.size + 1) s.heap.objs.size 0 .none → h'.IsTupleIter s.heap.objs.size l 0 → h'.objs.size = s.heap.objs.size + 2 →
      (∀ b o, s.heap.get? b = some o → h'.get? b = some o) → Q (.ref (s.heap.objs.size + 1)) { s with heap := h' }) :
    wpAny (model prog w) A (call (.type "enumerate") [.ref l]) Q E s := by
  obtain ⟨ob, hl, hc, n, hd⟩ := hL
  refine callType_new F.called_enumerate (by decide) (F.typeCall_enumerate_1 _) (F.newCall_enumerate_1 _) (fun obj => F.args_object_init_2 obj _) F.entry_enumerate_new
    (enumT_new l items ob hc n hd) ⟨hl, ?_⟩
  have hz : (s.heap.push { cls := .type "tuple_iterator", data := .fields #[.ref l, .int 0 0] }).objs.size = s.heap.objs.size + 1 := Heap.size_push ..
  show _ ∧ _
  rw [hz]
  have he : IsEnum ((s.heap.push { cls := .type "tuple_iterator", data := .fields #[.ref l, .int 0 0] }).push
      { cls := .type "enumerate", data := .fields #[.none, .bool false, .ref s.heap.objs.size, rawInt 0, .none, .none] }) (s.heap.objs.size + 1) s.heap.objs.size 0 .none := by
    have q := Heap.get?_push_size (s.heap.push { cls := .type "tuple_iterator", data := .fields #[.ref l, .int 0 0] })
      (o := { cls := .type "enumerate", data := .fields #[.none, .bool false, .ref s.heap.objs.size, rawInt 0, .none, .none] }) rfl
    rw [hz] at q
    exact q
  exact ⟨⟨_, he, rfl⟩, h _ he ⟨_, Heap.get?_push_of_some _ (Heap.get?_push_size _ rfl), rfl, rfl⟩ (by rw [Heap.size_push, hz]) fun b o x => Heap.get?_push_of_some _ (Heap.get?_push_of_some _ x)⟩
theorem enumT_end {prog : Program} {w : World} {A : Around} {E : Value → Shared → Prop} {s : Shared} {e it l : Addr} {i : Nat} {items : Array Value} {old : Value} {Q : Option Value → Shared → Prop} (hh : A.handled = none)
    (he : IsEnum s.heap e it i old) (hit : s.heap.IsTupleIter it l i) (hl : s.heap.IsTuple l items) (hx : items[i]? = none)
    (hQ : ∀ h', Heap.ExtBut it s.heap h' → Q none { s with heap := h' }) : wpAny (model prog w) A (pyNext (.ref e)) Q E s := by
  have hT : s.TypeIs (.ref e) "enumerate" := ⟨_, he, rfl⟩
  unfold pyNext
  refine wpAny_bind (wpAny_attempt (wpAny_callSpecial?_slot (name := Str.ofString "__next__") hT F.slot_enumerate_next
    (wpAny_call_entry F.slot_enumerate_next hT F.entry_enumerate_next ?_ (F.args_enumerate_next_1 _))))
  show wpAny _ _ (field (.ref e) 2 >>= _) _ _ _
  refine wpAny_bind (wpAny_field he rfl (x := .ref it) rfl ?_)
  refine wpAny_bind (wpAny_nextOf_tuple_end hh hit hl hx fun h' x he' hx' => ?_)
  obtain ⟨o, ho, hc⟩ := hx'
  exact wpAny_bind (wpAny_isInstance (T := "StopIteration") (b := true) ⟨o, ho, hc⟩ isSubtype_stop (wpAny_pure (hQ _ he')))
end
open PySem PySem.Spec L2
open PyProof.Rows hiding St
/-- the tuple at a, each item in a new pair -/
def IteT (K : PySem.W.Frag) (a : Addr) : It :=
  ⟨fun i H => ∃ (xs : List V) (x : V), SqT K H a xs ∧ xs[i]? = some x, fun i H v H' => ∃ p x, v = .ref p ∧ H p = none ∧ H' = upd H p (.tup [.int (i : Nat), x]) ∧ ∀ xs, SqT K H a xs → xs[i]? = some x, fun i H => ∃ xs : List V, SqT K H a xs ∧ xs.length ≤ i⟩
theorem turn_enumT {P : Program} {w : World} {K : PySem.W.Frag} {elts : List Expr} {kk : Nat} {tpos : Pos} (a e it : Addr) :
    Turn P w K (.Tuple elts kk tpos) (IteT K a) [e, it] e (fun i h => (∃ old, IsEnum h e it ((i : Nat) : Int) old) ∧ h.IsTupleIter it a i ∧ e ≠ it) where
  mem := by simp
  obj := fun i h st b hb => by
    obtain ⟨⟨old, he⟩, ⟨o, ho, hc, hd⟩, _⟩ := st
    rcases (by simpa using hb : b = e ∨ b = it) with z | z
    · rw [z]; exact ⟨_, he, fun v q => nomatch q⟩
    · rw [z]; exact ⟨o, ho, fun v q => by rw [hd] at q; cases q⟩
  keep := fun i h h' st k => let ⟨⟨old, he⟩, hi, hne⟩ := st; ⟨⟨old, k e (by simp) _ he⟩, hi.at fun o q => k it (by simp) o q, hne⟩
  item := by
    intro X hP hw hK hc i pins s σ H E I hf st hg
    subst hP hw hK
    obtain ⟨⟨old, he⟩, hit, hne⟩ := st
    obtain ⟨xs, x, hq, hx⟩ := hg
    obtain ⟨its, rv, p, hz⟩ := I.tuple hq
    obtain ⟨u, hu, ru⟩ := rv.get hx
    have hel : e < s.heap.objs.size := Heap.lt_size he
    have hil : it < s.heap.objs.size := let ⟨_, q, _⟩ := hit; Heap.lt_size q
    have hae : a ≠ e := fun z => by
      obtain ⟨o, ho, hcl, _⟩ := p
      rw [z, he] at ho
      cases ho
      simp at hcl
    have hai : a ≠ it := fun z => by
      obtain ⟨o, ho, hcl, _⟩ := p
      obtain ⟨o2, ho2, hcl2, _⟩ := id hit
      rw [z, ho2] at ho
      cases ho
      rw [hcl2] at hcl
      simp at hcl
    have pt : s.heap.IsTuple a its.toArray := p
    have hi : i < its.toArray.size := by
      have h1 := (List.getElem?_eq_some_iff.mp hu).1
      simpa using h1
    have De : Draws X.prog X.w X.A.in1 it [it, a] its.toArray.size (fun i v => its.toArray[i]? = some v) (fun i h => h.IsTupleIter it a i ∧ h.IsTuple a its.toArray)   := Draws.tuple (A := X.A.in1) (I.ok.hd hc) it a hai its.toArray
    refine wpAny_pyNext_enum_itemD De he ⟨hit, pt⟩ hi hne (by
      intro z
      rcases (by simpa using z : e = it ∨ e = a) with z | z
      · exact hne z
      · exact hae z.symm) fun y h' tk hy ho hit' hT hsz hk => ?_
    have ey : y = u := by
      have hu' : its.toArray[i]? = some u := by simpa using hu
      exact Option.some.inj (hy.symm.trans hu')
    subst ey
    refine ⟨_, rfl, wpAny_letOwnedTupleGo_enum (s := { s with heap := h', toks := tk + 1 }) ho fun h'' he' sb => ?_⟩
    have hT2 : h''.get? s.heap.objs.size = some { cls := .type "tuple", data := .seq #[.int i tk, y] } := (sb.2 _ (Nat.ne_of_gt hel)).trans hT
    have new : ObjOk X.prog X.w (upd H s.heap.objs.size (.tup [.int (i : Nat), x])) h'' s.heap.objs.size (.tup [.int (i : Nat), x]) :=
      ⟨by show 2 ≤ sizeLine; decide, [.int i tk, y], .cons ⟨_, rfl⟩ (.cons ru .nil), ⟨_, hT2, rfl, _, rfl⟩⟩
    have I1 : Inv X pins σ (upd H s.heap.objs.size (.tup [.int (i : Nat), x])) { s with heap := h'', toks := tk + 1 } :=
      I.turnedNew (ch := [e, it]) (fun b ob hb q => (sb.2 b (fun z => hb (by simp [z]))).trans (hk b ob (fun z => hb (by simp [z])) (fun z => hb (by simp [z])) q)) hf (Nat.le_refl _) new
    refine ⟨.ref s.heap.objs.size, _, I1, rfl, ⟨_, x, rfl, I.hok.fresh (Nat.le_refl _), rfl, fun ys hy => by rw [I.tuple_inj hy hq]; exact hx⟩, ⟨⟨y, ?_⟩, hit'.1.at fun o q => (sb.2 it (Ne.symm hne)).trans q, hne⟩, fun b hb => ?_⟩
    · have e1 : ((i + 1 : Nat) : Int) = (i : Int) + 1 := by omega
      rw [e1]
      exact he'
    · have hb' : b < s.heap.objs.size := by
        rcases (by simpa using hb : b = e ∨ b = it) with z | z
        · rw [z]; exact hel
        · rw [z]; exact hil
      rw [upd_ne (Nat.ne_of_lt hb')]
      exact (hf b hb).1
  done := by
    intro X hP hw hK hc i pins s σ H E I hf st hg
    subst hP hw hK
    obtain ⟨⟨old, he⟩, hit, hne⟩ := st
    obtain ⟨xs, hq, hx⟩ := hg
    obtain ⟨its, rv, p, hz⟩ := I.tuple hq
    obtain ⟨f0, f1, f2, f3, f4, f5⟩ := hf it (by simp)
    have hl := rv.length
    have hai : a ≠ it := fun z => by
      obtain ⟨o, ho, hcl, _⟩ := p
      obtain ⟨o2, ho2, hcl2, _⟩ := id hit
      rw [z, ho2] at ho
      cases ho
      rw [hcl2] at hcl
      simp at hcl
    have pt : s.heap.IsTuple a its.toArray := p
    exact enumT_end (I.ok.hd hc) he hit pt (by simp; omega) fun h' eb => ⟨rfl, I.turned (t' := s.toks) (fun b o hb q => eb b o hb q) f0 f1 f3 f4 f5⟩
  self := fun A i s Q E st h => let ⟨⟨_, he⟩, _⟩ := st; wpAny_pyIter_enum he h
end HC

set_option maxRecDepth 100000
namespace HC
open PySem PySem.Spec L2
open PyProof.Rows hiding St
def iEnumT (K : PySem.W.Frag) (ta : TA) : TI := fun σ H R => ta σ H fun vs H1 => ∃ a xs, vs = [.ref a] ∧ SqT K H1 a xs ∧ R (IteT K a) H1
theorem pi_enumT {X : Cx} {e : Expr} {ta : TA} {p pos tpos : Pos} {elts : List Expr} {kk : Nat} (hg : Gl X "enumerate") (hm : X.mg "enumerate" = none) (ha : PA X [e] ta) (hs : starEach [e] X.env = [(false, eval e X.env)] := by rfl) :
    PI X (.Tuple elts kk tpos) (.Call (.Name "enumerate" p) [e] [] pos) (iEnumT X.K ta) := by
  refine ⟨fun pins s σ H R I h => Call_ (ld_blt I hg hm boot_enumerate (PyProof.Rows.callWith_type1 (thn (ha.run pos pins s σ H _ I h) fun us s1 ⟨vs, H1, I1, r1, q1⟩ => ?_) hs rfl))⟩
  obtain ⟨a, xs, ex, hq, q⟩ := q1
  subst ex
  cases r1 with
  | cons r rr =>
    cases rr
    cases r
    obtain ⟨its, rv, p', hz⟩ := I1.tuple hq
    refine enumT_call (show s1.heap.IsTuple a its.toArray from p') fun h' he hit hsz hk => wpAny_pyIter_enum he ?_
    have I2 : Inv X pins σ H1 { s1 with heap := h' } := I1.kept (t' := s1.toks) hk
    refine ⟨s1.heap.objs.size + 1, [s1.heap.objs.size + 1, s1.heap.objs.size], _, _, H1, rfl, I2, turn_enumT a (s1.heap.objs.size + 1) s1.heap.objs.size, ⟨⟨.none, he⟩, hit, Nat.succ_ne_self _⟩, fun b hb => ?_, q⟩
    have hle : s1.heap.objs.size ≤ b := by
      rcases (by simpa using hb : b = s1.heap.objs.size + 1 ∨ b = s1.heap.objs.size) with z | z
      · rw [z]; exact Nat.le_succ _
      · rw [z]; exact Nat.le_refl _
    exact I1.fpOk hle (I1.hok.fresh hle)

/-! ## ranges -/
def rangeD (lo : Int) : Nat → List D
  | 0 => []
  | n + 1 => .int lo :: rangeD (lo + 1) n
theorem rangeD_len : ∀ (n : Nat) (lo : Int), (rangeD lo n).length = n
  | 0, _ => rfl
  | n + 1, lo => by
    show (rangeD (lo + 1) n).length + 1 = n + 1
    rw [rangeD_len n]
theorem rangeD_get : ∀ (n : Nat) (lo : Int) (i : Nat) (d : D), (rangeD lo n)[i]? = some d → d = .int (lo + i)
  | 0, _, i, d, h => by simp [rangeD] at h
  | n + 1, lo, 0, d, h => by
    simp [rangeD] at h
    rw [← h]
    simp
  | n + 1, lo, i + 1, d, h => by
    have h' : (rangeD (lo + 1) n)[i]? = some d := by simpa [rangeD] using h
    rw [rangeD_get n (lo + 1) i d h']
    congr 1
    omega
def downD (lo : Int) : Nat → List D
  | 0 => []
  | n + 1 => .int lo :: downD (lo - 1) n
theorem downD_len : ∀ (n : Nat) (lo : Int), (downD lo n).length = n
  | 0, _ => rfl
  | n + 1, lo => by
    show (downD (lo - 1) n).length + 1 = n + 1
    rw [downD_len n]
theorem downD_get : ∀ (n : Nat) (lo : Int) (i : Nat) (d : D), (downD lo n)[i]? = some d → d = .int (lo + (i : Nat) * (-1))
  | 0, _, i, d, h => by simp [downD] at h
  | n + 1, lo, 0, d, h => by
    simp [downD] at h
    rw [← h]
    simp
  | n + 1, lo, i + 1, d, h => by
    have h' : (downD (lo - 1) n)[i]? = some d := by simpa [downD] using h
    rw [downD_get n (lo - 1) i d h']
    congr 1
    omega
def inRg (i : Int) : Bool := decide (i < 4611686018427387904) && decide (-4611686018427387904 ≤ i)
theorem inRg_ok {i : Int} (h : inRg i = true) : -(2 ^ 62) ≤ i ∧ i < 2 ^ 62 := by
  unfold inRg at h
  rw [Bool.and_eq_true, decide_eq_true_eq, decide_eq_true_eq] at h
  omega
def rg1 (_ : List SO) (ds : List D) : ResI := match ds with
  | [.int j] => if inRg j && decide (j.toNat ≤ lim) then .st (rangeD 0 j.toNat) else .bad
  | _ => .bad
def rg2 (_ : List SO) (ds : List D) : ResI := match ds with
  | [.int i, .int j] => if inRg i && inRg j && decide ((j - i).toNat ≤ lim) then .st (rangeD i (j - i).toNat) else .bad
  | _ => .bad
def rg3 (_ : List SO) (ds : List D) : ResI := match ds with
  | [.int i, .int j, .int c] => if decide (c = -1) && (inRg i && inRg j) && decide ((i - j).toNat ≤ lim) then .st (downD i (i - j).toNat) else .bad
  | _ => .bad
def iApp (fn : List SO → List D → ResI) (f : CA) : CI := fun σ S => match f σ S with
  | .ok ds => fn S ds
  | .ex c as => .ex c as
  | .bad => .bad
theorem OkI.from {g : GX} {E : XK} {H H1 : Hp} {F F1 : FZ} {μ : List Addr} {r : ResI} {R : It → Hp → Prop} (h : OkI g E H F μ r R) (s : Same H H1) (x : FX F H F1 H1) : OkI g E H1 F1 μ r R := by
  cases r with
  | st d => exact fun J H' F' s' x' rr => h J H' F' (s.trans s') (x.trans s x') rr
  | dy d => exact fun J H' F' s' x' rr => h J H' F' (s.trans s') (x.trans s x') rr
  | ex c as => exact fun cls dx H' F' s' x' rr => h cls dx H' F' (s.trans s') (x.trans s x') rr
  | bad => exact h
theorem TL.appI {g : GX} {E : WX} {f : CA} {fn : List SO → List D → ResI} {σc : St} {H : Hp} {R : It → Hp → Prop} {R1 : List V → Hp → Prop} (h : TIt g E (iApp fn f) σc H R)
    (w : ∀ (μ : List Addr) (F : FZ) (σ : Sl) (S : List SO) (H1 : Hp) (ds : List D) (vs : List V), Rel g μ F σ S σc H1 → RepVs g H1 F μ ds vs → OkI g (wat E σc) H1 F μ (fn S ds) R → R1 vs H1) : TL g E f σc H R1 := by
  obtain ⟨μ, F, σ, S, Rl, q⟩ := h
  refine ⟨μ, F, σ, S, Rl, ?_⟩
  unfold iApp at q
  cases ea : f σ S with
  | bad => rw [ea] at q; exact q
  | ex c as => rw [ea] at q; exact q
  | ok ds =>
    rw [ea] at q
    exact fun vs H1 F1 s1 x1 r1 => w μ F1 σ S H1 ds vs (Rl.mono s1 x1) r1 (q.from s1 x1)
section
variable {g : GX} {μ : List Addr} {F : FZ} {σ : Sl} {S : List SO} {σc : St} {H : Hp}
theorem wk_range (lo : Int) (n : Nat) (hn : n ≤ lim) : Wk g μ F H (Itr lo n) (fun _ => some (rangeD lo n)) := fun μ' F' σ' S' σc' H' l R ds e => by
  cases (show some (rangeD lo n) = some ds from e)
  rw [rangeD_len]
  refine ⟨by rw [lim_eq]; exact hn, fun i => ?_⟩
  refine ⟨fun h => h, fun x H2 hy => ?_, fun h => h⟩
  obtain ⟨e2, hx⟩ := hy
  subst e2
  refine ⟨Same.refl _, fun d hd => ?_⟩
  rw [rangeD_get n lo i d hd, hx]
  exact .inr rfl
theorem wk_down (lo : Int) (n : Nat) (hn : n ≤ lim) : Wk g μ F H (Itc lo (-1) n) (fun _ => some (downD lo n)) := fun μ' F' σ' S' σc' H' l R ds e => by
  cases (show some (downD lo n) = some ds from e)
  rw [downD_len]
  refine ⟨by rw [lim_eq]; exact hn, fun i => ?_⟩
  refine ⟨fun h => h, fun x H2 hy => ?_, fun h => h⟩
  obtain ⟨e2, hx⟩ := hy
  subst e2
  refine ⟨Same.refl _, fun d hd => ?_⟩
  rw [downD_get n lo i d hd, hx]
  exact .inr rfl
theorem RepVs.three {d e f : D} {vs : List V} (r : RepVs g H F μ [d, e, f] vs) : ∃ u v w, vs = [u, v, w] ∧ RepV g H F μ d u ∧ RepV g H F μ e v ∧ RepV g H F μ f w := by
  cases r with
  | cons r t =>
    obtain ⟨v, w, rfl, t1, t2⟩ := RepVs.two t
    exact ⟨_, v, w, rfl, r, t1, t2⟩
end
section
variable {X : Cx} {g : GX} {W : WX} {tg a b c : Expr} {f : CA} {p pos : Pos}
theorem it_range1 (hg : Gl X "range") (hm : X.mg "range" = none) (ha : PA X [a] (TL g W f)) (hs : starEach [a] X.env = [(false, eval a X.env)] := by rfl) : PI X tg (.Call (.Name "range" p) [a] [] pos) (TIt g W (iApp rg1 f)) :=
  (pi_range1 hg hm ha hs).hc fun σc H R h => TL.appI h fun μ F σ S H1 ds vs Rl r q => by
    unfold rg1 at q
    split at q
    · rename_i j
      obtain ⟨v, rfl, rv⟩ := r.one
      cases rv.int
      split at q
      · rename_i hj
        rw [Bool.and_eq_true, decide_eq_true_eq] at hj
        obtain ⟨h1, h2⟩ := inRg_ok hj.1
        exact ⟨j, rfl, h1, h2, q _ H1 F (Same.refl _) Rl.fx (wk_range 0 _ hj.2)⟩
      · exact q.elim
    · exact q.elim
theorem it_range2 (hg : Gl X "range") (hm : X.mg "range" = none) (ha : PA X [a, b] (TL g W f)) (hs : starEach [a, b] X.env = [(false, eval a X.env), (false, eval b X.env)] := by rfl) (hs2 : starEach [b] X.env = [(false, eval b X.env)] := by rfl) : PI X tg (.Call (.Name "range" p) [a, b] [] pos) (TIt g W (iApp rg2 f)) :=
  (pi_range2 hg hm ha hs hs2).hc fun σc H R h => TL.appI h fun μ F σ S H1 ds vs Rl r q => by
    unfold rg2 at q
    split at q
    · rename_i i j
      obtain ⟨v, w, rfl, rv, rw'⟩ := r.two
      cases rv.int
      cases rw'.int
      split at q
      · rename_i hj
        rw [Bool.and_eq_true, Bool.and_eq_true, decide_eq_true_eq] at hj
        obtain ⟨h1, h2⟩ := inRg_ok hj.1.1
        obtain ⟨h3, h4⟩ := inRg_ok hj.1.2
        exact ⟨i, j, rfl, ⟨h1, h2, h3, h4⟩, q _ H1 F (Same.refl _) Rl.fx (wk_range i _ hj.2)⟩
      · exact q.elim
    · exact q.elim
theorem it_range3 (hg : Gl X "range") (hm : X.mg "range" = none) (ha : PA X [a, b, c] (TL g W f)) (hs : starEach [a, b, c] X.env = (false, eval a X.env) :: starEach [b, c] X.env := by rfl) (hpl : (backTo pos (starEach [b, c] X.env)).any (·.1) = false := by rfl) : PI X tg (.Call (.Name "range" p) [a, b, c] [] pos) (TIt g W (iApp rg3 f)) :=
  (pi_range3 hg hm ha hs hpl).hc fun σc H R h => TL.appI h fun μ F σ S H1 ds vs Rl r q => by
    unfold rg3 at q
    split at q
    · rename_i i j c
      obtain ⟨u, v, w, rfl, ru, rv, rw'⟩ := r.three
      cases ru.int
      cases rv.int
      cases rw'.int
      split at q
      · rename_i hj
        rw [Bool.and_eq_true, Bool.and_eq_true, Bool.and_eq_true, decide_eq_true_eq, decide_eq_true_eq] at hj
        obtain ⟨⟨rfl, hi, hj⟩, hn⟩ := hj
        obtain ⟨h1, h2⟩ := inRg_ok hi
        obtain ⟨h3, h4⟩ := inRg_ok hj
        exact ⟨i, j, -1, _, rfl, RgC.neg h1 h2 h3 h4, q _ H1 F (Same.refl _) Rl.fx (wk_down i _ hn)⟩
      · exact q.elim
    · exact q.elim
end

/-! ## enumerate, reversed -/
def enumD (i : Int) : List D → List D
  | [] => []
  | d :: r => .tup [.int i, d] :: enumD (i + 1) r
theorem enumD_len : ∀ (ds : List D) (i : Int), (enumD i ds).length = ds.length
  | [], _ => rfl
  | d :: r, i => by
    show (enumD (i + 1) r).length + 1 = r.length + 1
    rw [enumD_len r]
theorem enumD_get : ∀ (ds : List D) (k : Int) (i : Nat) (d : D), (enumD k ds)[i]? = some d → ∃ e, ds[i]? = some e ∧ d = .tup [.int (k + i), e]
  | [], _, i, d, h => by simp [enumD] at h
  | e :: r, k, 0, d, h => by
    simp [enumD] at h
    exact ⟨e, rfl, by rw [← h]; simp⟩
  | e :: r, k, i + 1, d, h => by
    have h' : (enumD (k + 1) r)[i]? = some d := by simpa [enumD] using h
    obtain ⟨e2, h1, h2⟩ := enumD_get r (k + 1) i d h'
    exact ⟨e2, by simpa using h1, by rw [h2, show k + 1 + (i : Int) = k + ((i + 1 : Nat) : Int) by omega]⟩
def enI (S : List SO) (ds : List D) : ResI := match ds with
  | [.tup xs] => .st (enumD 0 xs)
  | [.lst xs] => .st (enumD 0 xs)
  | [.rol xs] => .st (enumD 0 xs)
  | [.loc n] => match lstOf S (.loc n) with
    | some _ => .dy fun S => match lstOf S (.loc n) with
      | some xs => if pureL xs then some (enumD 0 xs) else none
      | none => none
    | none => .bad
  | _ => .bad
section
variable {g : GX} {μ : List Addr} {F : FZ} {σ : Sl} {S : List SO} {σc : St} {H : Hp}
theorem wk_enum {a : Addr} {it : List SO → Option (List D)}
    (h : ∀ (μ' : List Addr) (F' : FZ) (σ' : Sl) (S' : List SO) (σc' : St) (H' : Hp), Later μ F H μ' F' H' → Rel g μ' F' σ' S' σc' H' → ∀ ds, it S' = some ds → ∃ xs vs, ds = enumD 0 xs ∧ SqL g.K H' a vs ∧ vs.length ≤ sizeLine ∧ RepL g H' F' xs vs) : Wk g μ F H (Ite g.K a) it :=
  fun μ' F' σ' S' σc' H' l R ds e => by
    obtain ⟨xs, vs, rfl, h1, hz, h2⟩ := h μ' F' σ' S' σc' H' l R ds e
    have hl := h2.length
    rw [enumD_len]
    refine ⟨by rw [hl]; exact hz, fun i => ?_⟩
    refine ⟨fun hi => ⟨vs, vs[i]'(by omega), h1, List.getElem?_eq_getElem (by omega)⟩, fun x H2 hy => ?_, fun hi => ⟨vs, h1, by omega⟩⟩
    obtain ⟨p, y, rfl, hp, rfl, hx⟩ := hy
    refine ⟨same_new hp, fun d hd => ?_⟩
    obtain ⟨e2, he2, rfl⟩ := enumD_get xs 0 i d hd
    obtain ⟨v, hv, rv⟩ := (h2.vs (μ := [])).get he2
    have hx := hx vs h1
    rw [hv] at hx
    obtain rfl : v = y := Option.some.inj hx
    rcases rv with ⟨n, a2, _, z, _⟩ | rv
    · simp at z
    · refine .inr ⟨p, [.int (i : Nat), v], rfl, ⟨upd_same, by show 2 ≤ sizeLine; decide⟩, _, _, rfl, ?_, v, [], rfl, RepP.mono (same_new hp) (fun _ h => h) _ _ rv, rfl⟩
      show V.int (i : Nat) = .int (0 + (i : Nat))
      rw [Int.zero_add]
theorem wk_enumT {a : Addr} {it : List SO → Option (List D)}
    (h : ∀ (μ' : List Addr) (F' : FZ) (σ' : Sl) (S' : List SO) (σc' : St) (H' : Hp), Later μ F H μ' F' H' → Rel g μ' F' σ' S' σc' H' → ∀ ds, it S' = some ds → ∃ xs vs, ds = enumD 0 xs ∧ SqT g.K H' a vs ∧ vs.length ≤ sizeLine ∧ RepL g H' F' xs vs) : Wk g μ F H (IteT g.K a) it :=
  fun μ' F' σ' S' σc' H' l R ds e => by
    obtain ⟨xs, vs, rfl, h1, hz, h2⟩ := h μ' F' σ' S' σc' H' l R ds e
    have hl := h2.length
    rw [enumD_len]
    refine ⟨by rw [hl]; exact hz, fun i => ?_⟩
    refine ⟨fun hi => ⟨vs, vs[i]'(by omega), h1, List.getElem?_eq_getElem (by omega)⟩, fun x H2 hy => ?_, fun hi => ⟨vs, h1, by omega⟩⟩
    obtain ⟨p, y, rfl, hp, rfl, hx⟩ := hy
    refine ⟨same_new hp, fun d hd => ?_⟩
    obtain ⟨e2, he2, rfl⟩ := enumD_get xs 0 i d hd
    obtain ⟨v, hv, rv⟩ := (h2.vs (μ := [])).get he2
    have hx := hx vs h1
    rw [hv] at hx
    obtain rfl : v = y := Option.some.inj hx
    rcases rv with ⟨n, a2, _, z, _⟩ | rv
    · simp at z
    · refine .inr ⟨p, [.int (i : Nat), v], rfl, ⟨upd_same, by show 2 ≤ sizeLine; decide⟩, _, _, rfl, ?_, v, [], rfl, RepP.mono (same_new hp) (fun _ h => h) _ _ rv, rfl⟩
      show V.int (i : Nat) = .int (0 + (i : Nat))
      rw [Int.zero_add]
end
section
variable {X : Cx} {g : GX} {W : WX} {e : Expr} {f : CA} {p pos tpos : Pos} {elts : List Expr} {kk : Nat}
theorem it_enum (hG : Gl X "enumerate") (hm : X.mg "enumerate" = none) (ha : PA X [e] (TL g W f)) (hg : X.K = g.K := by rfl) (hs : starEach [e] X.env = [(false, eval e X.env)] := by rfl) :
    PI X (.Tuple elts kk tpos) (.Call (.Name "enumerate" p) [e] [] pos) (TIt g W (iApp enI f)) := by
  have key : PI X (.Tuple elts kk tpos) (.Call (.Name "enumerate" p) [e] [] pos) (fun σ H R => TL g W f σ H fun vs H1 => (∃ a xs, vs = [.ref a] ∧ SqL X.K H1 a xs ∧ R (Ite X.K a) H1) ∨ ∃ a xs, vs = [.ref a] ∧ SqT X.K H1 a xs ∧ R (IteT X.K a) H1) := by
    refine ⟨fun pins s σ H R I h => Call_ (ld_blt I hG hm boot_enumerate (PyProof.Rows.callWith_type1 (thn (ha.run pos pins s σ H _ I h) fun us s1 ⟨vs, H1, I1, r1, q1⟩ => ?_) hs rfl))⟩
    rcases q1 with ⟨a, xs, ex, hq, q⟩ | ⟨a, xs, ex, hq, q⟩
    · subst ex
      cases r1 with
      | cons r rr =>
        cases rr
        cases r
        obtain ⟨its, rv, p', hz⟩ := I1.list hq
        refine call_enumerate_list p'.isList fun h' he hit hsz hk => wpAny_pyIter_enum he ?_
        have I2 : Inv X pins σ H1 { s1 with heap := h' } := I1.kept (t' := s1.toks) hk
        refine ⟨s1.heap.objs.size + 1, [s1.heap.objs.size + 1, s1.heap.objs.size], _, _, H1, rfl, I2, turn_enum a (s1.heap.objs.size + 1) s1.heap.objs.size, ⟨⟨.none, he⟩, hit, Nat.succ_ne_self _⟩, fun b hb => ?_, q⟩
        have hle : s1.heap.objs.size ≤ b := by
          rcases (by simpa using hb : b = s1.heap.objs.size + 1 ∨ b = s1.heap.objs.size) with z | z
          · rw [z]; exact Nat.le_succ _
          · rw [z]; exact Nat.le_refl _
        exact I1.fpOk hle (I1.hok.fresh hle)
    · subst ex
      cases r1 with
      | cons r rr =>
        cases rr
        cases r
        obtain ⟨its, rv, p', hz⟩ := I1.tuple hq
        refine enumT_call (show s1.heap.IsTuple a its.toArray from p') fun h' he hit hsz hk => wpAny_pyIter_enum he ?_
        have I2 : Inv X pins σ H1 { s1 with heap := h' } := I1.kept (t' := s1.toks) hk
        refine ⟨s1.heap.objs.size + 1, [s1.heap.objs.size + 1, s1.heap.objs.size], _, _, H1, rfl, I2, turn_enumT a (s1.heap.objs.size + 1) s1.heap.objs.size, ⟨⟨.none, he⟩, hit, Nat.succ_ne_self _⟩, fun b hb => ?_, q⟩
        have hle : s1.heap.objs.size ≤ b := by
          rcases (by simpa using hb : b = s1.heap.objs.size + 1 ∨ b = s1.heap.objs.size) with z | z
          · rw [z]; exact Nat.le_succ _
          · rw [z]; exact Nat.le_refl _
        exact I1.fpOk hle (I1.hok.fresh hle)
  refine key.hc fun σc H R h => TL.appI h fun μ F σ S H1 ds vs Rl r q => ?_
  rw [hg]
  unfold enI at q
  split at q
  · rename_i xs
    obtain ⟨v, rfl, rv⟩ := r.one
    obtain ⟨a, ws, rfl, h1, h2, h3⟩ := rv.tup (xs := xs) rfl
    refine .inr ⟨a, ws, rfl, h1, q _ H1 F (Same.refl _) Rl.fx (wk_enumT fun μ' F' σ' S' σc' H' l R' ds e => ?_)⟩
    cases (show some (enumD 0 xs) = some ds from e)
    exact ⟨xs, ws, rfl, l.sq Rl h1, h2, RepL.later Rl l _ _ h3⟩
  · rename_i xs
    obtain ⟨v, rfl, rv⟩ := r.one
    obtain ⟨a, ws, rfl, ⟨k1, k2, k3⟩, h2⟩ := rv.pure rfl
    refine .inl ⟨a, ws, rfl, SqL.of k2, q _ H1 F (Same.refl _) Rl.fx (wk_enum fun μ' F' σ' S' σc' H' l R' ds e => ?_)⟩
    cases (show some (enumD 0 xs) = some ds from e)
    exact ⟨xs, ws, rfl, SqL.of (l.keep _ _ (fun hm => Rl.ap _ hm k1) k2), k3, RepL.later Rl l _ _ h2⟩
  · rename_i xs
    obtain ⟨v, rfl, rv⟩ := r.one
    obtain ⟨a, ws, rfl, ⟨k1, k2⟩, h2⟩ := rv.pure rfl
    refine .inl ⟨a, ws, rfl, k1.sq, q _ H1 F (Same.refl _) Rl.fx (wk_enum fun μ' F' σ' S' σc' H' l R' ds e => ?_)⟩
    cases (show some (enumD 0 xs) = some ds from e)
    exact ⟨xs, ws, rfl, (l.rol Rl k1).sq, k2, RepL.later Rl l _ _ h2⟩
  · rename_i n
    obtain ⟨v, rfl, rv⟩ := r.one
    split at q
    · rename_i xs0 ex0
      obtain ⟨a, ws, rfl, h1, h2, h3⟩ := Rl.lst rv ex0
      refine .inl ⟨a, ws, rfl, SqL.of h1, q _ H1 F (Same.refl _) Rl.fx (wk_enum fun μ' F' σ' S' σc' H' l R' ds e => ?_)⟩
      split at e
      · rename_i xs ex
        split at e
        · rename_i hp
          cases e
          obtain ⟨b, us, e2, k1, k2, k3⟩ := R'.lst (RepV.later Rl l rv) ex
          cases e2
          exact ⟨xs, us, rfl, SqL.of k1, k2, k3.pure hp⟩
        · cases e
      · cases e
    · exact q.elim
  · exact q.elim
end
end HC

set_option maxRecDepth 100000
namespace HC
open PySem PySem.Spec L2
open PyProof.Rows hiding St

/-! ## targets -/
abbrev TgF := D → Sl → Option Sl
abbrev TgsF := List D → Sl → Option Sl
def setD (σ : Sl) (i : Nat) (d : D) : Sl := σ.set i (some d)
def tgName (i : Nat) : TgF := fun d σ => some (setD σ i d)
def tgNil : TgsF := fun ds σ => match ds with
  | [] => some σ
  | _ => none
def tgCons (a : TgF) (r : TgsF) : TgsF := fun ds σ => match ds with
  | d :: ds => match a d σ with
    | some σ1 => r ds σ1
    | none => none
  | [] => none
def tgTup (n : Nat) (t : TgsF) : TgF := fun d σ => match d with
  | .tup ds => if ds.length = n then t ds σ else none
  | _ => none
/-- the slots but ss are as they were -/
def But (ss : List Nat) (σ σ' : St) : Prop := σ'.length = σ.length ∧ ∀ j, j ∉ ss → σ'[j]? = σ[j]?
theorem But.refl {ss : List Nat} {σ : St} : But ss σ σ := ⟨rfl, fun _ _ => rfl⟩
theorem But.trans {s1 s2 : List Nat} {σ σ1 σ2 : St} (a : But s1 σ σ1) (b : But s2 σ1 σ2) : But (s1 ++ s2) σ σ2 :=
  ⟨b.1.trans a.1, fun j h => by rw [List.mem_append, not_or] at h; rw [b.2 j h.2, a.2 j h.1]⟩
theorem But.mono {s1 s2 : List Nat} {σ σ1 : St} (a : But s1 σ σ1) (h : ∀ j ∈ s1, j ∈ s2) : But s2 σ σ1 := ⟨a.1, fun j hj => a.2 j fun z => hj (h j z)⟩
def TGt (g : GX) (ss : List Nat) (A : TgF) : TG := fun v σc H Q => ∃ μ F σ S d σ', Rel g μ F σ S σc H ∧ RepV g H F μ d v ∧ A d σ = some σ' ∧ ∀ σc', Rel g μ F σ' S σc' H → But ss σc σc' → Q σc' H
def TGts (g : GX) (ss : List Nat) (A : TgsF) : TGs := fun vs σc H Q => ∃ μ F σ S ds σ', Rel g μ F σ S σc H ∧ RepVs g H F μ ds vs ∧ A ds σ = some σ' ∧ ∀ σc', Rel g μ F σ' S σc' H → But ss σc σc' → Q σc' H
section
variable {g : GX} {μ : List Addr} {F : FZ} {σ : Sl} {S : List SO} {σc : St} {H : Hp}
theorem Rel.set (R : Rel g μ F σ S σc H) {i : Nat} {d : D} {v : V} (r : RepV g H F μ d v) : Rel g μ F (setD σ i d) S (σc.set i (some v)) H := by
  refine ⟨fun j e h => ?_, by unfold setD; rw [List.length_set, List.length_set]; exact R.len, R.st, R.ml, R.nd, R.ap, R.dom, R.xc⟩
  unfold setD at h
  by_cases hj : i = j
  · subst hj
    by_cases hl : i < σ.length
    · rw [List.getElem?_set_self hl] at h
      cases h
      exact ⟨v, by rw [List.getElem?_set_self (by rw [← R.len]; exact hl)], r⟩
    · rw [List.getElem?_eq_none (by rw [List.length_set]; omega)] at h
      cases h
  · rw [List.getElem?_set_ne hj] at h
    rw [List.getElem?_set_ne hj]
    exact R.env j e h
theorem But.set {i : Nat} {v : Option V} : But [i] σc (σc.set i v) := ⟨by rw [List.length_set], fun j hj => by rw [List.getElem?_set_ne]; intro z; subst z; simp at hj⟩
end
section
variable {X : Cx} {g : GX} {pos : Pos}
theorem tg_name {i : Nat} {x : Str} (hN : X.N.Nodup) (hi : X.N[i]? = some x) (hx : Loc X.env.scope x) (hf : X.fn x = true ∨ X.env.scope.names.lookup x = some .local := by first | exact .inl rfl | exact .inr rfl | assumption) : PG X (.Name x pos) (TGt g [i] (tgName i)) :=
  (pg_name hN hi hx hf).hc fun v σc H Q ⟨μ, F, σ, S, d, σ', R, r, e, q⟩ => by
    cases (show some (setD σ i d) = some σ' from e)
    exact q _ (R.set r) .set
theorem tgs_nil : PGs X [] (TGts g [] tgNil) := ⟨fun pins s σ0 H vs us Q I rv ⟨μ, F, σ, S, ds, σ', R, r, e, q⟩ => by
  refine pgs_nil.run pins s σ0 H vs us Q I rv ?_
  cases ds with
  | nil =>
    cases (show some σ = some σ' from e)
    cases r
    exact ⟨rfl, q _ R .refl⟩
  | cons _ _ => cases e⟩
theorem tgs_cons {e : Expr} {es : List Expr} {s1 s2 : List Nat} {A : TgF} {B : TgsF} (h1 : PG X e (TGt g s1 A)) (h2 : PGs X es (TGts g s2 B))
    (hs : (assignEach (e :: es) X.env).map (·.2) = assign e X.env :: (assignEach es X.env).map (·.2) := by rfl) : PGs X (e :: es) (TGts g (s1 ++ s2) (tgCons A B)) := ⟨fun pins s σ0 H vs us Q I rv ⟨μ, F, σ, S, ds, σ', R, r, e, q⟩ => by
  refine (pgs_cons h1 h2 hs).run pins s σ0 H vs us Q I rv ?_
  cases ds with
  | nil => cases e
  | cons d ds =>
    cases r with
    | cons rd rr =>
      have e2 : (match A d σ with | some σ1 => B ds σ1 | none => none) = some σ' := e
      split at e2
      · rename_i σ1 e1
        exact ⟨_, _, rfl, μ, F, σ, S, d, σ1, R, rd, e1, fun σc1 R1 b1 => ⟨μ, F, σ1, S, ds, σ', R1, rr, e2, fun σc2 R2 b2 => q σc2 R2 (b1.trans b2)⟩⟩
      · cases e2⟩
theorem tg_tup {es : List Expr} {k : Nat} {ss : List Nat} {B : TgsF} {n : Nat} (hc : X.calm = true) (h : PGs X es (TGts g ss B)) (hg : X.K = g.K := by rfl)
    (hn : (assignEach es X.env).length = n := by rfl) (hst : (assignEach es X.env).findIdx? (·.1) = none := by rfl) : PG X (.Tuple es k pos) (TGt g ss (tgTup n B)) :=
  (pg_tup hc h hn hst).hc fun v σc H Q ⟨μ, F, σ, S, d, σ', R, r, e, q⟩ => by
    unfold tgTup at e
    split at e
    · rename_i ds
      split at e
      · rename_i hl
        obtain ⟨a, vs, rfl, h1, h2, h3⟩ := r.tup (xs := ds) rfl
        exact ⟨a, vs, rfl, by rw [hg]; exact h1, by rw [← h3.length]; exact hl, μ, F, σ, S, ds, σ', R, h3.vs, e, q⟩
      · cases e
    · cases e
end

/-! ## list comprehensions -/
def wipeD (σ : Sl) : List Nat → Sl
  | [] => σ
  | v :: vs => (wipeD σ vs).set v none
theorem wipeD_some {σ : Sl} {i : Nat} {x : D} : ∀ {vs : List Nat}, (wipeD σ vs)[i]? = some (some x) → σ[i]? = some (some x) ∧ i ∉ vs
  | [], h => ⟨h, by simp⟩
  | v :: vs, h => by
    unfold wipeD at h
    by_cases hi : v = i
    · subst hi
      by_cases hv : v < (wipeD σ vs).length
      · rw [List.getElem?_set_self hv] at h; cases h
      · rw [List.getElem?_eq_none (by rw [List.length_set]; omega)] at h; cases h
    · rw [List.getElem?_set_ne hi] at h
      obtain ⟨h1, h2⟩ := wipeD_some h
      refine ⟨h1, fun z => ?_⟩
      rcases List.mem_cons.mp z with z | z
      · exact hi z.symm
      · exact h2 z
theorem wipeD_len (σ : Sl) : ∀ vs : List Nat, (wipeD σ vs).length = σ.length
  | [] => rfl
  | v :: vs => by unfold wipeD; rw [List.length_set, wipeD_len σ vs]
theorem wipe_off {σ : St} {i : Nat} : ∀ {vs : List Nat}, i ∉ vs → (wipe σ vs)[i]? = σ[i]?
  | [], _ => rfl
  | v :: vs, h => by
    unfold wipe
    rw [List.getElem?_set_ne (fun z => h (by rw [z]; exact List.mem_cons_self ..)), wipe_off fun z => h (List.mem_cons_of_mem _ z)]
theorem wipe_on {σ : St} {i : Nat} : ∀ {vs : List Nat}, i ∈ vs → (wipe σ vs)[i]? = if i < σ.length then some none else none
  | v :: vs, h => by
    unfold wipe
    by_cases hi : v = i
    · subst hi
      by_cases hv : v < σ.length
      · rw [List.getElem?_set_self (by rw [wipe_length]; exact hv), if_pos hv]
      · rw [List.getElem?_eq_none (by rw [List.length_set, wipe_length]; omega), if_neg hv]
    · rw [List.getElem?_set_ne hi]
      rcases List.mem_cons.mp h with z | z
      · exact absurd z.symm hi
      · exact wipe_on z
theorem wipe_but {σ σ' : St} {ss vs : List Nat} (b : But ss (wipe σ vs) σ') (h : ∀ j ∈ ss, j ∈ vs) : wipe σ' vs = wipe σ vs := by
  apply List.ext_getElem?
  intro j
  have hl : σ'.length = σ.length := b.1.trans (wipe_length σ vs)
  by_cases hj : j ∈ vs
  · rw [wipe_on hj, wipe_on hj, hl]
  · rw [wipe_off hj, b.2 j fun z => hj (h j z)]
theorem Rel.wipe {g : GX} {μ : List Addr} {F : FZ} {σ : Sl} {S : List SO} {σc : St} {H : Hp} (R : Rel g μ F σ S σc H) (vs : List Nat) : Rel g μ F (wipeD σ vs) S (wipe σc vs) H :=
  ⟨fun j e h => by
    obtain ⟨h1, h2⟩ := wipeD_some h
    rw [wipe_off h2]
    exact R.env j e h1, by rw [wipeD_len, wipe_length]; exact R.len, R.st, R.ml, R.nd, R.ap, R.dom, R.xc⟩
/-- the items that the comprehension makes -/
def compL (A : TgF) (t f : CE) (σ : Sl) (S : List SO) : List D → Option (List D)
  | [] => some []
  | d :: ds => match A d σ with
    | some σ1 => match t σ1 S with
      | .ok (.bl true) _ => match f σ1 S with
        | .ok y _ => if y.pure then (match compL A t f σ S ds with
          | some r => some (y :: r)
          | none => none) else none
        | _ => none
      | .ok (.bl false) _ => compL A t f σ S ds
      | _ => none
    | none => none
def cTrue : CE := fun _ _ => .ok (.bl true) false
def kComp (A : TgF) (t f : CE) (ws : List Nat) (σ : Sl) (S : List SO) (ds : List D) : Res := match compL A t f (wipeD σ ws) S ds with
  | some r => .ok (.lst r) true
  | none => .bad
def cComp (it : CI) (A : TgF) (ws : List Nat) (t f : CE) : CE := fun σ S => match it σ S with
  | .st ds => kComp A t f ws σ S ds
  | .dy i => match i S with
    | some ds => kComp A t f ws σ S ds
    | none => .bad
  | .ex c as => .ex c as
  | .bad => .bad
/-- no exception -/
def W0 : WX := fun _ _ _ _ => False
theorem compL_le {A : TgF} {t f : CE} {σ : Sl} {S : List SO} : ∀ {ds r : List D}, compL A t f σ S ds = some r → r.length ≤ ds.length
  | [], r, h => by
    cases (show some [] = some r from h)
    exact Nat.le_refl _
  | d :: ds, r, h => by
    unfold compL at h
    split at h
    · split at h
      · split at h
        · split at h
          · split at h
            · rename_i e
              cases h
              have := compL_le e
              simp only [List.length_cons]
              omega
            · cases h
          · cases h
        · cases h
      · have := compL_le h
        simp only [List.length_cons]
        omega
      · cases h
    · cases h
section
variable {g : GX} {H : Hp} {F : FZ} {b : Addr} {o : HO} {us : List V}
mutual
/-- a plain value does not see a store into an object that is not frozen -/
theorem RepP.writeG (nt : ∀ xs, H b ≠ some (.tup xs)) (nz : ∀ ob u, H b ≠ some (.frz ob u)) (nf : ¬ F b) : ∀ (d : D) (v : V), RepP g H F d v → RepP g (upd H b o) F d v
  | .non, _, h => h
  | .bl _, _, h => h
  | .int _, _, h => h
  | .str _, _, h => h
  | .tup ds, v, h => by
    obtain ⟨a, vs, e, ⟨h1, hz⟩, h2⟩ := h
    refine ⟨a, vs, e, ⟨?_, hz⟩, RepL.writeG nt nz nf ds vs h2⟩
    exact (upd_ne (fun z => nt _ (z ▸ h1))).trans h1
  | .lst ds, v, h => by
    obtain ⟨a, vs, e, ⟨h1, h2, h3⟩, h4⟩ := h
    have na : a ≠ b := fun z => nf (z ▸ h1)
    exact ⟨a, vs, e, ⟨h1, (upd_ne na).trans h2, h3⟩, RepL.writeG nt nz nf ds vs h4⟩
  | .rol ds, v, h => by
    obtain ⟨a, vs, e, ⟨h1, hz⟩, h2⟩ := h
    refine ⟨a, vs, e, ⟨?_, hz⟩, RepL.writeG nt nz nf ds vs h2⟩
    rcases h1 with ⟨ob, h1⟩ | h1
    · exact .inl ⟨ob, (upd_ne (fun z => nz _ _ (z ▸ h1))).trans h1⟩
    · exact .inr h1
  | .dct ks ds, v, h => by
    obtain ⟨a, vs, e, h1, h2, h3⟩ := h
    have na : a ≠ b := fun z => nf (z ▸ h1)
    have k : ∀ u, Rd H a u → Rd (upd H b o) a u := fun u h => h.elim (fun h => .inl ((upd_ne na).trans h)) fun ⟨ob, h⟩ => .inr ⟨ob, (upd_ne na).trans h⟩
    refine ⟨a, vs, e, h1, RepL.writeG nt nz nf ds vs h2, ?_⟩
    rcases h3 with ⟨kvs, q1, q2⟩ | ⟨kvs, q1, q2⟩
    · exact .inl ⟨kvs, k _ q1, q2⟩
    · exact .inr ⟨kvs, k _ q1, q2⟩
  | .obj c ds, v, h => by
    obtain ⟨a, dx, fs, vs, e, h1, h2, h3, h4, h5⟩ := h
    have na : a ≠ b := fun z => nf (z ▸ h1)
    exact ⟨a, dx, fs, vs, e, h1, (upd_ne na).trans h2, h3, h4, RepL.writeG nt nz nf ds vs h5⟩
  | .loc _, _, h => h
  | .err, _, h => h
theorem RepL.writeG (nt : ∀ xs, H b ≠ some (.tup xs)) (nz : ∀ ob u, H b ≠ some (.frz ob u)) (nf : ¬ F b) : ∀ (ds : List D) (vs : List V), RepL g H F ds vs → RepL g (upd H b o) F ds vs
  | [], _, h => h
  | d :: ds, vs, h => by
    obtain ⟨v, ws, e, h1, h2⟩ := h
    exact ⟨v, ws, e, RepP.writeG nt nz nf d v h1, RepL.writeG nt nz nf ds ws h2⟩
end
theorem RepP.write (hb : H b = some (.lst us)) (nf : ¬ F b) (d : D) (v : V) : RepP g H F d v → RepP g (upd H b o) F d v := RepP.writeG (fun xs z => by rw [hb] at z; exact nomatch z) (fun ob u z => by rw [hb] at z; exact nomatch z) nf d v
theorem RepL.write (hb : H b = some (.lst us)) (nf : ¬ F b) (ds : List D) (vs : List V) : RepL g H F ds vs → RepL g (upd H b o) F ds vs := RepL.writeG (fun xs z => by rw [hb] at z; exact nomatch z) (fun ob u z => by rw [hb] at z; exact nomatch z) nf ds vs
end
section
variable {g : GX} {μ : List Addr} {F : FZ} {σ : Sl} {S : List SO} {σc : St} {H1 : Hp} {J : It} {ds : List D}
theorem comp_walk {A : TgF} {ss ws : List Nat} {t f : CE} {res : List D} {it : List SO → Option (List D)} {D' : Addr} {Qd : Hp → Prop} (R : Rel g μ F σ S σc H1) (hw : Wk g μ F H1 J it) (eit : it S = some ds) (hD : H1 D' = none) (hss : ∀ j ∈ ss, j ∈ ws)
    (e : compL A t f (wipeD σ ws) S ds = some res)
    (q : ∀ (H : Hp) (F' : FZ) (vs : List V), Same H1 H → FX F H1 F' H → ¬ F' D' → D' ∉ μ → H D' = some (.lst vs) → vs.length ≤ sizeLine → RepL g H F' res vs → Qd H) :
    ∃ W : Nat → Nat → Hp → Prop, (∃ m, W 0 m (upd H1 D' (.lst []))) ∧ ∀ i m H, W i m H →
      (J.stop i H ∧ Qd H) ∨ (J.go i H ∧ ∃ Nx : Hp → Prop, (∀ H', Nx H' → ∃ m', m' < m ∧ W (i + 1) m' H') ∧ ∀ x H', J.yld i H x H' → TGt g ss A x (L2.wipe σc ws) H' fun σ2 H2 => L2.wipe σ2 ws = L2.wipe σc ws ∧ TB g W0 t σ2 H2 fun b H3 =>
        if b = true then T g W0 f σ2 H3 fun y H4 => ∃ acc, H4 D' = some (.lst acc) ∧ acc.length < sizeLine ∧ Nx (upd H4 D' (.lst (acc ++ [y]))) else Nx H3) := by
  -- what holds ahead of turn i
  let Inv' : Nat → Hp → Prop := fun i H => i ≤ ds.length ∧ ∃ (F' : FZ) (vs : List V) (acc rest : List D), Same H1 H ∧ FX F H1 F' H ∧ ¬ F' D' ∧ H D' = some (.lst vs) ∧ RepL g H F' acc vs ∧ acc.length ≤ i ∧ compL A t f (wipeD σ ws) S (ds.drop i) = some rest ∧ res = acc ++ rest
  have nmu : D' ∉ μ := fun h => by
    obtain ⟨u, e⟩ := R.mu_there h
    rw [hD] at e; cases e
  have nF : ¬ F D' := fun h => by
    obtain ⟨u, e⟩ := R.dom _ h
    rw [hD] at e; cases e
  have hlen : ds.length ≤ sizeLine := (hw μ F σ S σc H1 .refl R ds eit).1
  refine ⟨fun i m H => m = ds.length - i ∧ Inv' i H, ⟨ds.length, rfl, Nat.zero_le _, F, [], [], res, same_new hD, ⟨fun _ h => h, fun _ h => .inl h, fun a h => ?_⟩, nF, upd_same, rfl, Nat.le_refl _, e, rfl⟩, ?_⟩
  · obtain ⟨o, e⟩ := R.dom a h
    exact ⟨o, same_new hD _ _ e⟩
  rintro i m H ⟨rfl, hi, F', vs, acc, rest, sm, fx, nf, hd, ra, la, er, es⟩
  have R2 : Rel g μ F' σ S σc H := R.mono sm fx
  obtain ⟨_, wk⟩ := hw μ F' σ S σc H (.of sm fx) R2 ds eit
  obtain ⟨go, yl, stop⟩ := wk i
  by_cases hlt : i < ds.length
  · have ed : ds.drop i = ds[i] :: ds.drop (i + 1) := List.drop_eq_getElem_cons hlt
    rw [ed] at er
    unfold compL at er
    refine .inr ⟨go hlt, Inv' (i + 1), fun H' p' => ⟨ds.length - (i + 1), by omega, rfl, p'⟩, fun x H' hy => ?_⟩
    obtain ⟨sm', rx⟩ := yl x H' hy
    have rx := rx _ (List.getElem?_eq_getElem hlt)
    have fx0 : FX F' H F' H' := ⟨fun _ h => h, fun _ h => .inl h, fun a h => let ⟨o, e⟩ := fx.dom a h; ⟨o, sm' _ _ e⟩⟩
    have R3 : Rel g μ F' (wipeD σ ws) S (L2.wipe σc ws) H' := (R2.mono sm' fx0).wipe ws
    split at er
    · rename_i σ1 eA
      refine ⟨μ, F', wipeD σ ws, S, ds[i], σ1, R3, rx, eA, fun σ2 R4 bt => ⟨wipe_but bt hss, ?_⟩⟩
      split at er
      · rename_i fr et
        refine ⟨μ, F', σ1, S, R4, ?_⟩
        rw [et]
        intro v H5 F5 s5 x5 r5
        obtain ⟨F6, x6, u6, r6⟩ := r5.frz x5
        refine ⟨true, r6.bl, iteT ?_⟩
        have R6 : Rel g μ F6 σ1 S σ2 H5 := R4.mono s5 x6
        split at er
        · rename_i y fy ef
          split at er
          · rename_i hp
            split at er
            · rename_i r' er'
              cases er
              refine ⟨μ, F6, σ1, S, R6, ?_⟩
              rw [ef]
              intro yv H7 F7 s7 x7 r7
              obtain ⟨F8, x8, u8, r8⟩ := r7.frz x7
              have sall : Same H H7 := (sm'.trans s5).trans s7
              have xall : FX F' H F8 H7 := (fx0.trans sm' x6).trans (sm'.trans s5) x8
              have up8 : ∀ a, F' a → F8 a := xall.up
              have hlv := ra.length
              refine ⟨vs, sall _ _ hd, by omega, by omega, F8, vs ++ [yv], acc ++ [y], r', ?_, ?_, ?_, upd_same, ?_, by rw [List.length_append]; simp; omega, er', by simp [es]⟩
              · exact fun b o eb => by
                  rw [upd_ne (fun z => by rw [z, hD] at eb; cases eb)]
                  exact sall _ _ (sm _ _ eb)
              · refine ⟨fun a h => up8 _ (fx.up _ h), fun a h => (xall.nw a h).elim (fx.nw a) fun z => .inr (same_none sm z), fun a h => ?_⟩
                obtain ⟨o, eo⟩ := x8.dom a h
                by_cases ha : a = D'
                · exact ⟨_, by rw [ha]; exact upd_same⟩
                · exact ⟨o, by rw [upd_ne ha]; exact eo⟩
              · intro h
                rcases xall.nw _ h with h | h
                · exact nf h
                · rw [hd] at h; cases h
              · -- the new list's items
                have n8 : ¬ F8 D' := fun h => by
                  rcases xall.nw _ h with h | h
                  · exact nf h
                  · rw [hd] at h; cases h
                refine RepL.write (sall _ _ hd) n8 _ _ (RepL.append (RepL.mono sall up8 _ _ ra) ⟨yv, [], rfl, r8.pure hp, rfl⟩)
            · cases er
          · cases er
        · cases er
      · rename_i fr et
        refine ⟨μ, F', σ1, S, R4, ?_⟩
        rw [et]
        intro v H5 F5 s5 x5 r5
        obtain ⟨F6, x6, u6, r6⟩ := r5.frz x5
        have sall : Same H H5 := sm'.trans s5
        have xall : FX F' H F6 H5 := fx0.trans sm' x6
        refine ⟨false, r6.bl, iteF ⟨by omega, F6, vs, acc, rest, sm.trans sall, fx.trans sm xall, ?_, sall _ _ hd, RepL.mono sall xall.up _ _ ra, by omega, er, es⟩⟩
        intro h
        rcases xall.nw _ h with h | h
        · exact nf h
        · rw [hd] at h; cases h
      · cases er
    · cases er
  · have ei : i = ds.length := by omega
    have e0 : ds.drop i = [] := List.drop_eq_nil_of_le (by omega)
    rw [e0] at er
    cases (show some [] = some rest from er)
    rw [List.append_nil] at es
    subst es
    exact .inl ⟨stop (by omega), q H F' vs sm fx nf nmu hd (by have := ra.length; omega) ra⟩
end
section
variable {X : Cx} {g : GX} {W : WX} {elt tg iter : Expr} {scope : Scope} {own : List (Str × Nat)} {pos : Pos} {fi : CI} {A : TgF} {ss : List Nat} {fe ft : CE} {ifs : List Expr}
/-- the block of a comprehension -/
abbrev blkX (X : Cx) (scope : Scope) (s : Shared) (H : Hp) (C : Addr) (cl : List (Str × Addr)) (fp : List Addr) : Cx := X.blk s H scope (compEnvC scope cl C X.env) fp
theorem tLc_of {σc : St} {H : Hp} {Q : VK} (hss : ∀ j ∈ ss, j ∈ own.map (·.2)) (h : T g W (cComp fi A (own.map (·.2)) ft fe) σc H Q) : tLc (TIt g W fi) (TGt g ss A) (TB g W0 ft) (T g W0 fe) (own.map (·.2)) σc H Q := by
  obtain ⟨μ, F, σ, S, R, q⟩ := h
  refine ⟨μ, F, σ, S, R, ?_⟩
  unfold cComp at q
  have fin : ∀ {ds : List D} {it : List SO → Option (List D)} (J : It) (H1 : Hp) (F1 : FZ), Same H H1 → FX F H F1 H1 → Wk g μ F1 H1 J it → it S = some ds → Ok g (wat W σc) H F μ (kComp A ft fe (own.map (·.2)) σ S ds) Q →
      ∀ D', H1 D' = none → ∃ W : Nat → Nat → Hp → Prop, (∃ m, W 0 m (upd H1 D' (.lst []))) ∧ ∀ i m H, W i m H →
      (J.stop i H ∧ Q (.ref D') H) ∨ (J.go i H ∧ ∃ Nx : Hp → Prop, (∀ H', Nx H' → ∃ m', m' < m ∧ W (i + 1) m' H') ∧ ∀ x H', J.yld i H x H' → TGt g ss A x (L2.wipe σc (own.map (·.2))) H' fun σ2 H2 => L2.wipe σ2 (own.map (·.2)) = L2.wipe σc (own.map (·.2)) ∧ TB g W0 ft σ2 H2 fun b H3 =>
        if b = true then T g W0 fe σ2 H3 fun y H4 => ∃ acc, H4 D' = some (.lst acc) ∧ acc.length < sizeLine ∧ Nx (upd H4 D' (.lst (acc ++ [y]))) else Nx H3) := by
    intro ds it J H1 F1 s1 x1 w e q D' hD
    unfold kComp at q
    split at q
    · rename_i r er
      refine comp_walk (R.mono s1 x1) w e hD hss er fun H2 F2 vs s2 x2 nf nmu hd hz rl => ?_
      exact q (.ref D') H2 F2 (s1.trans s2) (x1.trans s1 x2) (.inr ⟨rfl, D', rfl, same_none s1 hD, nf, nmu, vs, hd, hz, rl⟩)
    · exact q.elim
  cases ei : fi σ S with
  | bad => rw [ei] at q; exact q
  | ex c as => rw [ei] at q; exact q
  | st ds =>
    rw [ei] at q
    exact fun J H1 F1 s1 x1 w => fin J H1 F1 s1 x1 w rfl q
  | dy it =>
    rw [ei] at q
    have q : Ok g (wat W σc) H F μ (match it S with | some ds => kComp A ft fe (own.map (·.2)) σ S ds | none => .bad) Q := q
    intro J H1 F1 s1 x1 w
    split at q
    · rename_i ds e
      exact fin J H1 F1 s1 x1 w e q
    · exact q.elim
theorem q_comp (hc : X.calm = true) (hN : X.N.Nodup) (hi : PI X tg iter (TIt g W fi)) (ok : BlkOk X.N X.env.scope scope own) (hss : ∀ j ∈ ss, j ∈ own.map (·.2))
    (hg : ∀ s H C cl fp, PG (blkX X scope s H C cl fp) tg (TGt g ss A)) (ht : ∀ s H C cl fp, PTs (blkX X scope s H C cl fp) ifs (TB g W0 ft)) (he : ∀ s H C cl fp, PE (blkX X scope s H C cl fp) elt (T g W0 fe)) (hs : ∀ x, foldedSetIterable iter X.env x = pure x := by intro _; rfl) :
    PE X (.ListComp elt [⟨tg, iter, ifs, 0⟩] scope pos) (T g W (cComp fi A (own.map (·.2)) ft fe)) :=
  (pe_lc hc hN hi ok hg ht he hs).hc fun σc H Q h => tLc_of hss h
theorem qt_nil : PTs X [] (TB g W0 cTrue) := ⟨fun pins s σ H Q I ⟨μ, F, σd, S, R, q⟩ => pts_nil.run pins s σ H Q I (by
  obtain ⟨k, e, z⟩ := q (.bl true) H F (Same.refl _) R.fx (.inl ⟨rfl, .inr rfl⟩)
  cases e
  exact z)⟩
theorem qt_one {c : Expr} (h : PT X c (TB g W0 ft)) : PTs X [c] (TB g W0 ft) := pts_one h
end
end HC

set_option maxRecDepth 100000
namespace HC
open PySem PySem.Spec L2
open PyProof.Rows hiding St

/-! ## statements -/
inductive RS where
  | nx (σ : Sl) (S : List SO) | rt (d : D) (fr : Bool) | bk (σ : Sl) (S : List SO) | ct (σ : Sl) (S : List SO) | ex (c : Nat) (as : List D) (σ : Sl) (S : List SO) | bad
  | rx (d : D) (fr : Bool) (σ : Sl) (S : List SO)
abbrev SC := Sl → List SO → RS
/-- what is handed back: a plain value that stands, or a new object -/
def Back (g : GX) (H : Hp) (μ : List Addr) (H' : Hp) (F' : FZ) (d : D) (fr : Bool) (v : V) : Prop :=
  (fr = false ∧ RepP g H' F' d v) ∨ (fr = true ∧ ∃ a, v = .ref a ∧ (H a = none ∨ a ∈ μ) ∧ ¬ F' a ∧ RepN g H' F' d a)
def OkS (g : GX) (W : WX) (μ : List Addr) (F : FZ) (H : Hp) (r : RS) (Dn : Ends) : Prop := match r with
  | .nx σ' S' => ∀ σc' μ' F' H', Later μ F H μ' F' H' → Rel g μ' F' σ' S' σc' H' → Dn.nx σc' H'
  | .bk σ' S' => ∀ σc' μ' F' H', Later μ F H μ' F' H' → Rel g μ' F' σ' S' σc' H' → Dn.bk σc' H'
  | .ct σ' S' => ∀ σc' μ' F' H', Later μ F H μ' F' H' → Rel g μ' F' σ' S' σc' H' → Dn.ct σc' H'
  | .rt d fr => ∀ v μ' F' H', Later μ F H μ' F' H' → Back g H μ H' F' d fr v → (∀ a, F' a → ∃ o, H' a = some o) → Dn.rt v H'
  | .ex c as σ' S' => ∀ cls dx σc' μ' F' H', Later μ F H μ' F' H' → Rel g μ' F' σ' S' σc' H' → RepX g H' F' μ' c as cls dx → W cls dx σc' H'
  | .rx d fr σ' S' => ∀ v σc' μ' F' H', Later μ F H μ' F' H' → Rel g μ' F' σ' S' σc' H' → RepR g H H' F' μ' d fr v → Dn.rt v H'
  | .bad => False
def TSt (g : GX) (W : WX) (f : SC) : TS := fun Dn σc H => ∃ μ F σ S, Rel g μ F σ S σc H ∧ OkS g W μ F H (f σ S) Dn
theorem OkS.from {g : GX} {W : WX} {μ μ1 : List Addr} {F F1 : FZ} {H H1 : Hp} {r : RS} {Dn : Ends} (l : Later μ F H μ1 F1 H1) (q : OkS g W μ F H r Dn) : OkS g W μ1 F1 H1 r Dn := by
  cases r with
  | nx σ' S' => exact fun σc' μ' F' H' l' => q σc' μ' F' H' (l.trans l')
  | bk σ' S' => exact fun σc' μ' F' H' l' => q σc' μ' F' H' (l.trans l')
  | ct σ' S' => exact fun σc' μ' F' H' l' => q σc' μ' F' H' (l.trans l')
  | rt d fr =>
    intro v μ' F' H' l' b
    refine q v μ' F' H' (l.trans l') (b.imp (fun h => h) fun ⟨e, a, ev, h, r⟩ => ⟨e, a, ev, ?_, r⟩)
    obtain ⟨ν, en, hn⟩ := l.mu
    rcases h with h | h
    · exact .inl (l.dom a h)
    · rw [en] at h
      rcases List.mem_append.mp h with h | h
      · exact .inr h
      · exact .inl (hn a h)
  | ex c as σ' S' => exact fun cls dx σc' μ' F' H' l' => q cls dx σc' μ' F' H' (l.trans l')
  | rx d fr σ' S' =>
    intro v σc' μ' F' H' l' R b
    refine q v σc' μ' F' H' (l.trans l') R (b.imp (fun h => h) fun ⟨e, a, ev, h, r⟩ => ⟨e, a, ev, l.dom a h, r⟩)
  | bad => exact q
def OkS.ends {g : GX} {W : WX} {μ : List Addr} {F : FZ} {H : Hp} {r : RS} {D1 D2 : Ends} (q : OkS g W μ F H r D1) (h : ∀ σ' S', r = .nx σ' S' → OkS g W μ F H (.nx σ' S') D2)
    (e1 : D1.rt = D2.rt) (e2 : D1.bk = D2.bk) (e3 : D1.ct = D2.ct) : OkS g W μ F H r D2 := by
  cases r with
  | nx σ' S' => exact h _ _ rfl
  | bk σ' S' => exact fun σc' μ' F' H' l R => e2 ▸ q σc' μ' F' H' l R
  | ct σ' S' => exact fun σc' μ' F' H' l R => e3 ▸ q σc' μ' F' H' l R
  | rt d fr => exact fun v μ' F' H' l b dm => e1 ▸ q v μ' F' H' l b dm
  | ex c as σ' S' => exact q
  | rx d fr σ' S' => exact fun v σc' μ' F' H' l R b => e1 ▸ q v σc' μ' F' H' l R b
  | bad => exact q

def sSkip : SC := fun σ S => .nx σ S
def sSeq (f r : SC) : SC := fun σ S => match f σ S with
  | .nx σ1 S1 => r σ1 S1
  | x => x
/-- an expression, then what is done with it -/
def sVal (f : CE) (k : Sl → List SO → D → Bool → RS) : SC := fun σ S => match f σ S with
  | .ok d fr => k σ S d fr
  | .ex c as => .ex c as σ S
  | .bad => .bad
def sAsg (i : Nat) (f : CE) : SC := sVal f fun σ S d _ => .nx (setD σ i d) S
/-- a new object to a name: it stands in the store -/
def sNew (i : Nat) (f : CE) : SC := sVal f fun σ S d fr => match fr with
  | true => match d with
    | .lst xs => .nx (setD σ i (.loc S.length)) (S ++ [.lst xs])
    | .dct ks ws => .nx (setD σ i (.loc S.length)) (S ++ [.dct ks ws])
    | _ => .bad
  | false => .bad
def sExpr (f : CE) : SC := sVal f fun σ S _ _ => .nx σ S
def retD (S : List SO) (d : D) (fr : Bool) : RS := match d with
  | .loc n => match gets S n with
    | some (.lst xs) => if pureL xs then .rt (.lst xs) true else .bad
    | some (.dct ks ws) => if pureL ws then .rt (.dct ks ws) true else .bad
    | _ => .bad
  | .err => .bad
  | d => .rt d fr
def sRet (f : CE) : SC := sVal f fun _ S d fr => retD S d fr
def sRetN : SC := fun _ _ => .rt .non false
def sIf (c : CE) (a b : SC) : SC := fun σ S => match c σ S with
  | .ok (.bl true) _ => a σ S
  | .ok (.bl false) _ => b σ S
  | .ok _ _ => .bad
  | .ex c as => .ex c as σ S
  | .bad => .bad
section
variable {g : GX} {μ : List Addr} {F : FZ} {σ : Sl} {S : List SO} {σc : St} {H : Hp} {W : WX} {Dn : Ends}
/-- the expression's reading, from the statement's -/
theorem Rel.sval (R : Rel g μ F σ S σc H) {f : CE} {k : Sl → List SO → D → Bool → RS} {Q : VK} (q : OkS g W μ F H (sVal f k σ S) Dn)
    (w : ∀ (d : D) (fr : Bool) (v : V) (H1 : Hp) (F1 : FZ), Same H H1 → FX F H F1 H1 → Rel g μ F1 σ S σc H1 → RepR g H H1 F1 μ d fr v → OkS g W μ F H (k σ S d fr) Dn → Q v H1) : T g W f σc H Q := by
  refine ⟨μ, F, σ, S, R, ?_⟩
  unfold sVal at q
  cases ea : f σ S with
  | bad => rw [ea] at q; exact q
  | ex c as =>
    rw [ea] at q
    exact fun cls dx H' F' s x rx => q cls dx σc μ F' H' (.of s x) (R.mono s x) rx
  | ok d fr =>
    rw [ea] at q
    exact fun v H1 F1 s1 x1 r1 => w d fr v H1 F1 s1 x1 (R.mono s1 x1) r1 q
/-- .. where it is frozen -/
theorem Rel.svalF (R : Rel g μ F σ S σc H) {f : CE} {k : Sl → List SO → D → Bool → RS} {Q : VK} (q : OkS g W μ F H (sVal f k σ S) Dn)
    (w : ∀ (d : D) (fr : Bool) (v : V) (H1 : Hp) (F1 : FZ), Same H H1 → FX F H F1 H1 → Rel g μ F1 σ S σc H1 → RepV g H1 F1 μ d v → OkS g W μ F1 H1 (k σ S d fr) Dn → Q v H1) : T g W f σc H Q := by
  refine ⟨μ, F, σ, S, R, ?_⟩
  unfold sVal at q
  cases ea : f σ S with
  | bad => rw [ea] at q; exact q
  | ex c as =>
    rw [ea] at q
    exact fun cls dx H' F' s x rx => q cls dx σc μ F' H' (.of s x) (R.mono s x) rx
  | ok d fr =>
    rw [ea] at q
    intro v H1 F1 s1 x1 r1
    obtain ⟨F2, x2, u2, r2⟩ := r1.frz x1
    exact w d fr v H1 F2 s1 x2 (R.mono s1 x2) r2 (q.from (.of s1 x2))
theorem OkS.next (R : Rel g μ F σ S σc H) (q : OkS g W μ F H (.nx σ S) Dn) : Dn.nx σc H := q σc μ F H .refl R
end
section
variable {X : Cx} {g : GX} {W : WX} {st : Stmt} {rest : List Stmt} {e : Expr} {f fc : CE} {fs fr : SC} {pos pos' : Pos} {i : Nat} {x : Str}
theorem s_nil : PSs X [] (TSt g W sSkip) := pss_nil.hc fun Dn σ H ⟨μ, F, σd, S, R, q⟩ => q.next R
theorem seq_of {Dn : Ends} {σc : St} {H : Hp} (h : TSt g W (sSeq fs fr) Dn σc H) : tSeq (TSt g W fs) (TSt g W fr) Dn σc H := by
  obtain ⟨μ, F, σ, S, R, q⟩ := h
  refine ⟨μ, F, σ, S, R, ?_⟩
  unfold sSeq at q
  cases ea : fs σ S with
  | nx σ1 S1 =>
    rw [ea] at q
    exact fun σc' μ' F' H' l R' => ⟨μ', F', σ1, S1, R', q.from l⟩
  | bk σ1 S1 => rw [ea] at q; exact q
  | ct σ1 S1 => rw [ea] at q; exact q
  | rt d fr => rw [ea] at q; exact q
  | rx d fr σ1 S1 => rw [ea] at q; exact q
  | ex c as σ1 S1 => rw [ea] at q; exact q
  | bad => rw [ea] at q; exact q
theorem s_cons (h1 : PS X st (TSt g W fs)) (h2 : PSs X rest (TSt g W fr)) : PSs X (st :: rest) (TSt g W (sSeq fs fr)) := (pss_cons h1 h2).hc fun Dn σ H h => seq_of h
theorem s_one (h1 : PS X st (TSt g W fs)) : PSs X [st] (TSt g W fs) := pss_one h1
theorem s_pass : PS X (.Pass pos) (TSt g W sSkip) := ps_pass.hc fun Dn σ H ⟨μ, F, σd, S, R, q⟩ => q.next R
theorem s_doc {x j pos pos'} : PS X (.Expr (.Constant (.str x) j pos) pos') (TSt g W sSkip) := ps_doc.hc fun Dn σ H ⟨μ, F, σd, S, R, q⟩ => q.next R
def sBreak : SC := fun σ S => .bk σ S
def sCont : SC := fun σ S => .ct σ S
theorem s_break : PS X (.Break pos) (TSt g W sBreak) := ps_break.hc fun Dn σ H ⟨μ, F, σd, S, R, q⟩ => q σ μ F H .refl R
theorem s_cont : PS X (.Continue pos) (TSt g W sCont) := ps_continue.hc fun Dn σ H ⟨μ, F, σd, S, R, q⟩ => q σ μ F H .refl R
theorem asg_of {Dn : Ends} {σc : St} {H : Hp} (h : TSt g W (sAsg i f) Dn σc H) : tAsg (T g W f) (gName i) Dn σc H := by
  obtain ⟨μ, F, σ, S, R, q⟩ := h
  exact R.svalF q fun d fr v H1 F1 s1 x1 R1 r1 q1 => q1.next (R1.set r1)
theorem s_asg (hN : X.N.Nodup) (hi : X.N[i]? = some x) (hx : Loc X.env.scope x) (he : PE X e (T g W f)) (hs : swapsWith e (some (.Name x pos')) pos.line X.env = pure false := by rfl) (hf : X.fn x = true ∨ X.env.scope.names.lookup x = some .local := by first | exact .inl rfl | exact .inr rfl | assumption) :
    PS X (.Assign [.Name x pos'] e pos) (TSt g W (sAsg i f)) := (ps_set hN hi hx he hs hf).hc fun Dn σ H h => asg_of h
theorem new_of {Dn : Ends} {σc : St} {H : Hp} (h : TSt g W (sNew i f) Dn σc H) : tAsg (T g W f) (gName i) Dn σc H := by
  obtain ⟨μ, F, σ, S, R, q⟩ := h
  refine R.sval q fun d fr v H1 F1 s1 x1 R1 r1 q1 => ?_
  split at q1
  · rcases r1 with ⟨e, _⟩ | ⟨_, a, rfl, h0, nf, nm, rn⟩
    · cases e
    have mk : ∀ o : SO, RepO g H1 F1 (μ ++ [a]) o a → Rel g (μ ++ [a]) F1 (setD σ i (.loc S.length)) (S ++ [o]) (σc.set i (some (.ref a))) H1 := fun o ro => by
      have up : ∀ {d v}, RepV g H1 F1 μ d v → RepV g H1 F1 (μ ++ [a]) d v := fun {d v} h => h.imp (fun ⟨n, b, e, hb, ev⟩ => ⟨n, b, e, by rw [List.getElem?_append_left (List.getElem?_eq_some_iff.mp hb).1]; exact hb, ev⟩) fun h => h
      have ups : ∀ {ds vs}, RepVs g H1 F1 μ ds vs → RepVs g H1 F1 (μ ++ [a]) ds vs := fun {ds vs} h => Paired.mapP h fun _ _ => up
      have R2 : Rel g (μ ++ [a]) F1 σ (S ++ [o]) σc H1 := by
        refine ⟨fun j d h => let ⟨v, h1, h2⟩ := R1.env j d h; ⟨v, h1, up h2⟩, R1.len, fun n o2 h => ?_, by rw [List.length_append, List.length_append, R1.ml]; rfl, ?_, fun b hb => ?_, R1.dom, fun p hp => ?_⟩
        · by_cases hn : n < S.length
          · rw [List.getElem?_append_left hn] at h
            obtain ⟨b, h1, h2⟩ := R1.st n o2 h
            refine ⟨b, by rw [List.getElem?_append_left (by rw [R1.ml]; exact hn)]; exact h1, ?_⟩
            cases o2 with
            | lst xs => obtain ⟨vs, k1, k2, k3⟩ := h2; exact ⟨vs, k1, k2, ups k3⟩
            | dct ks ws => obtain ⟨vs, k1, k2⟩ := h2; exact ⟨vs, ups k1, k2⟩
            | ins c ws => obtain ⟨dx, fs, vs, k1, k2, k3, k4⟩ := h2; exact ⟨dx, fs, vs, k1, k2, k3, ups k4⟩
          · have hn2 : n = S.length := by
              have := (List.getElem?_eq_some_iff.mp h).1
              rw [List.length_append] at this
              simp at this
              omega
            subst hn2
            rw [List.getElem?_append_right (Nat.le_refl _), Nat.sub_self] at h
            cases h
            refine ⟨a, ?_, ro⟩
            rw [← R1.ml, List.getElem?_append_right (Nat.le_refl _), Nat.sub_self]
            rfl
        · rw [List.nodup_append]
          exact ⟨R1.nd, by simp, fun b hb c hc => by
            rw [List.mem_singleton.mp hc]
            intro z
            rw [z] at hb
            exact nm hb⟩
        · rcases List.mem_append.mp hb with hb | hb
          · exact R1.ap b hb
          · rw [List.mem_singleton.mp hb]
            exact nf
        · obtain ⟨h1, x, vs, h2, h3, r⟩ := R1.xc p hp
          exact ⟨h1, x, vs, h2, ups h3, r⟩
      refine R2.set (.inl ⟨S.length, a, rfl, ?_, rfl⟩)
      rw [← R1.ml, List.getElem?_append_right (Nat.le_refl _), Nat.sub_self]
      rfl
    have l1 : Later μ F H (μ ++ [a]) F1 H1 := ⟨⟨[a], rfl, fun b hb => by rw [List.mem_singleton.mp hb]; exact h0⟩, x1.up, fun b o _ h => s1 b o h, fun b h => same_none s1 h, x1.nw⟩
    have fin : ∀ o : SO, RepO g H1 F1 (μ ++ [a]) o a → OkS g W μ F H (.nx (setD σ i (.loc S.length)) (S ++ [o])) Dn → gName i (.ref a) σc H1 Dn.nx := fun o ro q2 => q2 _ _ _ _ l1 (mk o ro)
    split at q1
    · rename_i xs
      obtain ⟨vs, k1, k2, k3⟩ := rn
      exact fin (.lst xs) ⟨vs, k1, k2, k3.vs⟩ q1
    · rename_i ks ws
      obtain ⟨vs, k1, k2⟩ := rn
      exact fin (.dct ks ws) ⟨vs, k1.vs, k2⟩ q1
    · exact q1.elim
  · exact q1.elim

theorem s_new (hN : X.N.Nodup) (hi : X.N[i]? = some x) (hx : Loc X.env.scope x) (he : PE X e (T g W f)) (hs : swapsWith e (some (.Name x pos')) pos.line X.env = pure false := by rfl) (hf : X.fn x = true ∨ X.env.scope.names.lookup x = some .local := by first | exact .inl rfl | exact .inr rfl | assumption) :
    PS X (.Assign [.Name x pos'] e pos) (TSt g W (sNew i f)) := (ps_set hN hi hx he hs hf).hc fun Dn σ H h => new_of h
theorem s_expr (he : PE X e (T g W f)) (hs : swapsWith e none pos.line X.env = pure false := by rfl) : PS X (.Expr e pos) (TSt g W (sExpr f)) := (ps_expr he hs).hc fun Dn σc H ⟨μ, F, σ, S, R, q⟩ =>
  R.svalF q fun d fr v H1 F1 s1 x1 R1 r1 q1 => q1.next R1
theorem s_ret (he : PE X e (T g W f)) : PS X (.Return (some e) pos) (TSt g W (sRet f)) := (ps_ret he).hc fun Dn σc H ⟨μ, F, σ, S, R, q⟩ =>
  R.sval q fun d fr v H1 F1 s1 x1 R1 r1 q1 => by
    have q2 : OkS g W μ F H (retD S d fr) Dn := q1
    have l : Later μ F H μ F1 H1 := .of s1 x1
    unfold retD at q2
    split at q2
    · rename_i n
      rcases r1 with ⟨_, r1⟩ | ⟨_, _, _, _, _, _, r1⟩
      · rcases r1 with ⟨m, a, e, ha, rfl⟩ | r1
        · cases e
          have am : a ∈ μ := List.mem_of_getElem? ha
          split at q2
          · rename_i xs es
            split at q2
            · rename_i hp
              obtain ⟨b, hb, vs, k1, k2, k3⟩ := R1.st n _ (by rw [← gets_eq]; exact es)
              rw [ha] at hb
              cases hb
              exact q2 _ μ F1 H1 l (.inr ⟨rfl, a, rfl, .inr am, R1.ap a am, vs, k1, k2, k3.pure hp⟩) R1.dom
            · exact q2.elim
          · rename_i ks ws es
            split at q2
            · rename_i hp
              obtain ⟨b, hb, vs, k1, k2⟩ := R1.st n _ (by rw [← gets_eq]; exact es)
              rw [ha] at hb
              cases hb
              exact q2 _ μ F1 H1 l (.inr ⟨rfl, a, rfl, .inr am, R1.ap a am, vs, k1.pure hp, k2⟩) R1.dom
            · exact q2.elim
          · exact q2.elim
        · exact r1.elim
      · exact r1.elim
    · exact q2.elim
    · rename_i h1 h2
      refine q2 v μ F1 H1 l ?_ R1.dom
      rcases r1 with ⟨e, r1⟩ | ⟨e, a, ev, h0, nf, nm, rn⟩
      · refine .inl ⟨e, r1.pure ?_⟩
        cases d with
        | loc n => exact absurd rfl (h1 n)
        | _ => rfl
      · exact .inr ⟨e, a, ev, .inl h0, nf, rn⟩
theorem s_retN : PS X (.Return none pos) (TSt g W sRetN) := ps_retN.hc fun Dn σc H ⟨μ, F, σ, S, R, q⟩ => q .non μ F H .refl (.inl ⟨rfl, rfl⟩) R.dom
theorem if_of {c : Expr} {Dn : Ends} {σc : St} {H : Hp} (h : TSt g W (sIf fc fs fr) Dn σc H) : tIfS (TB g W fc) (TSt g W fs) (TSt g W fr) Dn σc H := by
  obtain ⟨μ, F, σ, S, R, q⟩ := h
  refine ⟨μ, F, σ, S, R, ?_⟩
  unfold sIf at q
  cases ea : fc σ S with
  | bad => rw [ea] at q; exact q
  | ex c as =>
    rw [ea] at q
    exact fun cls dx H' F' s x rx => q cls dx σc μ F' H' (.of s x) (R.mono s x) rx
  | ok d fl =>
    rw [ea] at q
    cases d with
    | bl b =>
      intro v H1 F1 s1 x1 r1
      obtain ⟨F2, x2, u2, r2⟩ := r1.frz x1
      refine ⟨b, r2.bl, ?_⟩
      cases b with
      | true => exact iteT ⟨μ, F2, σ, S, R.mono s1 x2, q.from (.of s1 x2)⟩
      | false => exact iteF ⟨μ, F2, σ, S, R.mono s1 x2, q.from (.of s1 x2)⟩
    | _ => exact q.elim
theorem s_if {c : Expr} {a b : List Stmt} (hc : PT X c (TB g W fc)) (ha : PSs X a (TSt g W fs)) (hb : PSs X b (TSt g W fr)) : PS X (.If c a b pos) (TSt g W (sIf fc fs fr)) := (ps_if hc ha hb).hc fun Dn σ H h => if_of (c := c) h
/-- a tuple's parts to names -/
def sAsgT (A : TgF) (f : CE) : SC := sVal f fun σ S d _ => match A d σ with
  | some σ1 => .nx σ1 S
  | none => .bad
theorem s_asgT {tg : Expr} {ss : List Nat} {A : TgF} (he : PE X e (T g W f)) (hg : PG X tg (TGt g ss A)) (hs : swapsWithSole [tg] e pos.line X.env = pure false := by rfl) (hw : swappedStores [tg] e X.env = pure none := by rfl)
    (h1 : (assignEach [tg] X.env).map (·.2) = [assign tg X.env] := by rfl) : PS X (.Assign [tg] e pos) (TSt g W (sAsgT A f)) := (ps_asg he hg hs hw h1).hc fun Dn σc H ⟨μ, F, σ, S, R, q⟩ =>
  R.svalF q fun d fr v H1 F1 s1 x1 R1 r1 q1 => by
    split at q1
    · rename_i σ1 e1
      exact ⟨μ, F1, σ, S, d, σ1, R1, r1, e1, fun σc' R2 _ => q1.next R2⟩
    · exact q1.elim
end
end HC

set_option maxRecDepth 100000
namespace HC
open PySem PySem.Spec L2
open PyProof.Rows hiding St

/-! ## lists of the store are written -/
section
variable {g : GX} {μ : List Addr} {F : FZ} {σ : Sl} {S : List SO} {σc : St} {H : Hp} {a : Addr} {us : List V} {o : HO}
theorem RepV.write {d : D} {v : V} (hb : H a = some (.lst us)) (nf : ¬ F a) (r : RepV g H F μ d v) : RepV g (upd H a o) F μ d v := r.imp (fun h => h) (RepP.write hb nf _ _)
theorem RepVs.write {ds : List D} {vs : List V} (hb : H a = some (.lst us)) (nf : ¬ F a) (r : RepVs g H F μ ds vs) : RepVs g (upd H a o) F μ ds vs := Paired.mapP r fun _ _ => RepV.write hb nf
theorem nodup_at {α : Type} {l : List α} (nd : l.Nodup) {i j : Nat} {x : α} (hi : l[i]? = some x) (hj : l[j]? = some x) : i = j := by
  obtain ⟨h1, e1⟩ := List.getElem?_eq_some_iff.mp hi
  obtain ⟨h2, e2⟩ := List.getElem?_eq_some_iff.mp hj
  exact (List.getElem_inj nd).mp (e1.trans e2.symm)
/-- the list at n becomes ys -/
theorem Rel.put (R : Rel g μ F σ S σc H) {n : Nat} {xs ys : List D} {ws : List V} (hS : gets S n = some (.lst xs)) (hm : μ[n]? = some a) (hz : ws.length ≤ sizeLine) (hy : RepVs g H F μ ys ws) :
    Rel g μ F σ (S.set n (.lst ys)) σc (upd H a (.lst ws)) ∧ Later μ F H μ F (upd H a (.lst ws)) := by
  rw [gets_eq] at hS
  obtain ⟨b, hb, vs, k1, k2, k3⟩ := R.st n _ hS
  rw [hm] at hb
  cases hb
  have am : a ∈ μ := List.mem_of_getElem? hm
  have nf : ¬ F a := R.ap a am
  refine ⟨⟨fun i d h => let ⟨v, h1, h2⟩ := R.env i d h; ⟨v, h1, h2.write k1 nf⟩, R.len, fun k o2 h => ?_, by rw [List.length_set]; exact R.ml, R.nd, R.ap, fun b hb => ?_, fun p hp => ?_⟩, ⟨⟨[], by simp, fun x h => (nomatch h)⟩, fun _ h => h, fun b o hb e => ?_, fun b h => ?_, fun _ h => .inl h⟩⟩
  · by_cases hk : n = k
    · subst hk
      rw [List.getElem?_set_self (List.getElem?_eq_some_iff.mp hS).1] at h
      cases h
      exact ⟨a, hm, ws, upd_same, hz, hy.write k1 nf⟩
    · rw [List.getElem?_set_ne hk] at h
      obtain ⟨b, h1, h2⟩ := R.st k o2 h
      have nb : b ≠ a := fun z => hk (nodup_at R.nd hm (by rw [← z]; exact h1))
      refine ⟨b, h1, ?_⟩
      cases o2 with
      | lst zs => obtain ⟨vs, q1, q2, q3⟩ := h2; exact ⟨vs, (upd_ne nb).trans q1, q2, q3.write k1 nf⟩
      | dct ks zs =>
        obtain ⟨vs, q1, q2⟩ := h2
        exact ⟨vs, q1.write k1 nf, q2.imp (fun ⟨kvs, z, y⟩ => ⟨kvs, (upd_ne nb).trans z, y⟩) fun ⟨kvs, z, y⟩ => ⟨kvs, (upd_ne nb).trans z, y⟩⟩
      | ins c zs => obtain ⟨dx, fs, vs, q1, q2, q3, q4⟩ := h2; exact ⟨dx, fs, vs, (upd_ne nb).trans q1, q2, q3, q4.write k1 nf⟩
  · obtain ⟨o, e⟩ := R.dom b hb
    have nb : b ≠ a := fun z => nf (z ▸ hb)
    exact ⟨o, (upd_ne nb).trans e⟩
  · obtain ⟨h1, x, vs, h2, h3, fs, h4, h5⟩ := R.xc p hp
    exact ⟨h1, x, vs, h2, h3.write k1 nf, fs, (upd_ne (ne_of h4 k1 (fun z => nomatch z))).trans h4, h5⟩
  · have nb : b ≠ a := fun z => hb (by rw [z]; exact am)
    exact (upd_ne nb).trans e
  · by_cases z : b = a
    · rw [z, upd_same] at h; cases h
    · rw [upd_ne z] at h; exact h
/-- a list of the store, at its place -/
theorem Rel.locl (R : Rel g μ F σ S σc H) {n : Nat} {xs : List D} {v : V} (r : RepV g H F μ (.loc n) v) (hS : gets S n = some (.lst xs)) : ∃ b vs, v = .ref b ∧ μ[n]? = some b ∧ H b = some (.lst vs) ∧ vs.length ≤ sizeLine ∧ RepVs g H F μ xs vs := by
  rcases r with ⟨m, b, e, hm, rfl⟩ | r
  · cases e
    obtain ⟨b2, hb, vs, k1, k2, k3⟩ := R.st n _ (by rw [← gets_eq]; exact hS)
    rw [hm] at hb
    cases hb
    exact ⟨b, vs, rfl, hm, k1, k2, k3⟩
  · exact r.elim
end
def putL (S : List SO) (n : Nat) (ys : List D) : List SO := S.set n (.lst ys)
theorem RepVs.set {g : GX} {H : Hp} {F : FZ} {μ : List Addr} {d : D} {v : V} (r : RepV g H F μ d v) : ∀ {ds : List D} {vs : List V} (i : Nat), RepVs g H F μ ds vs → RepVs g H F μ (ds.set i d) (vs.set i v)
  | _, _, _, .nil => .nil
  | _, _, 0, .cons _ t => .cons r t
  | _, _, i + 1, .cons q t => .cons q (RepVs.set r i t)
theorem RepVs.app {g : GX} {H : Hp} {F : FZ} {μ : List Addr} : ∀ {xs ys : List D} {vs ws : List V}, RepVs g H F μ xs vs → RepVs g H F μ ys ws → RepVs g H F μ (xs ++ ys) (vs ++ ws)
  | _, _, _, _, .nil, s => s
  | _, _, _, _, .cons r t, s => .cons r (RepVs.app t s)
theorem RepVs.take {g : GX} {H : Hp} {F : FZ} {μ : List Addr} : ∀ (n : Nat) {xs : List D} {vs : List V}, RepVs g H F μ xs vs → RepVs g H F μ (xs.take n) (vs.take n)
  | 0, _, _, _ => .nil
  | _ + 1, _, _, .nil => .nil
  | n + 1, _, _, .cons r t => .cons r (RepVs.take n t)
theorem RepVs.drop {g : GX} {H : Hp} {F : FZ} {μ : List Addr} : ∀ (n : Nat) {xs : List D} {vs : List V}, RepVs g H F μ xs vs → RepVs g H F μ (xs.drop n) (vs.drop n)
  | 0, _, _, r => r
  | _ + 1, _, _, .nil => .nil
  | n + 1, _, _, .cons _ t => RepVs.drop n t
/-! ### methods of lists -/
/-- the items, the arguments: the new items, the answer -/
abbrev LM := List D → List D → Option (List D × D)
def LkM (g : GX) (r : V → List V → Hp → VK → Prop) (fn : LM) : Prop :=
  ∀ (μ : List Addr) (F : FZ) (H : Hp) (a : Addr) (xs : List D) (vs : List V) (ds : List D) (us : List V) (ys : List D) (res : D) (Q : VK), H a = some (.lst vs) → vs.length ≤ sizeLine → RepVs g H F μ xs vs → RepVs g H F μ ds us → fn xs ds = some (ys, res) →
    (∀ ws v, RepVs g H F μ ys ws → ws.length ≤ sizeLine → RepV g H F μ res v → Q v (upd H a (.lst ws))) → r (.ref a) us H Q
def sArgs (f : CA) (k : Sl → List SO → List D → RS) : SC := fun σ S => match f σ S with
  | .ok ds => k σ S ds
  | .ex c as => .ex c as σ S
  | .bad => .bad
def locL (S : List SO) (d : D) (k : Nat → List D → RS) : RS := match d with
  | .loc n => match gets S n with
    | some (.lst xs) => k n xs
    | _ => .bad
  | _ => .bad
def kMeth (fn : LM) (n : Nat) (k : Sl → List SO → D → RS) (σ : Sl) (S : List SO) (ds : List D) : RS := match gets S n with
  | some (.lst xs) => match fn xs ds with
    | some (ys, res) => k σ (putL S n ys) res
    | none => .bad
  | _ => .bad
/-- o.m(args), then k of the answer -/
def sMeth (fn : LM) (fo : CE) (fa : CA) (k : Sl → List SO → D → RS) : SC := sVal fo fun σ S x _ => locL S x fun n _ => sArgs fa (kMeth fn n k) σ S
def sMethE (fn : LM) (fo : CE) (fa : CA) : SC := sMeth fn fo fa fun σ S _ => .nx σ S
def sMethA (i : Nat) (fn : LM) (fo : CE) (fa : CA) : SC := sMeth fn fo fa fun σ S d => .nx (setD σ i d) S
section
variable {g : GX} {μ : List Addr} {F : FZ} {σ : Sl} {S : List SO} {σc : St} {H : Hp} {W : WX} {Dn : Ends}
theorem Rel.sargs (R : Rel g μ F σ S σc H) {f : CA} {k : Sl → List SO → List D → RS} {Q : List V → Hp → Prop} (q : OkS g W μ F H (sArgs f k σ S) Dn)
    (w : ∀ (ds : List D) (vs : List V) (H1 : Hp) (F1 : FZ), Same H H1 → FX F H F1 H1 → Rel g μ F1 σ S σc H1 → RepVs g H1 F1 μ ds vs → OkS g W μ F1 H1 (k σ S ds) Dn → Q vs H1) : TL g W f σc H Q := by
  refine ⟨μ, F, σ, S, R, ?_⟩
  unfold sArgs at q
  cases ea : f σ S with
  | bad => rw [ea] at q; exact q
  | ex c as =>
    rw [ea] at q
    exact fun cls dx H' F' s x rx => q cls dx σc μ F' H' (.of s x) (R.mono s x) rx
  | ok ds =>
    rw [ea] at q
    exact fun vs H1 F1 s1 x1 r1 => w ds vs H1 F1 s1 x1 (R.mono s1 x1) r1 (q.from (.of s1 x1))
theorem locL_ok {d : D} {v : V} {k : Nat → List D → RS} (R : Rel g μ F σ S σc H) (r : RepV g H F μ d v) (q : OkS g W μ F H (locL S d k) Dn) :
    ∃ n xs b vs, d = .loc n ∧ gets S n = some (.lst xs) ∧ v = .ref b ∧ μ[n]? = some b ∧ H b = some (.lst vs) ∧ vs.length ≤ sizeLine ∧ RepVs g H F μ xs vs ∧ OkS g W μ F H (k n xs) Dn := by
  unfold locL at q
  split at q
  · rename_i n
    split at q
    · rename_i xs e
      obtain ⟨b, vs, h1, h2, h3, h4, h5⟩ := R.locl r e
      exact ⟨n, xs, b, vs, rfl, e, h1, h2, h3, h4, h5, q⟩
    · exact q.elim
  · exact q.elim
theorem kMeth_ok {fn : LM} {r : V → List V → Hp → VK → Prop} (l : LkM g r fn) {n : Nat} {k : Sl → List SO → D → RS} {b : Addr} {ds : List D} {us : List V} {Q : VK} (R : Rel g μ F σ S σc H) (hm : μ[n]? = some b) (rd : RepVs g H F μ ds us)
    (q : OkS g W μ F H (kMeth fn n k σ S ds) Dn)
    (w : ∀ (S' : List SO) (res : D) (v : V) (H' : Hp), Rel g μ F σ S' σc H' → RepV g H' F μ res v → OkS g W μ F H' (k σ S' res) Dn → Q v H') : r (.ref b) us H Q := by
  unfold kMeth at q
  split at q
  · rename_i xs e
    split at q
    · rename_i ys res ef
      obtain ⟨b2, vs, h1, h2, h3, h4, h5⟩ := R.locl (v := .ref b) (.inl ⟨n, b, rfl, hm, rfl⟩) e
      cases h1
      refine l μ F H b xs vs ds us ys res Q h3 h4 h5 rd ef fun ws v ry hz rr => ?_
      obtain ⟨R', lt⟩ := R.put (ys := ys) e hm hz ry
      exact w _ res v _ R' (rr.write h3 (R.ap b (List.mem_of_getElem? hm))) (q.from lt)
    · exact q.elim
  · exact q.elim
end
section
variable {X : Cx} {g : GX} {W : WX} {o e : Expr} {es : List Expr} {fo : CE} {fa : CA} {fn : LM} {pos apos cpos pos' : Pos} {name : Str} {id : String} {r : V → List V → Hp → VK → Prop} {i : Nat} {x : Str}
theorem meth_read {k : Sl → List SO → D → RS} {Dn : Ends} {σc : St} {H : Hp} {Q : VK} (l : LkM g r fn) (hg : X.K = g.K) (h : TSt g W (sMeth fn fo fa k) Dn σc H)
    (w : ∀ (μ : List Addr) (F : FZ) (σ : Sl) (S' : List SO) (res : D) (v : V) (H' : Hp), Rel g μ F σ S' σc H' → RepV g H' F μ res v → OkS g W μ F H' (k σ S' res) Dn → Q v H') : tBM X.K "list" r (T g W fo) (TL g W fa) σc H Q := by
  obtain ⟨μ, F, σ, S, R, q⟩ := h
  refine R.svalF q fun d fr v H1 F1 s1 x1 R1 r1 q1 => ?_
  obtain ⟨n, xs, b, vs, rfl, e, rfl, hm, hb, hz, rx, q2⟩ := locL_ok R1 r1 q1
  refine ⟨.inl ⟨rfl, vs, SqL.of hb⟩, R1.sargs q2 fun ds us H2 F2 s2 x2 R2 rd q3 => ?_⟩
  exact kMeth_ok l R2 hm rd q3 fun S' res v H' R' rr q' => w μ F2 σ S' res v H' R' rr q'
theorem meth_read0 {k : Sl → List SO → D → RS} {Dn : Ends} {σc : St} {H : Hp} {Q : VK} (l : LkM g r fn) (hg : X.K = g.K) (h : TSt g W (sMeth fn fo cNil k) Dn σc H)
    (w : ∀ (μ : List Addr) (F : FZ) (σ : Sl) (S' : List SO) (res : D) (v : V) (H' : Hp), Rel g μ F σ S' σc H' → RepV g H' F μ res v → OkS g W μ F H' (k σ S' res) Dn → Q v H') : tBM0 X.K "list" r (T g W fo) σc H Q := by
  obtain ⟨μ, F, σ, S, R, q⟩ := h
  refine R.svalF q fun d fr v H1 F1 s1 x1 R1 r1 q1 => ?_
  obtain ⟨n, xs, b, vs, rfl, e, rfl, hm, hb, hz, rx, q2⟩ := locL_ok R1 r1 q1
  refine ⟨.inl ⟨rfl, vs, SqL.of hb⟩, ?_⟩
  exact kMeth_ok (ds := []) l R1 hm .nil q2 fun S' res v H' R' rr q' => w μ F1 σ S' res v H' R' rr q'
/-- o.m(e, ..) as a statement -/
theorem s_methE (slot : Slot "list" name id) (hty : typeOf (.builtin id) = pure (.type "method_descriptor")) (hm : MtR X id r) (l : LkM g r fn) (ho : PE X o (T g W fo)) (ha : PA X (e :: es) (TL g W fa)) (hg : X.K = g.K := by rfl)
    (hbase : attributeBase o name X.env (eval o X.env) = eval o X.env := by rfl) (hs : swapsWith (.Call (.Attribute o name apos) (e :: es) [] cpos) none pos.line X.env = pure false := by rfl)
    (hfew : ((backTo cpos (starEach (e :: es) X.env)).all (fun x => !x.1) && (backToKw cpos (keywordEach [] X.env)).all (fun x => x.1.isSome) && decide ((e :: es).length + ([] : List Keyword).length + (if ([] : List Keyword).isEmpty then 0 else 1) < 30)) = true := by rfl)
    (hline : (apos.endLine == cpos.line) = true := by rfl) (hst : starEach (e :: es) X.env = (false, eval e X.env) :: starEach es X.env := by rfl) (hplain : (backTo cpos (starEach es X.env)).any (·.1) = false := by rfl) :
    PS X (.Expr (.Call (.Attribute o name apos) (e :: es) [] cpos) pos) (TSt g W (sMethE fn fo fa)) :=
  (ps_expr (pe_bm PySem.F.plainAttrs_list slot hty hm ho ha hbase hfew hline hst hplain) hs).hc fun Dn σc H h => meth_read l hg h fun μ F σ S' res v H' R' rr q' => q'.next R'

theorem s_methE0 (slot : Slot "list" name id) (hty : typeOf (.builtin id) = pure (.type "method_descriptor")) (hm : MtR X id r) (l : LkM g r fn) (ho : PE X o (T g W fo)) (hg : X.K = g.K := by rfl)
    (hbase : attributeBase o name X.env (eval o X.env) = eval o X.env := by rfl) (hs : swapsWith (.Call (.Attribute o name apos) [] [] cpos) none pos.line X.env = pure false := by rfl) (hline : (apos.endLine == cpos.line) = true := by rfl) :
    PS X (.Expr (.Call (.Attribute o name apos) [] [] cpos) pos) (TSt g W (sMethE fn fo cNil)) :=
  (ps_expr (pe_bm0 PySem.F.plainAttrs_list slot hty hm ho hbase hline) hs).hc fun Dn σc H h => meth_read0 l hg h fun μ F σ S' res v H' R' rr q' => q'.next R'
/-- x = o.m(..) -/
theorem s_methA0 (hN : X.N.Nodup) (hi : X.N[i]? = some x) (hx : Loc X.env.scope x) (slot : Slot "list" name id) (hty : typeOf (.builtin id) = pure (.type "method_descriptor")) (hm : MtR X id r) (l : LkM g r fn) (ho : PE X o (T g W fo)) (hg : X.K = g.K := by rfl)
    (hbase : attributeBase o name X.env (eval o X.env) = eval o X.env := by rfl) (hs : swapsWith (.Call (.Attribute o name apos) [] [] cpos) (some (.Name x pos')) pos.line X.env = pure false := by rfl) (hline : (apos.endLine == cpos.line) = true := by rfl)
    (hf : X.fn x = true ∨ X.env.scope.names.lookup x = some .local := by first | exact .inl rfl | exact .inr rfl | assumption) :
    PS X (.Assign [.Name x pos'] (.Call (.Attribute o name apos) [] [] cpos) pos) (TSt g W (sMethA i fn fo cNil)) :=
  (ps_set hN hi hx (pe_bm0 PySem.F.plainAttrs_list slot hty hm ho hbase hline) hs hf).hc fun Dn σc H h => meth_read0 l hg h fun μ F σ S' res v H' R' rr q' => q'.next (R'.set rr)
theorem s_methA (hN : X.N.Nodup) (hi : X.N[i]? = some x) (hx : Loc X.env.scope x) (slot : Slot "list" name id) (hty : typeOf (.builtin id) = pure (.type "method_descriptor")) (hm : MtR X id r) (l : LkM g r fn) (ho : PE X o (T g W fo)) (ha : PA X (e :: es) (TL g W fa)) (hg : X.K = g.K := by rfl)
    (hbase : attributeBase o name X.env (eval o X.env) = eval o X.env := by rfl) (hs : swapsWith (.Call (.Attribute o name apos) (e :: es) [] cpos) (some (.Name x pos')) pos.line X.env = pure false := by rfl)
    (hfew : ((backTo cpos (starEach (e :: es) X.env)).all (fun x => !x.1) && (backToKw cpos (keywordEach [] X.env)).all (fun x => x.1.isSome) && decide ((e :: es).length + ([] : List Keyword).length + (if ([] : List Keyword).isEmpty then 0 else 1) < 30)) = true := by rfl)
    (hline : (apos.endLine == cpos.line) = true := by rfl) (hst : starEach (e :: es) X.env = (false, eval e X.env) :: starEach es X.env := by rfl) (hplain : (backTo cpos (starEach es X.env)).any (·.1) = false := by rfl)
    (hf : X.fn x = true ∨ X.env.scope.names.lookup x = some .local := by first | exact .inl rfl | exact .inr rfl | assumption) :
    PS X (.Assign [.Name x pos'] (.Call (.Attribute o name apos) (e :: es) [] cpos) pos) (TSt g W (sMethA i fn fo fa)) :=
  (ps_set hN hi hx (pe_bm PySem.F.plainAttrs_list slot hty hm ho ha hbase hfew hline hst hplain) hs hf).hc fun Dn σc H h => meth_read l hg h fun μ F σ S' res v H' R' rr q' => q'.next (R'.set rr)
end
/-! ### the methods -/
def mAppend : LM := fun xs ds => match ds with
  | [y] => if xs.length < lim then some (xs ++ [y], .non) else none
  | _ => none
theorem lm_append {g : GX} : LkM g rAppend mAppend := by
  intro μ F H a xs vs ds us ys res Q ha hz rx rd e q
  unfold mAppend at e
  split at e
  · rename_i y
    obtain ⟨u, rfl, ru⟩ := rd.one
    split at e
    · rename_i hl
      cases e
      have hv := rx.length
      have h1 : vs.length < sizeLine := by rw [lim_eq, ← hv]; exact hl
      exact ⟨a, vs, u, rfl, rfl, ha, h1, q _ _ (rx.app (.cons ru .nil)) (by rw [List.length_append]; exact h1) (.inr rfl)⟩
    · cases e
  · cases e
def lastD : List D → Option D
  | [] => none
  | [d] => some d
  | _ :: r => lastD r
def initD : List D → List D
  | [] => []
  | [_] => []
  | d :: r => d :: initD r
theorem lastD_eq : ∀ xs : List D, lastD xs = xs[xs.length - 1]?
  | [] => rfl
  | [d] => rfl
  | d :: e :: r => by
    show lastD (e :: r) = _
    rw [lastD_eq (e :: r)]
    simp
theorem initD_eq : ∀ xs : List D, initD xs = xs.dropLast
  | [] => rfl
  | [d] => rfl
  | d :: e :: r => by
    show d :: initD (e :: r) = _
    rw [initD_eq (e :: r)]
    rfl
def mPop : LM := fun xs ds => match ds with
  | [] => match lastD xs with
    | some y => some (initD xs, y)
    | none => none
  | _ => none
theorem lm_pop {g : GX} : LkM g rPop mPop := by
  intro μ F H a xs vs ds us ys res Q ha hz rx rd e q
  unfold mPop at e
  split at e
  · cases rd
    split at e
    · rename_i y ey
      cases e
      rw [lastD_eq] at ey
      obtain ⟨v, hv, rv⟩ := rx.get ey
      rw [rx.length] at hv
      refine ⟨a, vs, v, rfl, rfl, ha, hv, q _ _ ?_ (by rw [List.length_dropLast]; omega) rv⟩
      rw [initD_eq, List.dropLast_eq_take, List.dropLast_eq_take, rx.length]
      exact rx.take _
    · cases e
  · cases e
def mInsert : LM := fun xs ds => match ds with
  | [.int i, y] => if 0 ≤ i && i < 4611686018427387904 && xs.length < lim then some (xs.take i.toNat ++ [y] ++ xs.drop i.toNat, .non) else none
  | _ => none
theorem lm_insert {g : GX} : LkM g (fun x vs H Q => ∃ (l : Addr) (xs : List V) (i : Int) (y : V), x = .ref l ∧ vs = [.int i, y] ∧ H l = some (.lst xs) ∧ xs.length < sizeLine ∧ 0 ≤ i ∧ i < 2 ^ 63 ∧ Q .non (upd H l (.lst (xs.take i.toNat ++ [y] ++ xs.drop i.toNat)))) mInsert := by
  intro μ F H a xs vs ds us ys res Q ha hz rx rd e q
  unfold mInsert at e
  split at e
  · rename_i i y
    obtain ⟨u, w, rfl, ru, rw'⟩ := rd.two
    cases ru.int
    split at e
    · rename_i h
      simp only [Bool.and_eq_true, decide_eq_true_eq] at h
      cases e
      have hv := rx.length
      have h1 : vs.length < sizeLine := by rw [lim_eq, ← hv]; exact h.2
      refine ⟨a, vs, i, w, rfl, rfl, ha, h1, h.1.1, by omega, q _ _ (((rx.take _).app (.cons rw' .nil)).app (rx.drop _)) ?_ (.inr rfl)⟩
      rw [List.length_append, List.length_append, List.length_take, List.length_drop]
      simp
      omega
    · cases e
  · cases e

/-! ## x[i] = e -/
def setI (xs : List D) (i : Int) (y : D) : Option (List D) := match i with
  | .ofNat n => if n < xs.length then some (xs.set n y) else none
  | .negSucc m => if m + 1 ≤ xs.length then some (xs.set (xs.length - (m + 1)) y) else none
theorem setI_ix {xs ys : List D} {i : Int} {y : D} (h : setI xs i y = some ys) : ∃ j, ixN xs.length i = some j ∧ ys = xs.set j y := by
  unfold setI at h
  unfold ixN
  split at h
  · rename_i n
    split at h
    · rename_i hn
      refine ⟨n, ?_, (Option.some.inj h).symm⟩
      have h0 : (0 : Int) ≤ Int.ofNat n := Int.natCast_nonneg n
      have h1 : Int.ofNat n < (xs.length : Int) := Int.ofNat_lt.mpr hn
      rw [if_pos h0, if_pos h1]
      rfl
    · cases h
  · rename_i m
    split at h
    · rename_i hn
      refine ⟨xs.length - (m + 1), ?_, (Option.some.inj h).symm⟩
      rw [if_neg (by omega), if_pos (by omega)]
      congr 1
      omega
    · cases h
def kSub (y : D) (σ : Sl) (S : List SO) (x i : D) : RS := match i with
  | .int i => locL S x fun n xs => match setI xs i y with
    | some ys => .nx σ (putL S n ys)
    | none => .bad
  | _ => .bad
def sTwo (a b : CE) (k : Sl → List SO → D → D → RS) : SC := sVal a fun σ S x _ => sVal b (fun σ S y _ => k σ S x y) σ S
def sSub (fe fo fi : CE) : SC := sVal fe fun σ S y _ => sTwo fo fi (kSub y) σ S
section
variable {g : GX} {μ : List Addr} {F : FZ} {σ : Sl} {S : List SO} {σc : St} {H : Hp} {W : WX} {Dn : Ends}
/-- a store into a list of the store -/
theorem kSub_ok {x i y : D} {vx vi vy : V} {Q : Hp → Prop} (R : Rel g μ F σ S σc H) (rx : RepV g H F μ x vx) (ri : RepV g H F μ i vi) (ry : RepV g H F μ y vy) (q : OkS g W μ F H (kSub y σ S x i) Dn)
    (w : ∀ (S' : List SO) (H' : Hp), Rel g μ F σ S' σc H' → OkS g W μ F H' (.nx σ S') Dn → Q H') : rSetL vx vi vy H Q := by
  unfold kSub at q
  split at q
  · rename_i k
    cases ri.int
    obtain ⟨n, xs, b, vs, rfl, e, rfl, hm, hb, hz, rxs, q2⟩ := locL_ok R rx q
    split at q2
    · rename_i ys ey
      obtain ⟨j, hj, rfl⟩ := setI_ix ey
      rw [rxs.length] at hj
      obtain ⟨R', lt⟩ := R.put (ys := xs.set j y) e hm (by rw [List.length_set]; exact hz) (rxs.set ry j)
      exact ⟨b, vs, k, j, rfl, rfl, hb, hj, w _ _ R' (q2.from lt)⟩
    · exact q2.elim
  · exact q.elim
end
section
variable {X : Cx} {g : GX} {W : WX} {o e i : Expr} {fo fe fi : CE} {pos pos' : Pos}
theorem s_sub (he : PE X e (T g W fe)) (ho : PE X o (T g W fo)) (hi : PE X i (T g W fi))
    (ha : ∀ v, assign (.Subscript o i pos') X.env v = (do
      let ov ← holding [v] (eval o X.env)
      let iv ← holding [v, ov] (eval i X.env)
      standAt pos'
      holding [v, ov, iv] (setItem ov iv v)
      release [v, ov, iv] []) := by intro _; rfl) (hs : swapsWithSole [.Subscript o i pos'] e pos.line X.env = pure false := by rfl) (hw : swappedStores [.Subscript o i pos'] e X.env = pure none := by rfl)
    (h1 : (assignEach [.Subscript o i pos'] X.env).map (·.2) = [assign (.Subscript o i pos') X.env] := by rfl) : PS X (.Assign [.Subscript o i pos'] e pos) (TSt g W (sSub fe fo fi)) :=
  (ps_asg he (pg_sub ho hi set_list ha) hs hw h1).hc fun Dn σc H ⟨μ, F, σ, S, R, q⟩ => R.svalF q fun y fy vy H1 F1 s1 x1 R1 ry q1 =>
    R1.svalF q1 fun x fx vx H2 F2 s2 x2 R2 rx q2 => R2.svalF q2 fun k fk vk H3 F3 s3 x3 R3 rk q3 =>
      kSub_ok R3 (rx.mono s3 x3.up) rk ((ry.mono s2 x2.up).mono s3 x3.up) q3 fun S' H' R' q' => q'.next R'
end

/-! ## x op= e, x[i] op= e -/
def sAug (i : Nat) (fn : List SO → D → D → Res) (f : CE) : SC := fun σ S => match gets σ i with
  | some (some x) => sVal f (fun σ S y _ => match fn S x y with
    | .ok d false => .nx (setD σ i d) S
    | _ => .bad) σ S
  | _ => .bad
def iAdd (_ : List SO) (x y : D) : Res := match x, y with
  | .int i, .int j => .ok (.int (i + j)) false
  | _, _ => .bad
def iMul (_ : List SO) (x y : D) : Res := match x, y with
  | .int i, .int j => if small i || small j then .ok (.int (i * j)) false else .bad
  | _, _ => .bad
theorem lk_iadd {g : GX} : Lk2 g (rI0 fun i j => .int (i + j)) iAdd := by
  intro E μ F σ S σc H x y vx vy Q R rx ry q
  unfold iAdd at q
  split at q
  · exact ⟨_, _, rx.int, ry.int, q.here R.dom (.inr rfl)⟩
  · exact q.elim
theorem lk_imul {g : GX} : Lk2 g (rI CMul fun i j => .int (i * j)) iMul := by
  intro E μ F σ S σc H x y vx vy Q R rx ry q
  unfold iMul at q
  split at q
  · split at q
    · rename_i h
      rw [Bool.or_eq_true] at h
      refine ⟨_, _, rx.int, ry.int, h.imp small_ok small_ok, q.here R.dom (.inr rfl)⟩
    · exact q.elim
  · exact q.elim
def kAugS (fn : List SO → D → D → Res) (fe : CE) (σ : Sl) (S : List SO) (x i : D) : RS := match i with
  | .int k => locL S x fun _ xs => match atD xs k with
    | some z => sVal fe (fun σ S y _ => match fn S z y with
      | .ok d false => kSub d σ S x (.int k)
      | _ => .bad) σ S
    | none => .bad
  | _ => .bad
def sAugS (fn : List SO → D → D → Res) (fo fi fe : CE) : SC := sTwo fo fi (kAugS fn fe)
theorem get_list {X : Cx} : PGet X (rIxL X.K) := by
  intro pins s σ H x y v u Q I rx ry h
  obtain ⟨p, xs, i, z, rfl, rfl, hq, he, q⟩ := h
  cases rx
  obtain ⟨t, rfl⟩ := ry
  obtain ⟨its, r, pl, hz⟩ := I.list hq
  obtain ⟨j, h1, h2, h3, h4, h5⟩ := atI_get he
  obtain ⟨w, ew, rw'⟩ := r.get h2
  have hl := r.length
  have hn : sizeLine < 2 ^ 63 := by rw [sizeLine_eq]; decide
  have hi : xs.length < 2 ^ 63 := Nat.lt_of_le_of_lt hz hn
  have fin : EP X pins σ Q w s := ⟨z, H, I, rw', q⟩
  by_cases h0 : 0 ≤ i
  · have hj : i.toNat = j := by
      rw [seqIndex_of h0 h5] at h1
      exact Option.some.inj h1
    exact wpAny_getItem_list pl.isList h0 (by omega) (by rw [hj]; simpa using ew) fin
  · have hj : (i + (its.toArray.size : Int)).toNat = j := by
      rw [seqIndex_neg (by omega) h4] at h1
      rw [List.size_toArray, ← hl]
      exact Option.some.inj h1
    exact wpAny_getItem_list_neg pl.isList (by omega) (by rw [List.size_toArray]; omega) (by omega) (by rw [hj]; simpa using ew) fin
section
variable {X : Cx} {g : GX} {W : WX} {o e i : Expr} {fo fe fi f : CE} {pos pos' : Pos} {k : Nat} {x : Str} {op : Operator} {r : R2} {fn : List SO → D → D → Res}
theorem s_aug (hN : X.N.Nodup) (hi : X.N[k]? = some x) (hx : Loc X.env.scope x) (he : PE X e (T g W f)) (ho : OpR X (inplaceOp op) r) (l : Lk2 g r fn) (hf : X.fn x = true ∨ X.env.scope.names.lookup x = some .local := by first | exact .inl rfl | exact .inr rfl | assumption) :
    PS X (.AugAssign (.Name x pos') op e pos) (TSt g W (sAug k fn f)) :=
  (ps_aug hN hi hx he ho hf).hc fun Dn σc H ⟨μ, F, σ, S, R, q⟩ => by
    unfold sAug at q
    split at q
    · rename_i d ed
      obtain ⟨v, hv, rv⟩ := R.get ed
      refine ⟨v, hv, R.svalF q fun y fy vy H1 F1 s1 x1 R1 ry q1 => ?_⟩
      split at q1
      · rename_i z ez
        refine l (fun _ _ _ => False) μ F1 σ S σc H1 d y v vy _ R1 (rv.mono s1 x1.up) ry ?_
        rw [ez]
        intro w H2 F2 s2 x2 r2
        rcases r2 with ⟨_, r2⟩ | ⟨e, _⟩
        · exact (q1.from (.of s2 x2)).next ((R1.mono s2 x2).set r2)
        · cases e
      · exact q1.elim
    · exact q.elim
theorem s_augS (ho : PE X o (T g W fo)) (hi : PE X i (T g W fi)) (he : PE X e (T g W fe)) (hp : OpR X (inplaceOp op) r) (l : Lk2 g r fn) (hg : X.K = g.K := by rfl)
    (ha : ∀ ov iv new, augStore i ov iv new = (do holding [new, ov, iv] (setItem ov iv new); release [new, ov, iv] []; pure .next) := by intros; rfl) : PS X (.AugAssign (.Subscript o i pos') op e pos) (TSt g W (sAugS fn fo fi fe)) :=
  (ps_augS ho hi get_list he hp set_list ha).hc fun Dn σc H ⟨μ, F, σ, S, R, q⟩ => by
    have q : OkS g W μ F H (sVal fo (fun σ S x _ => sVal fi (fun σ S y _ => kAugS fn fe σ S x y) σ S) σ S) Dn := q
    refine R.svalF q fun x fx vx H1 F1 s1 x1 R1 rx q1 => R1.svalF q1 fun y fy vy H2 F2 s2 x2 R2 ry q2 => ?_
    unfold kAugS at q2
    split at q2
    · rename_i k
      cases ry.int
      have rx2 := rx.mono s2 x2.up
      obtain ⟨n, xs, b, vs, rfl, e, rfl, hm, hb, hz, rxs, q3⟩ := locL_ok R2 rx2 q2
      split at q3
      · rename_i z ez
        obtain ⟨j, ej, kk⟩ := atD_at ez rxs.length
        obtain ⟨vz, hvz, rz⟩ := rxs.get ej
        refine ⟨b, vs, k, vz, rfl, rfl, SqL.of hb, kk vz hvz, R2.svalF q3 fun w fw vw H3 F3 s3 x3 R3 rw' q4 => ?_⟩
        split at q4
        · rename_i d ed
          refine l (fun _ _ _ => False) μ F3 σ S σc H3 z w vz vw _ R3 (rz.mono s3 x3.up) rw' ?_
          rw [ed]
          intro nv H4 F4 s4 x4 r4
          rcases r4 with ⟨_, r4⟩ | ⟨e, _⟩
          · exact kSub_ok (i := .int k) (R3.mono s4 x4) ((rx2.mono s3 x3.up).mono s4 x4.up) (.inr rfl) r4 (q4.from (.of s4 x4)) fun S' H' R' q' => q'.next R'
          · cases e
        · exact q4.elim
      · exact q3.elim
    · exact q2.elim
end
end HC

set_option maxRecDepth 100000
namespace HC
open PySem PySem.Spec L2
open PyProof.Rows hiding St

/-! ## loops -/
def forL (A : TgF) (body : SC) : List D → SC
  | [], σ, S => .nx σ S
  | d :: ds, σ, S => match A d σ with
    | some σ1 => match body σ1 S with
      | .nx σ2 S2 => forL A body ds σ2 S2
      | .ct σ2 S2 => forL A body ds σ2 S2
      | .bk σ2 S2 => .nx σ2 S2
      | r => r
    | none => .bad
def forD (A : TgF) (body : SC) (it : List SO → Option (List D)) : Nat → Nat → SC
  | 0, _, _, _ => .bad
  | k + 1, i, σ, S => match it S with
    | some ds => match gets ds i with
      | some d => match A d σ with
        | some σ1 => match body σ1 S with
          | .nx σ2 S2 => forD A body it k (i + 1) σ2 S2
          | .ct σ2 S2 => forD A body it k (i + 1) σ2 S2
          | .bk σ2 S2 => .nx σ2 S2
          | r => r
        | none => .bad
      | none => .nx σ S
    | none => .bad
def fuel : Nat := 1073741824
def sFor (it : CI) (A : TgF) (body : SC) : SC := fun σ S => match it σ S with
  | .st ds => forL A body ds σ S
  | .dy it => forD A body it fuel 0 σ S
  | .ex c as => .ex c as σ S
  | .bad => .bad
def whileF (c : CE) (body : SC) : Nat → SC
  | 0, _, _ => .bad
  | k + 1, σ, S => match c σ S with
    | .ok (.bl true) _ => match body σ S with
      | .nx σ2 S2 => whileF c body k σ2 S2
      | .ct σ2 S2 => whileF c body k σ2 S2
      | .bk σ2 S2 => .nx σ2 S2
      | r => r
    | .ok (.bl false) _ => .nx σ S
    | .ok _ _ => .bad
    | .ex c as => .ex c as σ S
    | .bad => .bad
def sWhile (c : CE) (body : SC) : SC := whileF c body fuel
/-- what is wanted behind a loop's body -/
abbrev lEnds (Dn : Ends) (N : St → Hp → Prop) : Ends := { Dn with nx := N, ct := N, bk := Dn.nx }
section
variable {g : GX} {W : WX} {μ : List Addr} {F : FZ} {H : Hp} {Dn : Ends} {N : St → Hp → Prop}
/-- the body's result, in a loop whose next turn is k -/
theorem OkS.body {r : RS} {k : SC} (q : OkS g W μ F H (match r with | .nx σ2 S2 => k σ2 S2 | .ct σ2 S2 => k σ2 S2 | .bk σ2 S2 => .nx σ2 S2 | r => r) Dn)
    (h : ∀ σ2 S2 σc' μ' F' H', Later μ F H μ' F' H' → Rel g μ' F' σ2 S2 σc' H' → OkS g W μ F H (k σ2 S2) Dn → N σc' H') : OkS g W μ F H r (lEnds Dn N) := by
  cases r with
  | nx σ2 S2 => exact fun σc' μ' F' H' l R => h σ2 S2 σc' μ' F' H' l R q
  | ct σ2 S2 => exact fun σc' μ' F' H' l R => h σ2 S2 σc' μ' F' H' l R q
  | bk σ2 S2 => exact q
  | rt d fr => exact q
  | rx d fr σ2 S2 => exact q
  | ex c as σ2 S2 => exact q
  | bad => exact q
end
section
variable {g : GX} {W : WX} {fi : CI} {A : TgF} {ss : List Nat} {body : SC} {fc : CE}
theorem for_of {Dn : Ends} {σc : St} {H : Hp} (h : TSt g W (sFor fi A body) Dn σc H) : tFor (TIt g W fi) (TGt g ss A) (TSt g W body) Dn σc H := by
  obtain ⟨μ, F, σ, S, R, q⟩ := h
  refine ⟨μ, F, σ, S, R, ?_⟩
  unfold sFor at q
  cases ei : fi σ S with
  | bad => rw [ei] at q; exact q
  | ex c as =>
    rw [ei] at q
    exact fun cls dx H' F' s x rx => q cls dx σc μ F' H' (.of s x) (R.mono s x) rx
  | st ds =>
    rw [ei] at q
    intro J H1 F1 s1 x1 w
    have R1 := R.mono s1 x1
    have hlen := (w μ F1 σ S σc H1 .refl R1 ds rfl).1
    let P : Nat → St → Hp → Prop := fun i σ' H' => i ≤ ds.length ∧ ∃ μ2 F2 σ2 S2, Rel g μ2 F2 σ2 S2 σ' H' ∧ Wk g μ2 F2 H' J (fun _ => some ds) ∧ OkS g W μ2 F2 H' (forL A body (ds.drop i) σ2 S2) Dn
    refine ⟨fun i m σ' H' => m = ds.length - i ∧ P i σ' H', ⟨ds.length, by simp, Nat.zero_le _, μ, F1, σ, S, R1, w, q.from (.of s1 x1)⟩, ?_⟩
    rintro i m σ' H' ⟨rfl, hi, μ2, F2, σ2, S2, R2, w2, q2⟩
    obtain ⟨_, wk⟩ := w2 μ2 F2 σ2 S2 σ' H' .refl R2 ds rfl
    obtain ⟨go, yl, stop⟩ := wk i
    by_cases hlt : i < ds.length
    · rw [List.drop_eq_getElem_cons hlt] at q2
      unfold forL at q2
      refine .inr ⟨go hlt, P (i + 1), fun σ3 H3 p => ⟨ds.length - (i + 1), by omega, rfl, p⟩, fun x H3 hy => ?_⟩
      obtain ⟨sm, rx⟩ := yl x H3 hy
      have rx := rx _ (List.getElem?_eq_getElem hlt)
      have fx0 : FX F2 H' F2 H3 := ⟨fun _ h => h, fun _ h => .inl h, fun a h => let ⟨o, e⟩ := R2.dom a h; ⟨o, sm _ _ e⟩⟩
      have R3 := R2.mono sm fx0
      have l3 : Later μ2 F2 H' μ2 F2 H3 := .of sm fx0
      split at q2
      · rename_i σ4 eA
        refine ⟨μ2, F2, σ2, S2, ds[i], σ4, R3, rx, eA, fun σ5 R5 _ => ⟨μ2, F2, σ4, S2, R5, ?_⟩⟩
        have q3 := q2.from l3
        exact OkS.body (k := forL A body (ds.drop (i + 1))) q3 fun σ6 S6 σc' μ' F' H6 l R6 q6 => ⟨by omega, μ', F', σ6, S6, R6, (w2.later l3).later l, q6.from l⟩
      · exact q2.elim
    · have ei2 : i = ds.length := by omega
      rw [List.drop_eq_nil_of_le (by omega)] at q2
      exact .inl ⟨stop (by omega), q2.next R2⟩
  | dy it =>
    rw [ei] at q
    intro J H1 F1 s1 x1 w
    have R1 := R.mono s1 x1
    let P : Nat → Nat → St → Hp → Prop := fun i m σ' H' => ∃ μ2 F2 σ2 S2, Rel g μ2 F2 σ2 S2 σ' H' ∧ Wk g μ2 F2 H' J it ∧ OkS g W μ2 F2 H' (forD A body it m i σ2 S2) Dn
    refine ⟨fun i m σ' H' => P i m σ' H', ⟨fuel, μ, F1, σ, S, R1, w, q.from (.of s1 x1)⟩, ?_⟩
    rintro i m σ' H' ⟨μ2, F2, σ2, S2, R2, w2, q2⟩
    cases m with
    | zero => exact q2.elim
    | succ m =>
      unfold forD at q2
      split at q2
      · rename_i ds ed
        obtain ⟨_, wk⟩ := w2 μ2 F2 σ2 S2 σ' H' .refl R2 ds ed
        obtain ⟨go, yl, stop⟩ := wk i
        split at q2
        · rename_i d eg
          rw [gets_eq] at eg
          have hlt := (List.getElem?_eq_some_iff.mp eg).1
          refine .inr ⟨go hlt, P (i + 1) m, fun σ3 H3 p => ⟨m, by omega, p⟩, fun x H3 hy => ?_⟩
          obtain ⟨sm, rx⟩ := yl x H3 hy
          have rx := rx _ eg
          have fx0 : FX F2 H' F2 H3 := ⟨fun _ h => h, fun _ h => .inl h, fun a h => let ⟨o, e⟩ := R2.dom a h; ⟨o, sm _ _ e⟩⟩
          have R3 := R2.mono sm fx0
          have l3 : Later μ2 F2 H' μ2 F2 H3 := .of sm fx0
          split at q2
          · rename_i σ4 eA
            refine ⟨μ2, F2, σ2, S2, d, σ4, R3, rx, eA, fun σ5 R5 _ => ⟨μ2, F2, σ4, S2, R5, ?_⟩⟩
            have q3 := q2.from l3
            exact OkS.body (k := forD A body it m (i + 1)) q3 fun σ6 S6 σc' μ' F' H6 l R6 q6 => ⟨μ', F', σ6, S6, R6, (w2.later l3).later l, q6.from l⟩
          · exact q2.elim
        · rename_i eg
          rw [gets_eq] at eg
          exact .inl ⟨stop (List.getElem?_eq_none_iff.mp eg), q2.next R2⟩
      · exact q2.elim
theorem while_of {Dn : Ends} {σc : St} {H : Hp} (h : TSt g W (sWhile fc body) Dn σc H) : tWhile (TB g W fc) (TSt g W body) Dn σc H := by
  obtain ⟨μ, F, σ, S, R, q⟩ := h
  refine ⟨fun m σ' H' => ∃ μ2 F2 σ2 S2, Rel g μ2 F2 σ2 S2 σ' H' ∧ OkS g W μ2 F2 H' (whileF fc body m σ2 S2) Dn, ⟨fuel, μ, F, σ, S, R, q⟩, ?_⟩
  rintro m σ' H' ⟨μ2, F2, σ2, S2, R2, q2⟩
  cases m with
  | zero => exact q2.elim
  | succ m =>
    unfold whileF at q2
    refine ⟨μ2, F2, σ2, S2, R2, ?_⟩
    cases ea : fc σ2 S2 with
    | bad => rw [ea] at q2; exact q2
    | ex c as =>
      rw [ea] at q2
      exact fun cls dx H3 F3 s x rx => q2 cls dx σ' μ2 F3 H3 (.of s x) (R2.mono s x) rx
    | ok d fl =>
      rw [ea] at q2
      cases d with
      | bl b =>
        intro v H3 F3 s3 x3 r3
        obtain ⟨F4, x4, u4, r4⟩ := r3.frz x3
        have l := Later.of (μ := μ2) s3 x4
        refine ⟨b, r4.bl, ?_⟩
        cases b with
        | true =>
          refine iteT ⟨fun σ5 H5 => ∃ μ6 F6 σ6 S6, Rel g μ6 F6 σ6 S6 σ5 H5 ∧ OkS g W μ6 F6 H5 (whileF fc body m σ6 S6) Dn, fun σ5 H5 p => ⟨m, by omega, p⟩, μ2, F4, σ2, S2, R2.mono s3 x4, ?_⟩
          exact OkS.body (k := whileF fc body m) (q2.from l) fun σ6 S6 σc' μ' F' H6 l R6 q6 => ⟨μ', F', σ6, S6, R6, q6.from l⟩
        | false => exact iteF ((q2.from l).next (R2.mono s3 x4))
      | _ => exact q2.elim
variable {X : Cx} {tg iter c : Expr} {bd : List Stmt} {pos : Pos}
theorem s_for (hp : PassesOwn (model X.prog X.w) X.A X.env X.xe) (hc : X.calm = true) (hi : PI X tg iter (TIt g W fi)) (hg : PG X tg (TGt g ss A)) (hb : PSs X bd (TSt g W body)) (hs : ∀ x, foldedSetIterable iter X.env x = pure x := by intro _; rfl) :
    PS X (.For tg iter bd [] pos) (TSt g W (sFor fi A body)) := (ps_for hp hc hi hg hb hs).hc fun Dn σ H h => for_of h
theorem s_while (hp : PassesOwn (model X.prog X.w) X.A X.env X.xe) (hc : PT X c (TB g W fc)) (hb : PSs X bd (TSt g W body)) : PS X (.While c bd [] pos) (TSt g W (sWhile fc body)) := (ps_while hp hc hb).hc fun Dn σ H h => while_of h
end
end HC

set_option maxRecDepth 100000
namespace HC
open PySem PySem.Spec L2
open PyProof.Rows hiding St

/-! ## defs -/
abbrev FnS := List D → Res
def fnSp (g : GX) (m : FnS) : Sp := fun vs H Q E => ∃ (F : FZ) (ds : List D), (∀ a, F a → ∃ o, H a = some o) ∧ RepL g H F ds vs ∧ Ok g E H F [] (m ds) Q
def startD (n : Nat) (ds : List D) : Sl := ds.map some ++ List.replicate (n - ds.length) none
/-- a def of np parameters and n names -/
def runF (np n : Nat) (body : SC) : FnS := fun ds => if ds.length = np then (match body (startD n ds) [] with
  | .rt d fr => .ok d fr
  | .nx _ _ => .ok .non false
  | .ex c as _ _ => if pureL as then .ex c as else .bad
  | _ => .bad) else .bad
theorem start_rel {g : GX} {F : FZ} {H : Hp} {N : List Str} {ds : List D} {vs : List V} (hx : g.xc = none) (dom : ∀ a, F a → ∃ o, H a = some o) (r : RepL g H F ds vs) : Rel g [] F (startD N.length ds) [] (L2.start N vs) H := by
  have hl := r.length
  refine ⟨fun i d h => ?_, ?_, fun n o h => by simp at h, rfl, List.nodup_nil, fun a h => (nomatch h), dom, fun p h => by rw [hx] at h; cases h⟩
  · unfold startD at h
    unfold L2.start
    by_cases hi : i < ds.length
    · rw [List.getElem?_append_left (by simpa using hi), List.getElem?_map] at h
      cases e : ds[i]? with
      | none => rw [e] at h; cases h
      | some d' =>
        rw [e] at h
        cases h
        obtain ⟨v, h1, h2⟩ := (r.vs (μ := [])).get e
        refine ⟨v, ?_, h2⟩
        rw [List.getElem?_append_left (by rw [List.length_map]; omega), List.getElem?_map, h1]
        rfl
    · rw [List.getElem?_append_right (by simpa using hi), List.getElem?_replicate] at h
      split at h <;> cases h
  · unfold startD L2.start
    rw [List.length_append, List.length_append, List.length_map, List.length_map, List.length_replicate, List.length_replicate, hl]
/-- the rule for a def: its body's derivation -/
theorem fn_ok {P : Program} {w : World} {K : PySem.W.Frag} {mg : Str → Option Value} {base : Heap} {g : GX} {x qual : Str} {st : Stmt} {f : Addr} {fd : FuncData} {N ps : List Str} {k : Nat} {body : SC} (Fn : L2.Fun K x qual st f fd) (Sc : FnScope N ps (defScope st)) (hx : g.xc = none)
    (hb : ∀ (cdv : Value) (A : Around) (outer : List Env) (s : Shared) (H : Hp) (E : XK), Room k (A.deeper (envOfC qual (defScope st) s.heap.objs.size f cdv)) →
      PSs (cxOf (L2.CX P w) P w K mg base N qual (defScope st) f cdv A outer s H E) (defBody st) (TSt g (fun c d _ H => E c d H) body)) :
    FnOk P w K mg base (L2.CX P w) (k + 1) f fd ps (fnSp g (runF ps.length N.length body)) := by
  refine Fn.okX Sc (fun vs H Q E h => ?_) (fun cdv A outer s H vs Q E hr h => ?_)
  · obtain ⟨F, ds, dom, r, q⟩ := h
    unfold runF at q
    split at q
    · rename_i e
      rw [← r.length, e]
    · exact q.elim
  · obtain ⟨F, ds, dom, r, q⟩ := h
    unfold runF at q
    split at q
    · refine ⟨_, hb cdv A outer s H E hr, [], F, _, [], start_rel hx dom r, ?_⟩
      cases e : body (startD N.length ds) [] with
      | nx σ' S' =>
        rw [e] at q
        intro σc' μ' F' H' l R
        have sm : Same H H' := fun a o h => l.keep a o (fun z => nomatch z) h
        exact q .non H' F' sm ⟨l.up, l.nw, R.dom⟩ (.inl ⟨rfl, .inr rfl⟩)
      | rt d fr =>
        rw [e] at q
        intro v μ' F' H' l b dm
        have sm : Same H H' := fun a o h => l.keep a o (fun z => nomatch z) h
        refine q v H' F' sm ⟨l.up, l.nw, dm⟩ ?_
        rcases b with ⟨e1, b⟩ | ⟨e1, a, ev, ha, nf, rn⟩
        · exact .inl ⟨e1, .inr b⟩
        · exact .inr ⟨e1, a, ev, (ha.elim (fun h => h) (fun z => nomatch z)), nf, fun z => (nomatch z), rn⟩
      | ex c as σ' S' =>
        rw [e] at q
        intro cls dx σc' μ' F' H' l R rx
        have sm : Same H H' := fun a o h => l.keep a o (fun z => nomatch z) h
        have q : Ok g E H F [] (if pureL as then .ex c as else .bad) Q := q
        split at q
        · rename_i hp
          obtain ⟨h1, y, vs, h2, h3, h4⟩ := rx
          exact q cls dx H' F' sm ⟨l.up, l.nw, R.dom⟩ ⟨h1, y, vs, h2, (h3.pure hp).vs, h4⟩
        · exact q.elim
      | rx _ _ _ _ => rw [e] at q; exact q.elim
      | bk _ _ => rw [e] at q; exact q.elim
      | ct _ _ => rw [e] at q; exact q.elim
      | bad => rw [e] at q; exact q.elim
    · exact q.elim

/-! ## calls -/
mutual
/-- data without lists, dicts, objects -/
def flatD : D → Bool
  | .non => true
  | .bl _ => true
  | .int _ => true
  | .str _ => true
  | .tup xs => flatDs xs
  | _ => false
def flatDs : List D → Bool
  | [] => true
  | d :: r => flatD d && flatDs r
end
section
variable {g : GX} {H : Hp} {F F' : FZ}
mutual
theorem flat_rep : ∀ (d : D) (v : V), flatD d = true → RepP g H F d v → RepP g H F' d v
  | .non, _, _, h => h
  | .bl _, _, _, h => h
  | .int _, _, _, h => h
  | .str _, _, _, h => h
  | .tup ds, v, p, h => by
    obtain ⟨a, vs, e, h1, h2⟩ := h
    exact ⟨a, vs, e, h1, flat_reps ds vs (by simpa [flatD] using p) h2⟩
  | .lst _, _, p, _ => by simp [flatD] at p
  | .rol _, _, p, _ => by simp [flatD] at p
  | .dct _ _, _, p, _ => by simp [flatD] at p
  | .obj _ _, _, p, _ => by simp [flatD] at p
  | .loc _, _, p, _ => by simp [flatD] at p
  | .err, _, p, _ => by simp [flatD] at p
theorem flat_reps : ∀ (ds : List D) (vs : List V), flatDs ds = true → RepL g H F ds vs → RepL g H F' ds vs
  | [], _, _, h => h
  | d :: ds, vs, p, h => by
    obtain ⟨v, ws, e, h1, h2⟩ := h
    simp only [flatDs, Bool.and_eq_true] at p
    exact ⟨v, ws, e, flat_rep d v p.1 h1, flat_reps ds ws p.2 h2⟩
end
end
def flatR (d : D) (fr : Bool) : Bool := match fr with
  | false => flatD d
  | true => match d with
    | .lst xs => flatDs xs
    | _ => false
def lends (S : List SO) : List D → Bool
  | [] => true
  | d :: r => (match d with
    | .loc n => (match gets S n with
      | some (.lst xs) => pureL xs
      | _ => false)
    | _ => true) && lends S r
def callD (m : FnS) (S : List SO) (ds : List D) : Res := if pureL ds then m ds else (if lends S ds then (match m (ds.map (look S)) with
  | .ok d fr => if flatR d fr then .ok d fr else .bad
  | .ex c as => if flatDs as then .ex c as else .bad
  | .bad => .bad) else .bad)
section
variable {g : GX} {μ : List Addr} {F : FZ} {σ : Sl} {S : List SO} {σc : St} {H : Hp}
/-- lists of the store are lent for a call -/
theorem Rel.lend (R : Rel g μ F σ S σc H) : ∀ {ds : List D} {vs : List V}, RepVs g H F μ ds vs → lends S ds = true → RepL g H (fun a => F a ∨ a ∈ μ) (ds.map (look S)) vs
  | _, _, .nil, _ => rfl
  | _, _, .cons (a := d) r t, p => by
    unfold lends at p
    rw [Bool.and_eq_true] at p
    obtain ⟨p1, p2⟩ := p
    refine ⟨_, _, rfl, ?_, R.lend t p2⟩
    cases d with
    | loc n =>
      simp only at p1
      split at p1
      · rename_i xs q
        have e : look S (.loc n) = .lst xs := by unfold look; simp only [q]
        rw [e]
        obtain ⟨b, vs, rfl, hm, hb, hz, rx⟩ := R.locl r q
        exact ⟨b, vs, rfl, ⟨.inr (List.mem_of_getElem? hm), hb, hz⟩, RepL.mono (Same.refl _) (fun _ h => .inl h) _ _ (rx.pure p1)⟩
      · exact nomatch p1
    | _ => exact RepP.mono (Same.refl _) (fun _ h => .inl h) _ _ (r.pure rfl)
end
end HC

set_option maxRecDepth 100000
namespace HC
open PySem PySem.Spec L2
open PyProof.Rows hiding St

/-! ## what a def promises, where no container is being shown -/
def RG (k : Nat) (A : Around) : Prop := Room k A ∧ A.guards = some []
structure FnG (P : Program) (w : World) (K : PySem.W.Frag) (mg : Str → Option Value) (base : Heap) (CX : CXT) (k : Nat) (f : Addr) (fd : FuncData) (ps : List Str) (sp : Sp) : Prop where
  ln : ∀ ds H Q E, sp ds H Q E → ds.length = ps.length
  go : ∀ (A : Around) (out : List Env) (s : Shared) (H : Hp) (ar : Args) (ws : List Value) (ds : List V) (Q : VK) (E : XK), RG k A → Env0 P w K mg base A out s H → BindsTo s fd ar (ps.zip ws) → Vals ds ws → sp ds H Q E → codeAny (model P w) A (.call (.ref f) ar) (CR CX out P w H s Q E) s
theorem RG.mono {j k : Nat} {A : Around} (r : RG k A) (h : j ≤ k) : RG j A := ⟨r.1.mono h, r.2⟩
theorem RG.deeper {k : Nat} {A : Around} (r : RG (k + 1) A) (env : Env) : RG k (A.deeper env) := ⟨r.1.deeper env, r.2⟩
section
variable {P : Program} {w : World} {K : PySem.W.Frag} {mg : Str → Option Value} {base : Heap} {k : Nat} {sp : Sp} {f : Addr} {fd : FuncData} {N ps : List Str}
theorem FnG.mono {CX : CXT} {j : Nat} (F : FnG P w K mg base CX j f fd ps sp) (h : j ≤ k) : FnG P w K mg base CX k f fd ps sp := ⟨F.ln, fun A o s H ar ws ds Q E r => F.go A o s H ar ws ds Q E (r.mono h)⟩
theorem fnG_of {x qual : Str} {st : Stmt} (F : L2.Fun K x qual st f fd) (S : FnScope N ps (defScope st)) (ln : ∀ ds H Q E, sp ds H Q E → ds.length = ps.length)
    (body : ∀ (cdv : Value) (A : Around) (out : List Env) (s : Shared) (H : Hp) (ds : List V) (Q : VK) (E : XK), RG k (A.deeper (envOfC qual (defScope st) s.heap.objs.size f cdv)) → sp ds H Q E →
      ∃ t, PSs (cxOf (L2.CX P w) P w K mg base N qual (defScope st) f cdv A out s H E) (defBody st) t ∧ t { nx := fun _ H1 => Q .non H1, rt := Q } (L2.start N ds) H) : FnG P w K mg base (L2.CX P w) (k + 1) f fd ps sp := by
  obtain ⟨oc, od, kV, doc, pm, an, cdv, ct, osl, rfl, lk, hcd⟩ := F.ex
  refine ⟨ln, fun A out s H ar ws ds Q E hr e0 hb r hs => ?_⟩
  have KX : K.In s.heap := e0.mod.kin.keeps fun b o e => (e0.bs b o e).1
  have lims : s.heap.NoLimit := e0.mod.nolimit.keeps fun b o e => (e0.bs b o e).1
  have kinds : ∀ z ∈ ps.zip ws, (defScope st).names.lookup z.1 = some .local ∨ ((defScope st).names.lookup z.1 = some .cell ∧ ((cellsFrom (s.heap.objs.size + 1) (defScope st).names []).lookup z.1).isSome = true) := by
    rintro ⟨n, v⟩ hz
    exact (S.par n (List.of_mem_zip hz).1).imp (fun q => q) fun q => ⟨q, PySem.W.cellsFrom_some _ _ _ (.inl q)⟩
  refine codeAny_call_function hr.1.depth (KX _ _ lk) rfl S.co S.gen rfl (PySem.W.codeRec_of KX hcd) (hb _ _ _ _ ?_)
  refine wpAny_newFunctionEnv_cells S.kind kinds fun env he s1 x => ?_
  subst he
  refine ⟨lims.keeps x.toInCall.keep, codeAny_func ?_⟩
  obtain ⟨t, ht, hq⟩ := body cdv A out s H ds Q E (hr.deeper _) hs
  have I := inv_start (CX := L2.CX P w) (P := P) (E := E) S hr.1.hd e0 (ln _ _ _ _ hs) r x
  refine wpAny_mono (ht.run [] s1 _ H _ I hq) (fun fl s' hf => ?_) fun e s' he => he
  cases fl with
  | ret u =>
    obtain ⟨v, σ', H1, J, rv, q⟩ := hf
    exact ⟨v, H1, J.os, J.bare, J.base, J.hok, rv, q⟩
  | next =>
    obtain ⟨σ', H1, J, q⟩ := hf
    exact ⟨V.non, H1, J.os, J.bare, J.base, J.hok, rfl, q⟩
  | brk => exact hf.elim fun _ h => h.elim fun _ h => False.elim h.2
  | cont => exact hf.elim fun _ h => h.elim fun _ h => False.elim h.2
end
/-- the rule for a def: its body's derivation -/
theorem fn_okG {P : Program} {w : World} {K : PySem.W.Frag} {mg : Str → Option Value} {base : Heap} {g : GX} {x qual : Str} {st : Stmt} {f : Addr} {fd : FuncData} {N ps : List Str} {k : Nat} {body : SC} (Fn : L2.Fun K x qual st f fd) (Sc : FnScope N ps (defScope st)) (hx : g.xc = none)
    (hb : ∀ (cdv : Value) (A : Around) (outer : List Env) (s : Shared) (H : Hp) (E : XK), RG k (A.deeper (envOfC qual (defScope st) s.heap.objs.size f cdv)) →
      PSs (cxOf (L2.CX P w) P w K mg base N qual (defScope st) f cdv A outer s H E) (defBody st) (TSt g (fun c d _ H => E c d H) body)) :
    FnG P w K mg base (L2.CX P w) (k + 1) f fd ps (fnSp g (runF ps.length N.length body)) := by
  refine fnG_of Fn Sc (fun vs H Q E h => ?_) (fun cdv A outer s H vs Q E hr h => ?_)
  · obtain ⟨F, ds, dom, r, q⟩ := h
    unfold runF at q
    split at q
    · rename_i e
      rw [← r.length, e]
    · exact q.elim
  · obtain ⟨F, ds, dom, r, q⟩ := h
    unfold runF at q
    split at q
    · refine ⟨_, hb cdv A outer s H E hr, [], F, _, [], start_rel hx dom r, ?_⟩
      cases e : body (startD N.length ds) [] with
      | nx σ' S' =>
        rw [e] at q
        intro σc' μ' F' H' l R
        have sm : Same H H' := fun a o h => l.keep a o (fun z => nomatch z) h
        exact q .non H' F' sm ⟨l.up, l.nw, R.dom⟩ (.inl ⟨rfl, .inr rfl⟩)
      | rt d fr =>
        rw [e] at q
        intro v μ' F' H' l b dm
        have sm : Same H H' := fun a o h => l.keep a o (fun z => nomatch z) h
        refine q v H' F' sm ⟨l.up, l.nw, dm⟩ ?_
        rcases b with ⟨e1, b⟩ | ⟨e1, a, ev, ha, nf, rn⟩
        · exact .inl ⟨e1, .inr b⟩
        · exact .inr ⟨e1, a, ev, (ha.elim (fun h => h) (fun z => nomatch z)), nf, fun z => (nomatch z), rn⟩
      | ex c as σ' S' =>
        rw [e] at q
        intro cls dx σc' μ' F' H' l R rx
        have sm : Same H H' := fun a o h => l.keep a o (fun z => nomatch z) h
        have q : Ok g E H F [] (if pureL as then .ex c as else .bad) Q := q
        split at q
        · rename_i hp
          obtain ⟨h1, y, vs, h2, h3, h4⟩ := rx
          exact q cls dx H' F' sm ⟨l.up, l.nw, R.dom⟩ ⟨h1, y, vs, h2, (h3.pure hp).vs, h4⟩
        · exact q.elim
      | rx _ _ _ _ => rw [e] at q; exact q.elim
      | bk _ _ => rw [e] at q; exact q.elim
      | ct _ _ => rw [e] at q; exact q.elim
      | bad => rw [e] at q; exact q.elim
    · exact q.elim

/-! ## calls of own defs -/
section
variable {g : GX} {E : XK} {μ : List Addr} {F : FZ} {σ : Sl} {S : List SO} {σc : St} {H : Hp}
theorem RepVs.up {F : FZ} {ds : List D} {vs : List V} (h : RepVs g H F [] ds vs) : RepVs g H F μ ds vs := Paired.mapP h fun _ _ q => q.elim (fun ⟨_, _, _, z, _⟩ => nomatch z) .inr
theorem RepVs.all {F : FZ} : ∀ {ds : List D} {vs : List V}, RepVs g H F [] ds vs → RepL g H F ds vs
  | _, _, .nil => rfl
  | _, _, .cons r t => ⟨_, _, rfl, r.elim (fun ⟨_, _, _, z, _⟩ => nomatch z) fun h => h, RepVs.all t⟩
theorem Ok.called {W : WX} {m : FnS} {ds : List D} {vs : List V} {Q : VK} (R : Rel g μ F σ S σc H) (r : RepVs g H F μ ds vs) (q : Ok g (wat W σc) H F μ (callD m S ds) Q) : fnSp g m vs H Q (WE W σc) := by
  unfold callD at q
  split at q
  · rename_i hp
    refine ⟨F, ds, R.dom, r.pure hp, ?_⟩
    cases e : m ds with
    | ok d fr =>
      rw [e] at q
      intro v H' F' sm fx rr
      refine q v H' F' sm fx ?_
      rcases rr with ⟨e1, b⟩ | ⟨e1, a, ev, ha, nf, _, rn⟩
      · exact .inl ⟨e1, b.elim (fun ⟨_, _, _, z, _⟩ => nomatch z) .inr⟩
      · refine .inr ⟨e1, a, ev, ha, nf, fun hm => ?_, rn⟩
        obtain ⟨u, eu⟩ := R.mu_there hm
        rw [ha] at eu
        exact nomatch eu
    | ex c as =>
      rw [e] at q
      intro cls dx H' F' sm fx rx
      obtain ⟨h1, y, vs, h2, h3, h4⟩ := rx
      exact q cls dx H' F' sm fx ⟨h1, y, vs, h2, h3.up, h4⟩
    | bad => rw [e] at q; exact q.elim
  · split at q
    · rename_i hp
      have hd : ∀ a, (F a ∨ a ∈ μ) → ∃ o, H a = some o := fun a h => h.elim (R.dom a) R.mu_there
      refine ⟨fun a => F a ∨ a ∈ μ, ds.map (look S), hd, R.lend r hp, ?_⟩
      cases e : m (ds.map (look S)) with
      | ok d fr =>
        rw [e] at q
        intro v H' F' sm fx rr
        have q : Ok g (wat W σc) H F μ (if flatR d fr then .ok d fr else .bad) Q := q
        split at q
        · rename_i hf
          refine q v H' F sm ⟨fun _ h => h, fun _ h => .inl h, fun a h => let ⟨o, e⟩ := R.dom a h; ⟨o, sm _ _ e⟩⟩ ?_
          rcases rr with ⟨e1, b⟩ | ⟨e1, a, ev, ha, nf, _, rn⟩
          · subst e1
            refine .inl ⟨rfl, .inr (b.elim (fun ⟨_, _, _, z, _⟩ => nomatch z) fun b => flat_rep d v hf b)⟩
          · subst e1
            cases d with
            | lst xs =>
              obtain ⟨ws, q1, q2, q3⟩ := rn
              have nF : ¬ F a := fun z => by
                obtain ⟨o, eo⟩ := R.dom a z
                rw [ha] at eo
                exact nomatch eo
              refine .inr ⟨rfl, a, ev, ha, nF, fun hm => ?_, ws, q1, q2, flat_reps xs ws hf q3⟩
              obtain ⟨u, eu⟩ := R.mu_there hm
              rw [ha] at eu
              exact nomatch eu
            | _ => exact nomatch hf
        · exact q.elim
      | ex c as =>
        rw [e] at q
        intro cls dx H' F' sm fx rx
        have q : Ok g (wat W σc) H F μ (if flatDs as then .ex c as else .bad) Q := q
        split at q
        · rename_i hf
          obtain ⟨h1, y, vs, h2, h3, h4⟩ := rx
          exact q cls dx H' F sm ⟨fun _ h => h, fun _ h => .inl h, fun a h => let ⟨o, e⟩ := R.dom a h; ⟨o, sm _ _ e⟩⟩ ⟨h1, y, vs, h2, (flat_reps as vs hf h3.all).vs, h4⟩
        · exact q.elim
      | bad => rw [e] at q; exact q.elim
    · exact q.elim
end
section
variable {X : Cx} {g : GX} {W : WX} {k : Nat} {f : Addr} {fd : FuncData} {ps ks : List Str} {m : FnS} {x : Str} {p pos : Pos} {e : Expr} {es : List Expr} {kws : List Keyword} {cf ck : CA}
theorem run_G {sp : Sp} {pins : List (Addr × Obj)} {σ : St} {H : Hp} {s : Shared} {Q : VK} {ar : Args} {ws : List Value} {vs : List V} (Fo : FnG X.prog X.w X.K X.mg X.base (L2.CX X.prog X.w) k f fd ps sp) (hr : RG k X.A) (hx : PassesAt (L2.CX X.prog X.w) X σ (WE W σ))
    (I : Inv X pins σ H s) (hb : BindsTo s fd ar (ps.zip ws)) (r : Vals vs ws) (h : sp vs H Q (WE W σ)) : wpAny (model X.prog X.w) X.A (call (.ref f) ar.pos ar.kw) (EP X pins σ Q) X.xe s := by
  refine wpAny_call (codeAny_mono (Fo.go X.A X.stack s H ar ws vs Q (WE W σ) hr I.env0 hb r h) fun r s' hq => ?_)
  cases r with
  | error e => exact hx pins H s e s' I hq
  | ok fl => cases fl with
    | ret u => exact I.after hq
    | next => exact nomatch hq
    | brk => exact nomatch hq
    | cont => exact nomatch hq
/-- f(e, ..) -/
theorem q_call (Fo : FnG X.prog X.w X.K X.mg X.base (L2.CX X.prog X.w) k f fd ps (fnSp g m)) (hr : RG k X.A) (hg : Gl X x) (hm : X.mg x = some (.ref f)) (hk : PySem.W.keepIn X.K (.ref f) = true) (hb : Binds X.K fd ps []) (tk : Takes X W) (ha : PA X (e :: es) (TL g W cf))
    (hdb : (x == ("__debug__" : Str)) = false := by decide) (he : starEach (e :: es) X.env = (false, eval e X.env) :: starEach es X.env := by rfl) (hpl : (backTo pos (starEach es X.env)).any (·.1) = false := by rfl) :
    PE X (.Call (.Name x p) (e :: es) [] pos) (T g W (cApp (callD m) cf)) := by
  refine ⟨fun pins s σ H Q I h => wpAny_Call_Name_kw (ld_glob I hg hm ?_ hdb)⟩
  refine PySem.W.callWith_K (h₀ := X.base) I.ok.mod.kin hk (thn (ha.run pos pins s σ H (fun vs H1 => fnSp g m vs H1 Q (WE W σ)) I (TL.app h fun μ F σd S H1 ds vs R r q => q.called R r)) fun us s1 ⟨vs, H1, I1, r, q⟩ => ⟨I1.kIn, ?_⟩) he hpl
  have hl : us.length = ps.length := by rw [← r.length]; exact Fo.ln _ _ _ _ q
  have b := hb s1 us I1.kIn (by rw [List.append_nil]; exact hl)
  rw [List.append_nil] at b
  exact run_G (ar := ⟨us, []⟩) Fo hr (passAt tk σ) I1 b r q
/-- f() -/
theorem q_call0 (Fo : FnG X.prog X.w X.K X.mg X.base (L2.CX X.prog X.w) k f fd ps (fnSp g m)) (hr : RG k X.A) (hg : Gl X x) (hm : X.mg x = some (.ref f)) (hk : PySem.W.keepIn X.K (.ref f) = true) (hb : Binds X.K fd ps []) (tk : Takes X W)
    (hdb : (x == ("__debug__" : Str)) = false := by decide) : PE X (.Call (.Name x p) [] [] pos) (T g W (cApp (callD m) cNil)) := by
  refine ⟨fun pins s σ H Q I h => wpAny_Call_Name_kw (ld_glob I hg hm ?_ hdb)⟩
  refine PySem.W.callWith_K0 I.kIn hk ?_
  have q : fnSp g m [] H Q (WE W σ) := by
    obtain ⟨μ, F, σd, S, R, q⟩ := h
    exact Ok.called R (ds := []) .nil q
  have hl : ([] : List Value).length = ps.length := Fo.ln _ _ _ _ q
  have b := hb s [] I.kIn (by rw [List.append_nil]; exact hl)
  rw [List.append_nil] at b
  exact run_G (ar := ⟨[], []⟩) Fo hr (passAt tk σ) I b .nil q
end
end HC

set_option maxRecDepth 100000
namespace HC
open PySem PySem.Spec L2
open PyProof.Rows hiding St

/-! ## calls by names -/
def pick {α : Type} (z : α) (ix : List Nat) (xs : List α) : List α := ix.map fun i => xs.getD i z
def callKw (ix : List Nat) (n : Nat) (m : FnS) (S : List SO) (ds : List D) : Res := if ds.length = n then callD m S (pick .non ix ds) else .bad
theorem paired_get {α β : Type} {R : α → β → Prop} {xs : List α} {ys : List β} (h : Paired R xs ys) : ∀ (i : Nat) (a : α) (b : β), i < xs.length → R (xs.getD i a) (ys.getD i b) := by
  induction h with
  | nil => exact fun i a b hi => absurd hi (Nat.not_lt_zero i)
  | cons r t ih =>
    intro i a b hi
    cases i with
    | zero => exact r
    | succ i => exact ih i a b (Nat.lt_of_succ_lt_succ hi)
theorem RepVs.pick {g : GX} {H : Hp} {F : FZ} {μ : List Addr} {ds : List D} {vs : List V} (r : RepVs g H F μ ds vs) : ∀ {ix : List Nat}, (∀ i ∈ ix, i < ds.length) → RepVs g H F μ (pick .non ix ds) (pick .non ix vs)
  | [], _ => .nil
  | i :: ix, h => .cons (paired_get r i _ _ (h i (List.mem_cons_self ..))) (r.pick fun j hj => h j (List.mem_cons_of_mem _ hj))
theorem vals_get {vs : List V} {us : List Value} (r : Vals vs us) : ∀ (i : Nat), i < vs.length → RelV (vs.getD i .non) (us.getD i .none) := by
  induction r with
  | nil => exact fun i hi => absurd hi (Nat.not_lt_zero i)
  | cons r t ih =>
    intro i hi
    cases i with
    | zero => exact r
    | succ i => exact ih i (Nat.lt_of_succ_lt_succ hi)
theorem vals_pick {vs : List V} {us : List Value} (r : Vals vs us) : ∀ {ix : List Nat}, (∀ i ∈ ix, i < vs.length) → Vals (pick .non ix vs) (pick .none ix us)
  | [], _ => .nil
  | i :: ix, h => .cons (vals_get r i (h i (List.mem_cons_self ..))) (vals_pick r fun j hj => h j (List.mem_cons_of_mem _ hj))
theorem _root_.L2.PK.hc {X : Cx} {kws : List Keyword} {t t' : TA} (h : PK X kws t) (w : ∀ σ H Q, t' σ H Q → t σ H Q) : PK X kws t' := ⟨fun pos pins s σ H Q I q => h.run pos pins s σ H Q I (w _ _ _ q)⟩
/-- a def's parameters, given by names -/
def BindsKw (fd : FuncData) (ps ks : List Str) (ix : List Nat) : Prop := ∀ (s : Shared) (us : List Value), us.length = ks.length → BindsTo s fd ⟨[], ks.zip us⟩ (ps.zip (pick .none ix us))
theorem bindsKw {K : PySem.W.Frag} {x qual : Str} {st : Stmt} {f : Addr} {fd : FuncData} {ps ks : List Str} {ix : List Nat} (F : L2.Fun K x qual st f fd)
    (h : ∀ (kV doc pm : Value) (an : Option Addr) (cdv ct : Value) (us : List Value), us.length = ks.length → bindArgs (PySem.W.fnOf x qual (defArgs st) (defBody st) (defScope st) .none kV doc pm an cdv ct) ⟨[], ks.zip us⟩ = pure (ps.zip (pick .none ix us))) : BindsKw fd ps ks ix := by
  obtain ⟨oc, od, kV, doc, pm, an, cdv, ct, osl, rfl, lk, hcd⟩ := F.ex
  exact fun s us hl => .of_eq (h kV doc pm an cdv ct us hl)
section
variable {X : Cx} {g : GX} {W : WX} {k : Nat} {f : Addr} {fd : FuncData} {ps ks : List Str} {m : FnS} {x : Str} {p pos kpos : Pos} {e : Expr} {kws : List Keyword} {cf : CE} {ck : CA} {nm : Option Str}
theorem qk_nil : PK X [] (TL g W cNil) := pk_nil.hc fun σc H Q ⟨μ, F, σ, S, R, q⟩ => q [] H F (Same.refl H) R.fx .nil
theorem qk_cons (ha : PE X e (T g W cf)) (hr : PK X kws (TL g W ck)) : PK X (⟨nm, e, kpos⟩ :: kws) (TL g W (cCons cf ck)) :=
  (pk_cons ha hr).hc fun σc H Q ⟨μ, F, σ, S, R, q⟩ => by
    refine ⟨μ, F, σ, S, R, ?_⟩
    unfold cCons at q
    cases ea : cf σ S with
    | bad => rw [ea] at q; exact q
    | ex c as => rw [ea] at q; exact q
    | ok d fl =>
      rw [ea] at q
      intro v H1 F1 s1 x1 r1
      obtain ⟨F2, x2, u2, rx⟩ := r1.frz x1
      refine ⟨μ, F2, σ, S, R.mono s1 x2, ?_⟩
      have q : OkL g (wat W σc) H F μ (match ck σ S with | .ok ds => .ok (d :: ds) | .ex c as => .ex c as | .bad => .bad) Q := q
      cases eb : ck σ S with
      | bad => rw [eb] at q; exact q
      | ex c as =>
        rw [eb] at q
        exact fun cls dx H' F' s' x' rr => q cls dx H' F' (s1.trans s') (x2.trans s1 x') rr
      | ok ds =>
        rw [eb] at q
        exact fun vs H3 F3 s3 x3 r3 => q (v :: vs) H3 F3 (s1.trans s3) (x2.trans s1 x3) (.cons (rx.mono s3 x3.up) r3)
/-- f(k = e, ..) -/
theorem q_callKw (ix : List Nat) (Fo : FnG X.prog X.w X.K X.mg X.base (L2.CX X.prog X.w) k f fd ps (fnSp g m)) (hr : RG k X.A) (hg : Gl X x) (hm : X.mg x = some (.ref f)) (hk : PySem.W.keepIn X.K (.ref f) = true) (hb : BindsKw fd ps ks ix) (tk : Takes X W) (ha : PK X kws (TL g W ck))
    (hix : ix.all (· < ks.length) = true := by decide) (hall : (backToKw pos (keywordEach kws X.env)).all (·.1.isSome) = true := by rfl) (hks : (backToKw pos (keywordEach kws X.env)).filterMap (·.1) = ks := by rfl) (hdb : (x == ("__debug__" : Str)) = false := by decide)
    (hpl : ((backTo pos (starEach [] X.env)).any (·.1) || (backToKw pos (keywordEach kws X.env)).any (·.1.isNone)) = false := by rfl) : PE X (.Call (.Name x p) [] kws pos) (T g W (cApp (callKw ix ks.length m) ck)) := by
  refine ⟨fun pins s σ H Q I h => wpAny_Call_Name_kw (ld_glob I hg hm ?_ hdb)⟩
  refine PySem.W.callWith_KW0 (h₀ := X.base) I.ok.mod.kin hk hall (thn (ha.run pos pins s σ H (fun vs H1 => vs.length = ks.length ∧ fnSp g m (pick .non ix vs) H1 Q (WE W σ)) I (TL.app h fun μ F σd S H1 ds vs R r q => ?_)) fun us s1 ⟨vs, H1, I1, r, hl, q⟩ => ⟨I1.kIn, ?_⟩) hpl
  · unfold callKw at q
    split at q
    · rename_i e
      exact ⟨by rw [← r.length, e], q.called R (r.pick fun i hi => by rw [e]; simpa using List.all_eq_true.mp hix i hi)⟩
    · exact q.elim
  · rw [hks]
    have r2 : Vals (pick .non ix vs) (pick .none ix us) := vals_pick r fun i hi => by rw [hl]; simpa using List.all_eq_true.mp hix i hi
    exact run_G (ar := ⟨[], ks.zip us⟩) Fo hr (passAt tk σ) I1 (hb s1 us (by rw [← r.length, hl])) r2 q
end
end HC

set_option maxRecDepth 100000
namespace HC
open PySem PySem.Spec L2
open PyProof.Rows hiding St

/-! ## the head -/
theorem only_rol {K : PySem.W.Frag} {H : Hp} {a : Addr} {xs : List V} (o : Only H) (h : SqL K H a xs) : Rol K H a xs := h.imp (fun h => h.elim (fun h => by
  rcases o a with z | ⟨ob, ys, z⟩
  · rw [h] at z; exact nomatch z
  · rw [h] at z; exact nomatch z) fun h => h) fun h => h
theorem reps_ints {g : GX} {H : Hp} {F : FZ} : ∀ ns : List Int, RepL g H F (ns.map D.int) (ns.map V.int)
  | [] => rfl
  | n :: ns => ⟨_, _, rfl, rfl, reps_ints ns⟩
theorem law_sp {g : GX} {m : FnS} {H : Hp} {a : Addr} {ns : List Int} (o : Only H) (h : SqL g.K H a (ns.map V.int)) (hl : ns.length ≤ sizeLine) (e : m [.rol (ns.map D.int)] = .ok (.bl true) false) :
    fnSp g m [.ref a] H (fun v _ => v = .bl true) fun _ _ _ => False := by
  refine ⟨fun _ => False, [.rol (ns.map D.int)], fun _ h => h.elim, ⟨.ref a, [], rfl, ⟨a, _, rfl, ⟨only_rol o h, by rw [List.length_map]; exact hl⟩, reps_ints ns⟩, rfl⟩, ?_⟩
  rw [e]
  intro v H' F' _ _ r
  rcases r with ⟨_, r⟩ | ⟨z, _⟩
  · exact r.elim (fun ⟨_, _, z, _⟩ => nomatch z) fun r => r
  · exact nomatch z
/-- the law's call, at the heap behind the module's body -/
theorem head_call {P : Program} {w : World} {K : PySem.W.Frag} {mg mb : Str → Option Value} {k : Nat} {fa a : Addr} {fd : FuncData} {x : Str} {sp : Sp} {s : Shared} {its : List Value} {ns : List Int} (hr : RG k callerA)
    (inK : K.In s.heap) (top : s.heap.Ns mainGlobals mg) (boot : s.heap.Ns builtinsNs mb) (hboot : ∀ x : Str, x ≠ "__name__" → mb x = bootBuiltins x) (lims : s.heap.NoLimit) (nog : s.gens = #[])
    (scr : s.heap.get? a = some { cls := .type "list", data := .seq its.toArray }) (iv : IntsAre its ns) (short : ns.length ≤ sizeLine)
    (Fo : ∀ B : Heap, K.In B → B.Ns mainGlobals mg → FnG P w K mg B (L2.CX P w) k fa fd [x] sp) (bd : ∀ (s : Shared) (u : Value), BindsTo s fd ⟨[u], []⟩ [(x, u)])
    (say : ∀ H : Hp, Only H → SqL K H a (ns.map V.int) → sp [.ref a] H (fun v _ => v = .bl true) fun _ _ _ => False)
    (noX : ∀ H e s', L2.CX P w [] H s (fun _ _ _ => False) e s' → False) :
    codeAny (model P w) callerA (.call (.ref fa) ⟨[.ref a], []⟩) (fun r s' => r = .ok (.ret (.bool true)) ∧ OldK s.heap s'.heap ∧ s'.os = s.os ∧ AllBare s'.gens) s := by
  have rv : Vals (ns.map V.int) its := vals_ints iv
  have main : ∀ H : Hp, Only H → (∀ b, H b ≠ none → b = a ∧ K.lookup a = none) → SqL K H a (ns.map V.int) → HOk P w H s.heap →
      codeAny (model P w) callerA (.call (.ref fa) ⟨[.ref a], []⟩) (fun r s' => r = .ok (.ret (.bool true)) ∧ OldK s.heap s'.heap ∧ s'.os = s.os ∧ AllBare s'.gens) s := by
    intro H only here sq ok
    have free : ∀ {b : Addr}, b ≠ a → H b = none := fun {b} nb => by
      cases q : H b with
      | none => rfl
      | some u => exact absurd (here b (by rw [q]; exact fun z => nomatch z)).1 nb
    have spaces : ∀ {b : Addr} {m : Str → Option Value}, s.heap.Ns b m → (hidT s.heap H).Ns b m := by
      rintro b m ⟨o, es, ep, e, d, r⟩
      refine ⟨o, es, ep, hidT_get e (free ?_), d, r⟩
      rintro rfl
      rw [scr] at e
      cases e
      exact nomatch d
    have kB : K.In (hidT s.heap H) := fun b o e => hidT_get (inK b o e) (by
      cases q : H b with
      | none => rfl
      | some u =>
        obtain ⟨rfl, z⟩ := here b (by rw [q]; exact fun z => nomatch z)
        rw [z] at e
        exact nomatch e)
    have md : Mod K mg (hidT s.heap H) := ⟨kB, spaces top, ⟨mb, spaces boot, hboot⟩, let ⟨mc, h1, h2⟩ := lims; ⟨mc, spaces h1, h2⟩⟩
    have e0 : Env0 P w K mg (hidT s.heap H) callerA [] s H := ⟨rfl, md, fun b o e => of_hidT e, Nat.le_of_eq (hidT_size _ _), trivial, (fun b hb => absurd (show b ∈ ([] : List Addr) from hb) List.not_mem_nil), ok, .of_eq nog⟩
    refine codeAny_mono ((Fo _ kB (spaces top)).go callerA [] s H ⟨[.ref a], []⟩ [.ref a] [.ref a] _ _ hr e0 (bd s (.ref a)) (.cons rfl .nil) (say H only sq)) fun r s' h => ?_
    cases r with
    | error e => exact (noX H e s' h).elim
    | ok fl => cases fl with
      | next => exact nomatch h
      | brk => exact nomatch h
      | cont => exact nomatch h
      | ret u =>
        obtain ⟨v, H', os, bare, un, ok', r', (rfl : v = .bl true)⟩ := h
        obtain rfl : u = Value.bool true := r'
        refine ⟨rfl, OldK.of_keep fun b o e => ?_, os, bare⟩
        rcases only b with q | ⟨ob, xs, q⟩
        · exact un.keep b o e q (fun z => nomatch z) (fun z => nomatch z)
        · have z1 := (ok b _ q).1
          have z2 := (ok' b _ (un.frzs b ob _ q)).1
          rw [e] at z1
          cases z1
          exact z2
  have len : its.length = ns.length := iv.length
  cases hk : K.lookup a with
  | some o =>
    have e := inK a o hk
    rw [scr] at e
    cases e
    exact main (fun _ => none) (fun _ => .inl rfl) (fun b z => absurd rfl z) (.inr ⟨_, its.toArray, _, hk, rfl, rfl, rfl, by rw [List.size_toArray, len]; exact short, by simpa using rv⟩) fun b u z => nomatch z
  | none =>
    have at_a : ∀ b (u : HO), (if b = a then some (HO.frz { cls := .type "list", data := .seq its.toArray } (.lst (ns.map V.int))) else none) = some u → b = a ∧ u = HO.frz { cls := .type "list", data := .seq its.toArray } (.lst (ns.map V.int)) := fun b u z => by
      split at z
      · rename_i e
        cases z
        exact ⟨e, rfl⟩
      · exact nomatch z
    refine main (fun b => if b = a then some (.frz { cls := .type "list", data := .seq its.toArray } (.lst (ns.map V.int))) else none) (fun b => ?_) (fun b z => ?_) (.inl (.inr ⟨{ cls := .type "list", data := .seq its.toArray }, if_pos rfl⟩)) fun b u z => ?_
    · by_cases hb : b = a
      · exact .inr ⟨_, _, if_pos hb⟩
      · exact .inl (if_neg hb)
    · by_cases hb : b = a
      · exact ⟨hb, hk⟩
      · exact absurd (if_neg hb) z
    · obtain ⟨rfl, rfl⟩ := at_a b u z
      exact ⟨scr, by rw [List.length_map]; exact short, its, _, rv, scr⟩
theorem walk_hc {l : PySem.W.OpenLaw} {n k : Nat} {q : Program} {loose : List Str} {XP : (Str → Option Value) → Heap → Prop} {YP : World → Heap → Prop} {d : DefRec} {K : Params → PySem.W.Frag} {gx : World → GX} {m : FnS} {x : Str}
    (hn : l.most = some n) (hn2 : n ≤ sizeLine) (hdf : d.params.defaults = []) (hr : RG k callerA) (hg : ∀ w, (gx w).K = K w.params) (inY : ∀ (w : World) (h : Heap), YP w h → (K w.params).In h)
    (Fo : ∀ (w : World) (mg : Str → Option Value) (fa : Addr) (h : Heap), (K w.params).In h → h.Ns mainGlobals mg → mg d.name = some (.ref fa) → ∃ fd : FuncData, (∀ (s : Shared) (u : Value), BindsTo s fd ⟨[u], []⟩ [(x, u)]) ∧
        ∀ B : Heap, (K w.params).In B → B.Ns mainGlobals mg → FnG l.prog w (K w.params) mg B (L2.CX l.prog w) k fa fd [x] (fnSp (gx w) m))
    (say : ∀ ns : List Int, ns.length ≤ n → m [.rol (ns.map D.int)] = .ok (.bl true) false)
    (noX : ∀ (w : World) (H : Hp) (s : Shared) (e : Value) (s' : Shared), L2.CX l.prog w [] H s (fun _ _ _ => False) e s' → False) :
    PySem.W.WalkO q loose XP YP l.row.toRowW d [] (fun f vs => PySem.call f vs) := by
  refine Att.attach_call hn hdf fun w s₀ s₁ mg mb fa o pm cd doc a vs ns G Y ho hd hcd hmg hobj hints hlen nog => ?_
  have inK := inY w _ Y
  obtain ⟨fd, hb, hF⟩ := Fo w mg fa _ inK G.T.g hmg
  exact head_call hr inK G.T.g G.T.b G.T.builtins G.T.nolimit nog hobj hints (Nat.le_trans hlen hn2) hF hb (fun H o sq => law_sp o (by rw [hg]; exact sq) (Nat.le_trans hlen hn2) (say ns hlen)) fun H e s' => noX w H s₁ e s'
end HC
namespace HC
open PySem PySem.Spec L2
theorem no_cx {P : Program} {w : World} {H : Hp} {s : Shared} {e : Value} {s' : Shared} (h : L2.CX P w [] H s (fun _ _ _ => False) e s') : False := by
  obtain ⟨_, _, _, _, _, _, _, _, _, _, _, _, z⟩ := h
  exact z
end HC

set_option maxRecDepth 100000
namespace HC
open PySem PySem.Spec L2
open PyProof.Rows hiding St

/-! ## isinstance -/
inductive Tg where
  | non | int | bool | str | tup | lst | dct
def tgS : Tg → String
  | .non => "NoneType" | .int => "int" | .bool => "bool" | .str => "str" | .tup => "tuple" | .lst => "list" | .dct => "dict"
def isa : Tg → Tg → Bool
  | .non, .non => true | .int, .int => true | .bool, .bool => true | .bool, .int => true | .str, .str => true | .tup, .tup => true | .lst, .lst => true | .dct, .dct => true
  | _, _ => false
theorem isa_ok : ∀ a b : Tg, b ≠ .non → kitB (tgS a) (tgS b) = some (isa a b) := by
  intro a b h
  cases a <;> cases b <;> first | exact absurd rfl h | decide +kernel
def tgD (S : List SO) : D → Option Tg
  | .non => some .non | .bl _ => some .bool | .int _ => some .int | .str _ => some .str | .tup _ => some .tup | .lst _ => some .lst | .rol _ => some .lst | .dct _ _ => some .dct
  | .obj _ _ => none
  | .loc n => match gets S n with
    | some (.lst _) => some .lst
    | some (.dct _ _) => some .dct
    | _ => none
  | .err => none
/-- the class of a value: a locked dict of tuple keys too -/
def TyY (K : PySem.W.Frag) (H : Hp) (x : V) (t : Value) : Prop := TyX K H x t ∨ ∃ (a : Addr) (o : Obj) (kvs : List (List Key × V)), x = .ref a ∧ H a = some (.frz o (.dT kvs)) ∧ t = .type "dict"
theorem kit_ofY {X : Cx} {pins : List (Addr × Obj)} {σ : St} {H : Hp} {s : Shared} {x : V} {u t : Value} (I : Inv X pins σ H s) (rx : RelV x u) (ty : TyY X.K H x t) : ∃ P : Heap → Prop, PySem.W.KitX X.K u t P ∧ P s.heap ∧ u ≠ .builtin "__main__.__loader__#opaque" := by
  rcases ty with ty | ⟨a, ob, kvs, rfl, ea, rfl⟩
  · exact kit_of I rx ty
  · cases (show u = Value.ref a from rx)
    obtain ⟨_, _, _, vs, _, o, es, ep, h1, h2, _⟩ := (show ObjOk X.prog X.w H s.heap a (.frz ob (.dT kvs)) from I.hok a _ ea)
    exact ⟨_, PySem.W.kitx_dict, ⟨o, h1, h2.1⟩, fun z => nomatch z⟩
theorem Rel.ty {g : GX} {μ : List Addr} {F : FZ} {σ : Sl} {S : List SO} {σc : St} {H : Hp} (R : Rel g μ F σ S σc H) {d : D} {v : V} {t : Tg} (r : RepV g H F μ d v) (h : tgD S d = some t) : TyY g.K H v (.type (tgS t)) := by
  cases d with
  | non => cases h; cases (show v = .non from r.pure rfl); exact .inl <| .base .non
  | bl b => cases h; cases (show v = .bl b from r.pure rfl); exact .inl <| .base (.bl _)
  | int b => cases h; cases (show v = .int b from r.pure rfl); exact .inl <| .base (.int _)
  | str b => cases h; cases (show v = .str b from r.pure rfl); exact .inl <| .base (.str _)
  | tup xs =>
    cases h
    obtain ⟨a, vs, rfl, ⟨h1, _⟩, _⟩ := (r.pure rfl : RepP g H F (.tup xs) v)
    exact .inl <| .base (.tup h1)
  | lst xs =>
    cases h
    obtain ⟨a, vs, rfl, ⟨_, h1, _⟩, _⟩ := (r.pure rfl : RepP g H F (.lst xs) v)
    exact .inl <| .base (.lst h1)
  | rol xs =>
    cases h
    obtain ⟨a, vs, rfl, ⟨h1, _⟩, _⟩ := (r.pure rfl : RepP g H F (.rol xs) v)
    rcases h1 with ⟨ob, h1⟩ | ⟨o, its, n, h1, h2, _⟩
    · exact .inl <| .base (.frz h1)
    · exact .inl <| .kList h1 h2
  | dct ks xs =>
    cases h
    obtain ⟨a, vs, rfl, _, _, h1⟩ := (r.pure rfl : RepP g H F (.dct ks xs) v)
    rcases h1 with ⟨kvs, (h1 | ⟨ob, h1⟩), _⟩ | ⟨kvs, h1, _⟩
    · exact .inl <| .base (.dK h1)
    · exact .inl <| .fDict h1
    · rcases h1 with h1 | ⟨ob, h1⟩
      · exact .inl <| .base (.dT h1)
      · exact .inr ⟨a, ob, kvs, rfl, h1, rfl⟩
  | obj c xs => cases h
  | err => cases h
  | loc n =>
    have h : (match gets S n with | some (.lst _) => some Tg.lst | some (.dct _ _) => some Tg.dct | _ => none) = some t := h
    rcases r with ⟨m, a, e, hm, rfl⟩ | r
    · cases e
      split at h
      · rename_i xs q
        cases h
        obtain ⟨b, h1, h2⟩ := R.st n _ ((gets_eq S n).symm.trans q)
        rw [hm] at h1
        cases h1
        obtain ⟨vs, h3, _⟩ := h2
        exact .inl <| .base (.lst h3)
      · rename_i ks xs q
        cases h
        obtain ⟨b, h1, h2⟩ := R.st n _ ((gets_eq S n).symm.trans q)
        rw [hm] at h1
        cases h1
        obtain ⟨vs, _, h3⟩ := h2
        rcases h3 with ⟨kvs, h3, _⟩ | ⟨kvs, h3, _⟩
        · exact .inl <| .base (.dK h3)
        · exact .inl <| .base (.dT h3)
      · cases h
    · exact r.elim
/-- isinstance(x, c), isinstance(x, (c1, ..)) -/
def fIsi (cs : List Tg) (S : List SO) (ds : List D) : Res := match ds with
  | [d] => match tgD S d with
    | some t => .ok (.bl (cs.any (isa t))) false
    | none => .bad
  | _ => .bad
def rIs1 (K : PySem.W.Frag) : List V → Hp → VK → Prop := fun xs H Q => ∃ (x c : V) (t u : Value) (b : Bool), xs = [x, c] ∧ ClsV c u ∧ TyY K H x t ∧ PySem.W.kitOne K t u = some b ∧ Q (.bl b) H
def rIsN (K : PySem.W.Frag) : List V → Hp → VK → Prop := fun xs H Q => ∃ (x : V) (tp : Addr) (cs : List V) (t : Value) (us : List Value) (b : Bool), xs = [x, .ref tp] ∧ H tp = some (.tup cs) ∧ Paired ClsV cs us ∧ TyY K H x t ∧ PySem.W.kitAny K t us = some b ∧ Q (.bl b) H
theorem call_is1 {X : Cx} : CallR X (.builtin "isinstance") (rIs1 X.K) := by
  intro pins s σ H xs us Q I r ⟨x, c, t, u, b, e1, k, ty, e, q⟩
  subst e1
  obtain ⟨u1, u2, rfl, r1, r2⟩ := vals2 r
  obtain rfl := k.eq r2
  obtain ⟨P, Z, p, hx⟩ := kit_ofY I r1 ty
  exact PySem.W.kia_one Z I.kIn p e hx fun tk => ⟨.bl b, H, I.tok tk, rfl, q⟩
theorem call_isN {X : Cx} : CallR X (.builtin "isinstance") (rIsN X.K) := by
  intro pins s σ H xs us Q I r ⟨x, tp, cs, t, ws, b, e1, hT, k, ty, e, q⟩
  subst e1
  obtain ⟨u1, u2, rfl, r1, r2⟩ := vals2 r
  obtain rfl : u2 = Value.ref tp := r2
  obtain ⟨P, Z, p, hx⟩ := kit_ofY I r1 ty
  obtain ⟨_, its, rv, o, h1, h2, n, h3⟩ := (show ObjOk X.prog X.w H s.heap tp (.tup cs) from I.hok tp _ hT)
  obtain rfl := ClsV.all k rv
  obtain ⟨oc, od, dt, sl⟩ := o
  simp only at h2 h3
  subst h2 h3
  exact PySem.W.kia_tup Z I.kIn p h1 e hx fun tk => ⟨.bl b, H, I.tok tk, rfl, q⟩
/-- a built-in class by its name -/
structure PCl (X : Cx) (e : Expr) (t : Tg) : Prop where
  pe : PE X e (tC (.ty (tgS t)))
  nn : t ≠ .non
section
variable {X : Cx} {g : GX} {W : WX} {e c : Expr} {es : List Expr} {f : CE} {pos p pc : Pos} {t : Tg} {ts : List Tg}
theorem pcl {x : Str} (hg : Gl X x) (hm : X.mg x = none) (hv : bootBuiltins x = some (.type (tgS t))) (nn : t ≠ .non := by intro z; cases z) (hn : x ≠ "__name__" := by decide) (hdb : (x == ("__debug__" : Str)) = false := by decide) : PCl X (.Name x p) t :=
  ⟨pe_bltn hg hm hv rfl hn hdb, nn⟩
inductive PCls (X : Cx) : List Expr → List Tg → Prop
  | nil : PCls X [] []
  | cons {e : Expr} {t : Tg} {es : List Expr} {ts : List Tg} (h : PCl X e t) (r : PCls X es ts) (hs : starEach (e :: es) X.env = (false, eval e X.env) :: starEach es X.env := by rfl) : PCls X (e :: es) (t :: ts)
theorem PCls.pa (h : PCls X es ts) : PA X es (fun _ H Q => Q (ts.map fun t => V.ty (tgS t)) H) := by
  induction h with
  | nil => exact pa_nil
  | cons h r hs ih => exact (pa_cons h.pe ih hs).hc fun _ _ _ q => q
theorem PCls.all (K : PySem.W.Frag) (a : Tg) (h : PCls X es ts) : PySem.W.kitAny K (.type (tgS a)) (ts.map fun t => Value.type (tgS t)) = some (ts.any (isa a)) := by
  induction h with
  | nil => rfl
  | @cons e t es ts h r hs ih =>
    rw [List.map_cons, List.any_cons]
    refine kitAny_cons (kit_ty (isa_ok a t h.nn)) (fun z => ?_) fun z => by rw [z]; rfl
    rw [z]
    exact ih
theorem cls_pairs : ∀ ts : List Tg, Paired ClsV (ts.map fun t => V.ty (tgS t)) (ts.map fun t => Value.type (tgS t))
  | [] => .nil
  | t :: ts => .cons (.ty _) (cls_pairs ts)
variable {x : Str}
theorem q_isi (hg : Gl X "isinstance") (hm : X.mg "isinstance" = none) (hK : X.K = g.K) (he : PE X e (T g W f)) (hc : PCl X c t)
    (hs1 : starEach [e, c] X.env = (false, eval e X.env) :: starEach [c] X.env := by rfl) (hs2 : starEach [c] X.env = (false, eval c X.env) :: starEach [] X.env := by rfl) (hpl : (backTo pos (starEach [c] X.env)).any (·.1) = false := by rfl) :
    PE X (.Call (.Name "isinstance" p) [e, c] [] pos) (T g W (cApp (fIsi [t]) (cCons f cNil))) :=
  (pe_callB call_is1 hg hm (by decide +kernel) (pa_cons he (pa_cons hc.pe pa_nil hs2) hs1) (by decide) (by decide) hs1 hpl).hc fun σc H Q ⟨μ, F, σ, S, R, q⟩ => by
    refine ⟨μ, F, σ, S, R, ?_⟩
    unfold cApp cCons cNil at q
    cases ea : f σ S with
    | bad => rw [ea] at q; exact q
    | ex c as => rw [ea] at q; exact q
    | ok d fl =>
      rw [ea] at q
      intro v H1 F1 s1 x1 r1
      obtain ⟨F2, x2, u2, rx⟩ := r1.frz x1
      have q : Ok g (wat W σc) H F μ (match tgD S d with | some a => .ok (.bl ([t].any (isa a))) false | none => .bad) Q := q
      cases et : tgD S d with
      | none => rw [et] at q; exact q.elim
      | some a =>
        rw [et] at q
        refine ⟨v, _, _, _, isa a t, rfl, .ty (tgS t), by rw [hK]; exact (R.mono s1 x2).ty rx et, kit_ty (isa_ok a t hc.nn), ?_⟩
        have q2 := (q.from s1 x2).here (R.mono s1 x2).dom (v := .bl (isa a t)) (.inr (by show _ = _; rw [List.any_cons, List.any_nil, Bool.or_false]))
        exact q2
theorem q_isN {n1} (hg : Gl X "isinstance") (hm : X.mg "isinstance" = none) (hK : X.K = g.K) (he : PE X e (T g W f)) (hc : PCls X es ts) (hz : ts.length ≤ 1000)
    (hs1 : starEach [e, .Tuple es n1 pc] X.env = (false, eval e X.env) :: starEach [.Tuple es n1 pc] X.env := by rfl) (hs2 : starEach [.Tuple es n1 pc] X.env = (false, eval (.Tuple es n1 pc) X.env) :: starEach [] X.env := by rfl) (hpl : (backTo pos (starEach [.Tuple es n1 pc] X.env)).any (·.1) = false := by rfl) :
    PE X (.Call (.Name "isinstance" p) [e, .Tuple es n1 pc] [] pos) (T g W (cApp (fIsi ts) (cCons f cNil))) :=
  (pe_callB call_isN hg hm (by decide +kernel) (pa_cons he (pa_cons (pe_tup hc.pa) pa_nil hs2) hs1) (by decide) (by decide) hs1 hpl).hc fun σc H Q ⟨μ, F, σ, S, R, q⟩ => by
    refine ⟨μ, F, σ, S, R, ?_⟩
    unfold cApp cCons cNil at q
    cases ea : f σ S with
    | bad => rw [ea] at q; exact q
    | ex c as => rw [ea] at q; exact q
    | ok d fl =>
      rw [ea] at q
      intro v H1 F1 s1 x1 r1
      obtain ⟨F2, x2, u2, rx⟩ := r1.frz x1
      have q : Ok g (wat W σc) H F μ (match tgD S d with | some a => .ok (.bl (ts.any (isa a))) false | none => .bad) Q := q
      cases et : tgD S d with
      | none => rw [et] at q; exact q.elim
      | some a =>
        rw [et] at q
        refine ⟨by rw [List.length_map]; exact Nat.le_trans hz (by decide), fun tp no => ?_⟩
        have sm : Same H1 (upd H1 tp (.tup (ts.map fun t => V.ty (tgS t)))) := same_new no
        have fx : FX F2 H1 F2 (upd H1 tp (.tup (ts.map fun t => V.ty (tgS t)))) := ⟨fun _ h => h, fun _ h => .inl h, fun a h => let ⟨o, e⟩ := (R.mono s1 x2).dom a h; ⟨o, sm _ _ e⟩⟩
        have R2 := (R.mono s1 x2).mono sm fx
        refine ⟨v, tp, _, _, _, _, rfl, upd_same, cls_pairs ts, by rw [hK]; exact R2.ty (rx.mono sm fun _ h => h) et, hc.all X.K a, ?_⟩
        exact ((q.from s1 x2).from sm fx).here R2.dom (.inr rfl)
end
end HC

set_option maxRecDepth 100000
namespace HC
open PySem PySem.Spec L2
open PyProof.Rows hiding St

/-! ## repr -/
def pyK : D → Option PyData
  | .int i => some (.int i)
  | .str x => some (.str x)
  | _ => none
def pyKs : List D → Option (List PyData)
  | [] => some []
  | d :: r => match pyK d, pyKs r with
    | some x, some xs => some (x :: xs)
    | _, _ => none
mutual
/-- what repr sees; lists (l) or dicts, not both -/
def pyD (l : Bool) : D → Option PyData
  | .non => some .none
  | .bl b => some (.bool b)
  | .int i => some (.int i)
  | .str x => some (.str x)
  | .tup ds => match pyDs l ds with
    | some xs => some (.tuple xs)
    | none => none
  | .lst ds => if l then (match pyDs l ds with
    | some xs => some (.list xs)
    | none => none) else none
  | .rol ds => if l then (match pyDs l ds with
    | some xs => some (.list xs)
    | none => none) else none
  | .dct ks ds => if l then none else (match pyKs ks, pyDs l ds with
    | some a, some xs => some (.dict (a.zip xs))
    | _, _ => none)
  | _ => none
def pyDs (l : Bool) : List D → Option (List PyData)
  | [] => some []
  | d :: r => match pyD l d, pyDs l r with
    | some x, some xs => some (x :: xs)
    | _, _ => none
end
section
variable {X : Cx} {pins : List (Addr × Obj)} {σ : St} {H : Hp} {s : Shared} {g : GX} {F : FZ} {l : Bool}
theorem pyKs_length : ∀ {ks : List D} {a : List PyData}, pyKs ks = some a → a.length = ks.length
  | [], _, h => by cases h; rfl
  | d :: r, a, h => by
    unfold pyKs at h
    split at h
    · rename_i x xs e1 e2
      cases h
      rw [List.length_cons, List.length_cons, pyKs_length e2]
    · cases h
theorem pyDs_length : ∀ {ks : List D} {a : List PyData}, pyDs l ks = some a → a.length = ks.length
  | [], _, h => by cases h; rfl
  | d :: r, a, h => by
    unfold pyDs at h
    split at h
    · rename_i x xs e1 e2
      cases h
      rw [List.length_cons, List.length_cons, pyDs_length e2]
    · cases h
theorem keys_read {P : Program} {w : World} {h : Heap} : ∀ {es : List DictEntry} {vs : List (Key × Value)} {kvs : List (Key × V)} {a : List PyData}, Pairs (mixKind P w) es vs → KV kvs vs → pyKs (kvs.map fun p => keyD p.1) = some a →
    ReadsAll h (es.map (·.key)) a [] ∧ Vals (kvs.map (·.2)) (es.map (·.val))
  | _, _, _, a, .nil, k, e => by
    cases k
    cases e
    exact ⟨.nil, .nil⟩
  | _, _, _, a, .cons (e := e0) (kv := y) hk hv t, k, e => by
    cases k with
    | @cons x _ xs _ r t2 =>
      obtain ⟨k1, v1⟩ := x
      obtain ⟨k2, v2⟩ := y
      obtain ⟨rfl, rv⟩ := r
      rw [List.map_cons] at e
      unfold pyKs at e
      split at e
      · rename_i z zs e1 e2
        cases e
        obtain ⟨h1, h2⟩ := keys_read (h := h) t t2 e2
        refine ⟨?_, .cons (by show L2.RelV v1 e0.val; rw [show e0.val = v2 from hv]; exact rv) h2⟩
        rw [List.map_cons]
        refine .cons (as := []) (bs := []) ?_ h1
        rcases keyIs_shape hk with ⟨i, t, rfl, ev⟩ | ⟨x, t, rfl, ev⟩
        · rw [ev]; cases e1; exact .int _ _
        · rw [ev]; cases e1; exact .str _ _
      · cases e
def Seen (l : Bool) (x : Bool) (as : List Addr) : Prop := (l = true → x = false) ∧ (l = false → ∀ b ∈ as, b ≠ sysModules)
theorem zip_fst {α β : Type} : ∀ {a : List α} {b : List β}, a.length = b.length → (a.zip b).map (·.1) = a
  | [], [], _ => rfl
  | x :: a, y :: b, h => by rw [List.zip_cons_cons, List.map_cons, zip_fst (Nat.succ.inj h)]
theorem zip_snd {α β : Type} : ∀ {a : List α} {b : List β}, a.length = b.length → (a.zip b).map (·.2) = b
  | [], [], _ => rfl
  | x :: a, y :: b, h => by rw [List.zip_cons_cons, List.map_cons, zip_snd (Nat.succ.inj h)]
mutual
theorem reads (I : Inv X pins σ H s) (hK : X.K = g.K) : ∀ (d : D) (v : V) (u : Value) (x : PyData), RepP g H F d v → RelV v u → pyD l d = some x → ∃ as, Reads s.heap u x as ∧ Seen l x.hasDict as
  | .non, v, u, x, r, rv, e => by
    cases e
    cases (show v = .non from r)
    cases (show u = Value.none from rv)
    exact ⟨_, .none, fun _ => rfl, fun _ b h => nomatch h⟩
  | .bl k, v, u, x, r, rv, e => by
    cases e
    cases (show v = .bl k from r)
    cases (show u = Value.bool k from rv)
    exact ⟨_, .bool _, fun _ => rfl, fun _ b h => nomatch h⟩
  | .int k, v, u, x, r, rv, e => by
    cases e
    cases (show v = .int k from r)
    obtain ⟨t, rfl⟩ := rv
    exact ⟨_, .int _ _, fun _ => rfl, fun _ b h => nomatch h⟩
  | .str k, v, u, x, r, rv, e => by
    cases e
    cases (show v = .str k from r)
    obtain ⟨t, rfl⟩ := rv
    exact ⟨_, .str _ _, fun _ => rfl, fun _ b h => nomatch h⟩
  | .tup ds, v, u, x, r, rv, e => by
    obtain ⟨a, vs, rfl, ⟨h1, _⟩, h2⟩ := r
    cases (show u = Value.ref a from rv)
    unfold pyD at e
    split at e
    · rename_i xs e2
      cases e
      obtain ⟨its, rvs, ⟨o, q1, q2, n, q3⟩, _⟩ := I.tuple (.inl (.inl h1))
      obtain ⟨as, q4, q5⟩ := reads_all I hK ds vs its xs h2 rvs e2
      exact ⟨as, .tuple q1 q2 q3 (by simpa using q4), q5⟩
    · cases e
  | .lst ds, v, u, x, r, rv, e => by
    obtain ⟨a, vs, rfl, h1, h2⟩ := r
    cases (show u = Value.ref a from rv)
    unfold pyD at e
    split at e
    · rename_i hl
      split at e
      · rename_i xs e2
        cases e
        obtain ⟨its, rvs, ⟨o, n, q1, q2, _, q3⟩, _⟩ := I.list (.inl (.inl h1.2.1))
        obtain ⟨as, q4, q5⟩ := reads_all I hK ds vs its xs h2 rvs e2
        exact ⟨_, .list q1 q2 q3 (by simpa using q4), q5.1, fun z => by rw [hl] at z; cases z⟩
      · cases e
    · cases e
  | .rol ds, v, u, x, r, rv, e => by
    obtain ⟨a, vs, rfl, ⟨h1, _⟩, h2⟩ := r
    cases (show u = Value.ref a from rv)
    unfold pyD at e
    split at e
    · rename_i hl
      split at e
      · rename_i xs e2
        cases e
        rw [← hK] at h1
        obtain ⟨its, rvs, ⟨o, n, q1, q2, _, q3⟩, _⟩ := I.list h1.sq
        obtain ⟨as, q4, q5⟩ := reads_all I hK ds vs its xs h2 rvs e2
        exact ⟨_, .list q1 q2 q3 (by simpa using q4), q5.1, fun z => by rw [hl] at z; cases z⟩
      · cases e
    · cases e
  | .dct ks ds, v, u, x, r, rv, e => by
    obtain ⟨a, vs, rfl, _, h2, h3⟩ := r
    cases (show u = Value.ref a from rv)
    unfold pyD at e
    split at e
    · cases e
    · rename_i hl
      split at e
      · rename_i ka xs e1 e2
        cases e
        have hlen : ds.length = ks.length := by
          rw [h2.length]
          rcases h3 with ⟨kvs, _, rfl, rfl⟩ | ⟨kvs, _, rfl, rfl⟩ <;> rw [List.length_map, List.length_map]
        have hz : ka.length = xs.length := by rw [pyKs_length e1, pyDs_length e2, hlen]
        rcases h3 with ⟨kvs, q, rfl, rfl⟩ | ⟨kvs, q, rfl, rfl⟩
        · obtain ⟨_, ns, ws, kv, o, es, ep, q1, q2, q3, _, q4, _⟩ := dk_rd I.hok q
          obtain ⟨r1, r2⟩ := keys_read (h := s.heap) q4 kv e1
          obtain ⟨as, q5, q6⟩ := reads_all I hK ds _ _ xs h2 r2 e2
          refine ⟨_, .dict (as := []) (bs := as) q1 q2.1 q3 (by rw [zip_fst hz]; simpa using r1) (by rw [zip_snd hz]; simpa using q5), fun z => absurd z hl, fun z b hb => ?_⟩
          rcases List.mem_cons.mp hb with rfl | hb
          · exact beq_eq_false_iff_ne.mp ns
          · exact q6.2 z b (by simpa using hb)
        · cases kvs with
          | cons p kvs => cases e1
          | nil =>
            obtain ⟨_, ns, ws, kv, o, es, ep, q1, q2, q3, q4, _⟩ := dt_rd I.hok q
            cases kv
            have z1 : es.toList = [] := q4
            cases e1
            have z2 : xs = [] := List.length_eq_zero_iff.mp hz.symm
            subst z2
            refine ⟨_, .dict (as := []) (bs := []) q1 q2.1 q3 (by rw [z1]; exact .nil) (by rw [z1]; exact .nil), fun z => absurd z hl, fun z b hb => ?_⟩
            rcases List.mem_cons.mp hb with rfl | hb
            · exact beq_eq_false_iff_ne.mp ns
            · exact nomatch hb
      · cases e
  | .obj _ _, _, _, _, _, _, e => by cases e
  | .loc _, _, _, _, _, _, e => by cases e
  | .err, _, _, _, _, _, e => by cases e
theorem reads_all (I : Inv X pins σ H s) (hK : X.K = g.K) : ∀ (ds : List D) (vs : List V) (us : List Value) (xs : List PyData), RepL g H F ds vs → Vals vs us → pyDs l ds = some xs → ∃ as, ReadsAll s.heap us xs as ∧ Seen l (PyData.hasDictAll xs) as
  | [], vs, us, xs, r, rv, e => by
    cases (show vs = [] from r)
    cases rv
    cases e
    exact ⟨_, .nil, fun _ => rfl, fun _ b h => nomatch h⟩
  | d :: ds, vs, us, xs, r, rv, e => by
    obtain ⟨v, ws, rfl, h1, h2⟩ := r
    cases rv with
    | cons r1 r2 =>
      unfold pyDs at e
      split at e
      · rename_i y ys e1 e2
        cases e
        obtain ⟨as, q1, q2⟩ := reads I hK d v _ y h1 r1 e1
        obtain ⟨bs, q3, q4⟩ := reads_all I hK ds ws _ ys h2 r2 e2
        refine ⟨_, .cons q1 q3, fun z => ?_, fun z b hb => (List.mem_append.mp hb).elim (q2.2 z b) (q4.2 z b)⟩
        show (y.hasDict || PyData.hasDictAll ys) = false
        rw [q2.1 z, q4.1 z]
        rfl
      · cases e
end
end
/-- repr -/
def shw (x : PyData) : Res := if x.showable && decide (x.depth ≤ 60) && decide (x.shown.length ≤ lim) then .ok (.str x.shown) false else .bad
def fRepr (S : List SO) (ds : List D) : Res := match ds with
  | [d] => if lends S [d] then (match pyD true (look S d) with
    | some x => shw x
    | none => match pyD false (look S d) with
      | some x => shw x
      | none => .bad) else .bad
  | _ => .bad
def rRep (g : GX) : List V → Hp → VK → Prop := fun xs H Q => ∃ (F : FZ) (d : D) (v : V) (l : Bool) (x : PyData), xs = [v] ∧ RepP g H F d v ∧ pyD l d = some x ∧ x.showable = true ∧ x.depth ≤ 60 ∧ x.shown.length ≤ sizeLine ∧ Q (.str x.shown) H
theorem RG.rep {k : Nat} {A : Around} (r : RG k A) : A.units + 70 < cLine ∧ A.guards = some [] := ⟨by have := r.1.un; omega, r.2⟩
theorem call_rep {X : Cx} {g : GX} (hK : X.K = g.K) (hr : X.A.units + 70 < cLine ∧ X.A.guards = some []) : CallR X (.builtin "repr") (rRep g) := by
  intro pins s σ H xs us Q I rv ⟨F, d, v, l, x, e, r, ex, h1, h2, h3, q⟩
  subst e
  obtain ⟨u, rfl, ru⟩ := vals1 rv
  obtain ⟨as, rd, se⟩ := reads I hK d v u x r ru ex
  have go : ∀ (h' : Heap) (t tk : Tok), (∀ b o, s.heap.get? b = some o → h'.get? b = some o) → EP X pins σ Q (.str x.shown t) { s with heap := h', toks := tk } := fun h' t tk hk => ⟨.str x.shown, H, I.kept hk, ⟨t, rfl⟩, q⟩
  have hsm : x.hasDict = true → sysModules ∉ as := fun z m => by
    cases l with
    | true => rw [se.1 rfl] at z; cases z
    | false => exact se.2 rfl _ m rfl
  have hu : X.A.units + (x.depth + 1) < cLine := by have := hr.1; omega
  cases rd with
  | none => exact PySem.P.repr_of_none (go _ _ _ fun _ _ z => z)
  | bool b => exact PySem.P.repr_of_bool (go _ _ _ fun _ _ z => z)
  | int i t => exact PySem.P.repr_of_int (by simpa [PyData.showable] using h1) (go _ _ _ fun _ _ z => z)
  | str y t => exact PySem.P.repr_of_str (go _ _ _ fun _ _ z => z) h3
  | list a b c d => exact repr_of_reads' (h₀ := s.heap) (.list a b c d) h1 hsm hr.2 hu (fun _ _ e => e) go h3
  | tuple a b c d => exact repr_of_reads' (h₀ := s.heap) (.tuple a b c d) h1 hsm hr.2 hu (fun _ _ e => e) go h3
  | dict a b c d e => exact repr_of_reads' (h₀ := s.heap) (.dict a b c d e) h1 hsm hr.2 hu (fun _ _ e => e) go h3
theorem lk_repr {g : GX} : LkC g (rRep g) fRepr := by
  intro E μ F σ S σc H ds vs Q R r q
  unfold fRepr at q
  split at q
  · rename_i d
    split at q
    · rename_i hl
      obtain ⟨v, ws, rfl, h1, h2⟩ := R.lend r hl
      cases (show ws = [] from h2)
      have fin : ∀ {l : Bool} {x : PyData}, pyD l (look S d) = some x → Ok g E H F μ (shw x) Q → rRep g [v] H Q := fun {l x} ex q => by
        unfold shw at q
        split at q
        · rename_i hc
          simp only [Bool.and_eq_true, decide_eq_true_eq] at hc
          exact ⟨_, _, v, l, x, rfl, h1, ex, hc.1.1, hc.1.2, by rw [lim_eq]; exact hc.2, q.here R.dom (.inr rfl)⟩
        · exact q.elim
      split at q
      · rename_i x ex
        exact fin ex q
      · split at q
        · rename_i x ex
          exact fin ex q
        · exact q.elim
    · exact q.elim
  · exact q.elim
end HC

set_option maxRecDepth 100000
namespace HC
open PySem PySem.Spec L2
open PyProof.Rows hiding St

/-! ## sorted -/
def insI (x : Int) : List Int → List Int
  | [] => [x]
  | y :: r => if x ≤ y then x :: y :: r else y :: insI x r
def sortU : List Int → List Int
  | [] => []
  | x :: r => insI x (sortU r)
def sortI (b : Bool) (ns : List Int) : List Int := if b then (sortU ns).reverse else sortU ns
theorem insI_perm (x : Int) : ∀ l : List Int, (insI x l).Perm (x :: l)
  | [] => .refl _
  | y :: r => by
    unfold insI
    split
    · exact .refl _
    · exact ((insI_perm x r).cons y).trans (.swap x y r)
theorem sortU_perm : ∀ l : List Int, (sortU l).Perm l
  | [] => .refl _
  | x :: r => (insI_perm x _).trans ((sortU_perm r).cons x)
theorem insI_mem {x z : Int} {l : List Int} (h : z ∈ insI x l) : z = x ∨ z ∈ l := List.mem_cons.mp ((insI_perm x l).mem_iff.mp h)
theorem insI_ord (x : Int) : ∀ {l : List Int}, l.Pairwise (· ≤ ·) → (insI x l).Pairwise (· ≤ ·)
  | [], _ => List.pairwise_singleton _ _
  | y :: r, h => by
    have h2 := List.pairwise_cons.mp h
    unfold insI
    split
    · rename_i hx
      refine List.pairwise_cons.mpr ⟨fun z hz => ?_, h⟩
      rcases List.mem_cons.mp hz with rfl | hz
      · exact hx
      · exact Int.le_trans hx (h2.1 z hz)
    · rename_i hx
      refine List.pairwise_cons.mpr ⟨fun z hz => ?_, insI_ord x h2.2⟩
      rcases insI_mem hz with rfl | hz
      · omega
      · exact h2.1 z hz
theorem sortU_ord : ∀ l : List Int, (sortU l).Pairwise (· ≤ ·)
  | [] => .nil
  | x :: r => insI_ord x (sortU_ord r)
theorem sortU_of {a b : List Int} (p : a.Perm b) (o : a.Pairwise (· ≤ ·)) : a = sortU b := PySem.W.ksm_same (p.trans (sortU_perm b).symm) o (sortU_ord b)
theorem sortI_of {k : Bool} {a b : List Int} (p : a.Perm b) (o : OrdB k a) : a = sortI k b := by
  cases k with
  | false => exact sortU_of p o
  | true =>
    have o2 : a.reverse.Pairwise (· ≤ ·) := List.pairwise_reverse.mpr o
    have e := sortU_of ((List.reverse_perm a).trans p) o2
    show a = (sortU b).reverse
    rw [← e, List.reverse_reverse]
def fSorted (k : Bool) (S : List SO) (ds : List D) : Res := match ds with
  | [d] => match rdOf S d with
    | some xs => match intsOf xs with
      | some ns => .ok (.lst ((sortI k ns).map .int)) true
      | none => .bad
    | none => .bad
  | _ => .bad
theorem reps_int {g : GX} {H : Hp} {F : FZ} (ns : List Int) : RepL g H F (ns.map D.int) (ns.map V.int) := reps_ints ns
theorem fSorted_run {g : GX} {k : Bool} {E : XK} {μ : List Addr} {F : FZ} {σ : Sl} {S : List SO} {σc : St} {H : Hp} {ds : List D} {vs : List V} {Q : VK} (R : Rel g μ F σ S σc H) (r : RepVs g H F μ ds vs) (q : Ok g E H F μ (fSorted k S ds) Q) :
    ∃ (a : Addr) (ns : List Int), vs = [V.ref a] ∧ SqL g.K H a (ns.map V.int) ∧ ∀ (ns' : List Int) (p : Addr), ns'.Perm ns → OrdB k ns' → H p = none → Q (.ref p) (upd H p (.lst (ns'.map V.int))) := by
  unfold fSorted at q
  split at q
  · obtain ⟨v, rfl, rv⟩ := r.one
    split at q
    · rename_i xs ex
      split at q
      · rename_i ns en
        obtain ⟨a, ws, rfl, h1, h2, h3⟩ := R.rd rv ex
        have e := h3.ints en
        subst e
        refine ⟨a, ns, rfl, h1, fun ns' p hp ho hn => ?_⟩
        have e2 := sortI_of hp ho
        subst e2
        exact q.lst R.dom (fun a h => R.mu_there h) hn (by rw [List.length_map, hp.length_eq, ← List.length_map (f := V.int)]; exact h2) (reps_ints _)
      · exact q.elim
    · exact q.elim
  · exact q.elim
theorem lk_sorted {g : GX} : LkC g (rSortedI g.K) (fSorted false) := by
  intro E μ F σ S σc H ds vs Q R r q
  obtain ⟨a, ns, h1, h2, h3⟩ := fSorted_run R r q
  exact ⟨a, ns, h1, h2, fun ns' p hp ho => h3 ns' p hp ho⟩
section
variable {X : Cx} {g : GX} {W : WX} {e : Expr} {f : CA} {p pos kpos pp : Pos} {j : Nat}
theorem q_sortedRev {k : Bool} (hK : X.K = g.K) (hg : Gl X "sorted") (hm : X.mg "sorted" = none) (ha : PA X [e] (TL g W f))
    (he : backTo pos (starEach [e] X.env) = (false, eval e X.env) :: backTo pos (starEach [] X.env) := by rfl) (hpl : (backTo pos (starEach [e] X.env)).any (·.1) = false := by rfl)
    (hall : (backToKw pos (keywordEach [⟨some "reverse", .Constant (.bool k) j pp, kpos⟩] X.env)).all (·.1.isSome) = true := by rfl) (hnone : (backToKw pos (keywordEach [⟨some "reverse", .Constant (.bool k) j pp, kpos⟩] X.env)).any (·.1.isNone) = false := by rfl)
    (hks : (backToKw pos (keywordEach [⟨some "reverse", .Constant (.bool k) j pp, kpos⟩] X.env)).filterMap (·.1) = [Str.ofString "reverse"] := by rfl) :
    PE X (.Call (.Name "sorted" p) [e] [⟨some "reverse", .Constant (.bool k) j pp, kpos⟩] pos) (T g W (cApp (fSorted k) f)) :=
  (pe_callBK (cr_sortedRev (b := k)) hg hm (by decide +kernel) ha (pk_cons pe_bl pk_nil) (by decide) (by decide) he hpl hall hnone hks).hc fun σc H Q h => TL.app h fun μ F σ S H1 ds vs R r q => by
    obtain ⟨a, ns, h1, h2, h3⟩ := fSorted_run R r q
    exact ⟨a, ns, h1, rfl, by rw [hK]; exact h2, h3⟩
end

/-! ## displays of dicts, keys written in the text -/
theorem TL.cons {g : GX} {W : WX} {f : CE} {fr : CA} {σc : St} {H : Hp} {Q : List V → Hp → Prop} (h : TL g W (cCons f fr) σc H Q) : T g W f σc H fun v H1 => TL g W fr σc H1 fun vs H2 => Q (v :: vs) H2 := by
  obtain ⟨μ, F, σ, S, R, q⟩ := h
  refine ⟨μ, F, σ, S, R, ?_⟩
  unfold cCons at q
  cases ea : f σ S with
  | bad => rw [ea] at q; exact q
  | ex c as => rw [ea] at q; exact q
  | ok d fl =>
    rw [ea] at q
    intro v H1 F1 s1 x1 r1
    obtain ⟨F2, x2, u2, rx⟩ := r1.frz x1
    refine ⟨μ, F2, σ, S, R.mono s1 x2, ?_⟩
    have q : OkL g (wat W σc) H F μ (match fr σ S with | .ok ds => .ok (d :: ds) | .ex c as => .ex c as | .bad => .bad) Q := q
    cases eb : fr σ S with
    | bad => rw [eb] at q; exact q
    | ex c as =>
      rw [eb] at q
      exact fun cls dx H' F' s' x' rr => q cls dx H' F' (s1.trans s') (x2.trans s1 x') rr
    | ok ds =>
      rw [eb] at q
      exact fun vs H3 F3 s3 x3 r3 => q (v :: vs) H3 F3 (s1.trans s3) (x2.trans s1 x3) (.cons (rx.mono s3 x3.up) r3)
inductive DP (g : GX) (W : WX) : List (TE × TE) → List Key → CA → Prop
  | nil : DP g W [] [] cNil
  | cons {trs : List (TE × TE)} {ks : List Key} {f : CE} {fr : CA} (k : Key) (h : DP g W trs ks fr) : DP g W ((tC (kV k), T g W f) :: trs) (k :: ks) (cCons f fr)
theorem T.imp {g : GX} {W : WX} {f : CE} {σc : St} {H : Hp} {Q Q' : VK} (h : T g W f σc H Q) (w : ∀ v H1, Q v H1 → Q' v H1) : T g W f σc H Q' := by
  obtain ⟨μ, F, σ, S, R, q⟩ := h
  refine ⟨μ, F, σ, S, R, ?_⟩
  cases e : f σ S with
  | ok d fr => rw [e] at q; exact fun v H' F' s x r => w _ _ (q v H' F' s x r)
  | ex c as => rw [e] at q; exact q
  | bad => rw [e] at q; exact q
theorem DP.run {g : GX} {W : WX} {trs : List (TE × TE)} {ks : List Key} {f : CA} (h : DP g W trs ks f) {σc : St} : ∀ {H : Hp} {Q : List V → Hp → Prop} {Q' : List (V × V) → Hp → Prop}, TL g W f σc H Q → (∀ vs H2, vs.length = ks.length → Q vs H2 → Q' ((ks.zip vs).map (fun p => (kV p.1, p.2))) H2) → tPairs trs σc H Q' := by
  induction h with
  | nil =>
    rintro H Q Q' ⟨μ, F, σ, S, R, q⟩ w
    exact w [] H rfl (q [] H F (Same.refl H) R.fx .nil)
  | @cons trs ks f fr k h ih =>
    intro H Q Q' q w
    exact T.imp q.cons fun v H1 z => ih z fun vs H2 hl q2 => w (v :: vs) H2 (by rw [List.length_cons, List.length_cons, hl]) q2
/-- {k: e, ..} -/
def cDct (ks : List Key) (f : CA) : CE := fun σ S => match f σ S with
  | .ok ds => if decide ks.Nodup && pureL ds && decide (ds.length = ks.length) then .ok (.dct (ks.map keyD) ds) true else .bad
  | .ex c as => .ex c as
  | .bad => .bad
theorem merge_new : ∀ (more acc : List (Key × V)), ((acc ++ more).map (·.1)).Nodup → mergeK acc more = acc ++ more
  | [], acc, _ => (List.append_nil acc).symm
  | p :: r, acc, h => by
    have hn : valV acc p.1 = none := by
      cases e : valV acc p.1 with
      | none => rfl
      | some v =>
        have h1 : (acc.any fun kv => decide (kv.1 = p.1)) = true := by rw [valV_any, e]; rfl
        obtain ⟨q, hq, eq⟩ := List.any_eq_true.mp h1
        rw [List.map_append, List.map_cons] at h
        have h2 := (List.nodup_append.mp h).2.2 _ (List.mem_map_of_mem hq) p.1 (List.mem_cons_self ..)
        exact absurd (of_decide_eq_true eq) h2
    show mergeK (putK acc p.1 p.2) r = _
    rw [putK_new _ hn, merge_new r (acc ++ [p]) (by rw [List.append_assoc]; exact h), List.append_assoc]
    rfl
theorem q_dnil {X : Cx} {g : GX} {W : WX} {pos : Pos} : PE X (.Dict [] [] pos) (T g W (fun _ _ => .ok (.dct [] []) true)) :=
  pe_dnewK.hc fun σc H Q ⟨μ, F, σ, S, R, q⟩ p hp => by
    have s : Same H (upd H p (.dK [])) := same_new hp
    refine q _ _ F s ⟨fun _ h => h, fun _ h => .inl h, fun a h => let ⟨o, e⟩ := R.dom a h; ⟨o, s _ _ e⟩⟩ (.inr ⟨rfl, p, rfl, hp, fun h => ?_, fun h => ?_, [], rfl, .inl ⟨[], upd_same, rfl, rfl⟩⟩)
    · obtain ⟨o, e⟩ := R.dom p h; rw [hp] at e; cases e
    · obtain ⟨o, e⟩ := R.mu_there h; rw [hp] at e; cases e
theorem q_dct {X : Cx} {g : GX} {W : WX} {pos : Pos} {keys : List (Option Expr)} {values : List Expr} {trs : List (TE × TE)} {ks : List Key} {f : CA} (h : PPs X pos keys values trs) (dp : DP g W trs ks f)
    (hall : keys.all (·.isSome) = true := by rfl) (hl : keys.length = values.length := by rfl) (h0 : keys ≠ [] := by exact fun z => nomatch z) (h15 : keys.length ≤ 15 := by decide) (hk : ks.length ≤ 15 := by decide) : PE X (.Dict keys values pos) (T g W (cDct ks f)) :=
  (pe_disp h hall hl h0 h15).hc fun σc H Q ⟨μ, F, σ, S, R, q⟩ p hp => by
    have s : Same H (upd H p (.dK [])) := same_new hp
    have fx : FX F H F (upd H p (.dK [])) := ⟨fun _ h => h, fun _ h => .inl h, fun a h => let ⟨o, e⟩ := R.dom a h; ⟨o, s _ _ e⟩⟩
    have nF : ¬ F p := fun h => by obtain ⟨o, e⟩ := R.dom p h; rw [hp] at e; cases e
    have nM : p ∉ μ := fun h => by obtain ⟨o, e⟩ := R.mu_there h; rw [hp] at e; cases e
    refine dp.run (Q := fun vs H2 => H2 p = some (.dK []) ∧ (vs.length = ks.length → ∃ kvs : List (Key × V), (ks.zip vs).map (fun p => (kV p.1, p.2)) = kvs.map (fun kv => (kV kv.1, kv.2)) ∧ kvs.length ≤ 15 ∧ Q (.ref p) (upd H2 p (.dK (mergeK [] kvs))))) ⟨μ, F, σ, S, R.mono s fx, ?_⟩ fun vs H2 hl z => ⟨z.1, z.2 hl⟩
    unfold cDct at q
    cases e : f σ S with
    | bad => rw [e] at q; exact q
    | ex c as => rw [e] at q; exact fun cls dx H' F' s' x' rr => q cls dx H' F' (s.trans s') (fx.trans s x') rr
    | ok ds =>
      rw [e] at q
      have q : Ok g (wat W σc) H F μ (if decide ks.Nodup && pureL ds && decide (ds.length = ks.length) then .ok (.dct (ks.map keyD) ds) true else .bad) Q := q
      split at q
      · rename_i hc
        simp only [Bool.and_eq_true, decide_eq_true_eq] at hc
        intro vs H' F' s' x' rr
        have hpp : H' p = some (.dK []) := s' _ _ upd_same
        have nF' : ¬ F' p := fun h => (x'.nw p h).elim nF fun z => by rw [upd_same] at z; cases z
        refine ⟨hpp, fun hlen => ⟨ks.zip vs, rfl, by rw [List.length_zip]; omega, ?_⟩⟩
        have nd : ((([] : List (Key × V)) ++ ks.zip vs).map (·.1)).Nodup := by
          rw [List.nil_append, zip_fst hlen.symm]
          exact hc.1.1
        rw [merge_new _ _ nd, List.nil_append]
        have sm : Same H (upd H' p (.dK (ks.zip vs))) := fun a o ha => by
          have na : a ≠ p := fun z => by rw [z, hp] at ha; cases ha
          rw [upd_ne na]
          exact s' _ _ (s _ _ ha)
        refine q _ _ F' sm ⟨fun a h => x'.up a h, fun a h => (x'.nw a h).imp (fun h => h) fun z => same_none s z, fun a h => ?_⟩ (.inr ⟨rfl, p, rfl, hp, nF', nM, vs, ?_, .inl ⟨ks.zip vs, upd_same, ?_, ?_⟩⟩)
        · obtain ⟨o, e⟩ := x'.dom a h
          have na : a ≠ p := fun z => nF' (z ▸ h)
          exact ⟨o, (upd_ne na).trans e⟩
        · exact RepL.writeG (fun xs z => by rw [hpp] at z; cases z) (fun ob u z => by rw [hpp] at z; cases z) nF' _ _ (rr.pure hc.1.2)
        · show ks.map keyD = (ks.zip vs).map (keyD ∘ fun p : Key × V => p.1)
          rw [← List.map_map, zip_fst hlen.symm]
        · exact (zip_snd hlen.symm).symm
      · exact q.elim
theorem qp_nil {X : Cx} {pos : Pos} : PPs X pos [] [] [] := pps_nil
theorem qp_int {X : Cx} {g : GX} {W : WX} {pos : Pos} {i : Int} {j : Nat} {p2 : Pos} {v : Expr} {ks : List (Option Expr)} {vs : List Expr} {f : CE} {trs : List (TE × TE)} (hv : PE X v (T g W f)) (hr : PPs X pos ks vs trs) : PPs X pos (some (.Constant (.int i) j p2) :: ks) (v :: vs) ((tC (kV (.inl i)), T g W f) :: trs) := pps_cons pe_int hv hr
theorem qp_str {X : Cx} {g : GX} {W : WX} {pos : Pos} {i : Str} {j : Nat} {p2 : Pos} {v : Expr} {ks : List (Option Expr)} {vs : List Expr} {f : CE} {trs : List (TE × TE)} (hv : PE X v (T g W f)) (hr : PPs X pos ks vs trs) : PPs X pos (some (.Constant (.str i) j p2) :: ks) (v :: vs) ((tC (kV (.inr i)), T g W f) :: trs) := pps_cons pe_str hv hr
end HC

set_option maxRecDepth 100000
namespace HC
open PySem PySem.Spec L2
open PyProof.Rows hiding St

def cNeg (f : CE) : CE := fun σ S => match f σ S with
  | .ok d _ => match d with
    | .int i => .ok (.int (-i)) false
    | _ => .bad
  | .ex c as => .ex c as
  | .bad => .bad
def cBad : CE := fun _ _ => .bad
def aBad : CA := fun _ _ => .bad
def iBad : CI := fun _ _ => .bad
def sBad : SC := fun _ _ => .bad
section
variable {X : Cx} {g : GX} {W : WX} {a e : Expr} {fa : CE} {pos : Pos} {st : Stmt} {sts : List Stmt}
theorem q_neg (ha : PE X a (T g W fa)) : PE X (.UnaryOp .USub a pos) (T g W (cNeg fa)) :=
  (pe_un un_neg ha).hc fun σc H Q h => T.one h fun μ F σ S H1 d v R r q => by
    split at q
    · cases r.int
      exact ⟨_, rfl, q.here R.dom (.inr rfl)⟩
    · exact q.elim
/-- what is not read: nothing is told of it -/
theorem q_bad : PE X e (T g W cBad) := ⟨fun _ _ _ _ _ _ ⟨_, _, _, _, _, q⟩ => q.elim⟩
theorem s_bad : PS X st (TSt g W sBad) := ⟨fun _ _ _ _ _ _ ⟨_, _, _, _, _, q⟩ => q.elim⟩
theorem s_asgLc {i : Nat} {y : Str} {py : Pos} {elt tg iter : Expr} {ifs : List Expr} {scope : Scope} {own : List (Str × Nat)} {spos : Pos} {fi : CI} {A : TgF} {ss : List Nat} {ft fe : CE} (hc : X.calm = true) (hN : X.N.Nodup) (hy : X.N[i]? = some y) (hyl : X.env.scope.names.lookup y = some .local)
    (hsw : swapsWith (.ListComp elt [⟨tg, iter, ifs, 0⟩] scope pos) (some (.Name y py)) spos.line X.env = pure true) (hi : PI X tg iter (TIt g W fi)) (ok : BlkOk X.N X.env.scope scope own) (hss : ∀ j ∈ ss, j ∈ own.map (·.2))
    (hg : ∀ s H C cl fp, PG (blkX X scope s H C cl fp) tg (TGt g ss A)) (ht : ∀ s H C cl fp, PTs (blkX X scope s H C cl fp) ifs (TB g W0 ft)) (he : ∀ s H C cl fp, PE (blkX X scope s H C cl fp) elt (T g W0 fe)) (hs : ∀ x, foldedSetIterable iter X.env x = pure x := by intro _; rfl) :
    PS X (.Assign [.Name y py] (.ListComp elt [⟨tg, iter, ifs, 0⟩] scope pos) spos) (TSt g W (sAsg i (cComp fi A (own.map (·.2)) ft fe))) :=
  (ps_setLc hc hN hy hyl hsw hi ok hg ht he hs).hc fun Dn σ H h => tLc_of hss (asg_of h)
theorem s_newLc {i : Nat} {y : Str} {py : Pos} {elt tg iter : Expr} {ifs : List Expr} {scope : Scope} {own : List (Str × Nat)} {spos : Pos} {fi : CI} {A : TgF} {ss : List Nat} {ft fe : CE} (hc : X.calm = true) (hN : X.N.Nodup) (hy : X.N[i]? = some y) (hyl : X.env.scope.names.lookup y = some .local)
    (hsw : swapsWith (.ListComp elt [⟨tg, iter, ifs, 0⟩] scope pos) (some (.Name y py)) spos.line X.env = pure true) (hi : PI X tg iter (TIt g W fi)) (ok : BlkOk X.N X.env.scope scope own) (hss : ∀ j ∈ ss, j ∈ own.map (·.2))
    (hg : ∀ s H C cl fp, PG (blkX X scope s H C cl fp) tg (TGt g ss A)) (ht : ∀ s H C cl fp, PTs (blkX X scope s H C cl fp) ifs (TB g W0 ft)) (he : ∀ s H C cl fp, PE (blkX X scope s H C cl fp) elt (T g W0 fe)) (hs : ∀ x, foldedSetIterable iter X.env x = pure x := by intro _; rfl) :
    PS X (.Assign [.Name y py] (.ListComp elt [⟨tg, iter, ifs, 0⟩] scope pos) spos) (TSt g W (sNew i (cComp fi A (own.map (·.2)) ft fe))) :=
  (ps_setLc hc hN hy hyl hsw hi ok hg ht he hs).hc fun Dn σ H h => tLc_of hss (new_of h)
end
end HC
namespace HC
open PySem PySem.Spec L2
theorem it_bad {X : Cx} {g : GX} {W : WX} {tg e : Expr} : PI X tg e (TIt g W iBad) := ⟨fun _ _ _ _ _ _ ⟨_, _, _, _, _, q⟩ => q.elim⟩
end HC

set_option maxRecDepth 100000
namespace HC

/-! ## to reckon with defs as functions of data -/
abbrev its (ns : List Int) : List D := ns.map .int
theorem pure_its : ∀ ns : List Int, pureL (its ns) = true
  | [] => rfl
  | n :: ns => pure_its ns
theorem ints_its : ∀ ns : List Int, intsOf (its ns) = some ns
  | [] => rfl
  | n :: ns => by
    show (match intsOf (its ns) with | some ms => some (n :: ms) | none => none) = _
    rw [ints_its ns]
theorem gets_its (ns : List Int) (k : Nat) : gets (its ns) k = (ns[k]?).map D.int := by rw [gets_eq, List.getElem?_map]
theorem at_its {ns : List Int} {k : Nat} {i : Int} (h : ns[k]? = some i) : atD (its ns) (k : Int) = some (.int i) := by
  show gets (its ns) k = _
  rw [gets_its, h]
  rfl
section
variable {f r c a b : SC} {e e1 e2 : CE} {σ σ1 : Sl} {S S1 : List SO} {d x y : D} {fr fx fy : Bool} {i n np : Nat} {xs ds : List D} {m : FnS} {fn : List SO → List D → Res} {op : List SO → D → D → Res} {t : CE}
theorem seq_nx (h : f σ S = .nx σ1 S1) : sSeq f r σ S = r σ1 S1 := by unfold sSeq; rw [h]
theorem seq_rt (h : f σ S = .rt d fr) : sSeq f r σ S = .rt d fr := by unfold sSeq; rw [h]
theorem if_t (h : t σ S = .ok (.bl true) fr) : sIf t a b σ S = a σ S := by unfold sIf; rw [h]
theorem if_f (h : t σ S = .ok (.bl false) fr) : sIf t a b σ S = b σ S := by unfold sIf; rw [h]
theorem asg_ok (h : e σ S = .ok d fr) : sAsg i e σ S = .nx (setD σ i d) S := by unfold sAsg sVal; rw [h]
theorem new_l (h : e σ S = .ok (.lst xs) true) : sNew i e σ S = .nx (setD σ i (.loc S.length)) (S ++ [.lst xs]) := by unfold sNew sVal; rw [h]
theorem expr_ok (h : e σ S = .ok d fr) : sExpr e σ S = .nx σ S := by unfold sExpr sVal; rw [h]
theorem ret_is (h : e σ S = .ok d fr) : sRet e σ S = retD S d fr := by unfold sRet sVal; rw [h]
theorem ret_v (h : e σ S = .ok d fr) (hd : retD S d fr = .rt d fr := by rfl) : sRet e σ S = .rt d fr := (ret_is h).trans hd
theorem bin_to {q : Res} (ha : e1 σ S = .ok x fx) (hb : e2 σ S = .ok y fy) (h : op S x y = q) : cBin op e1 e2 σ S = q := (by unfold cBin; rw [ha, hb] : cBin op e1 e2 σ S = op S x y).trans h
theorem app_to {q : Res} (hx : e σ S = .ok x fx) (h : fn S [x] = q) : cApp fn (cCons e cNil) σ S = q := (by unfold cApp cCons cNil; rw [hx] : cApp fn (cCons e cNil) σ S = fn S [x]).trans h
theorem ret_loc (h : e σ S = .ok (.loc n) fr) (g : gets S n = some (.lst xs)) (p : pureL xs = true) : sRet e σ S = .rt (.lst xs) true := by
  rw [ret_is h]
  unfold retD
  simp only [g, p, if_true]
theorem run_rt (hl : ds.length = np) (h : f (startD n ds) [] = .rt d fr) : runF np n f ds = .ok d fr := by unfold runF; rw [if_pos hl, h]
theorem run_nx (hl : ds.length = np) (h : f (startD n ds) [] = .nx σ1 S1) : runF np n f ds = .ok .non false := by unfold runF; rw [if_pos hl, h]
theorem bin_ok (ha : e1 σ S = .ok x fx) (hb : e2 σ S = .ok y fy) : cBin op e1 e2 σ S = op S x y := by unfold cBin; rw [ha, hb]
theorem app1 (h : e σ S = .ok x fx) : cApp fn (cCons e cNil) σ S = fn S [x] := by unfold cApp cCons cNil; rw [h]
theorem app2 (h1 : e1 σ S = .ok x fx) (h2 : e2 σ S = .ok y fy) : cApp fn (cCons e1 (cCons e2 cNil)) σ S = fn S [x, y] := by unfold cApp cCons cNil; rw [h1]; dsimp only; rw [h2]
theorem app3 {e3 : CE} {z : D} {fz : Bool} (h1 : e1 σ S = .ok x fx) (h2 : e2 σ S = .ok y fy) (h3 : e3 σ S = .ok z fz) : cApp fn (cCons e1 (cCons e2 (cCons e3 cNil))) σ S = fn S [x, y, z] := by unfold cApp cCons cNil; rw [h1]; dsimp only; rw [h2]; dsimp only; rw [h3]
theorem call_p (hp : pureL ds = true) : callD m S ds = m ds := by unfold callD; rw [if_pos hp]
theorem mul_r {i j : Int} (h : small j = true) : bMul S (.int i) (.int j) = .ok (.int (i * j)) false := by
  show (if small i || small j || _ then _ else _) = _
  rw [h, Bool.or_true, Bool.true_or, if_pos rfl]
theorem mul_l {i j : Int} (h : small i = true) : bMul S (.int i) (.int j) = .ok (.int (i * j)) false := by
  show (if small i || small j || _ then _ else _) = _
  rw [h, Bool.true_or, Bool.true_or, if_pos rfl]
theorem small_of {i : Int} (h1 : -18446744073709551616 < i) (h2 : i < 18446744073709551616) : small i = true := decide_eq_true (by omega)
theorem mod_p {i j : Int} (h : 0 < j) : bMod S (.int i) (.int j) = .ok (.int (i % j)) false := by
  show (if 0 < j then _ else _) = _
  rw [if_pos h]
theorem div_p {i j : Int} (h : 0 < j) (h2 : j < 1073741824) : bFdiv S (.int i) (.int j) = .ok (.int (i / j)) false := by
  show (if (decide (0 < j) && decide (j < 1073741824)) = true then _ else _) = _
  rw [decide_eq_true h, decide_eq_true h2]
  rfl
theorem ixS {i : Int} {k : Nat} {ns : List Int} (h : ns[k]? = some i) : bIx S (.rol (its ns)) (.int k) = .ok (.int i) false := by
  show (match atD (its ns) k with | some d => Res.ok d false | none => Res.bad) = _
  rw [at_its h]
theorem ixT {i : Int} {k : Nat} {ns : List Int} (h : ns[k]? = some i) : bIx S (.tup (its ns)) (.int k) = .ok (.int i) false := by
  show (match atD (its ns) k with | some d => Res.ok d false | none => Res.bad) = _
  rw [at_its h]
theorem ixL {i : Int} {k : Nat} {ns : List Int} (h : ns[k]? = some i) : bIx S (.lst (its ns)) (.int k) = .ok (.int i) false := by
  show (match atD (its ns) k with | some d => Res.ok d false | none => Res.bad) = _
  rw [at_its h]
end
/-- a loop by an invariant, nothing breaks out of it -/
theorem for_inv {A : TgF} {body : SC} (I : Nat → Sl → List SO → Prop) : ∀ (ds : List D) (i : Nat) (σ : Sl) (S : List SO), I i σ S →
    (∀ j d σ S, ds[j]? = some d → I (i + j) σ S → ∃ σ1 σ2 S2, A d σ = some σ1 ∧ (body σ1 S = .nx σ2 S2 ∨ body σ1 S = .ct σ2 S2) ∧ I (i + j + 1) σ2 S2) → ∃ σ' S', forL A body ds σ S = .nx σ' S' ∧ I (i + ds.length) σ' S'
  | [], i, σ, S, h, _ => ⟨σ, S, rfl, h⟩
  | d :: ds, i, σ, S, h, w => by
    obtain ⟨σ1, σ2, S2, h1, h2, h3⟩ := w 0 d σ S rfl h
    obtain ⟨σ', S', h4, h5⟩ := for_inv I ds (i + 1) σ2 S2 h3 fun j d σ S hj hi => by
      have := w (j + 1) d σ S hj (by rw [← Nat.add_assoc, Nat.add_right_comm]; exact hi)
      rw [show i + (j + 1) + 1 = i + 1 + j + 1 by omega] at this
      exact this
    refine ⟨σ', S', ?_, by rw [List.length_cons, show i + (ds.length + 1) = i + 1 + ds.length by omega]; exact h5⟩
    unfold forL
    simp only [h1]
    rcases h2 with h2 | h2 <;> simp only [h2] <;> exact h4
/-- a comprehension, each turn told -/
theorem comp_is {A : TgF} {t f : CE} {σ : Sl} {S : List SO} (p : D → Bool) (g : D → D) : ∀ ds : List D, (∀ d ∈ ds, ∃ σ1 fr, A d σ = some σ1 ∧ t σ1 S = .ok (.bl (p d)) fr ∧ (p d = true → (g d).pure = true ∧ ∃ f2, f σ1 S = .ok (g d) f2)) → compL A t f σ S ds = some ((ds.filter p).map g)
  | [], _ => rfl
  | d :: ds, w => by
    obtain ⟨σ1, fr, h1, h2, h3⟩ := w d (List.mem_cons_self ..)
    have ih := comp_is p g ds fun d hd => w d (List.mem_cons_of_mem _ hd)
    unfold compL
    simp only [h1, h2]
    cases e : p d with
    | false =>
      simp only [e]
      rw [List.filter_cons_of_neg (by rw [e]; exact Bool.false_ne_true)]
      exact ih
    | true =>
      obtain ⟨h4, f2, h5⟩ := h3 e
      simp only [h5, h4, if_true, ih]
      rw [List.filter_cons_of_pos e]
      rfl
theorem range_get : ∀ (n : Nat) (lo : Int) (j : Nat), j < n → (rangeD lo n)[j]? = some (.int (lo + j))
  | 0, _, _, h => absurd h (Nat.not_lt_zero _)
  | n + 1, lo, 0, _ => by
    show some (D.int lo) = _
    rw [show lo + ((0 : Nat) : Int) = lo by omega]
  | n + 1, lo, j + 1, h => by
    show (rangeD (lo + 1) n)[j]? = _
    rw [range_get n (lo + 1) j (by omega)]
    congr 2
    omega
theorem rg1_n {S : List SO} {n : Int} (h0 : 0 ≤ n) (h : n ≤ 1000000) : rg1 S [.int n] = .st (rangeD 0 n.toNat) := by
  show (if (inRg n && decide (n.toNat ≤ lim)) = true then _ else _) = _
  have h1 : inRg n = true := by
    unfold inRg
    rw [decide_eq_true (by omega : n < 4611686018427387904), decide_eq_true (by omega : -4611686018427387904 ≤ n)]
    rfl
  rw [h1, decide_eq_true (show n.toNat ≤ lim by unfold lim; omega)]
  rfl
theorem for_st {it : CI} {A : TgF} {body : SC} {σ : Sl} {S : List SO} {ds : List D} (h : it σ S = .st ds) : sFor it A body σ S = forL A body ds σ S := by unfold sFor; rw [h]
theorem iapp1 {fn : List SO → List D → ResI} {e : CE} {σ : Sl} {S : List SO} {x : D} {fx : Bool} (h : e σ S = .ok x fx) : iApp fn (cCons e cNil) σ S = fn S [x] := by unfold iApp cCons cNil; rw [h]
end HC
namespace HC
section
variable {fo e : CE} {σ : Sl} {S : List SO} {d : D} {fr fx : Bool} {n : Nat} {xs : List D}
theorem append_ok (ho : fo σ S = .ok (.loc n) fr) (he : e σ S = .ok d fx) (hg : gets S n = some (.lst xs)) (hl : xs.length < lim) : sMethE mAppend fo (cCons e cNil) σ S = .nx σ (S.set n (.lst (xs ++ [d]))) := by
  unfold sMethE sMeth sVal locL sArgs kMeth mAppend cCons cNil putL
  simp only [ho, hg, he, hl, if_true]
theorem call_d {m : FnS} {f : CA} {ds : List D} {q : Res} (hf : f σ S = .ok ds) (hp : pureL ds = true) (h : m ds = q) : cApp (callD m) f σ S = q := by
  unfold cApp
  simp only [hf]
  rw [call_p hp, h]
theorem call_k {m : FnS} {f : CA} {ds : List D} {q : Res} {ix : List Nat} (hf : f σ S = .ok ds) (hl : ds.length = n) (hp : pureL (pick .non ix ds) = true) (h : m (pick .non ix ds) = q) : cApp (callKw ix n m) f σ S = q := by
  unfold cApp callKw
  simp only [hf, hl, if_true]
  rw [call_p hp, h]
theorem tup_of {f : CA} {ds : List D} (hf : f σ S = .ok ds) (hp : pureL ds = true) (hl : ds.length ≤ lim) : cApp fTup f σ S = .ok (.tup ds) false := by
  unfold cApp fTup
  simp only [hf, hp, Bool.true_and, decide_eq_true hl, if_true]
theorem tuple_l {f : CA} {xs : List D} (hf : f σ S = .ok [.lst xs]) (hp : pureL xs = true) : cApp fTuple f σ S = .ok (.tup xs) false := by
  unfold cApp fTuple
  simp only [hf, rdOf, lstOf, hp, if_true]
theorem comp_st {it : CI} {A : TgF} {ws : List Nat} {t f : CE} {ds r : List D} (hi : it σ S = .st ds) (h : compL A t f (wipeD σ ws) S ds = some r) : cComp it A ws t f σ S = .ok (.lst r) true := by
  unfold cComp kComp
  simp only [hi, h]
theorem cons1 (he : e σ S = .ok d fx) : cCons e cNil σ S = .ok [d] := by unfold cCons cNil; simp only [he]
theorem cons_ok {fr : CA} {ds : List D} (he : e σ S = .ok d fx) (hr : fr σ S = .ok ds) : cCons e fr σ S = .ok (d :: ds) := by unfold cCons; simp only [he, hr]
end
theorem its_snoc (ds : List Int) (d : Int) : its ds ++ [.int d] = its (ds ++ [d]) := by
  show _ = (ds ++ [d]).map D.int
  rw [List.map_append]
  rfl
theorem rev_mem {k : Bool} {x : Int} {ns : List Int} (h : x ∈ sortI k ns) : x ∈ ns := by
  cases k with
  | false => exact (sortU_perm ns).mem_iff.mp h
  | true => exact (sortU_perm ns).mem_iff.mp (List.mem_reverse.mp h)
theorem sortI_len (k : Bool) (ns : List Int) : (sortI k ns).length = ns.length := by
  cases k with
  | false => exact (sortU_perm ns).length_eq
  | true =>
    show (sortU ns).reverse.length = _
    rw [List.length_reverse]
    exact (sortU_perm ns).length_eq
theorem sort_down (ns : List Int) : (sortI true ns).Pairwise (· ≥ ·) := by
  show (sortU ns).reverse.Pairwise (· ≥ ·)
  rw [List.pairwise_reverse]
  exact sortU_ord ns
theorem filter_its (p : Int → Bool) (q : D → Bool) (h : ∀ i, q (.int i) = p i) : ∀ ns : List Int, (its ns).filter q = its (ns.filter p)
  | [] => rfl
  | n :: ns => by
    show (D.int n :: its ns).filter q = _
    cases e : p n with
    | true => rw [List.filter_cons_of_pos (by rw [h, e]), filter_its p q h ns, List.filter_cons_of_pos e]; rfl
    | false => rw [List.filter_cons_of_neg (by rw [h, e]; exact Bool.false_ne_true), filter_its p q h ns, List.filter_cons_of_neg (by rw [e]; exact Bool.false_ne_true)]
def intD : D → Int
  | .int i => i
  | _ => 0
end HC
namespace HC
theorem iapp_to {fn : List SO → List D → ResI} {e : CE} {σ : Sl} {S : List SO} {x : D} {fx : Bool} {r : ResI} (h : e σ S = .ok x fx) (h2 : fn S [x] = r) : iApp fn (cCons e cNil) σ S = r := (iapp1 h).trans h2
theorem ival_l {e : CE} {σ : Sl} {S : List SO} {xs : List D} {fx : Bool} (h : e σ S = .ok (.lst xs) fx) : iVal e σ S = .st xs := by unfold iVal; rw [h]
theorem ival_t {e : CE} {σ : Sl} {S : List SO} {xs : List D} {fx : Bool} (h : e σ S = .ok (.tup xs) fx) : iVal e σ S = .st xs := by unfold iVal; rw [h]
theorem ival_d {e : CE} {σ : Sl} {S : List SO} {n : Nat} {xs : List D} {fx : Bool} (h : e σ S = .ok (.loc n) fx) (hg : gets S n = some (.lst xs)) : iVal e σ S = .dy fun S => lstOf S (.loc n) := by
  unfold iVal
  rw [h]
  simp only [lstOf, hg]
end HC
namespace HC
theorem cut_h (xs : List D) (k : Nat) : cutD xs none (some (k : Int)) = xs.take k := by
  show (xs.drop 0).take ((if k ≤ xs.length then k else xs.length) - 0) = _
  rw [List.drop_zero, Nat.sub_zero]
  split
  · rfl
  · rw [List.take_of_length_le (Nat.le_refl _), List.take_of_length_le (by omega)]
theorem cut_l (xs : List D) (k : Nat) : cutD xs (some (k : Int)) none = xs.drop k := by
  show (xs.drop (if k ≤ xs.length then k else xs.length)).take (xs.length - (if k ≤ xs.length then k else xs.length)) = _
  split
  · rw [List.take_of_length_le (by rw [List.length_drop]; exact Nat.le_refl _)]
  · rw [List.drop_of_length_le (Nat.le_refl _), List.drop_of_length_le (by omega), List.take_nil]
theorem cut_lh (xs : List D) (a b : Nat) : cutD xs (some (a : Int)) (some (b : Int)) = (xs.drop a).take (b - a) := by
  show (xs.drop (if a ≤ xs.length then a else xs.length)).take ((if b ≤ xs.length then b else xs.length) - (if a ≤ xs.length then a else xs.length)) = _
  by_cases h : a ≤ xs.length
  · rw [if_pos h]
    split
    · rfl
    · rw [List.take_of_length_le (by rw [List.length_drop]; omega), List.take_of_length_le (by rw [List.length_drop]; omega)]
  · rw [if_neg h, List.drop_of_length_le (Nat.le_refl _), List.drop_of_length_le (by omega), List.take_nil, List.take_nil]
section
variable {f l h : CE} {σ : Sl} {S : List SO} {xs : List D} {fx fl fh : Bool} {a b n : Nat}
theorem cutH_t (hf : f σ S = .ok (.tup xs) fx) (hh : h σ S = .ok (.int b) fh) : cCutH f h σ S = .ok (.tup (xs.take b)) false := by
  unfold cCutH cTwo kInt
  simp only [hf, hh]
  show Res.ok (.tup (cutD xs none (some (b : Int)))) false = _
  rw [cut_h]
theorem cutL_t (hf : f σ S = .ok (.tup xs) fx) (hl : l σ S = .ok (.int a) fl) : cCutL f l σ S = .ok (.tup (xs.drop a)) false := by
  unfold cCutL cTwo kInt
  simp only [hf, hl]
  show Res.ok (.tup (cutD xs (some (a : Int)) none)) false = _
  rw [cut_l]
theorem cutLH_t (hf : f σ S = .ok (.tup xs) fx) (hl : l σ S = .ok (.int a) fl) (hh : h σ S = .ok (.int b) fh) : cCutLH f l h σ S = .ok (.tup ((xs.drop a).take (b - a))) false := by
  unfold cCutLH cTwo kInt
  simp only [hf, hl, hh]
  show Res.ok (.tup (cutD xs (some (a : Int)) (some (b : Int)))) false = _
  rw [cut_lh]
theorem cutL_d (hf : f σ S = .ok (.loc n) fx) (hg : gets S n = some (.lst xs)) (hp : pureL xs = true) (hl : l σ S = .ok (.int a) fl) : cCutL f l σ S = .ok (.lst (xs.drop a)) true := by
  unfold cCutL cTwo kInt
  simp only [hf, hl]
  show (match (match gets S n with | some (.lst xs) => some xs | _ => none) with | some xs => if pureL xs = true then Res.ok (.lst (cutD xs (some (a : Int)) none)) true else Res.bad | none => Res.bad) = _
  simp only [hg, hp, if_true]
  rw [cut_l]
theorem comp_dy {it : CI} {A : TgF} {ws : List Nat} {t f : CE} {i : List SO → Option (List D)} {ds r : List D} (hi : it σ S = .dy i) (hd : i S = some ds) (h : compL A t f (wipeD σ ws) S ds = some r) : cComp it A ws t f σ S = .ok (.lst r) true := by
  unfold cComp kComp
  simp only [hi, hd, h]
theorem sub_ok {fe fo fi : CE} {y : D} {k : Nat} (he : fe σ S = .ok y fx) (ho : fo σ S = .ok (.loc n) fl) (hi : fi σ S = .ok (.int k) fh) (hg : gets S n = some (.lst xs)) (hk : k < xs.length) : sSub fe fo fi σ S = .nx σ (S.set n (.lst (xs.set k y))) := by
  unfold sSub sTwo sVal kSub locL putL
  simp only [he, ho, hi, hg]
  show (match (if k < xs.length then some (xs.set k y) else none) with | some ys => RS.nx σ (S.set n (.lst ys)) | none => RS.bad) = _
  rw [if_pos hk]
theorem len_t (hf : f σ S = .ok (.tup xs) fx) : cApp fLen (cCons f cNil) σ S = .ok (.int xs.length) false := app_to hf rfl
theorem len_d (hf : f σ S = .ok (.loc n) fx) (hg : gets S n = some (.lst xs)) : cApp fLen (cCons f cNil) σ S = .ok (.int xs.length) false := app_to hf (by
  unfold fLen seqOf rdOf lstOf
  simp only [hg])
end
theorem take_its (ns : List Int) (k : Nat) : (its ns).take k = its (ns.take k) := (List.map_take ..).symm
theorem drop_its (ns : List Int) (k : Nat) : (its ns).drop k = its (ns.drop k) := (List.map_drop ..).symm
theorem sum_t {S : List SO} (ns : List Int) : fSum S [.tup (its ns)] = .ok (.int (sumI ns)) false := by
  show (match intsOf (its ns) with | some ns => Res.ok (.int (sumI ns)) false | none => Res.bad) = _
  rw [ints_its]
theorem sum_l {S : List SO} (ns : List Int) : fSum S [.lst (its ns)] = .ok (.int (sumI ns)) false := by
  show (match intsOf (its ns) with | some ns => Res.ok (.int (sumI ns)) false | none => Res.bad) = _
  rw [ints_its]
end HC

set_option maxRecDepth 100000
namespace HC
open PySem

/-! ## what repr shows is short enough -/
def Itm (d : D) (dp w : Nat) : Prop := ∃ x, pyD true d = some x ∧ x.showable = true ∧ x.depth ≤ dp ∧ x.leavesShort 700 = true ∧ x.weight ≤ w
def Itms (ds : List D) (dp w : Nat) : Prop := ∃ xs, pyDs true ds = some xs ∧ PyData.showableAll xs = true ∧ PyData.depthAll xs ≤ dp ∧ PyData.leavesShortAll 700 xs = true ∧ PyData.weightAll xs ≤ w
theorem itm_non {dp w : Nat} : Itm .non dp w := ⟨_, rfl, by simp [PyData.showable], by simp [PyData.depth], by simp [PyData.leavesShort], by simp [PyData.weight]⟩
theorem itm_bl {b : Bool} {dp w : Nat} : Itm (.bl b) dp w := ⟨_, rfl, by simp [PyData.showable], by simp [PyData.depth], by simp [PyData.leavesShort], by simp [PyData.weight]⟩
theorem itm_int {i : Int} {dp : Nat} (h : i.natAbs.log2 < 600) : Itm (.int i) dp 601 := by
  refine ⟨_, rfl, ?_, ?_, ?_, ?_⟩
  · simp only [PyData.showable, decide_eq_true_eq]
    omega
  · simp [PyData.depth]
  · simp only [PyData.leavesShort, decide_eq_true_eq]
    have h1 := int_text_length_le (a := i) (k := 600) (by decide) h
    have e : (PyData.shown (.int i)).length = (toString i).length := by
      simp only [PyData.shown]
      exact ofString_length _
    omega
  · simp only [PyData.weight]
    split <;> omega
theorem itm_str {x : Str} {dp w : Nat} (h : (x.cps.toList.all fun c => decide (c < 16 ^ 8)) = true) (hw : x.cps.size ≤ w) : Itm (.str x) dp w :=
  ⟨_, rfl, by simp [PyData.showable], by simp [PyData.depth], by simpa only [PyData.leavesShort] using h, by simpa only [PyData.weight] using hw⟩
theorem itms_nil {dp : Nat} : Itms [] dp 0 := ⟨[], rfl, by simp [PyData.showableAll], by simp [PyData.depthAll], by simp [PyData.leavesShortAll], by simp [PyData.weightAll]⟩
theorem itms_cons {d : D} {ds : List D} {dp w w2 : Nat} (h : Itm d dp w) (r : Itms ds dp w2) : Itms (d :: ds) dp (w + 1 + w2) := by
  obtain ⟨x, a1, a2, a3, a4, a5⟩ := h
  obtain ⟨xs, b1, b2, b3, b4, b5⟩ := r
  refine ⟨x :: xs, by unfold pyDs; simp only [a1, b1], ?_, ?_, ?_, ?_⟩
  · simp only [PyData.showableAll, a2, b2]; rfl
  · simp only [PyData.depthAll]; omega
  · simp only [PyData.leavesShortAll, a4, b4]; rfl
  · simp only [PyData.weightAll]; omega
theorem itms_of {dp w : Nat} : ∀ {ds : List D}, (∀ d ∈ ds, Itm d dp w) → Itms ds dp (ds.length * (w + 1))
  | [], _ => by simpa using itms_nil
  | d :: ds, h => by
    have := itms_cons (h d (List.mem_cons_self ..)) (itms_of fun e he => h e (List.mem_cons_of_mem _ he))
    rw [List.length_cons, Nat.add_mul, Nat.one_mul, Nat.add_comm]
    exact this
theorem Itm.le {d : D} {dp w dp2 w2 : Nat} (h : Itm d dp w) (h1 : dp ≤ dp2) (h2 : w ≤ w2) : Itm d dp2 w2 := by
  obtain ⟨x, a1, a2, a3, a4, a5⟩ := h
  exact ⟨x, a1, a2, by omega, a4, by omega⟩
theorem itm_tup {ds : List D} {dp w : Nat} (h : Itms ds dp w) : Itm (.tup ds) (dp + 1) w := by
  obtain ⟨xs, b1, b2, b3, b4, b5⟩ := h
  refine ⟨.tuple xs, by unfold pyD; simp only [b1], ?_, ?_, ?_, ?_⟩
  · simpa only [PyData.showable] using b2
  · simp only [PyData.depth]; omega
  · simpa only [PyData.leavesShort] using b4
  · simpa only [PyData.weight] using b5
theorem itm_lst {ds : List D} {dp w : Nat} (h : Itms ds dp w) : Itm (.lst ds) (dp + 1) w := by
  obtain ⟨xs, b1, b2, b3, b4, b5⟩ := h
  refine ⟨.list xs, by unfold pyD; simp only [b1, if_true], ?_, ?_, ?_, ?_⟩
  · simpa only [PyData.showable] using b2
  · simp only [PyData.depth]; omega
  · simpa only [PyData.leavesShort] using b4
  · simpa only [PyData.weight] using b5
theorem shw_of {x : PyData} (a2 : x.showable = true) (a3 : x.depth ≤ 60) (a4 : x.leavesShort 700 = true) (a5 : x.weight ≤ 20000) : shw x = .ok (.str x.shown) false := by
  have h1 := PyData.shown_le 700 (by decide) x a4
  unfold shw
  rw [a2, decide_eq_true a3, decide_eq_true (show x.shown.length ≤ lim by
    have : (700 + 2) * x.weight ≤ 702 * 20000 := Nat.mul_le_mul (by decide) a5
    unfold lim
    omega)]
  rfl
theorem rep_of {d : D} (h : Itm d 60 20000) : ∃ s, ∀ S, fRepr S [d] = .ok (.str s) false := by
  obtain ⟨x, a1, a2, a3, a4, a5⟩ := h
  refine ⟨x.shown, fun S => ?_⟩
  have hp : lends S [d] = true := by cases d <;> first | rfl | exact nomatch a1
  have hl : look S d = d := by cases d <;> first | rfl | exact nomatch a1
  show (if lends S [d] = true then (match pyD true (look S d) with | some x => shw x | none => _) else _) = _
  rw [hp, if_pos rfl, hl, a1]
  exact shw_of a2 a3 a4 a5
theorem rep_dct {ks ds : List D} {x : PyData} (h : pyD false (.dct ks ds) = some x) (a2 : x.showable = true) (a3 : x.depth ≤ 60) (a4 : x.leavesShort 700 = true) (a5 : x.weight ≤ 20000) : ∃ s, ∀ S, fRepr S [.dct ks ds] = .ok (.str s) false := by
  refine ⟨x.shown, fun S => ?_⟩
  show (match pyD true (.dct ks ds) with | some x => shw x | none => match pyD false (.dct ks ds) with | some x => shw x | none => Res.bad) = _
  rw [show pyD true (.dct ks ds) = none from rfl, h]
  exact shw_of a2 a3 a4 a5
end HC

set_option maxRecDepth 100000
namespace HC

/-! ## to run a def by simp -/
def rB (r : Res) (k : D → Res) : Res := match r with
  | .ok d _ => k d
  | .ex c as => .ex c as
  | .bad => .bad
def aB (r : Res) (k : D → ResL) : ResL := match r with
  | .ok d _ => k d
  | .ex c as => .ex c as
  | .bad => .bad
def lB (r : ResL) (k : List D → Res) : Res := match r with
  | .ok d => k d
  | .ex c as => .ex c as
  | .bad => .bad
def llB (r : ResL) (k : List D → ResL) : ResL := match r with
  | .ok d => k d
  | .ex c as => .ex c as
  | .bad => .bad
def liB (r : ResL) (k : List D → ResI) : ResI := match r with
  | .ok d => k d
  | .ex c as => .ex c as
  | .bad => .bad
def lsB (r : ResL) (σ : Sl) (S : List SO) (k : List D → RS) : RS := match r with
  | .ok d => k d
  | .ex c as => .ex c as σ S
  | .bad => .bad
def vB (r : Res) (σ : Sl) (S : List SO) (k : D → Bool → RS) : RS := match r with
  | .ok d fr => k d fr
  | .ex c as => .ex c as σ S
  | .bad => .bad
def sB (r : RS) (k : SC) : RS := match r with
  | .nx σ S => k σ S
  | x => x
def tB (r : Res) (k : Bool → Res) : Res := match r with
  | .ok (.bl b) _ => k b
  | .ok _ _ => .bad
  | .ex c as => .ex c as
  | .bad => .bad
def iS (r : Res) (σ : Sl) (S : List SO) (k : Bool → RS) : RS := match r with
  | .ok (.bl b) _ => k b
  | .ok _ _ => .bad
  | .ex c as => .ex c as σ S
  | .bad => .bad
def fB (r : ResI) (A : TgF) (body : SC) (σ : Sl) (S : List SO) : RS := match r with
  | .st ds => forL A body ds σ S
  | .dy it => forD A body it fuel 0 σ S
  | .ex c as => .ex c as σ S
  | .bad => .bad
def oS (r : RS) (k : SC) : RS := match r with
  | .nx σ S => k σ S
  | .ct σ S => k σ S
  | .bk σ S => .nx σ S
  | r => r
def gB (r : Option Sl) (k : Sl → RS) : RS := match r with
  | some σ => k σ
  | none => .bad
def fin (r : RS) : Res := match r with
  | .rt d fr => .ok d fr
  | .nx _ _ => .ok .non false
  | .ex c as _ _ => if pureL as then .ex c as else .bad
  | _ => .bad
def vO (o : Option (Option D)) : Res := match o with
  | some (some d) => .ok d false
  | _ => .bad
def newK (i : Nat) (σ : Sl) (S : List SO) (d : D) (fr : Bool) : RS := match fr with
  | true => match d with
    | .lst xs => .nx (setD σ i (.loc S.length)) (S ++ [.lst xs])
    | .dct ks ws => .nx (setD σ i (.loc S.length)) (S ++ [.dct ks ws])
    | _ => .bad
  | false => .bad
def trO (o : Option Bool) (k : Bool → Res) : Res := match o with
  | some b => k b
  | none => .bad
def oD (o : Option D) : Res := match o with
  | some d => .ok d false
  | none => .bad
def oL (o : Option (List D)) (k : List D → Res) : Res := match o with
  | some d => k d
  | none => .bad
section
variable {d : D} {f : Bool} {k : D → Res} {kb : Bool → Res} {c : Nat} {as : List D} {ka : D → ResL} {kl : List D → Res} {kll : List D → ResL} {ki : List D → ResI} {ks : List D → RS} {kv : D → Bool → RS} {ds : List D} {σ σ1 : Sl} {S S1 : List SO} {r s : SC} {kg : Sl → RS}
  {ki2 : Bool → RS} {b : Bool} {A : TgF} {it : List SO → Option (List D)}
@[simp] theorem rB_ok : rB (.ok d f) k = k d := id rfl
@[simp] theorem rB_ex : rB (.ex c as) k = .ex c as := id rfl
@[simp] theorem rB_bad : rB .bad k = .bad := id rfl
@[simp] theorem aB_ok : aB (.ok d f) ka = ka d := id rfl
@[simp] theorem aB_ex : aB (.ex c as) ka = .ex c as := id rfl
@[simp] theorem aB_bad : aB .bad ka = .bad := id rfl
@[simp] theorem lB_ok : lB (.ok ds) kl = kl ds := id rfl
@[simp] theorem lB_ex : lB (.ex c as) kl = .ex c as := id rfl
@[simp] theorem lB_bad : lB .bad kl = .bad := id rfl
@[simp] theorem llB_ok : llB (.ok ds) kll = kll ds := id rfl
@[simp] theorem llB_ex : llB (.ex c as) kll = .ex c as := id rfl
@[simp] theorem llB_bad : llB .bad kll = .bad := id rfl
@[simp] theorem liB_ok : liB (.ok ds) ki = ki ds := id rfl
@[simp] theorem liB_ex : liB (.ex c as) ki = .ex c as := id rfl
@[simp] theorem liB_bad : liB .bad ki = .bad := id rfl
@[simp] theorem lsB_ok : lsB (.ok ds) σ S ks = ks ds := id rfl
@[simp] theorem lsB_ex : lsB (.ex c as) σ S ks = .ex c as σ S := id rfl
@[simp] theorem lsB_bad : lsB .bad σ S ks = .bad := id rfl
@[simp] theorem vB_ok : vB (.ok d f) σ S kv = kv d f := id rfl
@[simp] theorem vB_ex : vB (.ex c as) σ S kv = .ex c as σ S := id rfl
@[simp] theorem vB_bad : vB .bad σ S kv = .bad := id rfl
@[simp] theorem sB_nx : sB (.nx σ S) r = r σ S := id rfl
@[simp] theorem sB_rt : sB (.rt d f) r = .rt d f := id rfl
@[simp] theorem sB_bk : sB (.bk σ S) r = .bk σ S := id rfl
@[simp] theorem sB_ct : sB (.ct σ S) r = .ct σ S := id rfl
@[simp] theorem sB_ex : sB (.ex c as σ S) r = .ex c as σ S := id rfl
@[simp] theorem sB_bad : sB .bad r = .bad := id rfl
@[simp] theorem tB_ok : tB (.ok (.bl b) f) kb = kb b := id rfl
@[simp] theorem tB_ex : tB (.ex c as) kb = .ex c as := id rfl
@[simp] theorem tB_bad : tB .bad kb = .bad := id rfl
@[simp] theorem iS_ok : iS (.ok (.bl b) f) σ S ki2 = ki2 b := id rfl
@[simp] theorem iS_ex : iS (.ex c as) σ S ki2 = .ex c as σ S := id rfl
@[simp] theorem iS_bad : iS .bad σ S ki2 = .bad := id rfl
@[simp] theorem fB_st : fB (.st ds) A r σ S = forL A r ds σ S := id rfl
@[simp] theorem fB_dy : fB (.dy it) A r σ S = forD A r it fuel 0 σ S := id rfl
@[simp] theorem fB_ex : fB (.ex c as) A r σ S = .ex c as σ S := id rfl
@[simp] theorem fB_bad : fB .bad A r σ S = .bad := id rfl
@[simp] theorem oS_nx : oS (.nx σ S) r = r σ S := id rfl
@[simp] theorem oS_ct : oS (.ct σ S) r = r σ S := id rfl
@[simp] theorem oS_bk : oS (.bk σ S) r = .nx σ S := id rfl
@[simp] theorem oS_rt : oS (.rt d f) r = .rt d f := id rfl
@[simp] theorem oS_ex : oS (.ex c as σ S) r = .ex c as σ S := id rfl
@[simp] theorem oS_bad : oS .bad r = .bad := id rfl
@[simp] theorem gB_s : gB (some σ) kg = kg σ := id rfl
@[simp] theorem gB_n : gB none kg = .bad := id rfl
@[simp] theorem fin_rt : fin (.rt d f) = .ok d f := id rfl
@[simp] theorem fin_nx : fin (.nx σ S) = .ok .non false := id rfl
@[simp] theorem fin_ex : fin (.ex c as σ S) = if pureL as then .ex c as else .bad := id rfl
@[simp] theorem fin_bad : fin .bad = .bad := id rfl
@[simp] theorem vO_s : vO (some (some d)) = .ok d false := id rfl
@[simp] theorem trO_s : trO (some b) kb = kb b := id rfl
@[simp] theorem oD_s : oD (some d) = .ok d false := id rfl
@[simp] theorem oL_s : oL (some ds) kl = kl ds := id rfl
@[simp] theorem newK_l : newK c σ S (.lst ds) true = .nx (setD σ c (.loc S.length)) (S ++ [.lst ds]) := id rfl
@[simp] theorem newK_d : newK c σ S (.dct as ds) true = .nx (setD σ c (.loc S.length)) (S ++ [.dct as ds]) := id rfl
variable {p : Prop} [Decidable p] {x y : Res} {xl yl : ResL} {xs ys : RS} {xi yi : ResI}
@[simp] theorem rB_if : rB (if p then x else y) k = if p then rB x k else rB y k := apply_ite (rB · k) ..
@[simp] theorem aB_if : aB (if p then x else y) ka = if p then aB x ka else aB y ka := apply_ite (aB · ka) ..
@[simp] theorem lB_if : lB (if p then xl else yl) kl = if p then lB xl kl else lB yl kl := apply_ite (lB · kl) ..
@[simp] theorem llB_if : llB (if p then xl else yl) kll = if p then llB xl kll else llB yl kll := apply_ite (llB · kll) ..
@[simp] theorem liB_if : liB (if p then xl else yl) ki = if p then liB xl ki else liB yl ki := apply_ite (liB · ki) ..
@[simp] theorem lsB_if : lsB (if p then xl else yl) σ S ks = if p then lsB xl σ S ks else lsB yl σ S ks := apply_ite (lsB · σ S ks) ..
@[simp] theorem vB_if : vB (if p then x else y) σ S kv = if p then vB x σ S kv else vB y σ S kv := apply_ite (vB · σ S kv) ..
@[simp] theorem sB_if : sB (if p then xs else ys) r = if p then sB xs r else sB ys r := apply_ite (sB · r) ..
@[simp] theorem oS_if : oS (if p then xs else ys) r = if p then oS xs r else oS ys r := apply_ite (oS · r) ..
@[simp] theorem tB_if : tB (if p then x else y) kb = if p then tB x kb else tB y kb := apply_ite (tB · kb) ..
@[simp] theorem iS_if : iS (if p then x else y) σ S ki2 = if p then iS x σ S ki2 else iS y σ S ki2 := apply_ite (iS · σ S ki2) ..
@[simp] theorem fin_if : fin (if p then xs else ys) = if p then fin xs else fin ys := apply_ite fin ..
end

section
variable {f r a b : SC} {e e1 e2 e3 t : CE} {σ : Sl} {S : List SO} {i n np : Nat} {d x y : D} {fr : Bool} {ca : CA} {ds xs : List D} {op : List SO → D → D → Res} {fn : List SO → List D → Res} {fi : List SO → List D → ResI} {m : FnS} {ci : CI} {A : TgF} {As : TgsF} {lm : LM} {ix ws : List Nat} {o : SO}
@[simp] theorem gets_z {α : Type} {q : α} {l : List α} : gets (q :: l) 0 = some q := id rfl
@[simp] theorem gets_s {α : Type} {q : α} {l : List α} : gets (q :: l) (n + 1) = gets l n := id rfl
@[simp] theorem gets_n {α : Type} : gets ([] : List α) n = none := id rfl
@[simp] theorem cVar_e : cVar i σ S = vO (gets σ i) := id rfl
@[simp] theorem cD_e : cD d σ S = .ok d false := id rfl
@[simp] theorem cTrue_e : cTrue σ S = .ok (.bl true) false := id rfl
@[simp] theorem cBin_e : cBin op e1 e2 σ S = rB (e1 σ S) fun x => rB (e2 σ S) fun y => op S x y := by unfold cBin; cases e1 σ S <;> first | rfl | (dsimp only [rB]; cases e2 σ S <;> rfl)
@[simp] theorem cTru_e : cTru e σ S = rB (e σ S) fun d => trO (truth S d) fun b => .ok (.bl b) false := by unfold cTru; cases e σ S <;> first | rfl | (dsimp only [rB]; cases truth S _ <;> rfl)
@[simp] theorem cNot_e : cNot e σ S = rB (e σ S) fun d => trO (truth S d) fun b => .ok (.bl (!b)) false := by unfold cNot; cases e σ S <;> first | rfl | (dsimp only [rB]; cases truth S _ <;> rfl)
@[simp] theorem cAnd_e : cAnd e1 e2 σ S = rB (e1 σ S) fun d => trO (truth S d) fun b => if b = true then e2 σ S else .ok d false := by
  unfold cAnd; cases e1 σ S <;> first | rfl | (dsimp only [rB]; cases truth S _ with | none => rfl | some b => cases b <;> rfl)
@[simp] theorem cOr_e : cOr e1 e2 σ S = rB (e1 σ S) fun d => trO (truth S d) fun b => if b = true then .ok d false else e2 σ S := by
  unfold cOr; cases e1 σ S <;> first | rfl | (dsimp only [rB]; cases truth S _ with | none => rfl | some b => cases b <;> rfl)
theorem two_e {kt kf : Res} (r : Res) : (match r with | .ok (.bl true) _ => kt | .ok (.bl false) _ => kf | .ok _ _ => .bad | .ex c as => .ex c as | .bad => .bad) = tB r fun b => if b = true then kt else kf := by
  cases r with
  | ok d f => cases d with
    | bl b => cases b <;> rfl
    | _ => rfl
  | _ => rfl
@[simp] theorem cIf_e : cIf t e1 e2 σ S = tB (t σ S) fun b => if b = true then e1 σ S else e2 σ S := two_e _
@[simp] theorem cAndB_e : cAndB e1 e2 σ S = tB (e1 σ S) fun b => if b = true then e2 σ S else .ok (.bl false) false := two_e _
@[simp] theorem cOrB_e : cOrB e1 e2 σ S = tB (e1 σ S) fun b => if b = true then .ok (.bl true) false else e2 σ S := two_e _
@[simp] theorem cNotB_e : cNotB e σ S = tB (e σ S) fun b => .ok (.bl (!b)) false := by
  unfold cNotB; cases e σ S with
  | ok d f => cases d <;> rfl
  | _ => rfl
@[simp] theorem cNeg_i {j : Int} (h : e σ S = .ok (.int j) fr) : cNeg e σ S = .ok (.int (-j)) false := by unfold cNeg; rw [h]
@[simp] theorem cNil_e : cNil σ S = .ok [] := id rfl
@[simp] theorem cCons_e : cCons e ca σ S = aB (e σ S) fun d => llB (ca σ S) fun ds => .ok (d :: ds) := by unfold cCons; cases e σ S <;> first | rfl | (dsimp only [aB]; cases ca σ S <;> rfl)
@[simp] theorem cApp_e : cApp fn ca σ S = lB (ca σ S) (fn S) := by unfold cApp; cases ca σ S <;> rfl
@[simp] theorem iApp_e : iApp fi ca σ S = liB (ca σ S) (fi S) := by unfold iApp; cases ca σ S <;> rfl
@[simp] theorem sSkip_e : sSkip σ S = .nx σ S := id rfl
@[simp] theorem sBreak_e : sBreak σ S = .bk σ S := id rfl
@[simp] theorem sCont_e : sCont σ S = .ct σ S := id rfl
@[simp] theorem sRetN_e : sRetN σ S = .rt .non false := id rfl
@[simp] theorem sSeq_e : sSeq f r σ S = sB (f σ S) r := by unfold sSeq; cases f σ S <;> rfl
@[simp] theorem sAsg_e : sAsg i e σ S = vB (e σ S) σ S fun d _ => .nx (setD σ i d) S := by unfold sAsg sVal; cases e σ S <;> rfl
@[simp] theorem sNew_e : sNew i e σ S = vB (e σ S) σ S (newK i σ S) := by unfold sNew sVal; cases e σ S <;> rfl
@[simp] theorem sExpr_e : sExpr e σ S = vB (e σ S) σ S fun _ _ => .nx σ S := by unfold sExpr sVal; cases e σ S <;> rfl
@[simp] theorem sRet_e : sRet e σ S = vB (e σ S) σ S (retD S) := by unfold sRet sVal; cases e σ S <;> rfl
@[simp] theorem sIf_e : sIf t a b σ S = iS (t σ S) σ S fun c => if c = true then a σ S else b σ S := by
  unfold sIf; cases t σ S with
  | ok d f => cases d with
    | bl c => cases c <;> rfl
    | _ => rfl
  | _ => rfl
@[simp] theorem sAsgT_e : sAsgT A e σ S = vB (e σ S) σ S fun d _ => gB (A d σ) fun σ1 => .nx σ1 S := by unfold sAsgT sVal; cases e σ S <;> first | rfl | (dsimp only [vB]; cases A _ σ <;> rfl)
@[simp] theorem sFor_e : sFor ci A f σ S = fB (ci σ S) A f σ S := by unfold sFor; cases ci σ S <;> rfl
@[simp] theorem sWhile_e : sWhile t f σ S = whileF t f fuel σ S := id rfl
theorem whileF_s {k : Nat} : whileF t f (k + 1) σ S = iS (t σ S) σ S fun c => if c = true then oS (f σ S) (whileF t f k) else .nx σ S := by
  conv => lhs; unfold whileF
  cases t σ S with
  | ok d fr => cases d with
    | bl c => cases c with
      | true => show _ = oS (f σ S) _; dsimp only; cases f σ S <;> rfl
      | false => rfl
    | _ => rfl
  | _ => rfl
@[simp] theorem forL_n : forL A f [] σ S = .nx σ S := id rfl
@[simp] theorem forL_c : forL A f (d :: ds) σ S = gB (A d σ) fun σ1 => oS (f σ1 S) (forL A f ds) := by
  conv => lhs; unfold forL
  cases A d σ with
  | none => rfl
  | some σ1 => show _ = oS (f σ1 S) _; dsimp only; cases f σ1 S <;> rfl
@[simp] theorem setD_e : setD σ i d = σ.set i (some d) := id rfl
@[simp] theorem tgName_e : tgName i d σ = some (σ.set i (some d)) := id rfl
@[simp] theorem tgTup_e : tgTup n As (.tup ds) σ = if ds.length = n then As ds σ else none := id rfl
def tB2 (o : Option Sl) (k : Sl → Option Sl) : Option Sl := match o with
  | some σ => k σ
  | none => none
@[simp] theorem tB2_s {k : Sl → Option Sl} : tB2 (some σ) k = k σ := id rfl
@[simp] theorem tgCons_e : tgCons A As (d :: ds) σ = tB2 (A d σ) (As ds) := id rfl
@[simp] theorem tgNil_e : tgNil [] σ = some σ := id rfl
@[simp] theorem runF_e : runF np n f ds = if ds.length = np then fin (f (startD n ds) []) else .bad := by unfold runF fin; rfl
@[simp] theorem startD_e : startD n ds = ds.map some ++ List.replicate (n - ds.length) none := id rfl
@[simp] theorem callD_e (h : pureL ds = true) : callD m S ds = m ds := call_p h
@[simp] theorem callKw_e (h : ds.length = n) : callKw ix n m S ds = callD m S (pick .non ix ds) := by unfold callKw; rw [if_pos h]
@[simp] theorem pick_e {α : Type} {z : α} {xs : List α} : pick z ix xs = ix.map fun i => xs.getD i z := id rfl
@[simp] theorem pureL_n : pureL [] = true := id rfl
@[simp] theorem pureL_c : pureL (d :: ds) = (d.pure && pureL ds) := id rfl
@[simp] theorem pure_non : D.pure .non = true := id rfl
@[simp] theorem pure_bl {b : Bool} : D.pure (.bl b) = true := id rfl
@[simp] theorem pure_int {j : Int} : D.pure (.int j) = true := id rfl
@[simp] theorem pure_str {j : PySem.Str} : D.pure (.str j) = true := id rfl
@[simp] theorem pure_tup : D.pure (.tup xs) = true := id rfl
@[simp] theorem pure_lst : D.pure (.lst xs) = true := id rfl
@[simp] theorem pure_rol : D.pure (.rol xs) = true := id rfl
@[simp] theorem pure_dct : D.pure (.dct ds xs) = true := id rfl
@[simp] theorem pure_obj : D.pure (.obj n xs) = true := id rfl
@[simp] theorem pureL_its' {ns : List Int} : pureL (List.map D.int ns) = true := pure_its ns
/-! operators -/
variable {j k : Int}
@[simp] theorem bAdd_i : bAdd S (.int j) (.int k) = .ok (.int (j + k)) false := id rfl
@[simp] theorem bAdd_t : bAdd S (.tup ds) (.tup xs) = if ds.length + xs.length ≤ lim then .ok (.tup (ds ++ xs)) false else .bad := id rfl
@[simp] theorem bAdd_l : bAdd S (.lst ds) (.lst xs) = if ds.length + xs.length ≤ lim then (if pureL ds && pureL xs then .ok (.lst (ds ++ xs)) true else .bad) else .bad := id rfl
@[simp] theorem bSub_i : bSub S (.int j) (.int k) = .ok (.int (j - k)) false := id rfl
@[simp] theorem bMod_i : bMod S (.int j) (.int k) = if 0 < k then .ok (.int (j % k)) false else .bad := id rfl
@[simp] theorem bCmp_i {p : Int → Int → Bool} : bCmp p S (.int j) (.int k) = .ok (.bl (p j k)) false := id rfl
@[simp] theorem bEq_i : bEq S (.int j) (.int k) = .ok (.bl (decide (j = k))) false := id rfl
@[simp] theorem bNe_i : bNe S (.int j) (.int k) = .ok (.bl (!decide (j = k))) false := id rfl
@[simp] theorem bEq_s {j k : PySem.Str} : bEq S (.str j) (.str k) = .ok (.bl (decide (j = k))) false := id rfl
@[simp] theorem bNe_s {j k : PySem.Str} : bNe S (.str j) (.str k) = .ok (.bl (!decide (j = k))) false := id rfl
@[simp] theorem bEq_b {j k : Bool} : bEq S (.bl j) (.bl k) = .ok (.bl (decide (j = k))) false := id rfl
@[simp] theorem iAdd_i : iAdd S (.int j) (.int k) = .ok (.int (j + k)) false := id rfl
@[simp] theorem bIs_n : bIs S x .non = .ok (.bl (isNon x)) false := id rfl
@[simp] theorem bIsNot_n : bIsNot S x .non = .ok (.bl (!isNon x)) false := id rfl
@[simp] theorem bIs_b {b c : Bool} : bIs S (.bl b) (.bl c) = .ok (.bl (decide (b = c))) false := id rfl
@[simp] theorem bIsNot_b {b c : Bool} : bIsNot S (.bl b) (.bl c) = .ok (.bl (!decide (b = c))) false := id rfl
@[simp] theorem isNon_n : isNon .non = true := id rfl
@[simp] theorem isNon_b {b : Bool} : isNon (.bl b) = false := id rfl
@[simp] theorem isNon_i : isNon (.int j) = false := id rfl
@[simp] theorem isNon_t : isNon (.tup ds) = false := id rfl
@[simp] theorem isNon_l : isNon (.lst ds) = false := id rfl
@[simp] theorem truth_b {b : Bool} : truth S (.bl b) = some b := id rfl
@[simp] theorem truth_n : truth S .non = some false := id rfl
@[simp] theorem truth_i : truth S (.int j) = some (decide (j ≠ 0)) := by show some (j != 0) = _; by_cases h : j = 0 <;> simp [h, bne]
@[simp] theorem truth_t : truth S (.tup xs) = some (!xs.isEmpty) := id rfl
/-! lists that are read -/
def locO (o : Option SO) : Option (List D) := match o with
  | some (.lst xs) => some xs
  | _ => none
@[simp] theorem locO_l : locO (some (.lst xs)) = some xs := id rfl
@[simp] theorem lstOf_l : lstOf S (.lst xs) = some xs := id rfl
@[simp] theorem lstOf_o : lstOf S (.loc n) = locO (gets S n) := id rfl
@[simp] theorem rdOf_r : rdOf S (.rol xs) = some xs := id rfl
@[simp] theorem rdOf_l : rdOf S (.lst xs) = some xs := id rfl
@[simp] theorem rdOf_o : rdOf S (.loc n) = locO (gets S n) := id rfl
@[simp] theorem rdOf_t : rdOf S (.tup xs) = none := id rfl
@[simp] theorem seqOf_t : seqOf S (.tup xs) = some xs := id rfl
@[simp] theorem seqOf_r : seqOf S (.rol xs) = some xs := id rfl
@[simp] theorem seqOf_l : seqOf S (.lst xs) = some xs := id rfl
@[simp] theorem seqOf_o : seqOf S (.loc n) = locO (gets S n) := id rfl
@[simp] theorem fLen_s (h : seqOf S d = some xs) : fLen S [d] = .ok (.int xs.length) false := by dsimp only [fLen]; rw [h]
@[simp] theorem fInt_i : fInt S [.int j] = .ok (.int j) false := id rfl
@[simp] theorem fTuple_t : fTuple S [.tup xs] = .ok (.tup xs) false := id rfl
@[simp] theorem fTuple_l (p : pureL xs = true) : fTuple S [.lst xs] = .ok (.tup xs) false := by show (if pureL xs then _ else _) = _; rw [if_pos p]
theorem fTuple_o' (h : gets S n = some (.lst xs)) (p : pureL xs = true) : fTuple S [.loc n] = .ok (.tup xs) false := by
  show (match (match gets S n with | some (.lst xs) => some xs | _ => none) with | some xs => if pureL xs then _ else _ | none => _) = _
  rw [h]; dsimp only; rw [if_pos p]
def lO (o : Option (List D)) : Res := match o with
  | some xs => if pureL xs then .ok (.lst xs) true else .bad
  | none => .bad
def tO (o : Option (List D)) : Res := match o with
  | some xs => if pureL xs then .ok (.tup xs) false else .bad
  | none => .bad
@[simp] theorem lO_s : lO (some xs) = if pureL xs then .ok (.lst xs) true else .bad := id rfl
@[simp] theorem tO_s : tO (some xs) = if pureL xs then .ok (.tup xs) false else .bad := id rfl
@[simp] theorem fTuple_o : fTuple S [.loc n] = tO (locO (gets S n)) := id rfl
@[simp] theorem fList_e : fList S [d] = lO (seqOf S d) := id rfl
@[simp] theorem fSum_s {ns : List Int} (h : seqOf S d = some (its ns)) : fSum S [d] = .ok (.int (sumI ns)) false := by dsimp only [fSum]; rw [h]; dsimp only; rw [ints_its]
theorem fMax2_e : fMax2 S [.int j, .int k] = .ok (.int (if k > j then k else j)) false := id rfl
theorem fMin2_e : fMin2 S [.int j, .int k] = .ok (.int (if k < j then k else j)) false := id rfl
@[simp] theorem fMax2_n {a b : Nat} : fMax2 S [.int (a : Int), .int (b : Int)] = .ok (.int ((max a b : Nat) : Int)) false := by
  rw [fMax2_e]; congr 2; split <;> omega
@[simp] theorem fMin2_n {a b : Nat} : fMin2 S [.int (a : Int), .int (b : Int)] = .ok (.int ((min a b : Nat) : Int)) false := by
  rw [fMin2_e]; congr 2; split <;> omega
@[simp] theorem fTup_e : fTup S ds = if pureL ds && decide (ds.length ≤ lim) then .ok (.tup ds) false else .bad := id rfl
@[simp] theorem fLst_e : fLst S ds = if pureL ds && decide (ds.length ≤ lim) then .ok (.lst ds) true else .bad := id rfl
@[simp] theorem fIsi_e {cs : List Tg} : fIsi cs S [d] = (match tgD S d with | some t => .ok (.bl (cs.any (isa t))) false | none => .bad) := id rfl
@[simp] theorem tgD_non : tgD S .non = some .non := id rfl
@[simp] theorem tgD_bl {b : Bool} : tgD S (.bl b) = some .bool := id rfl
@[simp] theorem tgD_int : tgD S (.int j) = some .int := id rfl
@[simp] theorem tgD_str {j : PySem.Str} : tgD S (.str j) = some .str := id rfl
@[simp] theorem tgD_tup : tgD S (.tup xs) = some .tup := id rfl
@[simp] theorem tgD_lst : tgD S (.lst xs) = some .lst := id rfl
@[simp] theorem tgD_rol : tgD S (.rol xs) = some .lst := id rfl
@[simp] theorem tgD_dct : tgD S (.dct ds xs) = some .dct := id rfl
def iVo (n : Nat) (o : Option (List D)) : ResI := match o with
  | some _ => .dy fun S => lstOf S (.loc n)
  | none => .bad
def iV (r : Res) (S : List SO) : ResI := match r with
  | .ok (.tup xs) _ => .st xs
  | .ok (.lst xs) _ => .st xs
  | .ok (.rol xs) _ => .st xs
  | .ok (.loc n) _ => iVo n (lstOf S (.loc n))
  | .ok _ _ => .bad
  | .ex c as => .ex c as
  | .bad => .bad
@[simp] theorem iVo_s : iVo n (some xs) = .dy fun S => lstOf S (.loc n) := id rfl
@[simp] theorem iV_t {f : Bool} : iV (.ok (.tup xs) f) S = .st xs := id rfl
@[simp] theorem iV_l {f : Bool} : iV (.ok (.lst xs) f) S = .st xs := id rfl
@[simp] theorem iV_r {f : Bool} : iV (.ok (.rol xs) f) S = .st xs := id rfl
@[simp] theorem iV_o {f : Bool} : iV (.ok (.loc n) f) S = iVo n (lstOf S (.loc n)) := id rfl
@[simp] theorem iVal_e : iVal e σ S = iV (e σ S) S := by
  unfold iVal
  cases e σ S with
  | ok d f => cases d with
    | loc n => dsimp only [iV]; unfold iVo; cases lstOf S (.loc n) <;> rfl
    | _ => rfl
  | _ => rfl
@[simp] theorem enI_t : enI S [.tup xs] = .st (enumD 0 xs) := id rfl
@[simp] theorem enI_l : enI S [.lst xs] = .st (enumD 0 xs) := id rfl
@[simp] theorem enumD_n : enumD j [] = [] := id rfl
@[simp] theorem enumD_c : enumD j (d :: ds) = .tup [.int j, d] :: enumD (j + 1) ds := id rfl
@[simp] theorem rangeD_z : rangeD j 0 = [] := id rfl
@[simp] theorem rangeD_s : rangeD j (n + 1) = .int j :: rangeD (j + 1) n := id rfl
theorem rg1_nat (h : n ≤ 1000000) : rg1 S [.int n] = .st (rangeD 0 n) := by
  rw [rg1_n (by omega) (by omega)]; rfl
def retO (o : Option SO) : RS := match o with
  | some (.lst xs) => if pureL xs then .rt (.lst xs) true else .bad
  | some (.dct ks ws) => if pureL ws then .rt (.dct ks ws) true else .bad
  | _ => .bad
@[simp] theorem retO_l : retO (some (.lst xs)) = if pureL xs then .rt (.lst xs) true else .bad := id rfl
@[simp] theorem retO_d : retO (some (.dct ds xs)) = if pureL xs then .rt (.dct ds xs) true else .bad := id rfl
@[simp] theorem retD_non : retD S .non fr = .rt .non fr := id rfl
@[simp] theorem retD_bl {b : Bool} : retD S (.bl b) fr = .rt (.bl b) fr := id rfl
@[simp] theorem retD_int : retD S (.int j) fr = .rt (.int j) fr := id rfl
@[simp] theorem retD_str {j : PySem.Str} : retD S (.str j) fr = .rt (.str j) fr := id rfl
@[simp] theorem retD_tup : retD S (.tup xs) fr = .rt (.tup xs) fr := id rfl
@[simp] theorem retD_lst : retD S (.lst xs) fr = .rt (.lst xs) fr := id rfl
@[simp] theorem retD_rol : retD S (.rol xs) fr = .rt (.rol xs) fr := id rfl
@[simp] theorem retD_dct : retD S (.dct ds xs) fr = .rt (.dct ds xs) fr := id rfl
@[simp] theorem retD_obj : retD S (.obj n xs) fr = .rt (.obj n xs) fr := id rfl
@[simp] theorem retD_loc : retD S (.loc n) fr = retO (gets S n) := id rfl
/-! methods -/
def lcB (o : Option SO) (k : List D → RS) : RS := match o with
  | some (.lst xs) => k xs
  | _ => .bad
def lS (S : List SO) (d : D) (k : Nat → List D → RS) : RS := match d with
  | .loc n => lcB (gets S n) (k n)
  | _ => .bad
def pO (o : Option (List D × D)) (k : List D → D → RS) : RS := match o with
  | some (ys, r) => k ys r
  | none => .bad
@[simp] theorem lcB_s {k : List D → RS} : lcB (some (.lst xs)) k = k xs := id rfl
@[simp] theorem lS_l {k : Nat → List D → RS} : lS S (.loc n) k = lcB (gets S n) (k n) := id rfl
@[simp] theorem pO_s {k : List D → D → RS} : pO (some (xs, d)) k = k xs d := id rfl
@[simp] theorem locL_e {k : Nat → List D → RS} : locL S d k = lS S d k := by
  cases d <;> first | rfl | (unfold locL lS lcB; rfl)
theorem kMeth_e {k : Sl → List SO → D → RS} : kMeth lm n k σ S ds = lcB (gets S n) fun xs => pO (lm xs ds) fun ys r => k σ (putL S n ys) r := by
  unfold kMeth lcB
  cases gets S n with
  | none => rfl
  | some o => cases o with
    | lst xs => dsimp only; cases lm xs ds with
      | none => rfl
      | some p => rfl
    | _ => rfl
@[simp] theorem putL_e : putL S n xs = S.set n (.lst xs) := id rfl
theorem sMeth_e {k : Sl → List SO → D → RS} : sMeth lm e ca k σ S = vB (e σ S) σ S fun x _ => lS S x fun n _ => lsB (ca σ S) σ S fun ds => lcB (gets S n) fun xs => pO (lm xs ds) fun ys r => k σ (S.set n (.lst ys)) r := by
  unfold sMeth sVal
  cases e σ S with
  | ok d f =>
    dsimp only [vB]
    rw [locL_e]
    congr 1
  | _ => rfl
@[simp] theorem sMethE_e : sMethE lm e ca σ S = vB (e σ S) σ S fun x _ => lS S x fun n _ => lsB (ca σ S) σ S fun ds => lcB (gets S n) fun xs => pO (lm xs ds) fun ys _ => .nx σ (S.set n (.lst ys)) := sMeth_e
@[simp] theorem sMethA_e : sMethA i lm e ca σ S = vB (e σ S) σ S fun x _ => lS S x fun n _ => lsB (ca σ S) σ S fun ds => lcB (gets S n) fun xs => pO (lm xs ds) fun ys r => .nx (setD σ i r) (S.set n (.lst ys)) := sMeth_e
@[simp] theorem mAppend_e (h : xs.length < lim) : mAppend xs [d] = some (xs ++ [d], .non) := by dsimp only [mAppend]; rw [if_pos h]
def kS (S : List SO) (σ : Sl) (n : Nat) (o : Option (List D)) : RS := match o with
  | some ys => .nx σ (S.set n (.lst ys))
  | none => .bad
@[simp] theorem kS_s : kS S σ n (some xs) = .nx σ (S.set n (.lst xs)) := id rfl
@[simp] theorem kSub_e : kSub d σ S x (.int j) = lS S x fun n xs => kS S σ n (setI xs j d) := by
  show (locL S x fun n xs => match setI xs j d with | some ys => RS.nx σ (putL S n ys) | none => .bad) = _
  rw [locL_e]
  congr 1
@[simp] theorem sSub_e : sSub e e1 e2 σ S = vB (e σ S) σ S fun y _ => vB (e1 σ S) σ S fun x _ => vB (e2 σ S) σ S fun i _ => kSub y σ S x i := by
  unfold sSub sTwo sVal
  cases e σ S with
  | ok d f => first
    | rfl
    | (dsimp only [vB]; cases e1 σ S with
      | ok d f => (try dsimp only) <;> (cases e2 σ S <;> rfl)
      | _ => rfl)
  | _ => rfl
@[simp] theorem setI_n (h : n < xs.length) : setI xs (n : Int) d = some (xs.set n d) := by show (if n < xs.length then _ else _) = _; rw [if_pos h]
def augK (i : Nat) (σ : Sl) (S : List SO) (r : Res) : RS := match r with
  | .ok d false => .nx (setD σ i d) S
  | _ => .bad
def vOS (o : Option (Option D)) (k : D → RS) : RS := match o with
  | some (some d) => k d
  | _ => .bad
@[simp] theorem vOS_s {k : D → RS} : vOS (some (some d)) k = k d := id rfl
@[simp] theorem augK_s : augK i σ S (.ok d false) = .nx (σ.set i (some d)) S := id rfl
@[simp] theorem sAug_e : sAug i op e σ S = vOS (gets σ i) fun x => vB (e σ S) σ S fun y _ => augK i σ S (op S x y) := by
  unfold sAug vOS sVal
  cases gets σ i with
  | none => rfl
  | some o => cases o with
    | none => rfl
    | some x =>
      dsimp only
      cases e σ S with
      | ok d f => dsimp only [vB]; unfold augK; rfl
      | _ => rfl
/-! slices, subscripts, comprehensions -/
@[simp] theorem cTwo_e {k : Sl → List SO → D → Res} : cTwo e k σ S = rB (e σ S) (k σ S) := by unfold cTwo; cases e σ S <;> rfl
@[simp] theorem kInt_i {k : Int → Res} : kInt k (.int j) = k j := id rfl
@[simp] theorem cCutLH_e : cCutLH e e1 e2 σ S = rB (e σ S) fun x => rB (e1 σ S) (kInt fun i => rB (e2 σ S) (kInt fun j => fCut S x (some i) (some j))) := by
  unfold cCutLH; simp only [cTwo_e]
@[simp] theorem cCutL_e : cCutL e e1 σ S = rB (e σ S) fun x => rB (e1 σ S) (kInt fun i => fCut S x (some i) none) := by unfold cCutL; simp only [cTwo_e]
@[simp] theorem cCutH_e : cCutH e e1 σ S = rB (e σ S) fun x => rB (e1 σ S) (kInt fun i => fCut S x none (some i)) := by unfold cCutH; simp only [cTwo_e]
@[simp] theorem cCutA_e : cCutA e σ S = rB (e σ S) fun x => fCut S x none none := by unfold cCutA; rw [cTwo_e]
@[simp] theorem fCut_t {lo hi : Option Int} : fCut S (.tup xs) lo hi = .ok (.tup (cutD xs lo hi)) false := id rfl
def cutO (o : Option (List D)) (lo hi : Option Int) : Res := match o with
  | some xs => if pureL xs then .ok (.lst (cutD xs lo hi)) true else .bad
  | none => .bad
@[simp] theorem cutO_s {lo hi : Option Int} : cutO (some xs) lo hi = if pureL xs then .ok (.lst (cutD xs lo hi)) true else .bad := id rfl
@[simp] theorem fCut_l {lo hi : Option Int} : fCut S (.lst xs) lo hi = if pureL xs then .ok (.lst (cutD xs lo hi)) true else .bad := id rfl
@[simp] theorem fCut_r {lo hi : Option Int} : fCut S (.rol xs) lo hi = if pureL xs then .ok (.lst (cutD xs lo hi)) true else .bad := id rfl
@[simp] theorem fCut_o {lo hi : Option Int} : fCut S (.loc n) lo hi = cutO (locO (gets S n)) lo hi := id rfl
theorem cutD_map {α : Type} (g : α → D) (ys : List α) (a b : Nat) : cutD (ys.map g) (some (a : Int)) (some (b : Int)) = ((ys.drop a).take (b - a)).map g := by rw [cut_lh, List.map_take, List.map_drop]
@[simp] theorem cutD_h {k : Nat} : cutD xs none (some (k : Int)) = xs.take k := cut_h xs k
@[simp] theorem cutD_l {k : Nat} : cutD xs (some (k : Int)) none = xs.drop k := cut_l xs k
@[simp] theorem cutD_lh {a b : Nat} : cutD xs (some (a : Int)) (some (b : Int)) = (xs.drop a).take (b - a) := cut_lh xs a b
def ixO (o : Option (List D)) (i : Int) : Res := match o with
  | some xs => oD (atD xs i)
  | none => .bad
@[simp] theorem ixO_s : ixO (some xs) j = oD (atD xs j) := id rfl
@[simp] theorem bIx_t : bIx S (.tup xs) (.int j) = oD (atD xs j) := id rfl
@[simp] theorem bIx_l : bIx S (.lst xs) (.int j) = oD (atD xs j) := id rfl
@[simp] theorem bIx_r : bIx S (.rol xs) (.int j) = oD (atD xs j) := id rfl
@[simp] theorem bIx_o (h : gets S n = some (.lst xs)) : bIx S (.loc n) (.int j) = oD (atD xs j) := by
  show (match (match gets S n with | some (.lst xs) => some xs | _ => none) with | some xs => _ | none => _) = _
  rw [h]; rfl
@[simp] theorem atD_n {k : Nat} : atD xs (k : Int) = xs[k]? := gets_eq xs k
def cB (r : ResI) (S : List SO) (k : List D → Res) : Res := match r with
  | .st ds => k ds
  | .dy i => oL (i S) k
  | .ex c as => .ex c as
  | .bad => .bad
def coB (o : Option (List D)) : Res := match o with
  | some r => .ok (.lst r) true
  | none => .bad
@[simp] theorem cB_st {k : List D → Res} : cB (.st ds) S k = k ds := id rfl
@[simp] theorem cB_dy {k : List D → Res} {i : List SO → Option (List D)} : cB (.dy i) S k = oL (i S) k := id rfl
@[simp] theorem coB_s : coB (some xs) = .ok (.lst xs) true := id rfl
@[simp] theorem cComp_e : cComp ci A ws t e σ S = cB (ci σ S) S fun ds => coB (compL A t e (wipeD σ ws) S ds) := by
  unfold cComp kComp
  cases ci σ S with
  | st ds => dsimp only [cB]; unfold coB; rfl
  | dy i => dsimp only [cB]; cases i S with
    | none => rfl
    | some ds => dsimp only [oL]; unfold coB; rfl
  | _ => rfl
@[simp] theorem wipeD_n : wipeD σ [] = σ := id rfl
@[simp] theorem wipeD_c : wipeD σ (n :: ws) = (wipeD σ ws).set n none := id rfl
end
/-- a comprehension, each turn told: all are kept -/
theorem comp_all {α : Type} {A : TgF} {t f : CE} {σ : Sl} {S : List SO} (u : α → D) (g : α → D) : ∀ ys : List α, (∀ y ∈ ys, ∃ σ1 fr f2, A (u y) σ = some σ1 ∧ t σ1 S = .ok (.bl true) fr ∧ f σ1 S = .ok (g y) f2 ∧ (g y).pure = true) → compL A t f σ S (ys.map u) = some (ys.map g)
  | [], _ => rfl
  | y :: ys, w => by
    obtain ⟨σ1, fr, f2, h1, h2, h3, h4⟩ := w y (List.mem_cons_self ..)
    have ih := comp_all u g ys fun y hy => w y (List.mem_cons_of_mem _ hy)
    show (match A (u y) σ with | some σ1 => _ | none => _) = _
    simp only [h1, h2, h3, h4, if_true]
    rw [show compL A t f σ S (List.map u ys) = some (ys.map g) from ih]
    rfl
/-- .. some are kept -/
theorem comp_some {α : Type} {A : TgF} {t f : CE} {σ : Sl} {S : List SO} (u : α → D) (p : α → Bool) (g : α → D) : ∀ ys : List α, (∀ y ∈ ys, ∃ σ1 fr, A (u y) σ = some σ1 ∧ t σ1 S = .ok (.bl (p y)) fr ∧ (p y = true → ∃ f2, f σ1 S = .ok (g y) f2 ∧ (g y).pure = true)) →
    compL A t f σ S (ys.map u) = some ((ys.filter p).map g)
  | [], _ => rfl
  | y :: ys, w => by
    obtain ⟨σ1, fr, h1, h2, h3⟩ := w y (List.mem_cons_self ..)
    have ih := comp_some u p g ys fun y hy => w y (List.mem_cons_of_mem _ hy)
    show (match A (u y) σ with | some σ1 => _ | none => _) = _
    simp only [h1, h2]
    cases e : p y with
    | true =>
      obtain ⟨f2, h4, h5⟩ := h3 e
      simp only [h4, h5, if_true]
      rw [show compL A t f σ S (List.map u ys) = _ from ih, List.filter_cons_of_pos e]
      rfl
    | false =>
      simp only []
      rw [List.filter_cons_of_neg (by rw [e]; exact Bool.false_ne_true)]
      exact ih
end HC

set_option maxRecDepth 100000
namespace HC
open PySem PySem.W PySem.Calls PyProof.Rows PySem.HandSPX
/-- what the written part says of an own exception class C whose __init__ says super().__init__('..') and keeps one argument -/
structure XSup (K : PySem.W.Frag) (prog : Program) (C fI : Addr) (attr p : Str) where
  qual : Str
  name : Str
  params : Arguments
  scope : Scope
  dV : Value
  kV : Value
  doc : Value
  pm : Value
  ct : Value
  oc : Value
  ccl : Value
  cl : Value
  an : Option Addr
  od : Option Addr
  cdd : Option Addr
  cld : Option Addr
  dd : Option Addr
  osl : Array (Option Value)
  ccs : Array (Option Value)
  csl : Array (Option Value)
  vs : Array Value
  cc : Addr
  cda : Addr
  N : Addr
  msg : Str
  jt : Nat
  nm : Str
  q : Str
  file : Str
  tf : Tok
  bs : List Value
  bm : List Value
  sn : List Str
  sub : List Value
  ab : Bool
  col : Option Bool
  k0 : Option Value
  k1 : Option Value
  k2 : Option Value
  k3 : Option Value
  k5 : Option Value
  p0 : Pos
  p1 : Pos
  p2 : Pos
  p3 : Pos
  p4 : Pos
  p5 : Pos
  p6 : Pos
  p7 : Pos
  p8 : Pos
  p9 : Pos
  a0 : Arg
  lf : K.lookup fI = some ⟨oc, od, .func (ksFn name qual params [.Expr (.Call (.Attribute (.Call (.Name "super" p0) [] [] p1) "__init__" p2) [.Constant (.str msg) jt p3] [] p4) p5, .Assign [.Attribute (.Name "self" p6) attr p7] (.Name p p8) p9] scope dV kV doc pm an (.ref cda) ct cc), osl⟩
  hC : K.lookup C = some (excClassObj nm q C N bs bm true sn sub ab col dd k0 k1 k2 k3 k5 "ValueError.__new__")
  hbm : refsVE bm = true
  hcd : codeIn K (.ref cda) qual = true
  hcode : K.lookup cda = some ⟨ccl, cdd, .fields vs, ccs⟩
  hvs : vs[2]? = some (.str file tf)
  hfile : ((prog.main.file : Str) == file) = true
  hcell : K.lookup cc = some ⟨cl, cld, .cell (some (.ref C)), csl⟩
  hsub : mroIn K C (.ref C) = some true
  hB : subIn K (.ref C) (.type "ValueError") = some true
  hsup : ks_superIn K C C "__init__" = some (some (.builtin "ValueError.__init__"))
  ho : nsIn K cStatics "thirdparty.any" = some none
  sa : findIn K (.ref C) "__setattr__" = some (some (.builtin "object.__setattr__"))
  exC : subIn K (.ref C) (.type "BaseException") = some true
  tyC : typeIn K (.ref C) = some (.type "type")
  kC : keepIn K (.ref C) = true
  iC : findIn K (.ref C) "__init__" = some (some (.ref fI))
  tI : typeIn K (.ref fI) = some (.type "function")
  noA : findIn K (.ref C) attr = some none
  hks : scope.names.lookup ("super" : Str) = some .globalImplicit
  hkc : scope.names.lookup ("__class__" : Str) = some .free
  hka : scope.names.lookup ("self" : Str) = some .local
  hkp : scope.names.lookup p = some .local
  hk : scope.kind = .function
  hco : scope.isCoroutine = false
  hgen : scope.isGenerator = false
  hce : ∀ x ∈ scope.names, x.2 ≠ .cell
  hp : (params.posonlyargs ++ params.args).head? = some a0
  ha0 : a0.arg = "self"
  hps : (p == ("self" : Str)) = false
  hdp : (p == ("__debug__" : Str)) = false
  hev : ∀ env : Env, eval (.Call (.Attribute (.Call (.Name "super" p0) [] [] p1) "__init__" p2) [.Constant (.str msg) jt p3] [] p4) env = (do
    let ov ← attributeBase (.Call (.Name "super" p0) [] [] p1) "__init__" env (eval (.Call (.Name "super" p0) [] [] p1) env)
    standAt p2.atName
    let (f, first) ← holding [ov] (getMethod ov "__init__" (do return (← importBound (.Call (.Name "super" p0) [] [] p1) env).getD true))
    callWith p4 f first (backTo p4 (starEach [.Constant (.str msg) jt p3] env)) [])
  hsw1 : ∀ env : Env, swapsWith (.Call (.Attribute (.Call (.Name "super" p0) [] [] p1) "__init__" p2) [.Constant (.str msg) jt p3] [] p4) none p5.line env = pure false
  hsw2 : ∀ env : Env, swapsWith (.Name p p8) (some (.Attribute (.Name "self" p6) attr p7)) p9.line env = pure false
  htop : (prog.main.scope.names.lookup ("super" : Str)).isSome = false
  bind : ∀ (s : Shared) (u v : Value), BindsTo s (ksFn name qual params [.Expr (.Call (.Attribute (.Call (.Name "super" p0) [] [] p1) "__init__" p2) [.Constant (.str msg) jt p3] [] p4) p5, .Assign [.Attribute (.Name "self" p6) attr p7] (.Name p p8) p9] scope dV kV doc pm an (.ref cda) ct cc) ⟨[u, v], []⟩ [("self", u), (p, v)]

/-- .. made -/
def xsup_of {K : PySem.W.Frag} {prog : Program} {C fI : Addr} {attr p : Str} {qual : Str} {name : Str} {params : Arguments} {scope : Scope} {dV : Value} {kV : Value} {doc : Value} {pm : Value} {ct : Value} {oc : Value} {ccl : Value} {cl : Value} {an : Option Addr} {od : Option Addr} {cdd : Option Addr} {cld : Option Addr} {dd : Option Addr} {osl : Array (Option Value)} {ccs : Array (Option Value)} {csl : Array (Option Value)} {vs : Array Value} {cc : Addr} {cda : Addr} {N : Addr} {msg : Str} {jt : Nat} {nm : Str} {q : Str} {file : Str} {tf : Tok} {bs : List Value} {bm : List Value} {sn : List Str} {sub : List Value} {ab : Bool} {col : Option Bool} {k0 : Option Value} {k1 : Option Value} {k2 : Option Value} {k3 : Option Value} {k5 : Option Value} {p0 : Pos} {p1 : Pos} {p2 : Pos} {p3 : Pos} {p4 : Pos} {p5 : Pos} {p6 : Pos} {p7 : Pos} {p8 : Pos} {p9 : Pos} {a0 : Arg}
    (lf : K.lookup fI = some ⟨oc, od, .func (ksFn name qual params [.Expr (.Call (.Attribute (.Call (.Name "super" p0) [] [] p1) "__init__" p2) [.Constant (.str msg) jt p3] [] p4) p5, .Assign [.Attribute (.Name "self" p6) attr p7] (.Name p p8) p9] scope dV kV doc pm an (.ref cda) ct cc), osl⟩)
    (hC : K.lookup C = some (excClassObj nm q C N bs bm true sn sub ab col dd k0 k1 k2 k3 k5 "ValueError.__new__"))
    (hbm : refsVE bm = true)
    (hcd : codeIn K (.ref cda) qual = true)
    (hcode : K.lookup cda = some ⟨ccl, cdd, .fields vs, ccs⟩)
    (hvs : vs[2]? = some (.str file tf))
    (hfile : ((prog.main.file : Str) == file) = true)
    (hcell : K.lookup cc = some ⟨cl, cld, .cell (some (.ref C)), csl⟩)
    (hsub : mroIn K C (.ref C) = some true)
    (hB : subIn K (.ref C) (.type "ValueError") = some true)
    (hsup : ks_superIn K C C "__init__" = some (some (.builtin "ValueError.__init__")))
    (ho : nsIn K cStatics "thirdparty.any" = some none)
    (sa : findIn K (.ref C) "__setattr__" = some (some (.builtin "object.__setattr__")))
    (exC : subIn K (.ref C) (.type "BaseException") = some true)
    (tyC : typeIn K (.ref C) = some (.type "type"))
    (kC : keepIn K (.ref C) = true)
    (iC : findIn K (.ref C) "__init__" = some (some (.ref fI)))
    (tI : typeIn K (.ref fI) = some (.type "function"))
    (noA : findIn K (.ref C) attr = some none)
    (hks : scope.names.lookup ("super" : Str) = some .globalImplicit)
    (hkc : scope.names.lookup ("__class__" : Str) = some .free)
    (hka : scope.names.lookup ("self" : Str) = some .local)
    (hkp : scope.names.lookup p = some .local)
    (hk : scope.kind = .function)
    (hco : scope.isCoroutine = false)
    (hgen : scope.isGenerator = false)
    (hce : ∀ x ∈ scope.names, x.2 ≠ .cell)
    (hp : (params.posonlyargs ++ params.args).head? = some a0)
    (ha0 : a0.arg = "self")
    (hps : (p == ("self" : Str)) = false)
    (hdp : (p == ("__debug__" : Str)) = false)
    (hev : ∀ env : Env, eval (.Call (.Attribute (.Call (.Name "super" p0) [] [] p1) "__init__" p2) [.Constant (.str msg) jt p3] [] p4) env = (do
    let ov ← attributeBase (.Call (.Name "super" p0) [] [] p1) "__init__" env (eval (.Call (.Name "super" p0) [] [] p1) env)
    standAt p2.atName
    let (f, first) ← holding [ov] (getMethod ov "__init__" (do return (← importBound (.Call (.Name "super" p0) [] [] p1) env).getD true))
    callWith p4 f first (backTo p4 (starEach [.Constant (.str msg) jt p3] env)) []))
    (hsw1 : ∀ env : Env, swapsWith (.Call (.Attribute (.Call (.Name "super" p0) [] [] p1) "__init__" p2) [.Constant (.str msg) jt p3] [] p4) none p5.line env = pure false)
    (hsw2 : ∀ env : Env, swapsWith (.Name p p8) (some (.Attribute (.Name "self" p6) attr p7)) p9.line env = pure false)
    (htop : (prog.main.scope.names.lookup ("super" : Str)).isSome = false)
    (bind : ∀ (s : Shared) (u v : Value), BindsTo s (ksFn name qual params [.Expr (.Call (.Attribute (.Call (.Name "super" p0) [] [] p1) "__init__" p2) [.Constant (.str msg) jt p3] [] p4) p5, .Assign [.Attribute (.Name "self" p6) attr p7] (.Name p p8) p9] scope dV kV doc pm an (.ref cda) ct cc) ⟨[u, v], []⟩ [("self", u), (p, v)]) : XSup K prog C fI attr p :=
  ⟨qual, name, params, scope, dV, kV, doc, pm, ct, oc, ccl, cl, an, od, cdd, cld, dd, osl, ccs, csl, vs, cc, cda, N, msg, jt, nm, q, file, tf, bs, bm, sn, sub, ab, col, k0, k1, k2, k3, k5, p0, p1, p2, p3, p4, p5, p6, p7, p8, p9, a0, lf, hC, hbm, hcd, hcode, hvs, hfile, hcell, hsub, hB, hsup, ho, sa, exC, tyC, kC, iC, tI, noA, hks, hkc, hka, hkp, hk, hco, hgen, hce, hp, ha0, hps, hdp, hev, hsw1, hsw2, htop, bind⟩

section
variable {prog : Program} {w : World} {A : Around} {R : Result → Shared → Prop} {hp : Heap} {g : Array GenState} {d : Drawn} {t : Nat} {os : OsState}
theorem call_mw {E : Value → Shared → Prop} {u e t0 C N : Addr} {nm q : Str} {bs bm : List Value} {hdct : Bool} {sn : List Str} {sub : List Value} {ab : Bool} {col : Option Bool} {dd : Option Addr} {k0 k1 k2 k3 k5 : Option Value} {rest : List Value} {Q : Value → Shared → Prop}
    (hu : hp.get? u = some (kxs_mw "ValueError.__init__" e)) (he : hp.get? e = some (excO C t0)) (hC : hp.get? C = some (excClassObj nm q C N bs bm hdct sn sub ab col dd k0 k1 k2 k3 k5 "ValueError.__new__")) (hrest : rest.length ≤ sizeLine)
    (hq : ∀ h', (∀ b o, b ≠ e → hp.get? b = some o → h'.get? b = some o) → h'.get? e = some (excO C hp.objs.size) → Q .none ⟨h', g, d, t, os⟩) : wpAny (model prog w) A (call (.ref u) rest) Q E ⟨hp, g, d, t, os⟩ := by
  refine wpAny_call (codeAny_of_tree ?_)
  show wpAny _ A.in1 (callAny (.ref u) ⟨rest, []⟩) _ _ _
  simp only [callAny]
  refine wpAny_bind (wpAny_load hu ?_)
  simp only [kxs_mw, show (Value.type "method-wrapper" == Value.type "method" || Value.type "method-wrapper" == Value.type "builtin_function_or_method" || Value.type "method-wrapper" == Value.type "method-wrapper") = true by decide, if_true]
  refine KFB.if_so (by decide) ?_
  refine wpAny_bind (check_bound_init PySem.F.excBase_ValueError.toExcCallFacts hC he rfl ?_)
  refine wpAny_bind (wpAny_pure (wpAny_pure ?_))
  refine ⟨plainId_quiet PySem.F.excBase_ValueError.init.plain _, codeAny_builtin PySem.F.excBase_ValueError.initEntry ?_⟩
  exact exc_init_tree (cls := .ref C) (t0 := t0) (dv := none) (c2 := .none) (c3 := .none) (b4 := .bool false) he hrest fun h' k e1 _ => hq h' k e1
theorem init_sup {K : Frag} {mg mb : Str → Option Value} {fI C e t0 : Addr} {attr p : Str} {u : Value} (T : XSup K prog C fI attr p)
    (X : K.In hp) (top : hp.Ns mainGlobals mg) (boot : hp.Ns builtinsNs mb) (hboot : mb "super" = some (.type "super")) (hsup : mg "super" = none) (lim : hp.NoLimit) (room : A.depth < recursionLimit)
    (he : hp.get? e = some (excO C t0)) (hKe : K.lookup e = none)
    (hq : ∀ (h' : Heap) (tk : Nat) (dx t1 : Addr), (∀ b o, b ≠ e → hp.get? b = some o → h'.get? b = some o) → hp.get? dx = none → dx ≠ e → h'.get? e = some ({ cls := .ref C, dict := some dx, data := .fields #[.ref t1, .none, .none, .none, .bool false, .none] } : Obj) →
      h'.Ns1 dx (fun y => if y = attr then some u else none) → R (.ok (.ret .none)) ⟨h', g, d, tk, os⟩) :
    codeAny (model prog w) A (.call (.ref fI) ⟨[.ref e, u], []⟩) R ⟨hp, g, d, t, os⟩ := by
  obtain ⟨qual, name, params, scope, dV, kV, doc, pm, ct, oc, ccl, cl, an, od, cdd, cld, dd, osl, ccs, csl, vs, cc, cda, N, msg, jt, nm, q, file, tf, bs, bm, sn, sub, ab, col, k0, k1, k2, k3, k5, p0, p1, p2, p3, p4, p5, p6, p7, p8, p9, a0,
    lf, hC, hbm, hcd, hcode, hvs, hfile, hcell, hsub, hB, hsupI, ho, sa, exC, tyC, kC, iC, tI, noA, hks, hkc, hka, hkp, hk, hco, hgen, hce, hpp, ha0, hps, hdp, hev, hsw1, hsw2, htop, bind⟩ := T
  refine ks_codeAny_call_defAt (binds := [("self", .ref e), (p, u)]) room (X _ _ lf) rfl lim (codeRec_of X hcd) rfl (bind _ _ _) hce (fun y hy => ?_) (fun h1 hns hk1 => ?_) hco hgen hk
  · rcases List.mem_cons.mp hy with rfl | hy
    · exact hka
    · rw [List.mem_singleton.mp hy]; exact hkp
  have X1 : K.In h1 := X.keeps hk1
  have hself : (fun x => ([("self", Value.ref e), (p, u)] : List (Str × Value)).reverse.lookup x) a0.arg = some (.ref e) := by
    rw [ha0]
    show ([(p, u), ("self", Value.ref e)] : List (Str × Value)).lookup ("self" : Str) = _
    have e1 : (("self" : Str) == p) = false := by
      cases z : (("self" : Str) == p) with
      | false => rfl
      | true => rw [← eq_of_beq z] at hps; exact absurd hps (by decide)
    simp only [List.lookup, e1]
    rfl
  have hpv : (fun x => ([("self", Value.ref e), (p, u)] : List (Str × Value)).reverse.lookup x) p = some u := by
    show ([(p, u), ("self", Value.ref e)] : List (Str × Value)).lookup p = _
    simp only [List.lookup, beq_self_eq_true]
  obtain ⟨oD, hD1, hD2⟩ : ∃ oD : Obj, h1.get? C = some oD ∧ oD.data = (excClassObj nm q C N bs bm true sn sub ab col dd k0 k1 k2 k3 k5 "ValueError.__new__").data := ⟨_, X1 _ _ hC, rfl⟩
  have hcl : clsIn K C = some { name := nm, bases := bs, mro := .ref C :: bm, ns := N, qualname := q, hasDict := true, slotNames := sn, subclasses := sub, abstract := ab, collection := col, hasDel := false } := by unfold clsIn; rw [hC] <;> rfl
  have he1 := hk1 _ _ he
  have hxC : e ≠ C := fun z => by
    rw [z] at he1
    have := (X1 _ _ hC).symm.trans he1
    cases this
  refine ks_wpAt_execs_cons (ks_wpAt_Expr_any (ks_wpAt_MethodCall (ks_wpAt_super_base (fd := ksFn name qual params [.Expr (.Call (.Attribute (.Call (.Name "super" p0) [] [] p1) "__init__" p2) [.Constant (.str msg) jt p3] [] p4) p5, .Assign [.Attribute (.Name "self" p6) attr p7] (.Name p p8) p9] scope dV kV doc pm an (.ref cda) ct cc)
    hks hkc (by decide) rfl (X1 _ _ lf) rfl hpp rfl (X1 _ _ hcode) rfl hvs hfile htop ?_) (hev _)) (by unfold interactive; show (scope.kind == .module && _) = false; rw [hk]; rfl) (hsw1 _))
  refine ks_loadName_global hk hks (loadGlobal_builtin (top.keeps hk1) hsup (boot.keeps hk1) hboot ⟨rfl, ?_⟩)
  refine wpAny_loadName_free hk hkc rfl ⟨_, X1 _ _ hcell, rfl⟩ ?_
  refine wpAny_loadName_local hk (by rw [ha0]; exact hka) hns hself ?_
  refine ks_wpAny_isType_cls hD1 hD2 ⟨rfl, ?_⟩
  refine ks_wpAny_call_super hD1 hD2 he1 rfl (fun c z => by cases z) (looks_mroIn X1 hsub) fun h2 so2 k2 => ?_
  have X2 : K.In h2 := X1.keeps k2
  have he2 := k2 _ _ he1
  have I2 : InstAt h2 e (excO C t0) C none := ⟨he2, rfl, rfl, trivial⟩
  have hI : ∀ {h : Heap}, K.In h → InstAt h e (excO C t0) C none → Looks (model prog w) h (isInstance (.ref e) (.type "ValueError")) true := fun Xh I => I.type.andThen (looks_subIn Xh hB)
  refine kxs_getMethod kxs_ValueError so2 (looks_opaque X2 ho) (l₀ := .ref C :: bm) ?_ rfl X2 ?_ (hI X2 I2) hxC (by decide) ?_
  · exact fun A Q E s k q => wpAny_bind ((looks_clsIn X2 hcl) A _ E s k (wpAny_pure q))
  · unfold ks_superIn at hsupI
    rw [hcl] at hsupI
    exact hsupI
  have hu3 : (h2.push (kxs_mw "ValueError.__init__" e)).get? h2.objs.size = some (kxs_mw "ValueError.__init__" e) := Heap.get?_push_at rfl rfl
  have k3 : ∀ b o, h2.get? b = some o → (h2.push (kxs_mw "ValueError.__init__" e)).get? b = some o := fun b o z => Heap.get?_push_of_some _ z
  refine kxs_callWith (i := "ValueError.__init__") (x := e) rfl ?_
  refine evalArgs_plain (spliced_cons ?_)
  refine wpAny_mono (Q := fun v s' => (∃ tk, v = .str msg tk) ∧ s'.heap = h2.push (kxs_mw "ValueError.__init__" e) ∧ s'.gens = g ∧ s'.drawn = d ∧ s'.os = os) (E := fun _ _ => False) ?_ (fun v s3 hv => ?_) fun _ _ z => z.elim
  · exact Calls.Constant_str (pos := p3) (k := jt) ⟨⟨_, rfl⟩, rfl, rfl, rfl, rfl⟩
  obtain ⟨⟨tk, rfl⟩, e1, e2, e3, e4⟩ := hv
  obtain ⟨h3, g3, d3, t3, os3⟩ := s3
  dsimp only at e1 e2 e3 e4
  subst e1 e2 e3 e4
  have he3 := k3 _ _ he2
  refine spliced_nil ⟨hu3, ?_⟩
  have X3 := X2.keeps k3
  refine call_mw hu3 he3 (X3 _ _ hC) (by show 1 ≤ sizeLine; rw [sizeLine_eq]; omega) fun h4 k4 e4 => ?_
  -- self.attr = p
  have kk : ∀ b o, b ≠ e → hp.get? b = some o → h4.get? b = some o := fun b o hb z => k4 b o hb (k3 _ _ (k2 _ _ (hk1 _ _ z)))
  have eC : ∀ {b : Addr} {o : Obj}, K.lookup b = some o → b ≠ e := fun {b o} z y => by
    rw [y, hKe] at z
    cases z
  have X4 : K.In h4 := fun b o z => kk b o (eC z) (X b o z)
  have hns4 : h4.Ns hp.objs.size (fun x => ([("self", Value.ref e), (p, u)] : List (Str × Value)).reverse.lookup x) := by
    obtain ⟨o, es, ep, eo, r⟩ := hns
    have ne : hp.objs.size ≠ e := Nat.ne_of_gt (Heap.lt_size he)
    exact ⟨o, es, ep, k4 _ _ ne (k3 _ _ (k2 _ _ eo)), r⟩
  refine PySem.wpAt_of_wpAny (wpAny_execs_cons (plainObj_wpAny_Assign_Attribute ?_ (hsw2 _)))
  refine wpAny_Name (wpAny_loadName_local hk hkp hns4 hpv ?_) hdp
  refine wpAny_Name (wpAny_loadName_local hk hka hns4 (by rw [ha0] at hself; exact hself) ?_) (by decide)
  refine set_plain (s := ⟨h4, _, _, _, _⟩) X4 (ox := excO C _) (od := none) ⟨e4, rfl, rfl, trivial⟩ sa ?_
  refine exc_osa X4 e4 hcl (show refsVE (.ref C :: bm) = true from hbm) rfl noA fun h5 tk5 dx k5' n5 ne5 e5 ns5 => ?_
  refine wpAny_execs_nil ?_
  refine hq h5 _ dx _ (fun b o hb z => k5' b o hb (kk b o hb z)) ?_ ne5 e5 ns5
  cases z : hp.get? dx with
  | none => rfl
  | some o => exact absurd (Heap.lt_size (kk _ _ ne5 z)) (Nat.not_lt.mpr n5)
end
end HC
namespace HC
open PySem PySem.Spec L2
open PyProof.Rows hiding St
/-- C(e) is made -/
def tMkS (C : Addr) (attr : Str) (ta : TA) : St → Hp → XK → Prop := fun σ H Q => ta σ H fun vs H1 => ∃ v, vs = [v] ∧ ∀ dx, H1 dx = none → Q (.ref C) (some dx) (upd H1 dx (.xd [(attr, v)]))
section
variable {X : Cx} {e : Expr} {es : List Expr} {ta : TA} {pp pos : Pos}
theorem mk_sup {pins : List (Addr × Obj)} {σ : St} {H1 : Hp} {Q : XK} {hp h' : Heap} {g : Array GenState} {d : Drawn} {t t' : Nat} {os : OsState} {a C dx t1 : Addr} {attr : Str} {v : V} {u : Value} (r : Raises X (.ref C)) (I1 : Inv X pins σ H1 ⟨hp, g, d, t, os⟩)
    (ha : hp.objs.size ≤ a) (k : ∀ b o, hp.get? b = some o → h'.get? b = some o) (hoe : h'.get? a = some ({ cls := .ref C, dict := some dx, data := .fields #[.ref t1, .none, .none, .none, .bool false, .none] } : Obj))
    (hns : h'.Ns1 dx (fun y => if y = attr then some u else none)) (rv : RelV v u) (hdx : hp.get? dx = none) (hda : dx ≠ a) (q : Q (.ref C) (some dx) (upd H1 dx (.xd [(attr, v)]))) : MkP X pins σ Q (.ref a) ⟨h', g, d, t', os⟩ := by
  have hn : H1 a = none := I1.hok.fresh ha
  have hd1 : H1 dx = none := I1.hok.gone hdx
  obtain ⟨G, g1', g2'⟩ := restrict h' fun b => decide (b ≠ a)
  have gk : ∀ b, b ≠ a → G.get? b = h'.get? b := fun b hb => g1' b (decide_eq_true hb)
  have ge : G.get? a = none := g2' a (by simp)
  have nha : ∀ {b : Addr} {o : Obj}, hp.get? b = some o → b ≠ a := fun {b o} z => Nat.ne_of_lt (Nat.lt_of_lt_of_le (Heap.lt_size z) ha)
  have nd : ∀ {b : Addr} {o : Obj}, hp.get? b = some o → b ≠ dx := fun {b o} z e => by rw [e, hdx] at z; cases z
  have kG : ∀ {b : Addr} {o : Obj}, hp.get? b = some o → G.get? b = some o := fun {b o} z => (gk b (nha z)).trans (k b o z)
  have U : Un (frs X.stack) [] H1 (upd H1 dx (.xd [(attr, v)])) hp G := {
    keep := fun b o z n hf hx => kG z
    slot := fun b o z n hf hx => ⟨o.slots, kG z⟩
    free := fun b o z n hx => by rw [upd_ne (nd z)]; exact n
    there := fun b o z hx => ⟨o, kG z⟩
    tups := fun b xs z => by rw [upd_ne (ne_of_none z hd1)]; exact z
    frzs := fun b o v z => by rw [upd_ne (ne_of_none z hd1)]; exact z
    tbls := fun b ps z => ⟨#[], by rw [upd_ne (ne_of_none z hd1), z]; simp⟩ }
  have hok3 : HOk X.prog X.w (upd H1 dx (.xd [(attr, v)])) G := fun b o z => by
    by_cases hbd : b = dx
    · subst hbd
      rw [upd_same] at z
      cases z
      exact ⟨_, hns.at fun o y => (gk b hda).trans y, relO_put (fs := []) rv fun g => True.intro⟩
    · rw [upd_ne hbd] at z
      exact (I1.hok b o z).stay (fun c v hc y => kG y) (fun c hc => by rw [upd_ne (ne_of_none hc hd1)]; exact hc) (fun c xs hc => by rw [upd_ne (ne_of_none hc hd1)]; exact hc)
  have J : Inv X pins σ (upd H1 dx (.xd [(attr, v)])) ⟨G, g, d, t', os⟩ := I1.call' (ch := []) rfl U hok3 I1.bare (fun b z => absurd z (by simp))
  refine ⟨a, _, _, ⟨G, g, d, t', os⟩, _, .ref C, some dx, rfl, J, fun b o z => ?_, ge, hoe, ⟨rfl, rfl⟩, rfl, rfl, ?_, rfl, I1.bare, r, q⟩
  · by_cases hba : b = a
    · rw [hba, ge] at z
      cases z
    · exact (gk b hba).symm.trans z
  · rw [upd_ne (Ne.symm hda)]; exact hn
theorem pmk_sup {x : Str} {C fI : Addr} {attr p : Str} {k : Nat} (T : XSup X.K X.prog C fI attr p) (hg : Gl X x) (hm : X.mg x = some (.ref C)) (hsm : X.mg "super" = none) (hr : RG (k + 1) X.A) (ha : PA X (e :: es) ta)
    (hdb : (x == ("__debug__" : Str)) = false := by decide) (he : starEach (e :: es) X.env = (false, eval e X.env) :: starEach es X.env := by rfl) (hpl : (backTo pos (starEach es X.env)).any (·.1) = false := by rfl) :
    PMk X (.Call (.Name x pp) (e :: es) [] pos) (tMkS C attr ta) := by
  intro pins s σ H Q I h
  refine wpAny_Call_Name_kw (ld_glob I hg hm ?_ hdb)
  refine PySem.W.callWith_K (h₀ := X.base) I.ok.mod.kin T.kC (thn (ha.run pos pins s σ H _ I h) fun us s1 ⟨vs, H1, I1, r1, v, ev, q1⟩ => ⟨I1.kIn, ?_⟩) he hpl
  subst ev
  cases r1 with
  | @cons _ u _ _ ru rn =>
    cases rn
    show wpAny _ _ (call (.ref C) [u]) _ _ _
    obtain ⟨hp, g, dr, tk, os⟩ := s1
    have kk : ∀ b o, hp.get? b = some o → ((hp.push (PySem.W.kdv_tup [u])).push (PySem.HandSPX.excO C hp.objs.size)).get? b = some o := fun b o e => Heap.get?_push_of_some _ (Heap.get?_push_of_some _ e)
    have hget : ((hp.push (PySem.W.kdv_tup [u])).push (PySem.HandSPX.excO C hp.objs.size)).get? (hp.objs.size + 1) = some (PySem.HandSPX.excO C hp.objs.size) := by heap_get
    have hKe : X.K.lookup (hp.objs.size + 1) = none := by
      cases z : X.K.lookup (hp.objs.size + 1) with
      | none => rfl
      | some o => exact absurd (Heap.lt_size (I1.kIn _ _ z)) (Nat.not_lt.mpr (Nat.le_succ _))
    obtain ⟨mb, hmb, hboot⟩ := I1.ok.mod.blt
    have kb : ∀ b o, X.base.get? b = some o → ((hp.push (PySem.W.kdv_tup [u])).push (PySem.HandSPX.excO C hp.objs.size)).get? b = some o := fun b o z => kk b o (I1.bk b o z)
    refine wpAny_call (PySem.HandSPX.call_own PySem.F.excBase_ValueError (fun Y => PySem.HandSPX.refsVE_contains Y T.bm T.hbm) (I1.kIn _ _ T.hC) (PySem.W.looks_findIn I1.kIn T.iC) (fun self => PySem.W.bind_fn I1.kIn self T.tI) (by show 1 ≤ sizeLine; rw [sizeLine_eq]; omega)
      (init_sup T (t0 := hp.objs.size) (I1.kIn.keeps kk) (I1.ok.mod.glob.keeps kb) (hmb.keeps kb) ((hboot _ (by decide +kernel)).trans (by first | boot_by_name | rfl | kernel_rfl)) hsm (I1.ok.mod.nolimit.keeps kb) ?_ hget hKe fun h' tk' dx t1 k1 hd1 hda hoe hns => ?_))
    · exact (Room.mono hr.1 (Nat.le_refl _)).make C [u] [] |>.depth
    · refine ⟨rfl, ?_⟩
      have hdx : hp.get? dx = none := by
        cases z : hp.get? dx with
        | none => rfl
        | some o => rw [kk _ _ z] at hd1; cases hd1
      exact mk_sup (t1 := t1) (raises_own T.exC T.tyC) I1 (Nat.le_succ _) (fun b o z => k1 b o (Nat.ne_of_lt (Nat.lt_succ_of_lt (Heap.lt_size z))) (kk b o z)) hoe hns ru hdx hda (q1 dx (I1.hok.gone hdx))
end
end HC

set_option maxRecDepth 100000
namespace HC
open PySem PySem.Spec L2
open PyProof.Rows hiding St

/-! ## data within an except suite -/
abbrev XcT := Addr × Nat × List D × Value × Option Addr
def gxc (g : GX) (p : XcT) : GX := { g with xc := some p }
mutual
/-- the held exception is not in it -/
def noE : D → Bool
  | .err => false
  | .tup xs => noEs xs
  | .lst xs => noEs xs
  | .rol xs => noEs xs
  | .dct _ xs => noEs xs
  | .obj _ xs => noEs xs
  | _ => true
def noEs : List D → Bool
  | [] => true
  | d :: r => noE d && noEs r
end
section
variable {g : GX} {H : Hp} {F : FZ} {p : XcT}
mutual
theorem RepP.toX (hx : g.xc = none) : ∀ (d : D) (v : V), RepP g H F d v → RepP (gxc g p) H F d v
  | .non, _, h => h
  | .bl _, _, h => h
  | .int _, _, h => h
  | .str _, _, h => h
  | .tup ds, v, h => by
    obtain ⟨a, vs, e, h1, h2⟩ := h
    exact ⟨a, vs, e, h1, RepL.toX hx ds vs h2⟩
  | .lst ds, v, h => by
    obtain ⟨a, vs, e, h1, h2⟩ := h
    exact ⟨a, vs, e, h1, RepL.toX hx ds vs h2⟩
  | .rol ds, v, h => by
    obtain ⟨a, vs, e, h1, h2⟩ := h
    exact ⟨a, vs, e, h1, RepL.toX hx ds vs h2⟩
  | .dct ks ds, v, h => by
    obtain ⟨a, vs, e, h1, h2, h3⟩ := h
    exact ⟨a, vs, e, h1, RepL.toX hx ds vs h2, h3⟩
  | .obj c ds, v, h => by
    obtain ⟨a, dx, fs, vs, e, h1, h2, h3, h4, h5⟩ := h
    exact ⟨a, dx, fs, vs, e, h1, h2, h3, h4, RepL.toX hx ds vs h5⟩
  | .loc _, _, h => h
  | .err, _, h => by
    obtain ⟨q, e, _⟩ := h
    rw [hx] at e
    cases e
theorem RepL.toX (hx : g.xc = none) : ∀ (ds : List D) (vs : List V), RepL g H F ds vs → RepL (gxc g p) H F ds vs
  | [], _, h => h
  | d :: ds, vs, h => by
    obtain ⟨v, ws, e, h1, h2⟩ := h
    exact ⟨v, ws, e, RepP.toX hx d v h1, RepL.toX hx ds ws h2⟩
end
mutual
theorem RepP.ofX : ∀ (d : D) (v : V), noE d = true → RepP (gxc g p) H F d v → RepP g H F d v
  | .non, _, _, h => h
  | .bl _, _, _, h => h
  | .int _, _, _, h => h
  | .str _, _, _, h => h
  | .tup ds, v, n, h => by
    obtain ⟨a, vs, e, h1, h2⟩ := h
    exact ⟨a, vs, e, h1, RepL.ofX ds vs n h2⟩
  | .lst ds, v, n, h => by
    obtain ⟨a, vs, e, h1, h2⟩ := h
    exact ⟨a, vs, e, h1, RepL.ofX ds vs n h2⟩
  | .rol ds, v, n, h => by
    obtain ⟨a, vs, e, h1, h2⟩ := h
    exact ⟨a, vs, e, h1, RepL.ofX ds vs n h2⟩
  | .dct ks ds, v, n, h => by
    obtain ⟨a, vs, e, h1, h2, h3⟩ := h
    exact ⟨a, vs, e, h1, RepL.ofX ds vs n h2, h3⟩
  | .obj c ds, v, n, h => by
    obtain ⟨a, dx, fs, vs, e, h1, h2, h3, h4, h5⟩ := h
    exact ⟨a, dx, fs, vs, e, h1, h2, h3, h4, RepL.ofX ds vs n h5⟩
  | .loc _, _, _, h => h
  | .err, _, n, _ => by cases n
theorem RepL.ofX : ∀ (ds : List D) (vs : List V), noEs ds = true → RepL (gxc g p) H F ds vs → RepL g H F ds vs
  | [], _, _, h => h
  | d :: ds, vs, n, h => by
    obtain ⟨v, ws, e, h1, h2⟩ := h
    have n2 : (noE d && noEs ds) = true := n
    rw [Bool.and_eq_true] at n2
    exact ⟨v, ws, e, RepP.ofX d v n2.1 h1, RepL.ofX ds ws n2.2 h2⟩
end
variable {μ : List Addr}
theorem RepV.toX (hx : g.xc = none) {d : D} {v : V} (h : RepV g H F μ d v) : RepV (gxc g p) H F μ d v := h.imp id (RepP.toX hx d v)
theorem RepVs.toX (hx : g.xc = none) {ds : List D} {vs : List V} (h : RepVs g H F μ ds vs) : RepVs (gxc g p) H F μ ds vs := Paired.mapP h fun _ _ => RepV.toX hx
theorem RepO.toX (hx : g.xc = none) : ∀ {o : SO} {a : Addr}, RepO g H F μ o a → RepO (gxc g p) H F μ o a
  | .lst _, _, ⟨vs, h1, h2, h3⟩ => ⟨vs, h1, h2, h3.toX hx⟩
  | .dct _ _, _, ⟨vs, h1, h2⟩ => ⟨vs, h1.toX hx, h2⟩
  | .ins _ _, _, ⟨dx, fs, vs, h1, h2, h3, h4⟩ => ⟨dx, fs, vs, h1, h2, h3, h4.toX hx⟩
theorem RepX.toX (hx : g.xc = none) {c : Nat} {as : List D} {cls : Value} {dx : Option Addr} : RepX g H F μ c as cls dx → RepX (gxc g p) H F μ c as cls dx :=
  fun ⟨h1, x, vs, h2, h3, fs, h4, h5⟩ => ⟨h1, x, vs, h2, h3.toX hx, fs, h4, h5⟩
theorem RepN.ofX : ∀ {d : D} {a : Addr}, noE d = true → RepN (gxc g p) H F d a → RepN g H F d a
  | .lst _, _, n, ⟨vs, h1, h2, h3⟩ => ⟨vs, h1, h2, RepL.ofX _ _ n h3⟩
  | .dct _ _, _, n, ⟨vs, h1, h2⟩ => ⟨vs, RepL.ofX _ _ n h1, h2⟩
  | .obj _ _, _, n, ⟨dx, fs, vs, h1, h2, h3, h4⟩ => ⟨dx, fs, vs, h1, h2, h3, RepL.ofX _ _ n h4⟩
  | .non, _, _, h => h.elim | .bl _, _, _, h => h.elim | .int _, _, _, h => h.elim | .str _, _, _, h => h.elim | .tup _, _, _, h => h.elim | .rol _, _, _, h => h.elim | .loc _, _, _, h => h.elim | .err, _, _, h => h.elim
theorem Rel.toX {σ : Sl} {S : List SO} {σc : St} {a : Addr} {c i : Nat} {as : List D} {cls : Value} {dx : Option Addr} (R : Rel g μ F σ S σc H) (hx : g.xc = none) (rx : RepX g H F μ c as cls dx) :
    Rel (gxc g (a, c, as, cls, dx)) μ F (setD σ i .err) S (σc.set i (some (.ref a))) H := by
  have R2 : Rel (gxc g (a, c, as, cls, dx)) μ F σ S σc H := ⟨fun j d h => let ⟨v, h1, h2⟩ := R.env j d h; ⟨v, h1, h2.toX hx⟩, R.len, fun n o h => let ⟨b, h1, h2⟩ := R.st n o h; ⟨b, h1, h2.toX hx⟩, R.ml, R.nd, R.ap, R.dom,
    fun q e => by cases (Option.some.inj e); exact rx.toX hx⟩
  exact R2.set (.inr ⟨_, rfl, rfl⟩)
end

/-! ## raise -/
def sRaise (c : Nat) (fa : CA) : SC := fun σ S => match fa σ S with
  | .ok ds => match ds with
    | [d] => .ex c [d] σ S
    | _ => .bad
  | .ex c as => .ex c as σ S
  | .bad => .bad
section
variable {X : Cx} {g : GX} {W : WX} {e : Expr} {es : List Expr} {fa : CA} {pp pos pos' : Pos} {x attr p : Str} {C fI : Addr} {k c : Nat}
theorem s_raise (hc : X.calm = true) (tk : Takes X W) (T : XSup X.K X.prog C fI attr p) (hC : g.cl c = C) (hf : g.fn c = [attr]) (hg : Gl X x) (hm : X.mg x = some (.ref C)) (hsm : X.mg "super" = none) (hr : RG (k + 1) X.A) (ha : PA X (e :: es) (TL g W fa))
    (hdb : (x == ("__debug__" : Str)) = false := by decide) (he : starEach (e :: es) X.env = (false, eval e X.env) :: starEach es X.env := by rfl) (hpl : (backTo pos (starEach es X.env)).any (·.1) = false := by rfl) :
    PS X (.Raise (some (.Call (.Name x pp) (e :: es) [] pos)) none pos') (TSt g W (sRaise c fa)) :=
  (ps_raise hc tk (pmk_sup (k := k) T hg hm hsm hr ha hdb he hpl)).hc fun Dn σc H ⟨μ, F, σ, S, R, q⟩ => by
    refine ⟨μ, F, σ, S, R, ?_⟩
    unfold sRaise at q
    cases ea : fa σ S with
    | bad => rw [ea] at q; exact q
    | ex c as =>
      rw [ea] at q
      exact fun cls dx H' F' s x rx => q cls dx σc μ F' H' (.of s x) (R.mono s x) rx
    | ok ds =>
      rw [ea] at q
      match ds, q with
      | [d], q =>
        intro vs H1 F1 s1 x1 r1
        cases r1 with
        | @cons _ v _ _ rv rn =>
          cases rn
          refine ⟨v, rfl, fun dx hd => ?_⟩
          have sm : Same H1 (upd H1 dx (.xd [(attr, v)])) := same_new hd
          have R1 := R.mono s1 x1
          have fx : FX F1 H1 F1 (upd H1 dx (.xd [(attr, v)])) := ⟨fun _ h => h, fun _ h => .inl h, fun a h => let ⟨o, e⟩ := R1.dom a h; ⟨o, sm _ _ e⟩⟩
          refine q _ _ σc μ F1 _ (.of (s1.trans sm) (x1.trans s1 fx)) (R1.mono sm fx) ⟨by rw [hC], dx, [v], rfl, .cons (rv.mono sm fun _ h => h) .nil, _, upd_same, fun i f w h1 h2 => ?_⟩
          rw [hf] at h1
          match i, h1, h2 with
          | 0, h1, h2 =>
            cases h1; cases h2
            rw [lookup_put, if_pos rfl]
      | [], q => exact q.elim
      | _ :: _ :: _, q => exact q.elim
end
end HC

set_option maxRecDepth 100000
namespace HC
open PySem PySem.Spec L2
open PyProof.Rows hiding St

/-! ## try: .. except A as n: .. except B as n: .. (a suite returns) -/
def onlyRt (D : Ends) : Ends := { nx := fun _ _ => False, rt := D.rt, bk := fun _ _ => False, ct := fun _ _ => False }
abbrev HL := List (Value × (Addr → Value → Option Addr → TS))
def wNm (K : PySem.W.Frag) (i : Nat) (Wo : WX) (D : Ends) : HL → WX
  | [] => Wo
  | (c, ts) :: r => fun cls d σ H => ∃ b, PySem.W.exmOne K cls c = some b ∧ (b = true → ∀ a, H a = none → ts a cls d (onlyRt D) (σ.set i (some (.ref a))) H) ∧ (b = false → wNm K i Wo D r cls d σ H)
inductive Hd2 (X : Cx) (n : Str) : List ExceptHandler → HL → Prop
  | nil : Hd2 X n [] []
  | cons {x : Str} {c : Value} {ts : Addr → Value → Option Addr → TS} {b0 : Stmt} {su : List Stmt} {np ps : Pos} {hds : List ExceptHandler} {l : HL} (nm : Names X x c)
      (go : ∀ (a : Addr) (o : Obj) (cls : Value) (d : Option Addr) (pn : List (Addr × Obj)), Zc cls d o → (∃ vs, o.data = .fields vs) → PSs (X.suite a ((a, o) :: pn)) (b0 :: su) (ts a cls d)) (rest : Hd2 X n hds l) :
      Hd2 X n (.ExceptHandler (some (.Name x np)) (some n) (b0 :: su) ps :: hds) ((c, ts) :: l)
section
variable {X : Cx} {n : Str} {i : Nat} {pins : List (Addr × Obj)} {σ : St} {H : Hp} {s0 s : Shared} {a : Addr} {B : Heap} {cls : Value} {d : Option Addr} {D : Ends} {Wo : WX}
/-- the clauses, one behind the other, for an exception that has landed -/
theorem clauses (hs : X.stack = X.env :: X.outer) (hf : X.env.frame = some X.env.locals) (hN : X.N.Nodup) (hi : X.N[i]? = some n) (hln : X.env.kindOf n = some .local) (tk : Takes X Wo)
    (J0 : Inv X pins σ H s0) (fl : HandSPX.FlyingZ B (X.env :: X.outer) a (Zc cls d) s.heap) (na : H a = none)
    (nb : ∀ b o, s0.heap.get? b = some o → b ∉ frs X.stack → B.get? b = some o) (up : s0.heap.UpToSlots s.heap) (os : s.os = s0.os) (ag : AllBare s.gens) :
    ∀ {hds : List ExceptHandler} {l : HL}, Hd2 X n hds l → wNm X.K i Wo D l cls d σ H → wpAny (model X.prog X.w) X.A (handleBy (.ref a) X.env hds) (SP X pins D) X.xe s := by
  have land : ∀ {h : Heap}, HandSPX.FlyingZ B (X.env :: X.outer) a (Zc cls d) h → s0.heap.UpToSlots h → Inv X pins σ H { s with heap := h } := fun f u => J0.landed (s' := { s with heap := _ }) nb f.1 u os ag
  have put : ∀ {h : Heap}, HandSPX.FlyingZ B (X.env :: X.outer) a (Zc cls d) h → s0.heap.UpToSlots h → ∃ o, Zc cls d o ∧ (∃ vs, o.data = .fields vs) ∧ h.get? a = some o ∧ Inv (X.suite a ((a, o) :: (X.pn ++ pins))) [] σ H { s with heap := h } := fun {h} f u => by
    obtain ⟨o, vs, ho, hz, hd⟩ := f.there
    have nf : a ∉ frs (X.env :: X.outer) := fun hm => by
      obtain ⟨_, o2, e2, q⟩ := f.2.2.1.mem hm
      cases ho.symm.trans e2
      exact q _ hd
    exact ⟨o, hz, ⟨vs, hd⟩, ho, (land f u).suite ho hd na (fun z => nf (List.mem_filterMap.mpr ⟨X.env, List.mem_cons_self, by rw [hf, z]⟩)) fun hm => by
      obtain ⟨y, hy, q⟩ := List.mem_filterMap.mp hm
      exact nf (List.mem_filterMap.mpr ⟨y, List.mem_cons_of_mem _ hy, q⟩)⟩
  intro hds l hk
  induction hk with
  | nil =>
    intro w
    refine wpAny_handleBy_nil ?_
    obtain ⟨_, _, _, o, vs, T, oT, _, ho, _, hd, h1, _⟩ := id fl
    unfold PySem.passOn
    refine wpAny_bind (wpAny_field ho hd h1 ?_)
    rw [if_neg (by simp : ¬ ((Value.ref T == Value.none) = true))]
    have last : wpAny (model X.prog X.w) X.A (setFlight (.ref a) X.env.frame) (fun _ s4 => wpAny (model X.prog X.w) X.A (throw (.ref a) : Sem Flow) (SP X pins D) X.xe s4) X.xe s := by
      rw [hf]
      exact HandSPX.setFlight_upZ fl fun h4 hh u4 => wpAny_throw (tk _ _ ⟨a, B, s0, pins, σ, H, cls, d, rfl, J0, nb, up.trans u4, .inr (.inr (by rw [hs]; exact hh)), na, os, ag, w⟩)
    first
      | exact wpAny_bind (wpAny_pure (wpAny_bind last))
      | exact wpAny_bind last
  | @cons x c ts b0 su np ps hds l nm go rest ih =>
    intro ⟨b, eb, yes, no⟩
    obtain ⟨o, hz, hv, ho, S⟩ := put fl up
    refine wpAny_handleBy_cons (codeAny_handlers_test ?_) (by intro q; cases q)
    have ty : PySem.W.Looks (model X.prog X.w) s.heap (typeOf (.ref a)) cls := fun A Q E s2 k q => wpAny_typeOf_ref (k _ _ ho) (by rw [hz.1]; exact q)
    have ask := PySem.W.exm_one (M := model X.prog X.w) (land fl up).kIn ty eb
    have name : ∀ {Q : Value → Shared → Prop} {E : Value → Shared → Prop}, Q c s → wpAny (model X.prog X.w) (X.A.mark (some (.ref a))) (eval (.Name x np) X.env) Q E s := fun {Q E} q => by
      obtain ⟨gl, db, m | ⟨m, bv, nn⟩⟩ := nm
      · exact ld_glob S gl m q db
      · exact ld_blt S gl m bv q nn db
    refine name (ask.here ?_)
    cases b with
    | false => exact ih (no rfl)
    | true =>
      refine codeAny_handlers_suite_as (HandSPX.lands_againZ fl fun h4 f4 u4 => ?_)
      obtain ⟨o4, hz4, hv4, _, S4⟩ := put f4 (up.trans u4)
      refine store_ok (X := X.suite a ((a, o4) :: (X.pn ++ pins))) (v := .ref a) S4 hN hi (.inl hln) rfl (fun s5 S5 => ?_) (.inr hln)
      refine wpAny_mono ((go a o4 cls d _ hz4 hv4).run [] s5 _ H _ S5 (yes rfl a na)) (fun f s6 out => ?_) fun _ _ z => z.elim
      cases f with
      | ret u =>
        obtain ⟨v6, σ6, H6, S6, r6, q6⟩ := out
        exact gone_ok (S6.unsuite J0.ok) hN hi hln fun s7 J7 => ⟨_, _, _, J7, r6, q6⟩
      | next => obtain ⟨_, _, _, q6⟩ := out; exact q6.elim
      | brk => obtain ⟨_, _, _, q6⟩ := out; exact q6.elim
      | cont => obtain ⟨_, _, _, q6⟩ := out; exact q6.elim
variable {body : List Stmt} {h0 : ExceptHandler} {hds : List ExceptHandler} {l : HL} {pos : Pos} {tb : WX → TS}
theorem ps_try_nm (hs : X.stack = X.env :: X.outer) (hf : X.env.frame = some X.env.locals) (hN : X.N.Nodup) (hi : X.N[i]? = some n) (hln : X.env.kindOf n = some .local) (tk : Takes X Wo)
    (hb : ∀ (W : WX) (pn : List (Addr × Obj)) (xe : Value → Shared → Prop), Takes (X.tr pn xe) W → PassesOwn (model X.prog X.w) X.A X.env xe → PSs (X.tr pn xe) body (tb W)) (hh : Hd2 X n (h0 :: hds) l) :
    PS X (.Try body (h0 :: hds) [] [] pos) (fun D σ H => tb (wNm X.K i Wo D l) D σ H) := by
  refine ⟨fun pins s σ H D I h => wpAny_Try_except ?_⟩
  have fr : X.A.frames = some (X.env :: X.outer) := by rw [I.ok.frames, hs]
  refine wpAny_mono ((hb (wNm X.K i Wo D l) (X.pn ++ pins) (fun e s1 => wpAny (model X.prog X.w) X.A (noteFrame e X.env) (fun _ s2 => wpAny (model X.prog X.w) X.A (setFlight e none) (fun _ s3 =>
    wpAny (model X.prog X.w) X.A (handleBy e X.env (h0 :: hds)) (SP X pins D) X.xe s3) X.xe s2) X.xe s1) (fun u s2 xx => ?_) PassesOwn.looking).run [] s σ H D (I.toTry _) h) (fun f s1 out => ?_) fun e s1 he => he
  · obtain ⟨a, B, sI, pins2, σ2, H2, cls, d, rfl, J2, nb, up, sky, na, os, ag, w⟩ := xx
    have sky2 : Sky B (X.env :: X.outer) a (Zc cls d) X.env.locals s2.heap := by rw [← hs]; exact sky
    exact Sky.land Zc.steady fr hf sky2 fun h3 fl3 up3 => clauses (s := { s2 with heap := h3 }) hs hf hN hi hln tk (J2.ofTry I.ok) fl3 na nb (up.trans up3) os ag hh w
  · cases f with
    | next =>
      obtain ⟨σ2, H2, J2, q⟩ := out
      exact wpAny_execs_nil ⟨σ2, H2, J2.ofTry I.ok, q⟩
    | ret u =>
      obtain ⟨v, σ2, H2, J2, r, q⟩ := out
      exact ⟨v, σ2, H2, J2.ofTry I.ok, r, q⟩
    | brk =>
      obtain ⟨σ2, H2, J2, q⟩ := out
      exact ⟨σ2, H2, J2.ofTry I.ok, q⟩
    | cont =>
      obtain ⟨σ2, H2, J2, q⟩ := out
      exact ⟨σ2, H2, J2.ofTry I.ok, q⟩
end
end HC

set_option maxRecDepth 100000
namespace HC
open PySem PySem.Spec L2
open PyProof.Rows hiding St

/-! ## try with clauses -/
abbrev HF := List ((Nat → Option Bool) × (Nat → List D → SC))
def runH (i c : Nat) (as : List D) : HF → SC
  | [], σ, S => .ex c as σ S
  | (t, f) :: r, σ, S => match t c with
    | some true => match f c as (setD σ i .err) S with
      | .rt d fr => if noE d then .rt d fr else .bad
      | _ => .bad
    | some false => runH i c as r σ S
    | none => .bad
def sTry (i : Nat) (fb : SC) (hs : HF) : SC := fun σ S => match fb σ S with
  | .ex c as σ1 S1 => runH i c as hs σ1 S1
  | r => r
inductive HdD (X : Cx) (g : GX) (n : Str) : List ExceptHandler → HF → Prop
  | nil : HdD X g n [] []
  | cons {x : Str} {u : Value} {t : Nat → Option Bool} {f : Nat → List D → SC} {b0 : Stmt} {su : List Stmt} {np ps : Pos} {hds : List ExceptHandler} {l : HF} (nm : Names X x u) (sb : ∀ c b, t c = some b → PySem.W.exmOne X.K (.ref (g.cl c)) u = some b)
      (go : ∀ (a : Addr) (o : Obj) (d : Option Addr) (pn : List (Addr × Obj)) (c : Nat) (as : List D), Zc (.ref (g.cl c)) d o → (∃ vs, o.data = .fields vs) → PSs (X.suite a ((a, o) :: pn)) (b0 :: su) (TSt (gxc g (a, c, as, .ref (g.cl c), d)) (fun _ _ _ _ => False) (f c as)))
      (rest : HdD X g n hds l) : HdD X g n (.ExceptHandler (some (.Name x np)) (some n) (b0 :: su) ps :: hds) ((t, f) :: l)
section
variable {X : Cx} {g : GX} {W : WX} {n : Str} {i : Nat}
def tsOf (g : GX) (f : Nat → List D → SC) : Addr → Value → Option Addr → TS := fun a cls d D σ H => ∃ c as, cls = .ref (g.cl c) ∧ TSt (gxc g (a, c, as, .ref (g.cl c), d)) (fun _ _ _ _ => False) (f c as) D σ H
theorem back_of {p : XcT} {H : Hp} {μ : List Addr} {H' : Hp} {F' : FZ} {d : D} {fr : Bool} {v : V} (n : noE d = true) (b : Back (gxc g p) H μ H' F' d fr v) : Back g H μ H' F' d fr v :=
  b.imp (fun ⟨e, h⟩ => ⟨e, RepP.ofX d v n h⟩) fun ⟨e, a, ev, h1, h2, h3⟩ => ⟨e, a, ev, h1, h2, RepN.ofX n h3⟩
theorem HdD.hd (hx : g.xc = none) {hds : List ExceptHandler} {l : HF} (h : HdD X g n hds l) : ∃ m : HL, Hd2 X n hds m ∧
    ∀ (c : Nat) (as : List D) (Dn : Ends) (μ : List Addr) (F : FZ) (H : Hp) (σ : Sl) (S : List SO) (σc : St) (dx : Option Addr), Rel g μ F σ S σc H → RepX g H F μ c as (.ref (g.cl c)) dx → OkS g W μ F H (runH i c as l σ S) Dn → wNm X.K i W Dn m (.ref (g.cl c)) dx σc H := by
  induction h with
  | nil => exact ⟨[], .nil, fun c as Dn μ F H σ S σc dx R rx q => q _ dx σc μ F H .refl R rx⟩
  | @cons x u t f b0 su np ps hds l nm sb go rest ih =>
    obtain ⟨m, h1, h2⟩ := ih
    refine ⟨(u, tsOf g f) :: m, .cons nm (fun a o cls d pn hz hv => ⟨fun pins s σ H D I ⟨c, as, e, h⟩ => ?_⟩) h1, fun c as Dn μ F H σ S σc dx R rx q => ?_⟩
    · subst e
      exact (go a o d pn c as hz hv).run pins s σ H D I h
    · unfold runH at q
      cases e : t c with
      | none => rw [e] at q; exact q.elim
      | some b =>
        rw [e] at q
        refine ⟨b, sb c b e, fun hb a na => ?_, fun hb => ?_⟩
        · subst hb
          refine ⟨c, as, rfl, μ, F, setD σ i .err, S, R.toX hx rx, ?_⟩
          dsimp only at q
          cases ef : f c as (setD σ i .err) S with
          | rt d fr =>
            rw [ef] at q
            dsimp only at q
            split at q
            · rename_i hn
              exact fun v μ' F' H' l' b dm => q v μ' F' H' l' (back_of hn b) dm
            · exact q.elim
          | rx _ _ _ _ => rw [ef] at q; exact q.elim
          | nx _ _ => rw [ef] at q; exact q.elim
          | bk _ _ => rw [ef] at q; exact q.elim
          | ct _ _ => rw [ef] at q; exact q.elim
          | ex _ _ _ _ => rw [ef] at q; exact q.elim
          | bad => rw [ef] at q; exact q.elim
        · subst hb
          exact h2 c as Dn μ F H σ S σc dx R rx q
variable {body : List Stmt} {h0 : ExceptHandler} {hds : List ExceptHandler} {l : HF} {pos : Pos} {fb : SC}
theorem s_try (hx : g.xc = none) (hs : X.stack = X.env :: X.outer) (hf : X.env.frame = some X.env.locals) (hN : X.N.Nodup) (hi : X.N[i]? = some n) (hln : X.env.kindOf n = some .local) (tk : Takes X W)
    (hb : ∀ (W : WX) (pn : List (Addr × Obj)) (xe : Value → Shared → Prop), Takes (X.tr pn xe) W → PassesOwn (model X.prog X.w) X.A X.env xe → PSs (X.tr pn xe) body (TSt g W fb)) (hh : HdD X g n (h0 :: hds) l) :
    PS X (.Try body (h0 :: hds) [] [] pos) (TSt g W (sTry i fb l)) := by
  obtain ⟨m, h1, h2⟩ := hh.hd (W := W) (i := i) hx
  refine (ps_try_nm (tb := fun W => TSt g W fb) hs hf hN hi hln tk hb h1).hc fun Dn σc H ⟨μ, F, σ, S, R, q⟩ => ⟨μ, F, σ, S, R, ?_⟩
  unfold sTry at q
  cases e : fb σ S with
  | ex c as σ1 S1 =>
    rw [e] at q
    intro cls dx σc' μ' F' H' l' R' rx
    obtain rfl : cls = .ref (g.cl c) := rx.1
    exact h2 c as Dn μ' F' H' σ1 S1 σc' dx R' rx (q.from l')
  | nx _ _ => rw [e] at q; exact q
  | rx _ _ _ _ => rw [e] at q; exact q
  | bk _ _ => rw [e] at q; exact q
  | ct _ _ => rw [e] at q; exact q
  | rt _ _ => rw [e] at q; exact q
  | bad => rw [e] at q; exact q
end

/-! ## in a suite: e.f, isinstance(e, ..) -/
/-- what the written part says of an own exception class -/
structure XcK (K : PySem.W.Frag) (C : Addr) : Prop where
  ga : PySem.W.findIn K (.ref C) "__getattribute__" = some (some (.builtin "BaseException.__getattribute__"))
  gg : PySem.W.findIn K (.ref C) "__getattr__" = some none
  sb : PySem.W.subIn K (.ref C) (.type "BaseException") = some true
  hd : PySem.W.hasDictIn K C = true
  ha : PySem.W.findIn K (.ref C) "__class__" = some (some (.builtin "object.__class__"))
  hn : PySem.W.specialIn K (.builtin "object.__class__") "__get__" = some (some (.builtin "getset_descriptor.__get__"))
  ht : PySem.W.takesIn K (.builtin "object.__class__") = some true
  hm : PySem.W.mroIn K C (.type "object") = some true
def cErr (i : Nat) (k : Res) : CE := fun σ _ => match gets σ i with
  | some (some .err) => k
  | _ => .bad
def atR (at_ : Nat → Option Nat) (c : Nat) (as : List D) : Res := match at_ c with
  | some j => match gets as j with
    | some d => .ok d false
    | none => .bad
  | none => .bad
def isR (tab : Nat → Option Bool) (c : Nat) : Res := match tab c with
  | some b => .ok (.bl b) false
  | none => .bad
section
variable {X : Cx} {g : GX} {W : WX} {a : Addr} {o : Obj} {d : Option Addr} {pn : List (Addr × Obj)} {c i : Nat} {as : List D} {n f : Str} {p1 pos p p2 : Pos}
theorem err_at {μ : List Addr} {F : FZ} {σ : Sl} {S : List SO} {σc : St} {H : Hp} (R : Rel (gxc g (a, c, as, .ref (g.cl c), d)) μ F σ S σc H) (h : gets σ i = some (some .err)) : σc[i]? = some (some (.ref a)) := by
  obtain ⟨v, h1, h2⟩ := R.get h
  rcases h2 with ⟨_, _, z, _⟩ | h2
  · cases z
  · obtain ⟨q, e, ev⟩ := h2
    cases (Option.some.inj e)
    rw [h1, ev]
theorem cErr_q {Wx : XK} {μ : List Addr} {F : FZ} {σ : Sl} {S : List SO} {H : Hp} {k : Res} {Q : VK} (q : Ok g Wx H F μ (cErr i k σ S) Q) : gets σ i = some (some .err) ∧ Ok g Wx H F μ k Q := by
  unfold cErr at q
  split at q
  · rename_i h
    exact ⟨h, q⟩
  · exact q.elim
theorem q_xat {at_ : Nat → Option Nat} (hz : Zc (.ref (g.cl c)) d o) (hv : ∃ vs, o.data = .fields vs) (hN : X.N[i]? = some n) (hvis : Vis X.env.scope n) (hnd : (n == ("__debug__" : Str)) = false) (hcd : (n == ("__classdict__" : Str)) = false)
    (hK : ∀ c j, at_ c = some j → XcK X.K (g.cl c) ∧ PySem.W.findIn X.K (.ref (g.cl c)) f = some none ∧ (g.fn c)[j]? = some f)
    (hb : attributeBase (.Name n p1) f X.env (eval (.Name n p1) X.env) = eval (.Name n p1) X.env := by rfl) :
    PE (X.suite a ((a, o) :: pn)) (.Attribute (.Name n p1) f pos) (T (gxc g (a, c, as, .ref (g.cl c), d)) W (cErr i (atR at_ c as))) := by
  cases e : at_ c with
  | none =>
    refine ⟨fun pins s σ H Q I h => ?_⟩
    obtain ⟨μ, F, σd, S, R, q⟩ := h
    have q2 := (cErr_q q).2
    unfold atR at q2
    rw [e] at q2
    exact q2.elim
  | some j =>
    obtain ⟨k1, k2, k3⟩ := hK c j e
    refine (pe_xf (C := g.cl c) ⟨k1.ga, k1.gg, k1.sb, k1.hd⟩ k2 hz hv (pe_var (X := X.suite a ((a, o) :: pn)) hN hvis hnd hcd) hb).hc fun σc H Q ⟨μ, F, σ, S, R, q⟩ => ?_
    obtain ⟨q1, q2⟩ := cErr_q q
    refine ⟨.ref a, err_at R q1, rfl, rfl, ?_⟩
    obtain ⟨_, dd, vs, hd, rv, fs, h1, h2⟩ := R.xc _ rfl
    unfold atR at q2
    rw [e] at q2
    dsimp only at q2
    split at q2
    · rename_i d0 e0
      obtain ⟨v, hv1, hv2⟩ := rv.get (by rw [← gets_eq]; exact e0)
      exact ⟨dd, fs, v, hd, h1, h2 j f v k3 hv1, q2 v H F (Same.refl H) R.fx (.val hv2)⟩
    · exact q2.elim
/-- isinstance(e, c) -/
def rIsX (K : PySem.W.Frag) (C a : Addr) (d : Option Addr) : List V → Hp → VK → Prop := fun xs H Q => ∃ (c : V) (u : Value) (b : Bool), xs = [.ref a, c] ∧ ClsV c u ∧ PySem.W.kitOne K (.ref C) u = some b ∧ (∃ dd fs, d = some dd ∧ H dd = some (.xd fs)) ∧ Q (.bl b) H
def rIsXN (K : PySem.W.Frag) (C a : Addr) (d : Option Addr) : List V → Hp → VK → Prop := fun xs H Q => ∃ (tp : Addr) (cs : List V) (us : List Value) (b : Bool), xs = [.ref a, .ref tp] ∧ H tp = some (.tup cs) ∧ Paired ClsV cs us ∧ PySem.W.kitAny K (.ref C) us = some b ∧ (∃ dd fs, d = some dd ∧ H dd = some (.xd fs)) ∧ Q (.bl b) H
theorem xinst {pins : List (Addr × Obj)} {σ : St} {H : Hp} {s : Shared} {C : Addr} (hz : Zc (.ref C) d o) (hv : ∃ vs, o.data = .fields vs) (I : Inv (X.suite a ((a, o) :: pn)) pins σ H s) (h : ∃ dd fs, d = some dd ∧ H dd = some (.xd fs)) :
    ∃ od, PySem.W.InstAt s.heap a o C od := by
  obtain ⟨ho, _⟩ := I.pin (a, o) (List.mem_append_left _ List.mem_cons_self)
  obtain ⟨dd, fs, e, hd⟩ := h
  obtain ⟨vs, hv⟩ := hv
  obtain ⟨mA, hns, _⟩ := (show ObjOk X.prog X.w H s.heap dd (.xd fs) from I.hok dd _ hd)
  obtain ⟨od, hod, _⟩ := lookIn_ns hns
  exact ⟨some od, ho, hz.1, by unfold PySem.W.notCls; rw [hv] <;> rfl, by rw [hz.2, e]; exact hod⟩
theorem XcK.kit {K : PySem.W.Frag} {C : Addr} (T : XcK K C) (od : Option Obj) : PySem.W.KitX K (.ref a) (.ref C) (fun h => PySem.W.InstAt h a o C od) := by
  obtain ⟨cd, hcd, _⟩ := PySem.W.any_some T.hd
  exact PySem.W.kitx_exc (by rw [hcd]; rfl) T.ga T.gg T.sb T.ha T.hn T.ht T.hm
theorem call_isX {C : Addr} (T : XcK X.K C) (hz : Zc (.ref C) d o) (hv : ∃ vs, o.data = .fields vs) : CallR (X.suite a ((a, o) :: pn)) (.builtin "isinstance") (rIsX X.K C a d) := by
  intro pins s σ H xs us Q I r ⟨c, u, b, e1, k, e, hd, q⟩
  subst e1
  obtain ⟨u1, u2, rfl, r1, r2⟩ := vals2 r
  obtain rfl := k.eq r2
  obtain rfl : u1 = Value.ref a := r1
  obtain ⟨od, J⟩ := xinst hz hv I hd
  exact PySem.W.kia_one (T.kit od) I.kIn J e (fun z => nomatch z) fun tk => ⟨.bl b, H, I.tok tk, rfl, q⟩
theorem call_isXN {C : Addr} (T : XcK X.K C) (hz : Zc (.ref C) d o) (hv : ∃ vs, o.data = .fields vs) : CallR (X.suite a ((a, o) :: pn)) (.builtin "isinstance") (rIsXN X.K C a d) := by
  intro pins s σ H xs us Q I r ⟨tp, cs, ws, b, e1, hT, k, e, hd, q⟩
  subst e1
  obtain ⟨u1, u2, rfl, r1, r2⟩ := vals2 r
  obtain rfl : u1 = Value.ref a := r1
  obtain rfl : u2 = Value.ref tp := r2
  obtain ⟨od, J⟩ := xinst hz hv I hd
  obtain ⟨_, its, rv, ot, h1, h2, nn, h3⟩ := (show ObjOk X.prog X.w H s.heap tp (.tup cs) from I.hok tp _ hT)
  obtain rfl := ClsV.all k rv
  obtain ⟨oc, od2, dt, sl⟩ := ot
  simp only at h2 h3
  subst h2 h3
  exact PySem.W.kia_tup (T.kit od) I.kIn J h1 e (fun z => nomatch z) fun tk => ⟨.bl b, H, I.tok tk, rfl, q⟩
/-- a class by its name, own or built in -/
structure NmC (X : Cx) (x : Str) (v : V) (u : Value) : Prop where
  pe : ∀ (a : Addr) (pn : List (Addr × Obj)) (p : Pos), PE (X.suite a pn) (.Name x p) (tC v)
  cl : ClsV v u
theorem nmc_own {x : Str} {C : Addr} (hg : Gl X x) (hm : X.mg x = some (.ref C)) (hd : (x == ("__debug__" : Str)) = false := by decide) : NmC X x (.ref C) (.ref C) := ⟨fun a pn p => pe_glob (X := X.suite a pn) hg hm rfl hd, .own C⟩
theorem nmc_blt {x : Str} {t : String} (hg : Gl X x) (hm : X.mg x = none) (hv : bootBuiltins x = some (.type t)) (hn : x ≠ "__name__" := by decide) (hd : (x == ("__debug__" : Str)) = false := by decide) : NmC X x (.ty t) (.type t) :=
  ⟨fun a pn p => pe_bltn (X := X.suite a pn) hg hm hv rfl hn hd, .ty t⟩
theorem q_isX {tab : Nat → Option Bool} {x : Str} {v : V} {u : Value} (hz : Zc (.ref (g.cl c)) d o) (hv : ∃ vs, o.data = .fields vs) (hN : X.N[i]? = some n) (hvis : Vis X.env.scope n) (hnd : (n == ("__debug__" : Str)) = false) (hcd : (n == ("__classdict__" : Str)) = false)
    (hg : Gl X "isinstance") (hm : X.mg "isinstance" = none) (hc : NmC X x v u) (hK : ∀ c b, tab c = some b → XcK X.K (g.cl c) ∧ PySem.W.kitOne X.K (.ref (g.cl c)) u = some b)
    (hs1 : starEach [.Name n p1, .Name x p2] X.env = (false, eval (.Name n p1) X.env) :: starEach [.Name x p2] X.env := by rfl) (hs2 : starEach [.Name x p2] X.env = (false, eval (.Name x p2) X.env) :: starEach [] X.env := by rfl)
    (hpl : (backTo pos (starEach [.Name x p2] X.env)).any (·.1) = false := by rfl) :
    PE (X.suite a ((a, o) :: pn)) (.Call (.Name "isinstance" p) [.Name n p1, .Name x p2] [] pos) (T (gxc g (a, c, as, .ref (g.cl c), d)) W (cErr i (isR tab c))) := by
  cases e : tab c with
  | none =>
    refine ⟨fun pins s σ H Q I h => ?_⟩
    obtain ⟨μ, F, σd, S, R, q⟩ := h
    have q2 := (cErr_q q).2
    unfold isR at q2
    rw [e] at q2
    exact q2.elim
  | some b =>
    obtain ⟨k1, k2⟩ := hK c b e
    refine (pe_callB (X := X.suite a ((a, o) :: pn)) (call_isX k1 hz hv) hg hm (by decide +kernel) (pa_cons (pe_var (X := X.suite a ((a, o) :: pn)) hN hvis hnd hcd) (pa_cons (hc.pe a _ p2) pa_nil hs2) hs1) (by decide) (by decide) hs1 hpl).hc fun σc H Q ⟨μ, F, σ, S, R, q⟩ => ?_
    obtain ⟨q1, q2⟩ := cErr_q q
    unfold isR at q2
    rw [e] at q2
    obtain ⟨_, dd, vs, hd, rv, fs, h1, h2⟩ := R.xc _ rfl
    exact ⟨.ref a, err_at R q1, v, u, b, rfl, hc.cl, k2, ⟨dd, fs, hd, h1⟩, q2 _ H F (Same.refl H) R.fx (.val (.inr rfl))⟩
/-- several classes -/
inductive NmCs (X : Cx) : List Expr → List V → List Value → Prop
  | nil : NmCs X [] [] []
  | cons {x : Str} {v : V} {u : Value} {p : Pos} {es : List Expr} {vs : List V} {us : List Value} (h : NmC X x v u) (r : NmCs X es vs us) (hs : starEach (.Name x p :: es) X.env = (false, eval (.Name x p) X.env) :: starEach es X.env := by rfl) : NmCs X (.Name x p :: es) (v :: vs) (u :: us)
theorem NmCs.pa {es : List Expr} {vs : List V} {us : List Value} (h : NmCs X es vs us) (a : Addr) (pn : List (Addr × Obj)) : PA (X.suite a pn) es (fun _ H Q => Q vs H) := by
  induction h with
  | nil => exact pa_nil
  | @cons x v u p es vs us h r hs ih => exact (pa_cons (X := X.suite a pn) (h.pe a pn p) ih hs).hc fun _ _ _ q => q
theorem NmCs.cl {es : List Expr} {vs : List V} {us : List Value} (h : NmCs X es vs us) : Paired ClsV vs us := by
  induction h with
  | nil => exact .nil
  | cons h r hs ih => exact .cons h.cl ih
theorem q_isXN {tab : Nat → Option Bool} {n1 : Nat} {pc : Pos} {es : List Expr} {vs : List V} {us : List Value} (hz : Zc (.ref (g.cl c)) d o) (hv : ∃ vs, o.data = .fields vs) (hN : X.N[i]? = some n) (hvis : Vis X.env.scope n) (hnd : (n == ("__debug__" : Str)) = false)
    (hcd : (n == ("__classdict__" : Str)) = false) (hg : Gl X "isinstance") (hm : X.mg "isinstance" = none) (hc : NmCs X es vs us) (hl : vs.length ≤ 1000) (hK : ∀ c b, tab c = some b → XcK X.K (g.cl c) ∧ PySem.W.kitAny X.K (.ref (g.cl c)) us = some b)
    (hs1 : starEach [.Name n p1, .Tuple es n1 pc] X.env = (false, eval (.Name n p1) X.env) :: starEach [.Tuple es n1 pc] X.env := by rfl) (hs2 : starEach [.Tuple es n1 pc] X.env = (false, eval (.Tuple es n1 pc) X.env) :: starEach [] X.env := by rfl)
    (hpl : (backTo pos (starEach [.Tuple es n1 pc] X.env)).any (·.1) = false := by rfl) :
    PE (X.suite a ((a, o) :: pn)) (.Call (.Name "isinstance" p) [.Name n p1, .Tuple es n1 pc] [] pos) (T (gxc g (a, c, as, .ref (g.cl c), d)) W (cErr i (isR tab c))) := by
  cases e : tab c with
  | none =>
    refine ⟨fun pins s σ H Q I h => ?_⟩
    obtain ⟨μ, F, σd, S, R, q⟩ := h
    have q2 := (cErr_q q).2
    unfold isR at q2
    rw [e] at q2
    exact q2.elim
  | some b =>
    obtain ⟨k1, k2⟩ := hK c b e
    refine (pe_callB (X := X.suite a ((a, o) :: pn)) (call_isXN k1 hz hv) hg hm (by decide +kernel) (pa_cons (pe_var (X := X.suite a ((a, o) :: pn)) hN hvis hnd hcd) (pa_cons (pe_tup (X := X.suite a ((a, o) :: pn)) (hc.pa a _)) pa_nil hs2) hs1) (by decide) (by decide) hs1 hpl).hc fun σc H Q ⟨μ, F, σ, S, R, q⟩ => ?_
    obtain ⟨q1, q2⟩ := cErr_q q
    unfold isR at q2
    rw [e] at q2
    obtain ⟨_, dd, ws, hd, rv, fs, h1, h2⟩ := R.xc _ rfl
    refine ⟨.ref a, err_at R q1, by rw [sizeLine_eq]; omega, fun tp no => ⟨tp, vs, us, b, rfl, upd_same, hc.cl, k2, ⟨dd, fs, hd, ?_⟩, ?_⟩⟩
    · rw [upd_ne (ne_of_none h1 no)]; exact h1
    · have sm : Same H (upd H tp (.tup vs)) := same_new no
      exact q2 _ _ F sm ⟨fun _ h => h, fun _ h => .inl h, fun a h => let ⟨o, e⟩ := R.dom a h; ⟨o, sm _ _ e⟩⟩ (.val (.inr rfl))
end
end HC
namespace HC
open PySem PySem.Spec L2
theorem kitAny_mk {K : PySem.W.Frag} {t : Value} : ∀ l : List (Value × Bool), (∀ p ∈ l, PySem.W.kitOne K t p.1 = some p.2) → PySem.W.kitAny K t (l.map (·.1)) = some (l.any (·.2))
  | [], _ => rfl
  | (c, b) :: l, h => by
    have ih := kitAny_mk l fun p hp => h p (List.mem_cons_of_mem _ hp)
    have e : PySem.W.kitOne K t c = some b := h (c, b) (List.mem_cons_self ..)
    exact kitAny_cons e (fun z => by rw [List.any_cons, z]; exact ih) fun z => by rw [List.any_cons, z]; rfl
/-- the law's walk, the classes' places told by the text -/
theorem walk_hx {l : PySem.W.OpenLaw} {n k : Nat} {q : Program} {loose : List Str} {XP : (Str → Option Value) → Heap → Prop} {YP : World → Heap → Prop} {d : DefRec} {K : Params → PySem.W.Frag} {m : FnS} {x : Str}
    (hn : l.most = some n) (hn2 : n ≤ sizeLine) (hdf : d.params.defaults = []) (hr : RG k callerA) (inY : ∀ (w : World) (h : Heap), YP w h → (K w.params).In h)
    (Fo : ∀ (w : World) (mg : Str → Option Value) (fa : Addr) (h : Heap), (K w.params).In h → h.Ns mainGlobals mg → mg d.name = some (.ref fa) → ∃ (fd : FuncData) (g : GX), g.K = K w.params ∧ (∀ (s : Shared) (u : Value), BindsTo s fd ⟨[u], []⟩ [(x, u)]) ∧
        ∀ B : Heap, (K w.params).In B → B.Ns mainGlobals mg → FnG l.prog w (K w.params) mg B (L2.CX l.prog w) k fa fd [x] (fnSp g m))
    (say : ∀ ns : List Int, ns.length ≤ n → m [.rol (ns.map D.int)] = .ok (.bl true) false)
    (noX : ∀ (w : World) (H : Hp) (s : Shared) (e : Value) (s' : Shared), L2.CX l.prog w [] H s (fun _ _ _ => False) e s' → False) :
    PySem.W.WalkO q loose XP YP l.row.toRowW d [] (fun f vs => PySem.call f vs) := by
  refine Att.attach_call hn hdf fun w s₀ s₁ mg mb fa o pm cd doc a vs ns G Y ho hd hcd hmg hobj hints hlen nog => ?_
  have inK := inY w _ Y
  obtain ⟨fd, g, hg, hb, hF⟩ := Fo w mg fa _ inK G.T.g hmg
  exact head_call hr inK G.T.g G.T.b G.T.builtins G.T.nolimit nog hobj hints (Nat.le_trans hlen hn2) hF hb (fun H o sq => law_sp o (by rw [hg]; exact sq) (Nat.le_trans hlen hn2) (say ns hlen)) fun H e s' => noX w H s₁ e s'
end HC

set_option maxRecDepth 100000
namespace HC
open PySem
theorem kit_same {K : PySem.W.Frag} {C : Addr} : PySem.W.kitOne K (.ref C) (.ref C) = some true := by
  unfold PySem.W.kitOne
  rw [if_pos (beq_self_eq_true _)]
theorem kit_own {K : PySem.W.Frag} {C E : Addr} {b : Bool} (n : ((Value.ref E) == Value.ref C) = false) (h1 : PySem.W.hasDictIn K C = true) (h2 : PySem.W.typeIn K (.ref C) = some (.type "type")) (h3 : PySem.W.subIn K (.ref E) (.ref C) = some b) : PySem.W.kitOne K (.ref E) (.ref C) = some b := by
  obtain ⟨cd, hcd, _⟩ := PySem.W.any_some h1
  unfold PySem.W.kitOne
  rw [if_neg (by rw [n]; exact Bool.false_ne_true)]
  show (if ((PySem.W.clsIn K C).isSome && PySem.W.typeIn K (.ref C) == some (.type "type")) = true then _ else _) = _
  rw [if_pos (by rw [hcd, h2] <;> rfl)]
  exact h3
theorem kit_typ {K : PySem.W.Frag} {E : Addr} {t : String} {b : Bool} (h2 : PySem.W.kitMeta t = true) (h3 : PySem.W.subIn K (.ref E) (.type t) = some b) : PySem.W.kitOne K (.ref E) (.type t) = some b := by
  unfold PySem.W.kitOne
  rw [if_neg (by simp)]
  show (if PySem.W.kitMeta t = true then _ else _) = _
  rw [if_pos h2]
  exact h3
end HC

set_option maxRecDepth 100000
namespace HC
open PySem PySem.Spec L2
open PyProof.Rows hiding St

/-! ## a < b < c -/
def cChain (o1 o2 : List SO → D → D → Res) (a b c : CE) : CE := fun σ S => match a σ S with
  | .ok x _ => match b σ S with
    | .ok y _ => match o1 S x y with
      | .ok (.bl true) _ => match c σ S with
        | .ok z _ => o2 S y z
        | .ex c as => .ex c as
        | .bad => .bad
      | .ok (.bl false) _ => .ok (.bl false) false
      | .ok _ _ => .bad
      | .ex c as => .ex c as
      | .bad => .bad
    | .ex c as => .ex c as
    | .bad => .bad
  | .ex c as => .ex c as
  | .bad => .bad
section
variable {X : Cx} {g : GX} {E : WX} {a b c : Expr} {fa fb fc : CE} {pos : Pos} {r r' : R2} {f1 f2 : List SO → D → D → Res}
theorem chain_of (l1 : Lk2 g r f1) (l2 : Lk2 g r' f2) {σc : St} {H : Hp} {Q : VK} (h : T g E (cChain f1 f2 fa fb fc) σc H Q) : tChain r r' (T g E fa) (T g E fb) (T g E fc) σc H Q := by
  obtain ⟨μ, F, σ, S, R, q⟩ := h
  refine ⟨μ, F, σ, S, R, ?_⟩
  unfold cChain at q
  cases ea : fa σ S with
  | bad => rw [ea] at q; exact q
  | ex c as => rw [ea] at q; exact q
  | ok x fx =>
    rw [ea] at q
    intro vx H1 F1 s1 x1 r1
    obtain ⟨F2, x2, u2, rx⟩ := r1.frz x1
    have R2 := R.mono s1 x2
    refine ⟨μ, F2, σ, S, R2, ?_⟩
    dsimp only at q
    cases eb : fb σ S with
    | bad => rw [eb] at q; exact q
    | ex c as => rw [eb] at q; exact (q.from s1 x2).x
    | ok y fy =>
      rw [eb] at q
      intro vy H3 F3 s3 x3 r3
      obtain ⟨F4, x4, u4, ry⟩ := r3.frz x3
      have R4 := R2.mono s3 x4
      refine l1 (wat E σc) μ F4 σ S σc H3 x y vx vy _ R4 (rx.mono s3 x4.up) ry ?_
      dsimp only at q
      have q4 := (q.from s1 x2).from s3 x4
      cases eo : f1 S x y with
      | bad => rw [eo] at q4; exact q4
      | ex c as => rw [eo] at q4; exact q4.x
      | ok z fz =>
        rw [eo] at q4
        cases z with
        | bl k =>
          intro vz H5 F5 s5 x5 r5
          obtain ⟨F6, x6, u6, rz⟩ := r5.frz x5
          have R6 := R4.mono s5 x6
          refine ⟨k, rz.bl, ?_⟩
          cases k with
          | false => exact iteF ((q4.from s5 x6).here R6.dom (.inr rfl))
          | true =>
            refine iteT ⟨μ, F6, σ, S, R6, ?_⟩
            have q6 := q4.from s5 x6
            dsimp only at q6
            cases ec : fc σ S with
            | bad => rw [ec] at q6; exact q6
            | ex c as => rw [ec] at q6; exact q6.x
            | ok w fw =>
              rw [ec] at q6
              intro vw H7 F7 s7 x7 r7
              obtain ⟨F8, x8, u8, rw'⟩ := r7.frz x7
              exact l2 (wat E σc) μ F8 σ S σc H7 y w vy vw Q (R6.mono s7 x8) ((ry.mono s5 x6.up).mono s7 x8.up) rw' (q6.from s7 x8)
        | _ => exact q4.elim
theorem q_chain {op op' : CmpOp} (ho : OpR X (compareOp op) r) (l1 : Lk2 g r f1) (ho' : OpR X (compareOp op') r') (l2 : Lk2 g r' f2) (ha : PE X a (T g E fa)) (hb : PE X b (T g E fb)) (hc : PE X c (T g E fc))
    (hm : lastMarks [op, op'] [b, c] = false := by with_unfolding_all rfl) : PE X (.Compare a [op, op'] [b, c] pos) (T g E (cChain f1 f2 fa fb fc)) := (pe_chain ho ho' ha hb hc hm).hc fun σc H Q h => chain_of l1 l2 h
theorem q_chainT {op op' : CmpOp} (ho : OpR X (compareOp op) r) (l1 : Lk2 g r f1) (ho' : OpR X (compareOp op') r') (l2 : Lk2 g r' f2) (ha : PE X a (T g E fa)) (hb : PE X b (T g E fb)) (hc : PE X c (T g E fc))
    (hm : lastMarks [op, op'] [b, c] = false := by with_unfolding_all rfl) : PT X (.Compare a [op, op'] [b, c] pos) (TB g E (cChain f1 f2 fa fb fc)) := (pt_chain ho ho' ha hb hc hm).hc fun σc H Q h => chain_of l1 l2 h
end
/-! ## a, b = x, y -/
def sPar2 (i j : Nat) (fa : CA) : SC := fun σ S => match fa σ S with
  | .ok [x, y] => .nx (setD (setD σ i x) j y) S
  | .ok _ => .bad
  | .ex c as => .ex c as σ S
  | .bad => .bad
def sPar3 (i j l : Nat) (fa : CA) : SC := fun σ S => match fa σ S with
  | .ok [x, y, z] => .nx (setD (setD (setD σ i x) j y) l z) S
  | .ok _ => .bad
  | .ex c as => .ex c as σ S
  | .bad => .bad
section
variable {X : Cx} {g : GX} {W : WX} {a b c : Expr} {fa : CA} {pos px py pz pt : Pos} {x y z : Str} {i j l : Nat} {kt k2 : Nat} {pt2 : Pos}
theorem s_par2 (hc : X.calm = true) (hN : X.N.Nodup) (hi : X.N[i]? = some x) (hj : X.N[j]? = some y) (hij : i ≠ j) (hx : X.env.scope.names.lookup x = some .local) (hy : X.env.scope.names.lookup y = some .local) (ha : PA X [a, b] (TL g W fa))
    (hw : swappedStores [.Tuple [.Name x px, .Name y py] kt pt] (.Tuple [a, b] k2 pt2) X.env = pure (some [x, y]))
    (hs : swapsWithSole [.Tuple [.Name x px, .Name y py] kt pt] (.Tuple [a, b] k2 pt2) pos.line X.env = pure false := by rfl) :
    PS X (.Assign [.Tuple [.Name x px, .Name y py] kt pt] (.Tuple [a, b] k2 pt2) pos) (TSt g W (sPar2 i j fa)) :=
  (ps_par hc hN hi hj hij hx hy ha hw hs).hc fun Dn σc H ⟨μ, F, σ, S, R, q⟩ => by
    refine ⟨μ, F, σ, S, R, ?_⟩
    unfold sPar2 at q
    cases ea : fa σ S with
    | bad => rw [ea] at q; exact q
    | ex c as => rw [ea] at q; exact fun cls dx H' F' s x rx => q cls dx σc μ F' H' (.of s x) (R.mono s x) rx
    | ok ds =>
      rw [ea] at q
      intro vs H1 F1 s1 x1 r1
      match ds, q, r1 with
      | [d1, d2], q, r1 =>
        cases r1 with
        | cons ra rr =>
          cases rr with
          | cons r2 rr =>
            cases rr
            exact ⟨_, _, rfl, q _ μ F1 H1 (.of s1 x1) (((R.mono s1 x1).set ra).set r2)⟩
      | [], q, _ => exact q.elim
      | [_], q, _ => exact q.elim
      | _ :: _ :: _ :: _, q, _ => exact q.elim
theorem s_par3 (hc : X.calm = true) (hN : X.N.Nodup) (hi : X.N[i]? = some x) (hj : X.N[j]? = some y) (hl : X.N[l]? = some z) (hij : i ≠ j) (hil : i ≠ l) (hjl : j ≠ l) (hx : X.env.scope.names.lookup x = some .local) (hy : X.env.scope.names.lookup y = some .local)
    (hz : X.env.scope.names.lookup z = some .local) (ha : PA X [a, b, c] (TL g W fa)) (hw : swappedStores [.Tuple [.Name x px, .Name y py, .Name z pz] kt pt] (.Tuple [a, b, c] k2 pt2) X.env = pure (some [x, y, z]))
    (hs : swapsWithSole [.Tuple [.Name x px, .Name y py, .Name z pz] kt pt] (.Tuple [a, b, c] k2 pt2) pos.line X.env = pure false := by rfl) :
    PS X (.Assign [.Tuple [.Name x px, .Name y py, .Name z pz] kt pt] (.Tuple [a, b, c] k2 pt2) pos) (TSt g W (sPar3 i j l fa)) :=
  (ps_par3 hc hN hi hj hl hij hil hjl hx hy hz ha hw hs).hc fun Dn σc H ⟨μ, F, σ, S, R, q⟩ => by
    refine ⟨μ, F, σ, S, R, ?_⟩
    unfold sPar3 at q
    cases ea : fa σ S with
    | bad => rw [ea] at q; exact q
    | ex c as => rw [ea] at q; exact fun cls dx H' F' s x rx => q cls dx σc μ F' H' (.of s x) (R.mono s x) rx
    | ok ds =>
      rw [ea] at q
      intro vs H1 F1 s1 x1 r1
      match ds, q, r1 with
      | [d1, d2, d3], q, r1 =>
        cases r1 with
        | cons ra rr =>
          cases rr with
          | cons r2 rr =>
            cases rr with
            | cons r3 rr =>
              cases rr
              exact ⟨_, _, _, rfl, q _ μ F1 H1 (.of s1 x1) ((((R.mono s1 x1).set ra).set r2).set r3)⟩
      | [], q, _ => exact q.elim
      | [_], q, _ => exact q.elim
      | [_, _], q, _ => exact q.elim
      | _ :: _ :: _ :: _ :: _, q, _ => exact q.elim
end
/-! to run -/
def par2K (i j : Nat) (σ : Sl) (S : List SO) : List D → RS
  | [x, y] => .nx (setD (setD σ i x) j y) S
  | _ => .bad
def par3K (i j l : Nat) (σ : Sl) (S : List SO) : List D → RS
  | [x, y, z] => .nx (setD (setD (setD σ i x) j y) l z) S
  | _ => .bad
@[simp] theorem par2K_e {i j : Nat} {σ : Sl} {S : List SO} {x y : D} : par2K i j σ S [x, y] = .nx (setD (setD σ i x) j y) S := id rfl
@[simp] theorem par3K_e {i j l : Nat} {σ : Sl} {S : List SO} {x y z : D} : par3K i j l σ S [x, y, z] = .nx (setD (setD (setD σ i x) j y) l z) S := id rfl
@[simp] theorem sPar2_e {i j : Nat} {fa : CA} {σ : Sl} {S : List SO} : sPar2 i j fa σ S = lsB (fa σ S) σ S (par2K i j σ S) := by
  unfold sPar2 par2K
  cases fa σ S with
  | ok ds => match ds with
    | [] => rfl
    | [_] => rfl
    | [_, _] => rfl
    | _ :: _ :: _ :: _ => rfl
  | _ => rfl
@[simp] theorem sPar3_e {i j l : Nat} {fa : CA} {σ : Sl} {S : List SO} : sPar3 i j l fa σ S = lsB (fa σ S) σ S (par3K i j l σ S) := by
  unfold sPar3 par3K
  cases fa σ S with
  | ok ds => match ds with
    | [] => rfl
    | [_] => rfl
    | [_, _] => rfl
    | [_, _, _] => rfl
    | _ :: _ :: _ :: _ :: _ => rfl
  | _ => rfl
@[simp] theorem cChain_e {o1 o2 : List SO → D → D → Res} {a b c : CE} {σ : Sl} {S : List SO} : cChain o1 o2 a b c σ S = rB (a σ S) fun x => rB (b σ S) fun y => tB (o1 S x y) fun k => if k = true then rB (c σ S) fun z => o2 S y z else .ok (.bl false) false := by
  unfold cChain
  cases a σ S with
  | ok x _ =>
    dsimp only [rB]
    cases b σ S with
    | ok y _ =>
      dsimp only
      cases o1 S x y with
      | ok z _ => cases z with
        | bl k => cases k with
          | true => dsimp only [tB]; (rw [if_pos rfl]) <;> (cases c σ S <;> rfl)
          | false => rfl
        | _ => rfl
      | _ => rfl
    | _ => rfl
  | _ => rfl
/-! raise, try -/
def raiseK (c : Nat) (σ : Sl) (S : List SO) : List D → RS
  | [d] => .ex c [d] σ S
  | _ => .bad
@[simp] theorem raiseK_e {c : Nat} {σ : Sl} {S : List SO} {d : D} : raiseK c σ S [d] = .ex c [d] σ S := id rfl
@[simp] theorem sRaise_e {c : Nat} {fa : CA} {σ : Sl} {S : List SO} : sRaise c fa σ S = lsB (fa σ S) σ S (raiseK c σ S) := by
  unfold sRaise raiseK
  cases fa σ S with
  | ok ds => match ds with
    | [] => rfl
    | [_] => rfl
    | _ :: _ :: _ => rfl
  | _ => rfl
def tryB (r : RS) (k : Nat → List D → SC) : RS := match r with
  | .ex c as σ S => k c as σ S
  | r => r
def hdK (o : Option Bool) (y n : RS) : RS := match o with
  | some true => match y with
    | .rt d fr => if noE d then .rt d fr else .bad
    | _ => .bad
  | some false => n
  | none => .bad
section
variable {c i : Nat} {as : List D} {σ : Sl} {S : List SO} {k : Nat → List D → SC} {d : D} {fr : Bool} {y n : RS} {fb : SC} {hs : HF}
@[simp] theorem tryB_ex : tryB (.ex c as σ S) k = k c as σ S := id rfl
@[simp] theorem tryB_nx : tryB (.nx σ S) k = .nx σ S := id rfl
@[simp] theorem tryB_rt : tryB (.rt d fr) k = .rt d fr := id rfl
@[simp] theorem tryB_bad : tryB .bad k = .bad := id rfl
@[simp] theorem hdK_t : hdK (some true) (.rt d fr) n = if noE d then .rt d fr else .bad := id rfl
@[simp] theorem hdK_f : hdK (some false) y n = n := id rfl
@[simp] theorem sTry_e : sTry i fb hs σ S = tryB (fb σ S) fun c as => runH i c as hs := by unfold sTry tryB; cases fb σ S <;> rfl
@[simp] theorem runH_n : runH i c as [] σ S = .ex c as σ S := id rfl
@[simp] theorem runH_c {t : Nat → Option Bool} {f : Nat → List D → SC} : runH i c as ((t, f) :: hs) σ S = hdK (t c) (f c as (setD σ i .err) S) (runH i c as hs σ S) := by
  conv => lhs; unfold runH
  unfold hdK
  cases t c with
  | none => rfl
  | some b => cases b <;> rfl
@[simp] theorem cErr_e {k : Res} {σ : Sl} : cErr i k σ S = match gets σ i with | some (some .err) => k | _ => .bad := id rfl
@[simp] theorem noE_non : noE .non = true := id rfl
@[simp] theorem noE_bl {b : Bool} : noE (.bl b) = true := id rfl
@[simp] theorem noE_int {b : Int} : noE (.int b) = true := id rfl
@[simp] theorem noE_str {b : PySem.Str} : noE (.str b) = true := id rfl
@[simp] theorem noE_tup {ds : List D} : noE (.tup ds) = noEs ds := id rfl
@[simp] theorem noE_lst {ds : List D} : noE (.lst ds) = noEs ds := id rfl
@[simp] theorem noEs_n : noEs [] = true := id rfl
@[simp] theorem noEs_c {ds : List D} : noEs (d :: ds) = (noE d && noEs ds) := id rfl
end
end HC

set_option maxRecDepth 2000
namespace HC
open PySem

/-! ## what repr shows is a text of characters -/
theorem strOk_of (s : String) : PyData.strOk (Str.ofString s) = true := by
  unfold PyData.strOk
  rw [Str.ofString_eq_toList]
  simp only [Array.all_eq_true']
  intro x hx
  simp only [List.mem_toArray, List.mem_map] at hx
  obtain ⟨c, _, rfl⟩ := hx
  have h : c.toNat.isValidChar := c.valid
  simp only [decide_eq_true_eq]
  rcases h with h | ⟨_, h⟩ <;> omega
theorem strOk_app (a b : Str) : PyData.strOk (a ++ b) = (PyData.strOk a && PyData.strOk b) := by
  unfold PyData.strOk
  rw [Str.cps_append, Array.all_append]
theorem strOk_from : ∀ (ts : List Str) (k : Nat) (acc : Str), PyData.strOk acc = true → (∀ t ∈ ts, PyData.strOk t = true) → PyData.strOk (PySem.textFrom k acc ts) = true
  | [], k, acc, h, _ => h
  | t :: r, k, acc, h, ht => by
    refine strOk_from r (k + 1) _ ?_ fun u hu => ht u (List.mem_cons_of_mem _ hu)
    rw [strOk_app, strOk_app, h, ht t (List.mem_cons_self ..), strOk_of]
    rfl
theorem strOk_join : ∀ ts : List Str, (∀ t ∈ ts, PyData.strOk t = true) → PyData.strOk (Str.join ", " ts) = true
  | [], _ => by
    show PyData.strOk Str.empty = true
    unfold PyData.strOk Str.empty
    simp
  | [t], h => h t (List.mem_cons_self ..)
  | t :: u :: r, h => by
    show PyData.strOk (t ++ _ ++ Str.join ", " (u :: r)) = true
    rw [strOk_app, strOk_app, h t (List.mem_cons_self ..), strOk_of, strOk_join (u :: r) fun v hv => h v (List.mem_cons_of_mem _ hv)]
    rfl
mutual
def txOk : PyData → Bool
  | .str x => PyData.strOk (PyData.shown (.str x))
  | .list xs => txOks xs
  | .tuple xs => txOks xs
  | .dict _ => false
  | _ => true
def txOks : List PyData → Bool
  | [] => true
  | x :: r => txOk x && txOks r
end
mutual
theorem shown_ok : ∀ x : PyData, txOk x = true → PyData.strOk x.shown = true
  | .none, _ => strOk_of _
  | .bool b, _ => by cases b <;> exact strOk_of _
  | .int i, _ => strOk_of _
  | .str x, h => h
  | .list xs, h => by
    show PyData.strOk (PySem.textFrom 0 "[" (PyData.shownAll xs) ++ _) = true
    rw [strOk_app, strOk_from _ _ _ (strOk_of _) (shown_oks xs h), strOk_of]
    rfl
  | .tuple xs, h => by
    show PyData.strOk (_ ++ Str.join ", " (PyData.shownAll xs) ++ _) = true
    rw [strOk_app, strOk_app, strOk_of, strOk_join _ (shown_oks xs h), strOk_of]
    rfl
  | .dict _, h => nomatch h
theorem shown_oks : ∀ xs : List PyData, txOks xs = true → ∀ t ∈ PyData.shownAll xs, PyData.strOk t = true
  | [], _, _, h => nomatch h
  | x :: r, h, t, ht => by
    have h2 : (txOk x && txOks r) = true := h
    rw [Bool.and_eq_true] at h2
    rcases List.mem_cons.mp ht with ht | ht
    · rw [ht]
      exact shown_ok x h2.1
    · exact shown_oks r h2.2 t ht
end
end HC

set_option maxRecDepth 100000
namespace HC
open PySem PySem.Spec L2
open PyProof.Rows hiding St
/-! ## the last list of the store is frozen -/
def subD (n : Nat) (x : D) : D → D
  | .loc k => if k = n then x else .loc k
  | d => d
def subO (n : Nat) (x : D) : SO → SO
  | .lst xs => .lst (xs.map (subD n x))
  | .dct ks ws => .dct ks (ws.map (subD n x))
  | .ins c ws => .ins c (ws.map (subD n x))
def subS (n : Nat) (x : D) (σ : Sl) : Sl := σ.map fun o => o.map (subD n x)
def frzR (n : Nat) (r : RS) : RS := match r with
  | .nx σ S => if S.length = n + 1 then (match gets S n with
    | some (.lst xs) => if pureL xs then .nx (subS n (.lst xs) σ) ((S.take n).map (subO n (.lst xs))) else .bad
    | _ => .bad) else .nx σ S
  | r => r
/-- f, and what list it has made beyond the ones of the store is frozen -/
def sFrz (f : SC) : SC := fun σ S => frzR S.length (f σ S)
section
variable {g : GX} {W : WX} {f : SC} {μ : List Addr} {F : FZ} {σ : Sl} {S : List SO} {σc : St} {H : Hp}
theorem subD_rep {xs : List D} {a : Addr} {vs : List V} (hH : H a = some (.lst vs)) (hz : vs.length ≤ sizeLine) (rl : RepL g H F xs vs) {d : D} {v : V} (r : RepV g H F (μ ++ [a]) d v) : RepV g H (fun b => F b ∨ b = a) μ (subD μ.length (.lst xs) d) v := by
  have up : ∀ b, F b → F b ∨ b = a := fun b h => .inl h
  rcases r with ⟨k, b, rfl, hk, rfl⟩ | r
  · by_cases e : k = μ.length
    · subst e
      rw [List.getElem?_append_right (Nat.le_refl _), Nat.sub_self] at hk
      cases hk
      have es : subD μ.length (.lst xs) (.loc μ.length) = .lst xs := if_pos rfl
      rw [es]
      exact .inr ⟨a, vs, rfl, ⟨.inr rfl, hH, hz⟩, RepL.mono (Same.refl H) up _ _ rl⟩
    · have es : subD μ.length (.lst xs) (.loc k) = .loc k := if_neg e
      rw [es]
      have hl := (List.getElem?_eq_some_iff.mp hk).1
      rw [List.length_append] at hl
      have hl2 : k < μ.length := by
        have : [a].length = 1 := rfl
        omega
      rw [List.getElem?_append_left hl2] at hk
      exact .inl ⟨k, b, rfl, hk, rfl⟩
  · have es : subD μ.length (.lst xs) d = d := by
      cases d <;> first | rfl | exact r.elim
    rw [es]
    exact .inr (RepP.mono (Same.refl H) up _ _ r)
theorem subDs_rep {xs : List D} {a : Addr} {vs : List V} (hH : H a = some (.lst vs)) (hz : vs.length ≤ sizeLine) (rl : RepL g H F xs vs) : ∀ {ds : List D} {us : List V}, RepVs g H F (μ ++ [a]) ds us → RepVs g H (fun b => F b ∨ b = a) μ (ds.map (subD μ.length (.lst xs))) us
  | _, _, .nil => .nil
  | _, _, .cons r t => .cons (subD_rep hH hz rl r) (subDs_rep hH hz rl t)
theorem frz_of {Dn : Ends} (h : TSt g W (sFrz f) Dn σc H) : TSt g W f Dn σc H := by
  obtain ⟨μ, F, σ, S, R, q⟩ := h
  refine ⟨μ, F, σ, S, R, ?_⟩
  unfold sFrz at q
  cases e : f σ S with
  | nx σ' S' =>
    rw [e] at q
    unfold frzR at q
    dsimp only at q
    by_cases hl : S'.length = S.length + 1
    · rw [if_pos hl] at q
      cases eg : gets S' S.length with
      | none => rw [eg] at q; exact q.elim
      | some o =>
        rw [eg] at q
        cases o with
        | lst xs =>
          dsimp only at q
          by_cases hp : pureL xs = true
          · rw [if_pos hp] at q
            intro σc' μ' F' H' l R'
            obtain ⟨ν, eν, nν⟩ := l.mu
            have h1 := R'.ml
            have h2 := R.ml
            rw [eν, List.length_append] at h1
            obtain ⟨a, ea⟩ : ∃ a, ν = [a] := by
              cases ν with
              | nil => simp at h1; omega
              | cons a t => cases t with
                | nil => exact ⟨a, rfl⟩
                | cons _ _ => simp at h1; omega
            subst ea
            subst eν
            rw [gets_eq] at eg
            obtain ⟨b, hb, vs, k1, k2, k3⟩ := R'.st _ _ eg
            rw [← h2, List.getElem?_append_right (Nat.le_refl _), Nat.sub_self] at hb
            cases hb
            have rl := k3.pure hp
            have na : H a = none := nν a (List.mem_cons_self ..)
            have nm : a ∉ μ := fun hm => by
              have := List.nodup_append.mp R'.nd
              exact this.2.2 a hm a (List.mem_cons_self ..) rfl
            have l2 : Later μ F H μ (fun b => F' b ∨ b = a) H' := ⟨⟨[], by simp, fun x h => (nomatch h)⟩, fun x h => .inl (l.up x h), l.keep, l.dom, fun x h => h.elim (l.nw x) fun h => .inr (by rw [h]; exact na)⟩
            refine q σc' μ _ H' l2 ?_
            have hsub := fun {d v} (r : RepV g H' F' (μ ++ [a]) d v) => subD_rep (g := g) (xs := xs) k1 k2 rl r
            have hsubs := fun {ds us} (r : RepVs g H' F' (μ ++ [a]) ds us) => subDs_rep (g := g) (xs := xs) k1 k2 rl r
            rw [← h2]
            refine ⟨fun i d h => ?_, ?_, fun k o h => ?_, ?_, (List.nodup_append.mp R'.nd).1, fun b hb hF => ?_, fun b hb => ?_, fun p hp2 => RepX.later R l2 (R.xc p hp2)⟩
            · unfold subS at h
              rw [List.getElem?_map] at h
              cases es : σ'[i]? with
              | none => rw [es] at h; cases h
              | some od =>
                rw [es] at h
                cases od with
                | none => cases h
                | some d0 =>
                  cases h
                  obtain ⟨v, q1, q2⟩ := R'.env i d0 es
                  exact ⟨v, q1, hsub q2⟩
            · unfold subS
              rw [List.length_map]
              exact R'.len
            · rw [List.getElem?_map] at h
              cases es : (S'.take μ.length)[k]? with
              | none => rw [es] at h; cases h
              | some o0 =>
                rw [es] at h
                cases h
                rw [List.getElem?_take] at es
                split at es
                · rename_i hk
                  obtain ⟨b, q1, q2⟩ := R'.st k o0 es
                  rw [List.getElem?_append_left hk] at q1
                  refine ⟨b, q1, ?_⟩
                  have up : ∀ b, F' b → F' b ∨ b = a := fun b h => .inl h
                  cases o0 with
                  | lst zs => obtain ⟨ws, z1, z2, z3⟩ := q2; exact ⟨ws, z1, z2, hsubs z3⟩
                  | dct ks zs => obtain ⟨ws, z1, z2⟩ := q2; exact ⟨ws, hsubs z1, z2⟩
                  | ins c zs => obtain ⟨dx, fs, ws, z1, z2, z3, z4⟩ := q2; exact ⟨dx, fs, ws, z1, z2, z3, hsubs z4⟩
                · cases es
            · rw [List.length_map, List.length_take]
              omega
            · rcases hF with hF | hF
              · exact R'.ap b (List.mem_append.mpr (.inl hb)) hF
              · exact nm (hF ▸ hb)
            · rcases hb with hb | hb
              · exact R'.dom b hb
              · exact ⟨_, by rw [hb]; exact k1⟩
          · rw [if_neg hp] at q
            exact q.elim
        | _ => exact q.elim
    · rw [if_neg hl] at q
      exact q
  | _ => rw [e] at q; exact q
theorem s_frz {X : Cx} {st : Stmt} (h : PS X st (TSt g W f)) : PS X st (TSt g W (sFrz f)) := h.hc fun Dn σc H h => frz_of h
theorem ss_frz {X : Cx} {st : List Stmt} (h : PSs X st (TSt g W f)) : PSs X st (TSt g W (sFrz f)) := h.hc fun Dn σc H h => frz_of h
end
section
variable {σ : Sl} {S : List SO} {f : SC}
@[simp] theorem sFrz_e : sFrz f σ S = frzR S.length (f σ S) := id rfl
theorem frzR_e {n : Nat} {xs : List D} (hp : pureL xs = true) (hS : S.length = n) : frzR n (.nx σ (S ++ [.lst xs])) = .nx (subS n (.lst xs) σ) (S.map (subO n (.lst xs))) := by
  unfold frzR
  have h1 : (S ++ [SO.lst xs]).length = n + 1 := by rw [List.length_append, hS]; rfl
  have h2 : gets (S ++ [SO.lst xs]) n = some (.lst xs) := by rw [gets_eq, List.getElem?_append_right (by omega), hS, Nat.sub_self]; rfl
  dsimp only
  rw [if_pos h1, h2]
  dsimp only
  rw [if_pos hp, List.take_left' hS]
theorem frzR_i {n : Nat} (hS : S.length = n) : frzR n (.nx σ S) = .nx σ S := by
  unfold frzR
  dsimp only
  rw [if_neg (by omega)]
theorem subL_pure {n : Nat} {x : D} : ∀ {ds : List D}, pureL ds = true → ds.map (subD n x) = ds
  | [], _ => rfl
  | d :: ds, h => by
    have h : (d.pure && pureL ds) = true := h
    rw [Bool.and_eq_true] at h
    rw [List.map_cons, subL_pure h.2]
    have e : subD n x d = d := by
      cases d <;> first | rfl | (exact nomatch h.1)
    rw [e]
end
/-! ## a list that is put into another one -/
end HC

set_option maxRecDepth 100000
namespace HC
open PySem PySem.Spec L2
open PyProof.Rows hiding St
/-! ## a list made on the way is put into another one, both may be written -/
def kAppN (n : Nat) (xs : List D) : Sl → List SO → D → Bool → RS := fun σ S d fr => match fr with
  | true => match d with
    | .lst ys => if xs.length < lim then .nx σ (S.set n (.lst (xs ++ [.loc S.length])) ++ [.lst ys]) else .bad
    | _ => .bad
  | false => .bad
def sAppN (fo fe : CE) : SC := sVal fo fun σ S x _ => locL S x fun n xs => sVal fe (kAppN n xs) σ S
section
variable {g : GX} {μ : List Addr} {F : FZ} {σ : Sl} {S : List SO} {σc : St} {H : Hp} {W : WX} {Dn : Ends}
theorem Rel.grow {a : Addr} {o : SO} (R1 : Rel g μ F σ S σc H) (nf : ¬ F a) (nm : a ∉ μ) (ro : RepO g H F (μ ++ [a]) o a) : Rel g (μ ++ [a]) F σ (S ++ [o]) σc H := by
  have up : ∀ {d v}, RepV g H F μ d v → RepV g H F (μ ++ [a]) d v := fun {d v} h => h.imp (fun ⟨n, b, e, hb, ev⟩ => ⟨n, b, e, by rw [List.getElem?_append_left (List.getElem?_eq_some_iff.mp hb).1]; exact hb, ev⟩) fun h => h
  have ups : ∀ {ds vs}, RepVs g H F μ ds vs → RepVs g H F (μ ++ [a]) ds vs := fun {ds vs} h => Paired.mapP h fun _ _ => up
  refine ⟨fun j d h => let ⟨v, h1, h2⟩ := R1.env j d h; ⟨v, h1, up h2⟩, R1.len, fun n o2 h => ?_, by rw [List.length_append, List.length_append, R1.ml]; rfl, ?_, fun b hb => ?_, R1.dom, fun p hp => ?_⟩
  · by_cases hn : n < S.length
    · rw [List.getElem?_append_left hn] at h
      obtain ⟨b, h1, h2⟩ := R1.st n o2 h
      refine ⟨b, by rw [List.getElem?_append_left (by rw [R1.ml]; exact hn)]; exact h1, ?_⟩
      cases o2 with
      | lst xs => obtain ⟨vs, k1, k2, k3⟩ := h2; exact ⟨vs, k1, k2, ups k3⟩
      | dct ks ws => obtain ⟨vs, k1, k2⟩ := h2; exact ⟨vs, ups k1, k2⟩
      | ins c ws => obtain ⟨dx, fs, vs, k1, k2, k3, k4⟩ := h2; exact ⟨dx, fs, vs, k1, k2, k3, ups k4⟩
    · have hn2 : n = S.length := by
        have := (List.getElem?_eq_some_iff.mp h).1
        rw [List.length_append] at this
        simp at this
        omega
      subst hn2
      rw [List.getElem?_append_right (Nat.le_refl _), Nat.sub_self] at h
      cases h
      refine ⟨a, ?_, ro⟩
      rw [← R1.ml, List.getElem?_append_right (Nat.le_refl _), Nat.sub_self]
      rfl
  · rw [List.nodup_append]
    exact ⟨R1.nd, by simp, fun b hb c hc => by
      rw [List.mem_singleton.mp hc]
      intro z
      rw [z] at hb
      exact nm hb⟩
  · rcases List.mem_append.mp hb with hb | hb
    · exact R1.ap b hb
    · rw [List.mem_singleton.mp hb]
      exact nf
  · obtain ⟨h1, x, vs, h2, h3, r⟩ := R1.xc p hp
    exact ⟨h1, x, vs, h2, ups h3, r⟩
theorem appN_of {X : Cx} {fo fe : CE} (hg : X.K = g.K) (h : TSt g W (sAppN fo fe) Dn σc H) : tBM X.K "list" rAppend (T g W fo) (tCons (T g W fe) tNil) σc H fun _ H' => Dn.nx σc H' := by
  obtain ⟨μ, F, σ, S, R, q⟩ := h
  refine R.svalF q fun d fr v H1 F1 s1 x1 R1 r1 q1 => ?_
  obtain ⟨n, xs, b, vs, rfl, e, rfl, hm, hb, hz, rx, q2⟩ := locL_ok R1 r1 q1
  refine ⟨.inl ⟨rfl, vs, SqL.of hb⟩, ?_⟩
  refine R1.sval q2 fun d fr v H2 F2 s2 x2 R2 r2 q3 => ?_
  unfold kAppN at q3
  split at q3
  · rcases r2 with ⟨z, _⟩ | ⟨_, a, rfl, h0, nf, nm, rn⟩
    · cases z
    · split at q3
      · rename_i ys
        split at q3
        · rename_i hl
          obtain ⟨ws, k1, k2, k3⟩ := rn
          have hbn : n < S.length := by rw [gets_eq] at e; exact (List.getElem?_eq_some_iff.mp e).1
          have R3 : Rel g (μ ++ [a]) F2 σ (S ++ [.lst ys]) σc H2 := R2.grow nf nm ⟨ws, k1, k2, k3.vs⟩
          have l1 : Later μ F1 H1 (μ ++ [a]) F2 H2 := ⟨⟨[a], rfl, fun b hb => by rw [List.mem_singleton.mp hb]; exact h0⟩, x2.up, fun b o _ h => s2 b o h, fun b h => same_none s2 h, x2.nw⟩
          have e3 : gets (S ++ [SO.lst ys]) n = some (.lst xs) := by rw [gets_eq, List.getElem?_append_left hbn, ← gets_eq]; exact e
          have hm3 : (μ ++ [a])[n]? = some b := by rw [List.getElem?_append_left (List.getElem?_eq_some_iff.mp hm).1]; exact hm
          obtain ⟨b2, vs2, z1, z2, z3, z4, z5⟩ := R3.locl (v := .ref b) (.inl ⟨n, b, rfl, hm3, rfl⟩) e3
          cases z1
          have hlen := z5.length
          have h1 : vs2.length < sizeLine := by rw [lim_eq, ← hlen]; exact hl
          have ha : (μ ++ [a])[S.length]? = some a := by rw [← R2.ml, List.getElem?_append_right (Nat.le_refl _), Nat.sub_self]; rfl
          obtain ⟨R4, l2⟩ := R3.put (ys := xs ++ [.loc S.length]) (ws := vs2 ++ [.ref a]) e3 hm3 (by rw [List.length_append]; exact h1) (z5.app (.cons (.inl ⟨S.length, a, rfl, ha, rfl⟩) .nil))
          refine ⟨b, vs2, .ref a, rfl, rfl, z3, h1, ?_⟩
          have es : (S ++ [SO.lst ys]).set n (.lst (xs ++ [.loc S.length])) = S.set n (.lst (xs ++ [.loc S.length])) ++ [.lst ys] := List.set_append_left _ _ hbn
          rw [es] at R4
          exact q3 σc _ _ _ (l1.trans l2) R4
        · exact q3.elim
      · exact q3.elim
  · exact q3.elim
end
section
variable {X : Cx} {g : GX} {W : WX} {o e : Expr} {fo fe : CE} {pos apos cpos : Pos}
theorem s_appN (ho : PE X o (T g W fo)) (he : PE X e (T g W fe)) (hg : X.K = g.K := by rfl)
    (hbase : attributeBase o (Str.ofString "append") X.env (eval o X.env) = eval o X.env := by rfl) (hs : swapsWith (.Call (.Attribute o (Str.ofString "append") apos) [e] [] cpos) none pos.line X.env = pure false := by rfl)
    (hfew : ((backTo cpos (starEach [e] X.env)).all (fun x => !x.1) && (backToKw cpos (keywordEach [] X.env)).all (fun x => x.1.isSome) && decide ([e].length + ([] : List Keyword).length + (if ([] : List Keyword).isEmpty then 0 else 1) < 30)) = true := by rfl)
    (hline : (apos.endLine == cpos.line) = true := by rfl) (hst : starEach [e] X.env = (false, eval e X.env) :: starEach [] X.env := by rfl) (hplain : (backTo cpos (starEach [] X.env)).any (·.1) = false := by rfl) :
    PS X (.Expr (.Call (.Attribute o (Str.ofString "append") apos) [e] [] cpos) pos) (TSt g W (sAppN fo fe)) :=
  (ps_expr (pe_bm PySem.F.plainAttrs_list PySem.F.slot_list_append PySem.F.type_list_append mt_append ho (pa_cons he pa_nil hst) hbase hfew hline hst hplain) hs).hc fun Dn σc H h => appN_of hg h
end
section
variable {σ : Sl} {S : List SO} {fo fe : CE} {xs ys : List D} {n : Nat}
@[simp] theorem sAppN_e : sAppN fo fe σ S = vB (fo σ S) σ S fun x _ => lS S x fun n xs => vB (fe σ S) σ S (kAppN n xs σ S) := by
  unfold sAppN sVal
  cases fo σ S with
  | ok d f =>
    show locL S d _ = lS S d _
    rw [locL_e]
    exact congrArg (lS S d) (funext fun n => funext fun xs => by
      show (match fe σ S with | .ok d fr => kAppN n xs σ S d fr | .ex c as => RS.ex c as σ S | .bad => .bad) = vB (fe σ S) σ S (kAppN n xs σ S)
      cases fe σ S <;> rfl)
  | _ => rfl
@[simp] theorem kAppN_e (h : xs.length < lim) : kAppN n xs σ S (.lst ys) true = .nx σ (S.set n (.lst (xs ++ [.loc S.length])) ++ [.lst ys]) := by
  unfold kAppN
  dsimp only
  rw [if_pos h]
end
end HC

set_option maxRecDepth 100000
namespace HC
/-! a comprehension over few items, for simp -/
def gO (o : Option Sl) (k : Sl → Option (List D)) : Option (List D) := match o with
  | some σ => k σ
  | none => none
def tO2 (r : Res) (k : Bool → Option (List D)) : Option (List D) := match r with
  | .ok (.bl b) _ => k b
  | _ => none
def vO2 (r : Res) (k : D → Option (List D)) : Option (List D) := match r with
  | .ok y _ => k y
  | _ => none
def cO (y : D) (o : Option (List D)) : Option (List D) := match o with
  | some r => some (y :: r)
  | none => none
section
variable {A : TgF} {t f : CE} {σ : Sl} {S : List SO} {d : D} {ds : List D} {b fr : Bool} {kg : Sl → Option (List D)} {kb : Bool → Option (List D)} {kd : D → Option (List D)} {r : List D}
theorem gO_s : gO (some σ) kg = kg σ := id rfl
theorem tO2_s : tO2 (.ok (.bl b) fr) kb = kb b := id rfl
theorem vO2_s : vO2 (.ok d fr) kd = kd d := id rfl
theorem cO_s : cO d (some r) = some (d :: r) := id rfl
theorem compL_n : compL A t f σ S [] = some [] := id rfl
theorem compL_c : compL A t f σ S (d :: ds) = gO (A d σ) fun σ1 => tO2 (t σ1 S) fun b => if b = true then (vO2 (f σ1 S) fun y => if y.pure = true then cO y (compL A t f σ S ds) else none) else compL A t f σ S ds := by
  conv => lhs; unfold compL
  cases A d σ with
  | none => rfl
  | some σ1 =>
    show _ = tO2 (t σ1 S) _
    dsimp only
    cases t σ1 S with
    | ok x _ => cases x with
      | bl b => cases b with
        | true =>
          rw [tO2_s, if_pos rfl]
          cases f σ1 S <;> rfl
        | false => rfl
      | _ => rfl
    | _ => rfl
end
end HC

set_option maxRecDepth 100000
namespace HC
open PySem PySem.Spec L2
open PyProof.Rows hiding St
/-! ## sorted of pairs of numbers -/
def leP2 (p q : Int × Int) : Bool := !SrtO.lexB q p
def insP (x : Int × Int) : List (Int × Int) → List (Int × Int)
  | [] => [x]
  | y :: r => if leP2 x y then x :: y :: r else y :: insP x r
def sortP : List (Int × Int) → List (Int × Int)
  | [] => []
  | x :: r => insP x (sortP r)
theorem insP_perm (x : Int × Int) : ∀ l : List (Int × Int), (insP x l).Perm (x :: l)
  | [] => .refl _
  | y :: r => by
    unfold insP
    split
    · exact .refl _
    · exact ((insP_perm x r).cons y).trans (.swap x y r)
theorem sortP_perm : ∀ l : List (Int × Int), (sortP l).Perm l
  | [] => .refl _
  | x :: r => (insP_perm x _).trans ((sortP_perm r).cons x)
theorem leP2_iff {p q : Int × Int} : leP2 p q = true ↔ p.1 < q.1 ∨ (p.1 = q.1 ∧ p.2 ≤ q.2) := by
  unfold leP2
  rw [Bool.not_eq_true', SrtO.lexB_no]
  omega
abbrev Ord2 (l : List (Int × Int)) : Prop := l.Pairwise fun p q => leP2 p q = true
theorem insP_ord (x : Int × Int) : ∀ {l : List (Int × Int)}, Ord2 l → Ord2 (insP x l)
  | [], _ => List.pairwise_singleton _ _
  | y :: r, h => by
    have h2 := List.pairwise_cons.mp h
    unfold insP
    split
    · rename_i hx
      refine List.pairwise_cons.mpr ⟨fun z hz => ?_, h⟩
      rcases List.mem_cons.mp hz with rfl | hz
      · exact hx
      · have a := leP2_iff.mp hx
        have b := leP2_iff.mp (h2.1 z hz)
        exact leP2_iff.mpr (by omega)
    · rename_i hx
      refine List.pairwise_cons.mpr ⟨fun z hz => ?_, insP_ord x h2.2⟩
      rcases List.mem_cons.mp ((insP_perm x r).mem_iff.mp hz) with e | hz
      · have a : ¬ (x.1 < y.1 ∨ (x.1 = y.1 ∧ x.2 ≤ y.2)) := fun h => hx (leP2_iff.mpr h)
        rw [e]
        exact leP2_iff.mpr (by omega)
      · exact h2.1 z hz
theorem sortP_ord : ∀ l : List (Int × Int), Ord2 (sortP l)
  | [] => .nil
  | x :: r => insP_ord x (sortP_ord r)
theorem sortP_of {a b : List (Int × Int)} (p : a.Perm b) (o : Ord2 a) : a = sortP b :=
  (p.trans (sortP_perm b).symm).eq_of_pairwise (fun x y _ _ h1 h2 => by
    have a := leP2_iff.mp h1
    have b := leP2_iff.mp h2
    exact Prod.ext (by omega) (by omega)) o (sortP_ord b)
def prD (p : Int × Int) : D := .tup [.int p.1, .int p.2]
def prOf : D → Option (Int × Int)
  | .tup [.int a, .int b] => some (a, b)
  | _ => none
def prsOf : List D → Option (List (Int × Int))
  | [] => some []
  | d :: r => match prOf d, prsOf r with
    | some p, some ps => some (p :: ps)
    | _, _ => none
def fSortedP (S : List SO) (ds : List D) : Res := match ds with
  | [d] => match rdOf S d with
    | some xs => match prsOf xs with
      | some ps => .ok (.lst ((sortP ps).map prD)) true
      | none => .bad
    | none => .bad
  | _ => .bad
theorem prOf_is {d : D} {p : Int × Int} (h : prOf d = some p) : d = prD p := by
  unfold prOf at h
  split at h
  · cases h; rfl
  · cases h
theorem prsOf_is : ∀ {ds : List D} {ps : List (Int × Int)}, prsOf ds = some ps → ds = ps.map prD
  | [], ps, h => by cases h; rfl
  | d :: r, ps, h => by
    unfold prsOf at h
    split at h
    · rename_i p qs e1 e2
      cases h
      rw [List.map_cons, ← prOf_is e1, ← prsOf_is e2]
    · cases h
theorem prsOf_map : ∀ ps : List (Int × Int), prsOf (ps.map prD) = some ps
  | [] => rfl
  | p :: ps => by
    show (match prOf (prD p), prsOf (ps.map prD) with | some p, some ps => some (p :: ps) | _, _ => none) = _
    rw [prsOf_map ps]
    rfl
/-- a value that is this pair -/
def PrV (K : PySem.W.Frag) (H : Hp) (x : V) (p : Int × Int) : Prop := ∃ t, x = V.ref t ∧ SqT K H t [.int p.1, .int p.2]
def rSortedPS (K : PySem.W.Frag) : List V → Hp → VK → Prop := fun vs H Q => ∃ (a : Addr) (xs : List V) (ps : List (Int × Int)), vs = [V.ref a] ∧ SqL K H a xs ∧ Paired (PrV K H) xs ps ∧
  ∀ (zs : List (V × (Int × Int))) (p : Addr), Ord2 (zs.map (·.2)) → zs.Perm (xs.zip ps) → H p = none → Q (.ref p) (upd H p (.lst (zs.map (·.1))))
theorem isPair_inj {h : Heap} {v : Value} {p q : Int × Int} (a : Srt.IsPair h v p.1 p.2) (b : Srt.IsPair h v q.1 q.2) : p = q := by
  obtain ⟨a1, o, t, u, n, rfl, h1, _, h2⟩ := a
  obtain ⟨b1, o2, t2, u2, n2, e, h3, _, h4⟩ := b
  cases e
  rw [h1] at h3
  cases h3
  rw [h2] at h4
  injection h4 with h5 h6
  have := congrArg Array.toList h5
  simp only [List.cons.injEq, Value.int.injEq, and_true] at this
  exact Prod.ext this.1.1 this.2.1
open Classical in
noncomputable def pairAt (h : Heap) (v : Value) : Int × Int := if e : ∃ p : Int × Int, Srt.IsPair h v p.1 p.2 then Classical.choose e else (0, 0)
theorem pairAt_is {h : Heap} {v : Value} {p : Int × Int} (a : Srt.IsPair h v p.1 p.2) : pairAt h v = p := by
  have e : ∃ p : Int × Int, Srt.IsPair h v p.1 p.2 := ⟨p, a⟩
  unfold pairAt
  rw [dif_pos e]
  exact isPair_inj (Classical.choose_spec e) a
theorem cr_sortedPS {X : Cx} : CallR X (.builtin "sorted") (rSortedPS X.K) := by
  intro pins s σ H vs us Q I r h
  obtain ⟨a, xs, ps, rfl, hs, hx, q⟩ := h
  obtain ⟨its, rv, hl, hz⟩ := I.list hs
  obtain ⟨u, rfl, ru⟩ := vals1 r
  obtain rfl : u = Value.ref a := ru
  have hpr : ∀ {x : V} {p : Int × Int} {v : Value}, PrV X.K H x p → RelV x v → Srt.IsPair s.heap v p.1 p.2 ∧ ∃ t, v = Value.ref t ∧ x = V.ref t := fun {x p v} hp rx => by
    obtain ⟨t, rfl, ht⟩ := hp
    obtain rfl : v = Value.ref t := rx
    obtain ⟨its2, r2, ⟨o, ho, hc, n, hd⟩, _⟩ := I.tuple ht
    obtain ⟨u1, u2, rfl, ri, rj⟩ := vals2 r2
    obtain ⟨t1, rfl⟩ := ri
    obtain ⟨t2, rfl⟩ := rj
    exact ⟨⟨t, o, t1, t2, n, rfl, ho, hc, hd⟩, t, rfl, rfl⟩
  have all : ∀ {xs : List V} {ps : List (Int × Int)} {its : List Value}, Paired (PrV X.K H) xs ps → Vals xs its → (∀ v ∈ its, Srt.IsPair s.heap v (pairAt s.heap v).1 (pairAt s.heap v).2 ∧ ∃ t, v = Value.ref t) ∧ xs.zip ps = its.map fun v => (backV v, pairAt s.heap v) := by
    intro xs ps its hx
    induction hx generalizing its with
    | nil => intro rv; cases rv; exact ⟨fun v h => (nomatch h), rfl⟩
    | cons hp t ih =>
      intro rv
      cases rv with
      | cons rx rt =>
        obtain ⟨h1, t0, e1, e2⟩ := hpr hp rx
        obtain ⟨i1, i2⟩ := ih rt
        have e3 := pairAt_is h1
        refine ⟨fun v hv => ?_, ?_⟩
        · rcases List.mem_cons.mp hv with rfl | hv
          · rw [e3]
            exact ⟨h1, t0, e1⟩
          · exact i1 v hv
        · rw [List.zip_cons_cons, List.map_cons, i2, e3, e1, e2]
          rfl
  obtain ⟨k1, k2⟩ := all hx rv
  refine SrtO.sorted_pairsO (k := pairAt s.heap) hl.isList (by rw [← rv.length]; exact hz) (fun v hv => (k1 v hv).1) fun h' d out h1 h2 kp hd hn => ?_
  have h3 : ∀ u ∈ out, ∃ a, u = Value.ref a := fun u hu => (k1 u (h2.perm.mem_iff.mp hu)).2
  obtain ⟨n, hn⟩ := hn
  have eb : (out.map fun v => (backV v, pairAt s.heap v)).map (·.1) = out.map backV := by rw [List.map_map]; rfl
  have ep : (out.map fun v => (backV v, pairAt s.heap v)).map (·.2) = out.map (pairAt s.heap) := by rw [List.map_map]; rfl
  have hq := q (out.map fun v => (backV v, pairAt s.heap v)) d (by
    rw [ep]
    refine List.pairwise_map.mpr (h1.imp fun {x y} h => ?_)
    unfold leP2
    rw [show SrtO.lexB (pairAt s.heap y) (pairAt s.heap x) = false from h]
    rfl) (by rw [k2]; exact h2.perm.map _) (I.hok.fresh hd)
  rw [eb] at hq
  refine ⟨.ref d, upd H d (.lst (out.map backV)), I.laid (t' := s.toks) kp hd ⟨?_, out, n, vals_back h3, hn⟩, rfl, hq⟩
  rw [List.length_map, h2.perm.length_eq, ← rv.length]
  exact hz
theorem prs_rep {g : GX} {H : Hp} {F : FZ} {μ : List Addr} : ∀ {ps : List (Int × Int)} {ws : List V}, RepVs g H F μ (ps.map prD) ws → Paired (PrV g.K H) ws ps
  | [], _, h => by cases h; exact .nil
  | p :: ps, _, h => by
    cases h with
    | cons r t =>
      refine .cons ?_ (prs_rep t)
      obtain ⟨a, vs, rfl, h1, h2⟩ := r.pure rfl
      obtain ⟨v1, w1, rfl, q1, v2, w2, rfl, q2, rfl⟩ := h2
      cases (show v1 = _ from q1)
      cases (show v2 = _ from q2)
      exact ⟨a, rfl, (.inl (.inl h1.1))⟩
theorem prs_back {g : GX} {H : Hp} {F : FZ} {μ : List Addr} : ∀ {ps : List (Int × Int)} {ws : List V}, RepVs g H F μ (ps.map prD) ws → ∀ z ∈ ws.zip ps, RepP g H F (prD z.2) z.1
  | [], _, h => by cases h; exact fun z hz => (nomatch hz)
  | p :: ps, _, h => by
    cases h with
    | cons r t =>
      intro z hz
      rw [List.zip_cons_cons] at hz
      rcases List.mem_cons.mp hz with rfl | hz
      · exact r.pure rfl
      · exact prs_back t z hz
theorem repl_of {g : GX} {H : Hp} {F : FZ} : ∀ {zs : List (V × (Int × Int))}, (∀ z ∈ zs, RepP g H F (prD z.2) z.1) → RepL g H F ((zs.map (·.2)).map prD) (zs.map (·.1))
  | [], _ => rfl
  | z :: zs, h => ⟨_, _, rfl, h z (List.mem_cons_self ..), repl_of fun y hy => h y (List.mem_cons_of_mem _ hy)⟩
theorem lk_sortedP {g : GX} : LkC g (rSortedPS g.K) fSortedP := by
  intro E μ F σ S σc H ds vs Q R r q
  unfold fSortedP at q
  split at q
  · obtain ⟨v, rfl, rv⟩ := r.one
    split at q
    · rename_i xs ex
      split at q
      · rename_i ps en
        obtain ⟨a, ws, rfl, h1, h2, h3⟩ := R.rd rv ex
        rw [prsOf_is en] at h3
        have hl := h3.length
        rw [List.length_map] at hl
        refine ⟨a, ws, ps, rfl, h1, prs_rep h3, fun zs p ho hp hn => ?_⟩
        have e1 : zs.map (·.2) = sortP ps := by
          refine sortP_of ((hp.map (·.2)).trans ?_) ho
          rw [List.map_snd_zip (by omega)]
        have e2 := repl_of (g := g) (H := H) (F := F) (zs := zs) fun z hz => prs_back h3 z (hp.mem_iff.mp hz)
        rw [e1] at e2
        refine q.lst R.dom (fun a h => R.mu_there h) hn ?_ e2
        rw [List.length_map, hp.length_eq, List.length_zip]
        omega
      · exact q.elim
    · exact q.elim
  · exact q.elim
end HC

set_option maxRecDepth 100000
namespace HC
open PySem PySem.Spec L2
open PyProof.Rows hiding St
open SrtO SrtR
/-! ## sorted of a tuple of numbers -/
section
variable {prog : Program} {w : World} {A : Around} {s : Shared} {E : Value → Shared → Prop}
theorem collect_tup {l : Addr} {vs : List Value} {Q : List Value → Shared → Prop} (hl : IsTup s.heap l vs.toArray)
    (h : Q vs { s with heap := (s.heap.push (seqObj "list" #[] 0)).update s.heap.objs.size (Obj.mapSeq (· ++ vs.toArray)) }) (hsz : vs.length ≤ sizeLine) :
    wpAny (model prog w) A (collect (.ref l)) Q E s := by
  obtain ⟨o, ho, hc, n, hd⟩ := id hl
  unfold collect
  refine wpAny_bind (wpAny_runValue (codeAny_builtin entry_proto_collect' ?_))
  show wpAny _ _ (do again (.builtin "list.__iadd__" ⟨[← newList [], .ref l], []⟩)) _ _ s
  refine wpAny_bind (wpAny_newList (wpAny_pure ⟨Code.quiet_builtin _ (by decide +kernel), codeAny_builtin entry_list_iadd' ?_⟩))
  show wpAny _ _ (Builtin.List.listExtendWith (.ref s.heap.objs.size) (.ref l) (.ref s.heap.objs.size)) _ _ { s with heap := s.heap.push (seqObj "list" #[] 0) }
  unfold Builtin.List.listExtendWith
  have ho' : (s.heap.push (seqObj "list" #[] 0)).get? l = some o := Heap.get?_push_of_some _ ho
  refine wpAny_bind (wpAny_typeOf (T := "tuple") ⟨o, ho', hc⟩ ?_)
  have ht : (Value.type "tuple" == Value.type "tuple") = true := by rfl
  rw [if_pos (by rw [ht]; simp)]
  refine wpAny_bind (listItems_at ho' hd ?_)
  refine wpAny_bind (listItems_at (xs := #[]) (n := 0) (Heap.get?_push_size _ rfl) rfl ?_)
  rw [if_neg (by simp)]
  refine wpAny_bind (listUpdate_at (xs := #[]) (n := 0) (Heap.get?_push_size _ rfl) rfl ?_ (Nat.zero_le _) (by show (#[] ++ vs.toArray).size ≤ sizeLine + 1; simp only [Array.size_append, List.size_toArray, List.length_nil]; omega))
  refine wpAny_pure ?_
  show wpAny (model prog w) A (do
      let o ← load s.heap.objs.size
      match o.data with
      | .seq xs _ => pure xs.toList
      | _ => unsupported "internal:collect") Q E { s with heap := (s.heap.push (seqObj "list" #[] 0)).update s.heap.objs.size (Obj.mapSeq (· ++ vs.toArray)) }
  refine wpAny_bind (wpAny_load (get?_update_seq (Heap.get?_push_size _ rfl) _) ?_)
  show wpAny _ _ (pure ((#[] : Array Value) ++ vs.toArray).toList) Q E _
  rw [show ((#[] : Array Value) ++ vs.toArray).toList = vs by simp]
  exact wpAny_pure h
theorem sorted_tupK {l : Addr} {vs : List Value} {b : Bool} {kw : List (Str × Value)} {ltv : Value → Value → Bool} {Q : Value → Shared → Prop} (hk : ∀ a, Builtin.«list.sort» ⟨[.ref a], kw⟩ = Builtin.«list.sort» ⟨[.ref a], [(Str.ofString "reverse", .bool b)]⟩)
    (ha1 : argsOk "sorted" ⟨[.ref l], kw⟩) (ha2 : ∀ a, argsOk "list.sort" ⟨[a], kw⟩) (O : Swo ltv) (hl : IsTup s.heap l vs.toArray) (hz : vs.length ≤ sizeLine)
    (hS : 2 ≤ vs.length → ∀ (h₁ : Heap) (a : Addr), h₁.get? a = some (seqObj "list" vs.toArray 0) → (∀ b o, s.heap.get? b = some o → b ≠ a ∧ h₁.get? b = some o) → SortableO prog w A.in1.in1 { s with heap := h₁ } a vs ltv)
    (h : ∀ out : List Value, Srtd ltv out → Stb ltv out (if b = true then vs.reverse else vs) → Q (.ref (s.heap.objs.size + 1)) { s with heap := sortedAll s.heap vs (if b = true then out.toArray.reverse else out.toArray) }) :
    wpAny (model prog w) A (call (.builtin "sorted") [.ref l] kw) Q E s := by
  refine call_function_entry_kw kind_sorted plain_sorted entry_sorted ha1 ?_
  unfold Builtin.«sorted»
  refine wpAny_bind (m := checkCount "sorted" 1 1 _) (wpAny_pure ?_)
  refine wpAny_bind (collect_tup hl ?_ hz)
  refine wpAny_bind (wpAny_newList ?_ hz)
  have hsz : ((s.heap.push (seqObj "list" #[] 0)).update s.heap.objs.size (Obj.mapSeq (· ++ vs.toArray))).objs.size = s.heap.objs.size + 1 := by
    rw [Heap.size_update, size_push']
  have hoL : (((s.heap.push (seqObj "list" #[] 0)).update s.heap.objs.size (Obj.mapSeq (· ++ vs.toArray))).push (seqObj "list" vs.toArray 0)).get? (s.heap.objs.size + 1) = some (seqObj "list" vs.toArray 0) := by
    rw [← hsz]; exact Heap.get?_push_size _ rfl
  have keep : ∀ b o, s.heap.get? b = some o → b ≠ s.heap.objs.size + 1 ∧ (((s.heap.push (seqObj "list" #[] 0)).update s.heap.objs.size (Obj.mapSeq (· ++ vs.toArray))).push (seqObj "list" vs.toArray 0)).get? b = some o := fun b o q => by
    have hlt : b < s.heap.objs.size := Heap.lt_size q
    refine ⟨Nat.ne_of_lt (Nat.lt_succ_of_lt hlt), Heap.get?_push_of_some _ ?_⟩
    rw [Heap.get?_update_ne _ _ _ _ (Nat.ne_of_lt hlt)]
    exact Heap.get?_push_of_some _ q
  show wpAny _ _ _ _ _ { s with heap := ((s.heap.push (seqObj "list" #[] 0)).update s.heap.objs.size (Obj.mapSeq (· ++ vs.toArray))).push (seqObj "list" vs.toArray 0) }
  rw [hsz]
  refine wpAny_bind (wpAny_holding (wpAny_call_entry_kw slot_list_sort ⟨_, hoL, rfl⟩ entry_list_sort ?_ (ha2 _)))
  rw [hk]
  refine list_sort_ordR O hoL hz (fun h2 => hS h2 _ _ hoL keep) fun out hs hb => ⟨_, rfl, ?_⟩
  exact wpAny_pure ⟨_, rfl, h out hs hb⟩
end
def rSortedS (K : PySem.W.Frag) (b : Bool) (zs0 : List V) : List V → List V → Hp → VK → Prop := fun vs zs H Q => ∃ (a : Addr) (ns : List Int), vs = [V.ref a] ∧ zs = zs0 ∧ (SqL K H a (ns.map V.int) ∨ SqT K H a (ns.map V.int)) ∧
  ∀ (ns' : List Int) (p : Addr), ns'.Perm ns → OrdB b ns' → H p = none → Q (.ref p) (upd H p (.lst (ns'.map V.int)))
theorem cr_sortedS2 {X : Cx} {b : Bool} : CallRK X (.builtin "sorted") [Str.ofString "reverse"] (rSortedS X.K b [.bl b]) := by
  intro pins s σ H vs zs us ws Q I r rz h
  obtain ⟨a, ns, rfl, rfl, hs, q⟩ := h
  rcases hs with hs | hs
  · exact cr_sortedRev pins s σ H _ _ us ws Q I r rz ⟨a, ns, rfl, rfl, hs, q⟩
  · obtain rfl := Vals.ref1 r
    obtain ⟨w1, rfl, e1⟩ := vals1 rz
    obtain rfl : w1 = Value.bool b := e1
    obtain ⟨its, rv, hl, hz⟩ := I.tuple hs
    have hi := rv.ints
    refine sorted_tupK (fun _ => rfl) (PyProof.Rows.args_sorted_rev _ _) (fun _ => PyProof.Rows.args_list_sort_rev _ _) SrtO.swo_int hl (by rw [← rv.length]; exact hz) (fun h2 h₁ a' _ _ => SrtO.ints_sortable hi h2) fun out h1 h2 => ?_
    obtain ⟨ns', k1, k2, k3⟩ := SrtR.ints_outR hi h1 h2
    obtain ⟨ep, he'⟩ := PyProof.Rows.sortedAll_at s.heap its (if b = true then out.toArray.reverse else out.toArray)
    have hlen : (ns'.map V.int).length ≤ sizeLine := by
      rw [List.length_map, k2.length_eq]
      rw [List.length_map] at hz
      exact hz
    have e0 : ((if b = true then out.toArray.reverse else out.toArray).toList).toArray = (if b = true then out.toArray.reverse else out.toArray) := by rw [Array.toArray_toList]
    exact ⟨.ref _, upd H (s.heap.objs.size + 1) (.lst (ns'.map V.int)), I.laid (t' := s.toks) (fun _ _ => PyProof.Rows.sortedAll_old) (Nat.le_succ _) ⟨hlen, _, ep, vals_of_ints k1, by rw [e0]; exact he'⟩, rfl, q _ _ k2 k3 (I.hok.fresh (Nat.le_succ _))⟩
def fSortedS (k : Bool) (S : List SO) (ds : List D) : Res := match ds with
  | [d] => match seqOf S d with
    | some xs => match intsOf xs with
      | some ns => .ok (.lst ((sortI k ns).map .int)) true
      | none => .bad
    | none => .bad
  | _ => .bad
theorem fSortedS_run {g : GX} {k : Bool} {E : XK} {μ : List Addr} {F : FZ} {σ : Sl} {S : List SO} {σc : St} {H : Hp} {ds : List D} {vs : List V} {Q : VK} (R : Rel g μ F σ S σc H) (r : RepVs g H F μ ds vs) (q : Ok g E H F μ (fSortedS k S ds) Q) :
    ∃ (a : Addr) (ns : List Int), vs = [V.ref a] ∧ (SqL g.K H a (ns.map V.int) ∨ SqT g.K H a (ns.map V.int)) ∧ ∀ (ns' : List Int) (p : Addr), ns'.Perm ns → OrdB k ns' → H p = none → Q (.ref p) (upd H p (.lst (ns'.map V.int))) := by
  unfold fSortedS at q
  split at q
  · obtain ⟨v, rfl, rv⟩ := r.one
    split at q
    · rename_i xs ex
      split at q
      · rename_i ns en
        rcases seqOf_cases ex with et | el
        · obtain ⟨a, ws, rfl, h1, h2, h3⟩ := rv.tup et
          have e := (h3.vs (μ := μ)).ints en
          subst e
          refine ⟨a, ns, rfl, .inr h1, fun ns' p hp ho hn => ?_⟩
          have e2 := sortI_of hp ho
          subst e2
          exact q.lst R.dom (fun a h => R.mu_there h) hn (by rw [List.length_map, hp.length_eq, ← List.length_map (f := V.int)]; exact h2) (reps_ints _)
        · obtain ⟨a, ws, rfl, h1, h2, h3⟩ := R.rd rv el
          have e := h3.ints en
          subst e
          refine ⟨a, ns, rfl, .inl h1, fun ns' p hp ho hn => ?_⟩
          have e2 := sortI_of hp ho
          subst e2
          exact q.lst R.dom (fun a h => R.mu_there h) hn (by rw [List.length_map, hp.length_eq, ← List.length_map (f := V.int)]; exact h2) (reps_ints _)
      · exact q.elim
    · exact q.elim
  · exact q.elim
section
variable {X : Cx} {g : GX} {W : WX} {e : Expr} {f : CA} {p pos kpos pp : Pos} {j : Nat}
theorem q_sortedS {k : Bool} (hK : X.K = g.K) (hg : Gl X "sorted") (hm : X.mg "sorted" = none) (ha : PA X [e] (TL g W f))
    (he : backTo pos (starEach [e] X.env) = (false, eval e X.env) :: backTo pos (starEach [] X.env) := by rfl) (hpl : (backTo pos (starEach [e] X.env)).any (·.1) = false := by rfl)
    (hall : (backToKw pos (keywordEach [⟨some "reverse", .Constant (.bool k) j pp, kpos⟩] X.env)).all (·.1.isSome) = true := by rfl) (hnone : (backToKw pos (keywordEach [⟨some "reverse", .Constant (.bool k) j pp, kpos⟩] X.env)).any (·.1.isNone) = false := by rfl)
    (hks : (backToKw pos (keywordEach [⟨some "reverse", .Constant (.bool k) j pp, kpos⟩] X.env)).filterMap (·.1) = [Str.ofString "reverse"] := by rfl) :
    PE X (.Call (.Name "sorted" p) [e] [⟨some "reverse", .Constant (.bool k) j pp, kpos⟩] pos) (T g W (cApp (fSortedS k) f)) :=
  (pe_callBK (cr_sortedS2 (b := k)) hg hm (by decide +kernel) ha (pk_cons pe_bl pk_nil) (by decide) (by decide) he hpl hall hnone hks).hc fun σc H Q h => TL.app h fun μ F σ S H1 ds vs R r q => by
    obtain ⟨a, ns, h1, h2, h3⟩ := fSortedS_run R r q
    exact ⟨a, ns, h1, rfl, by rw [hK]; exact h2, h3⟩
end
end HC

set_option maxRecDepth 100000
namespace HC
open PySem PySem.Spec L2
open PyProof.Rows hiding St
section
variable {X : Cx} {g : GX} {W : WX} {s1 s2 : Stmt} {rest : List Stmt} {f1 f2 fr : SC}
/-- two statements as a block, at whose end the new list is frozen -/
theorem s_blk2 (h1 : PS X s1 (TSt g W f1)) (h2 : PS X s2 (TSt g W f2)) (hr : PSs X rest (TSt g W fr)) : PSs X (s1 :: s2 :: rest) (TSt g W (sSeq (sFrz (sSeq f1 f2)) fr)) :=
  (pss_cons h1 (pss_cons h2 hr)).hc fun Dn σ H h => seq_of (frz_of (seq_of h))
end
end HC

set_option maxRecDepth 100000
namespace HC
open PySem PySem.Spec L2 PySem.W
open PyProof.Rows hiding St
/-! ## sorted of data: tuples of numbers, and what is made of them -/
def encD (d : D) : PyData := match pyD true d with
  | some x => x
  | none => .none
def tupC : PyData → Bool
  | .tuple (_ :: _) => true
  | _ => false
def noC : PyData → Bool
  | .none => false
  | _ => true
def othC : PyData → Bool
  | .tuple _ => false
  | .none => false
  | _ => true
def okSort (xs : List D) : Bool := xs.all (fun d => (pyD true d).isSome && decide ((encD d).depth ≤ 60) && noC (encD d)) && xs.all (fun d => xs.all fun e => alike (encD d) (encD e)) &&
  (xs.all (fun d => tupC (encD d)) || xs.all (fun d => othC (encD d)) || decide (xs.length ≤ 1))
def leD (r : Bool) : D → D → Bool := dataLe r encD
def srtD (r : Bool) (xs : List D) : List D := xs.mergeSort (leD r)
def fSortedD (r : Bool) (S : List SO) (ds : List D) : Res := match ds with
  | [d] => match rdOf S d with
    | some xs => if okSort xs then .ok (.lst (srtD r xs)) true else .bad
    | none => .bad
  | _ => .bad
theorem pyDs_enc : ∀ {xs : List D}, (∀ d ∈ xs, (pyD true d).isSome = true) → pyDs true xs = some (xs.map encD)
  | [], _ => rfl
  | d :: r, h => by
    have h1 := h d (List.mem_cons_self ..)
    obtain ⟨y, hy⟩ := Option.isSome_iff_exists.mp h1
    unfold pyDs
    rw [hy, pyDs_enc fun e he => h e (List.mem_cons_of_mem _ he)]
    show some (y :: r.map encD) = some (encD d :: r.map encD)
    unfold encD
    rw [hy]
theorem okSort_of {xs : List D} (h : okSort xs = true) : (∀ d ∈ xs, (pyD true d).isSome = true ∧ (encD d).depth ≤ 60 ∧ noC (encD d) = true) ∧ AllAlike (xs.map encD) ∧ (Sortable (xs.map encD) ∨ xs.length ≤ 1) := by
  unfold okSort at h
  rw [Bool.and_eq_true, Bool.and_eq_true, Bool.or_eq_true, Bool.or_eq_true, List.all_eq_true, List.all_eq_true, List.all_eq_true, List.all_eq_true, decide_eq_true_eq] at h
  obtain ⟨⟨h1, h2⟩, h3⟩ := h
  refine ⟨fun d hd => ?_, fun a ha b hb => ?_, ?_⟩
  · have := h1 d hd
    rw [Bool.and_eq_true, Bool.and_eq_true, decide_eq_true_eq] at this
    exact ⟨this.1.1, this.1.2, this.2⟩
  · obtain ⟨a', ha', rfl⟩ := List.mem_map.mp ha
    obtain ⟨b', hb', rfl⟩ := List.mem_map.mp hb
    exact List.all_eq_true.mp (h2 a' ha') b' hb'
  · rcases h3 with (h3 | h3) | h3
    · refine .inl (.inl fun d hd => ?_)
      obtain ⟨d', hd', rfl⟩ := List.mem_map.mp hd
      have := h3 d' hd'
      unfold tupC at this
      split at this
      · rename_i x r e; exact ⟨x, r, e⟩
      · cases this
    · refine .inl (.inr fun d hd => ?_)
      obtain ⟨d', hd', rfl⟩ := List.mem_map.mp hd
      have := h3 d' hd'
      unfold othC at this
      split at this
      · cases this
      · cases this
      · rename_i h1 h2; exact ⟨fun e => h2 e, fun ys e => h1 _ e⟩
    · exact .inr h3
theorem sorts_short {prog : Program} {w : World} {A : Around} {s : Shared} {vs : List Value} {ds : List PyData} (e : EachIs (fun v d => ∃ as, Reads s.heap v d as) vs ds) (hal : AllAlike ds) (hn : ∀ d ∈ ds, d ≠ .none) (hu : ∀ d, d ∈ ds → A.units + d.depth < cLine) (h1 : vs.length ≤ 1) : SortsAt prog w A s (dataKind s.heap ds) vs := by
  refine ⟨fun v hv => ?_, general', ?_, fun h2 => by omega⟩
  · obtain ⟨d, hd, as, r⟩ := e.left v hv
    exact ⟨_, dataKind_some hal hd r⟩
  · intro E x y a b Q ha hb hq
    obtain ⟨d, as, hd, ra, rfl⟩ := dataKind_inv ha
    obtain ⟨d', as', hd', rb, rfl⟩ := dataKind_inv hb
    show wpAny (model prog w) A (oneLt' false x y) Q E s
    exact oneLt_alike (fun z => by cases z) ra rb (hal d hd d' hd') (hn d hd) (Nat.lt_of_le_of_lt (Nat.add_le_add_left (Nat.min_le_left _ _) _) (hu d hd)) hq
def RD (g : GX) (H : Hp) (F : FZ) (v : Value) (d : D) : Prop := ∃ x : V, RelV x v ∧ RepP g H F d x
theorem each_rd {g : GX} {H : Hp} {F : FZ} : ∀ {xs : List D} {ws : List V} {vs : List Value}, RepL g H F xs ws → Vals ws vs → EachIs (RD g H F) vs xs
  | [], _, _, h, r => by cases (show _ = [] from h); cases r; exact .nil
  | d :: xs, _, _, h, r => by
    obtain ⟨v, ws, rfl, h1, h2⟩ := h
    cases r with
    | cons r1 r2 => exact .cons ⟨v, r1, h1⟩ (each_rd h2 r2)
theorem rd_each {g : GX} {H : Hp} {F : FZ} : ∀ {xs : List D} {vs : List Value}, EachIs (RD g H F) vs xs → ∃ ws, RepL g H F xs ws ∧ Vals ws vs
  | _, _, .nil => ⟨[], rfl, .nil⟩
  | _, _, .cons ⟨x, r1, h1⟩ t => by
    obtain ⟨ws, h2, r2⟩ := rd_each t
    exact ⟨x :: ws, ⟨x, ws, rfl, h1, h2⟩, .cons r1 r2⟩
section
variable {X : Cx} {g : GX}
def rSortedDat (g : GX) (r : Bool) : List V → Hp → VK → Prop := fun vs H Q => ∃ (F : FZ) (a : Addr) (ws : List V) (xs : List D), vs = [V.ref a] ∧ SqL g.K H a ws ∧ ws.length ≤ sizeLine ∧ RepL g H F xs ws ∧ okSort xs = true ∧
  ∀ (ws' : List V) (p : Addr), RepL g H F (srtD r xs) ws' → H p = none → Q (.ref p) (upd H p (.lst ws'))
theorem sortedD_run {r : Bool} {pins : List (Addr × Obj)} {s : Shared} {σ : St} {H : Hp} {vs : List V} {us : List Value} {Q : VK} (hK : X.K = g.K) (hr : X.A.units + 70 < cLine ∧ X.A.guards = some []) (I : Inv X pins σ H s) (rv : Vals vs us) (h : rSortedDat g r vs H Q) :
    ∃ (l : Addr) (its : List Value) (xs : List D) (F : FZ), us = [Value.ref l] ∧ s.heap.IsList l its.toArray ∧ EachIs (RD g H F) its xs ∧ EachIs (fun v b => ∃ as, Reads s.heap v (encD b) as) its xs ∧ okSort xs = true ∧ xs.length ≤ sizeLine ∧
      ∀ out : List Value, out.length = xs.length → EachIs (RD g H F) out (srtD r xs) → ∃ v H', Inv X pins σ H' { s with heap := sortedAll s.heap its out.toArray } ∧ RelV v (.ref (s.heap.objs.size + 1)) ∧ Q v H' := by
  obtain ⟨F, a, ws, xs, rfl, hs, hl, hx, ok, q⟩ := h
  rw [← hK] at hs
  obtain ⟨its, rv2, hl2, hz⟩ := I.list hs
  obtain ⟨u, rfl, ru⟩ := vals1 rv
  obtain rfl : u = Value.ref a := ru
  have hok := okSort_of ok
  obtain ⟨as, hr2, _⟩ := reads_all (l := true) I hK xs ws its (xs.map encD) hx rv2 (pyDs_enc fun d hd => (hok.1 d hd).1)
  refine ⟨a, its, xs, F, rfl, hl2.isList, each_rd hx rv2, readsAll_each encD hr2, ok, by rw [hx.length]; exact hl, fun out ho eo => ?_⟩
  obtain ⟨ws', h1, h2⟩ := rd_each eo
  obtain ⟨n, hn⟩ := sortedAll_at s.heap its out.toArray
  refine ⟨.ref _, upd H (s.heap.objs.size + 1) (.lst ws'), I.laid (t' := s.toks) (fun _ _ => sortedAll_old) (Nat.le_succ _) ⟨?_, out, n, h2, hn⟩, rfl, q _ _ h1 (I.hok.fresh (Nat.le_succ _))⟩
  rw [h2.length, ho, hx.length]
  exact hl
theorem cr_sortedDat (hK : X.K = g.K) (hr : X.A.units + 70 < cLine ∧ X.A.guards = some []) : CallR X (.builtin "sorted") (rSortedDat g false) := by
  intro pins s σ H vs us Q I rv h
  obtain ⟨l, its, xs, F, rfl, hl, e, er, ok, hz, go⟩ := sortedD_run hK hr I rv h
  obtain ⟨h1, h2, h3⟩ := okSort_of ok
  have hu : ∀ b, b ∈ xs → X.A.units + 2 + (encD b).depth < cLine := fun b hb => by have := (h1 b hb).2.1; omega
  rcases h3 with h3 | h3
  · exact sorted_data hl e er h2 h3 hz hu fun out ho eo => go out ho eo
  · have er' : EachIs (fun v b => ∃ as, Reads (sortingHeap (copyHeap s.heap its) (s.heap.objs.size + 1) its) v (encD b) as) its xs := er.mono fun _ _ ⟨as, r⟩ => ⟨as, PyProof.Rows.Reads.keeps (fun _ _ => sorting_copy_old) r⟩
    refine sorted_vals hl (sorts_short (s := { s with heap := sortingHeap (copyHeap s.heap its) (s.heap.objs.size + 1) its }) (each_map (R := fun v d => ∃ as, Reads (sortingHeap (copyHeap s.heap its) (s.heap.objs.size + 1) its) v d as) encD er') h2 (fun d hd => ?_) (bound_map hu) (by rw [e.length]; exact h3)) (by rw [e.length]; exact hz) (go _ (by rw [sortVals_length false rfl]; exact e.length) (sortVals_data false e er' h2))
    obtain ⟨d', hd', rfl⟩ := List.mem_map.mp hd
    have := (h1 d' hd').2.2
    intro z
    rw [z] at this
    cases this
def rSortedDK (g : GX) (b : Bool) : List V → List V → Hp → VK → Prop := fun vs zs H Q => zs = [.bl b] ∧ rSortedDat g b vs H Q
theorem cr_sortedDatR {b : Bool} (hK : X.K = g.K) (hr : X.A.units + 70 < cLine ∧ X.A.guards = some []) : CallRK X (.builtin "sorted") [Str.ofString "reverse"] (rSortedDK g b) := by
  intro pins s σ H vs zs us ws Q I rv rz h
  obtain ⟨rfl, h⟩ := h
  obtain ⟨w1, rfl, e1⟩ := vals1 rz
  obtain rfl : w1 = Value.bool b := e1
  obtain ⟨l, its, xs, F, rfl, hl, e, er, ok, hz, go⟩ := sortedD_run hK hr I rv h
  obtain ⟨h1, h2, h3⟩ := okSort_of ok
  have hu : ∀ b, b ∈ xs → X.A.units + 2 + (encD b).depth < cLine := fun b hb => by have := (h1 b hb).2.1; omega
  rcases h3 with h3 | h3
  · exact sorted_rev_data hl e er h2 h3 hz hu fun out ho eo => go out ho eo
  · have er' : EachIs (fun v b => ∃ as, Reads (sortingHeap (copyHeap s.heap its) (s.heap.objs.size + 1) its) v (encD b) as) its xs := er.mono fun _ _ ⟨as, r⟩ => ⟨as, PyProof.Rows.Reads.keeps (fun _ _ => sorting_copy_old) r⟩
    refine sorted_rev_vals hl (sorts_short (s := { s with heap := sortingHeap (copyHeap s.heap its) (s.heap.objs.size + 1) its }) (each_map (R := fun v d => ∃ as, Reads (sortingHeap (copyHeap s.heap its) (s.heap.objs.size + 1) its) v d as) encD er') h2 (fun d hd => ?_) (bound_map hu) (by rw [e.length]; exact h3)) (by rw [e.length]; exact hz) (go _ (by rw [sortVals_length b rfl]; exact e.length) (sortVals_data b e er' h2))
    obtain ⟨d', hd', rfl⟩ := List.mem_map.mp hd
    have := (h1 d' hd').2.2
    intro z
    rw [z] at this
    cases this
theorem repvs_pure {g : GX} {H : Hp} {F : FZ} {μ : List Addr} : ∀ {xs : List D} {ws : List V}, RepVs g H F μ xs ws → (∀ d ∈ xs, (pyD true d).isSome = true) → RepL g H F xs ws
  | [], _, h, _ => by cases h; rfl
  | d :: xs, _, h, hp => by
    cases h with
    | cons r t =>
      refine ⟨_, _, rfl, r.pure ?_, repvs_pure t fun e he => hp e (List.mem_cons_of_mem _ he)⟩
      have := hp d (List.mem_cons_self ..)
      cases d <;> first | rfl | exact nomatch this
theorem srtD_run {r : Bool} {E : XK} {μ : List Addr} {F : FZ} {σ : Sl} {S : List SO} {σc : St} {H : Hp} {ds : List D} {vs : List V} {Q : VK} (R : Rel g μ F σ S σc H) (rv : RepVs g H F μ ds vs) (q : Ok g E H F μ (fSortedD r S ds) Q) : rSortedDat g r vs H Q := by
  unfold fSortedD at q
  split at q
  · obtain ⟨v, rfl, rv1⟩ := rv.one
    split at q
    · rename_i xs ex
      split at q
      · rename_i ok
        obtain ⟨a, ws, rfl, h1, h2, h3⟩ := R.rd rv1 ex
        have hok := okSort_of ok
        refine ⟨F, a, ws, xs, rfl, h1, h2, repvs_pure h3 fun d hd => (hok.1 d hd).1, ok, fun ws' p hp hn => ?_⟩
        refine q.lst R.dom (fun a h => R.mu_there h) hn ?_ hp
        have e1 := hp.length
        have e2 := h3.length
        unfold srtD at e1
        rw [List.length_mergeSort] at e1
        omega
      · exact q.elim
    · exact q.elim
  · exact q.elim
theorem lk_sortedD {g : GX} : LkC g (rSortedDat g false) (fSortedD false) := fun E μ F σ S σc H ds vs Q R r q => srtD_run R r q
end
section
variable {X : Cx} {g : GX} {W : WX} {e : Expr} {f : CA} {p pos kpos pp : Pos} {j : Nat}
theorem q_sortedDRev {k : Bool} (hr : X.A.units + 70 < cLine ∧ X.A.guards = some []) (hK : X.K = g.K) (hg : Gl X "sorted") (hm : X.mg "sorted" = none) (ha : PA X [e] (TL g W f))
    (he : backTo pos (starEach [e] X.env) = (false, eval e X.env) :: backTo pos (starEach [] X.env) := by rfl) (hpl : (backTo pos (starEach [e] X.env)).any (·.1) = false := by rfl)
    (hall : (backToKw pos (keywordEach [⟨some "reverse", .Constant (.bool k) j pp, kpos⟩] X.env)).all (·.1.isSome) = true := by rfl) (hnone : (backToKw pos (keywordEach [⟨some "reverse", .Constant (.bool k) j pp, kpos⟩] X.env)).any (·.1.isNone) = false := by rfl)
    (hks : (backToKw pos (keywordEach [⟨some "reverse", .Constant (.bool k) j pp, kpos⟩] X.env)).filterMap (·.1) = [Str.ofString "reverse"] := by rfl) :
    PE X (.Call (.Name "sorted" p) [e] [⟨some "reverse", .Constant (.bool k) j pp, kpos⟩] pos) (T g W (cApp (fSortedD k) f)) :=
  (pe_callBK (cr_sortedDatR (b := k) hK hr) hg hm (by decide +kernel) ha (pk_cons pe_bl pk_nil) (by decide) (by decide) he hpl hall hnone hks).hc fun σc H Q h => TL.app h fun μ F σ S H1 ds vs R r q => ⟨rfl, srtD_run R r q⟩
end
end HC

set_option maxRecDepth 100000
namespace HC
open PySem PySem.Spec L2
open PyProof.Rows hiding St
/-! ## the last object of the store is frozen, if it is a new one -/
def frzO : SO → Option D
  | .lst xs => if pureL xs then some (.lst xs) else none
  | .dct ks ws => if pureL ws then some (.dct ks ws) else none
  | .ins _ _ => none
def fzK (σ : Sl) (S : List SO) (o : Option SO) : RS := match o with
  | some o => match frzO o with
    | some x => .nx (subS (S.length - 1) x σ) ((S.take (S.length - 1)).map (subO (S.length - 1) x))
    | none => .bad
  | none => .bad
def fz1 (n : Nat) (r : RS) : RS := match r with
  | .nx σ S => if n < S.length then fzK σ S (gets S (S.length - 1)) else .nx σ S
  | r => r
def sFz (f : SC) : SC := fun σ S => fz1 S.length (f σ S)
section
variable {g : GX} {W : WX} {f : SC} {μ : List Addr} {F : FZ} {σ : Sl} {S : List SO} {σc : St} {H : Hp}
theorem frz_rep {o : SO} {x : D} {a : Addr} (e : frzO o = some x) (r : RepO g H F μ o a) : x.pure = true ∧ RepP g H (fun b => F b ∨ b = a) x (.ref a) := by
  have up : ∀ b, F b → F b ∨ b = a := fun b h => .inl h
  cases o with
  | lst xs =>
    have e : (if pureL xs = true then some (D.lst xs) else none) = some x := e
    by_cases hp : pureL xs = true
    · rw [if_pos hp] at e
      cases e
      obtain ⟨vs, h1, h2, h3⟩ := r
      exact ⟨rfl, a, vs, rfl, ⟨.inr rfl, h1, h2⟩, RepL.mono (Same.refl H) up _ _ (h3.pure hp)⟩
    · rw [if_neg hp] at e; cases e
  | dct ks ws =>
    have e : (if pureL ws = true then some (D.dct ks ws) else none) = some x := e
    by_cases hp : pureL ws = true
    · rw [if_pos hp] at e
      cases e
      obtain ⟨vs, h1, h2⟩ := r
      exact ⟨rfl, a, vs, rfl, .inr rfl, RepL.mono (Same.refl H) up _ _ (h1.pure hp), h2.imp (fun ⟨kvs, q1, q2⟩ => ⟨kvs, .inl q1, q2⟩) fun ⟨kvs, q1, q2⟩ => ⟨kvs, .inl q1, q2⟩⟩
    · rw [if_neg hp] at e; cases e
  | ins c ws => cases e
theorem sub_rep {x : D} {a : Addr} (rx : RepP g H (fun b => F b ∨ b = a) x (.ref a)) {d : D} {v : V} (r : RepV g H F (μ ++ [a]) d v) : RepV g H (fun b => F b ∨ b = a) μ (subD μ.length x d) v := by
  have up : ∀ b, F b → F b ∨ b = a := fun b h => .inl h
  rcases r with ⟨k, b, rfl, hk, rfl⟩ | r
  · by_cases e : k = μ.length
    · subst e
      rw [List.getElem?_append_right (Nat.le_refl _), Nat.sub_self] at hk
      cases hk
      have es : subD μ.length x (.loc μ.length) = x := if_pos rfl
      rw [es]
      exact .inr rx
    · have es : subD μ.length x (.loc k) = .loc k := if_neg e
      rw [es]
      have hl := (List.getElem?_eq_some_iff.mp hk).1
      rw [List.length_append] at hl
      have hl2 : k < μ.length := by
        have : [a].length = 1 := rfl
        omega
      rw [List.getElem?_append_left hl2] at hk
      exact .inl ⟨k, b, rfl, hk, rfl⟩
  · have es : subD μ.length x d = d := by
      cases d <;> first | rfl | exact r.elim
    rw [es]
    exact .inr (RepP.mono (Same.refl H) up _ _ r)
theorem subs_rep {x : D} {a : Addr} (rx : RepP g H (fun b => F b ∨ b = a) x (.ref a)) : ∀ {ds : List D} {us : List V}, RepVs g H F (μ ++ [a]) ds us → RepVs g H (fun b => F b ∨ b = a) μ (ds.map (subD μ.length x)) us
  | _, _, .nil => .nil
  | _, _, .cons r t => .cons (sub_rep rx r) (subs_rep rx t)
theorem fz_of {Dn : Ends} (h : TSt g W (sFz f) Dn σc H) : TSt g W f Dn σc H := by
  obtain ⟨μ, F, σ, S, R, q⟩ := h
  refine ⟨μ, F, σ, S, R, ?_⟩
  unfold sFz at q
  cases e : f σ S with
  | nx σ' S' =>
    rw [e] at q
    unfold fz1 at q
    dsimp only at q
    by_cases hl : S.length < S'.length
    · rw [if_pos hl] at q
      unfold fzK at q
      cases eg : gets S' (S'.length - 1) with
      | none => rw [eg] at q; exact q.elim
      | some o =>
        rw [eg] at q
        dsimp only at q
        cases eo : frzO o with
        | none => rw [eo] at q; exact q.elim
        | some x =>
          rw [eo] at q
          dsimp only at q
          intro σc' μ' F' H' l R'
          obtain ⟨ν, eν, nν⟩ := l.mu
          have h1 := R'.ml
          have h2 := R.ml
          have hν : ν ≠ [] := fun z => by rw [eν, z, List.append_nil] at h1; omega
          obtain ⟨μ1, a, ea, em⟩ : ∃ μ1 a, ν = μ1 ++ [a] ∧ μ' = (μ ++ μ1) ++ [a] := ⟨ν.dropLast, ν.getLast hν, (List.dropLast_concat_getLast hν).symm, by rw [eν, List.append_assoc, List.dropLast_concat_getLast hν]⟩
          have hm : (μ ++ μ1).length = S'.length - 1 := by rw [em, List.length_append] at h1; have : [a].length = 1 := rfl; omega
          rw [gets_eq] at eg
          obtain ⟨b, hb, k1⟩ := R'.st _ _ eg
          rw [← hm, em, List.getElem?_append_right (Nat.le_refl _), Nat.sub_self] at hb
          cases hb
          obtain ⟨px, rx⟩ := frz_rep eo k1
          have ha : ∃ u, H' a = some u := k1.there
          have na : H a = none := nν a (by rw [ea]; exact List.mem_append.mpr (.inr (List.mem_cons_self ..)))
          have nd' := R'.nd
          rw [em] at nd'
          have nm : a ∉ μ ++ μ1 := fun hm => (List.nodup_append.mp nd').2.2 a hm a (List.mem_cons_self ..) rfl
          have l2 : Later μ F H (μ ++ μ1) (fun b => F' b ∨ b = a) H' := ⟨⟨μ1, rfl, fun x h => nν x (by rw [ea]; exact List.mem_append.mpr (.inl h))⟩, fun x h => .inl (l.up x h), l.keep, l.dom, fun x h => h.elim (l.nw x) fun h => .inr (by rw [h]; exact na)⟩
          refine q σc' (μ ++ μ1) _ H' l2 ?_
          have hsub := fun {d v} (r : RepV g H' F' ((μ ++ μ1) ++ [a]) d v) => sub_rep (g := g) (x := x) rx r
          have hsubs := fun {ds us} (r : RepVs g H' F' ((μ ++ μ1) ++ [a]) ds us) => subs_rep (g := g) (x := x) rx r
          rw [← hm]
          refine ⟨fun i d h => ?_, ?_, fun k o h => ?_, ?_, (List.nodup_append.mp nd').1, fun b hb hF => ?_, fun b hb => ?_, fun p hp2 => RepX.later R l2 (R.xc p hp2)⟩
          · unfold subS at h
            rw [List.getElem?_map] at h
            cases es : σ'[i]? with
            | none => rw [es] at h; cases h
            | some od =>
              rw [es] at h
              cases od with
              | none => cases h
              | some d0 =>
                cases h
                obtain ⟨v, q1, q2⟩ := R'.env i d0 es
                rw [em] at q2
                exact ⟨v, q1, hsub q2⟩
          · unfold subS
            rw [List.length_map]
            exact R'.len
          · rw [List.getElem?_map] at h
            cases es : (S'.take (μ ++ μ1).length)[k]? with
            | none => rw [es] at h; cases h
            | some o0 =>
              rw [es] at h
              cases h
              rw [List.getElem?_take] at es
              split at es
              · rename_i hk
                obtain ⟨b, q1, q2⟩ := R'.st k o0 es
                rw [em] at q1 q2
                rw [List.getElem?_append_left hk] at q1
                refine ⟨b, q1, ?_⟩
                cases o0 with
                | lst zs => obtain ⟨ws, z1, z2, z3⟩ := q2; exact ⟨ws, z1, z2, hsubs z3⟩
                | dct ks zs => obtain ⟨ws, z1, z2⟩ := q2; exact ⟨ws, hsubs z1, z2⟩
                | ins c zs => obtain ⟨dx, fs, ws, z1, z2, z3, z4⟩ := q2; exact ⟨dx, fs, ws, z1, z2, z3, hsubs z4⟩
              · cases es
          · rw [List.length_map, List.length_take]
            omega
          · rcases hF with hF | hF
            · exact R'.ap b (by rw [em]; exact List.mem_append.mpr (.inl hb)) hF
            · exact nm (hF ▸ hb)
          · rcases hb with hb | hb
            · exact R'.dom b hb
            · rw [hb]; exact ha
    · rw [if_neg hl] at q
      exact q
  | _ => rw [e] at q; exact q
end
section
variable {X : Cx} {g : GX} {W : WX} {s1 s2 s3 s4 s5 s6 : Stmt} {rest : List Stmt} {f1 f2 f3 f4 f5 f6 fz fr : SC}
/-- some statements as a block: fz is what is told of the block -/
theorem s_bk1 (F : ∀ (Dn : Ends) σc H, TSt g W fz Dn σc H → TSt g W f1 Dn σc H) (h1 : PS X s1 (TSt g W f1)) (hr : PSs X rest (TSt g W fr)) : PSs X (s1 :: rest) (TSt g W (sSeq fz fr)) :=
  (pss_cons h1 hr).hc fun Dn σc H h => F _ _ _ (seq_of h)
theorem s_bk2 (F : ∀ (Dn : Ends) σc H, TSt g W fz Dn σc H → TSt g W (sSeq f1 f2) Dn σc H) (h1 : PS X s1 (TSt g W f1)) (h2 : PS X s2 (TSt g W f2)) (hr : PSs X rest (TSt g W fr)) : PSs X (s1 :: s2 :: rest) (TSt g W (sSeq fz fr)) :=
  (pss_cons h1 (pss_cons h2 hr)).hc fun Dn σc H h => seq_of (F _ _ _ (seq_of h))
theorem s_bk3 (F : ∀ (Dn : Ends) σc H, TSt g W fz Dn σc H → TSt g W (sSeq (sSeq f1 f2) f3) Dn σc H) (h1 : PS X s1 (TSt g W f1)) (h2 : PS X s2 (TSt g W f2)) (h3 : PS X s3 (TSt g W f3)) (hr : PSs X rest (TSt g W fr)) : PSs X (s1 :: s2 :: s3 :: rest) (TSt g W (sSeq fz fr)) :=
  (pss_cons h1 (pss_cons h2 (pss_cons h3 hr))).hc fun Dn σc H h => seq_of (seq_of (F _ _ _ (seq_of h)))
theorem s_bk4 (F : ∀ (Dn : Ends) σc H, TSt g W fz Dn σc H → TSt g W (sSeq (sSeq (sSeq f1 f2) f3) f4) Dn σc H) (h1 : PS X s1 (TSt g W f1)) (h2 : PS X s2 (TSt g W f2)) (h3 : PS X s3 (TSt g W f3)) (h4 : PS X s4 (TSt g W f4)) (hr : PSs X rest (TSt g W fr)) : PSs X (s1 :: s2 :: s3 :: s4 :: rest) (TSt g W (sSeq fz fr)) :=
  (pss_cons h1 (pss_cons h2 (pss_cons h3 (pss_cons h4 hr)))).hc fun Dn σc H h => seq_of (seq_of (seq_of (F _ _ _ (seq_of h))))
theorem s_bk5 (F : ∀ (Dn : Ends) σc H, TSt g W fz Dn σc H → TSt g W (sSeq (sSeq (sSeq (sSeq f1 f2) f3) f4) f5) Dn σc H) (h1 : PS X s1 (TSt g W f1)) (h2 : PS X s2 (TSt g W f2)) (h3 : PS X s3 (TSt g W f3)) (h4 : PS X s4 (TSt g W f4)) (h5 : PS X s5 (TSt g W f5)) (hr : PSs X rest (TSt g W fr)) : PSs X (s1 :: s2 :: s3 :: s4 :: s5 :: rest) (TSt g W (sSeq fz fr)) :=
  (pss_cons h1 (pss_cons h2 (pss_cons h3 (pss_cons h4 (pss_cons h5 hr))))).hc fun Dn σc H h => seq_of (seq_of (seq_of (seq_of (F _ _ _ (seq_of h)))))
theorem s_bk6 (F : ∀ (Dn : Ends) σc H, TSt g W fz Dn σc H → TSt g W (sSeq (sSeq (sSeq (sSeq (sSeq f1 f2) f3) f4) f5) f6) Dn σc H) (h1 : PS X s1 (TSt g W f1)) (h2 : PS X s2 (TSt g W f2)) (h3 : PS X s3 (TSt g W f3)) (h4 : PS X s4 (TSt g W f4)) (h5 : PS X s5 (TSt g W f5)) (h6 : PS X s6 (TSt g W f6)) (hr : PSs X rest (TSt g W fr)) : PSs X (s1 :: s2 :: s3 :: s4 :: s5 :: s6 :: rest) (TSt g W (sSeq fz fr)) :=
  (pss_cons h1 (pss_cons h2 (pss_cons h3 (pss_cons h4 (pss_cons h5 (pss_cons h6 hr)))))).hc fun Dn σc H h => seq_of (seq_of (seq_of (seq_of (seq_of (F _ _ _ (seq_of h))))))
end
section
variable {σ : Sl} {S : List SO} {f : SC} {n : Nat} {xs ks : List D}
@[simp] theorem sFz_e : sFz f σ S = fz1 S.length (f σ S) := id rfl
@[simp] theorem fz1_e : fz1 n (.nx σ S) = if n < S.length then fzK σ S (gets S (S.length - 1)) else .nx σ S := id rfl
@[simp] theorem fzK_l : fzK σ S (some (.lst xs)) = if pureL xs then .nx (subS (S.length - 1) (.lst xs) σ) ((S.take (S.length - 1)).map (subO (S.length - 1) (.lst xs))) else .bad := by
  unfold fzK frzO
  by_cases h : pureL xs = true
  · simp only [h, if_true]
  · simp only [h, if_false, Bool.false_eq_true]
@[simp] theorem fzK_d : fzK σ S (some (.dct ks xs)) = if pureL xs then .nx (subS (S.length - 1) (.dct ks xs) σ) ((S.take (S.length - 1)).map (subO (S.length - 1) (.dct ks xs))) else .bad := by
  unfold fzK frzO
  by_cases h : pureL xs = true
  · simp only [h, if_true]
  · simp only [h, if_false, Bool.false_eq_true]
@[simp] theorem subS_e {x : D} : subS n x σ = σ.map (Option.map (subD n x)) := id rfl
end
end HC

set_option maxRecDepth 100000
namespace HC
open PySem PySem.Spec L2
open PyProof.Rows hiding St
/-! ## expressions that change the store: calls of defs that write what they are handed -/
inductive ResX where
  | ok (d : D) (fr : Bool) (S : List SO) | ex (c : Nat) (as : List D) (S : List SO) | bad
inductive ResXL where
  | ok (ds : List D) (S : List SO) | ex (c : Nat) (as : List D) (S : List SO) | bad
inductive ResXI where
  | st (ds : List D) (S : List SO) | ex (c : Nat) (as : List D) (S : List SO) | bad
abbrev CEx := Sl → List SO → ResX
abbrev CAx := Sl → List SO → ResXL
abbrev CIx := Sl → List SO → ResXI
abbrev FnX := List D → List SO → ResX
def OkX (g : GX) (E : XK) (μ : List Addr) (F : FZ) (H : Hp) (σ : Sl) (σc : St) (r : ResX) (Q : VK) : Prop := match r with
  | .ok d fr S' => ∀ v μ' F' H', Later μ F H μ' F' H' → Rel g μ' F' σ S' σc H' → RepR g H H' F' μ' d fr v → Q v H'
  | .ex c as S' => ∀ cls dx μ' F' H', Later μ F H μ' F' H' → Rel g μ' F' σ S' σc H' → RepX g H' F' μ' c as cls dx → E cls dx H'
  | .bad => False
def OkXL (g : GX) (E : XK) (μ : List Addr) (F : FZ) (H : Hp) (σ : Sl) (σc : St) (r : ResXL) (Q : List V → Hp → Prop) : Prop := match r with
  | .ok ds S' => ∀ vs μ' F' H', Later μ F H μ' F' H' → Rel g μ' F' σ S' σc H' → RepVs g H' F' μ' ds vs → Q vs H'
  | .ex c as S' => ∀ cls dx μ' F' H', Later μ F H μ' F' H' → Rel g μ' F' σ S' σc H' → RepX g H' F' μ' c as cls dx → E cls dx H'
  | .bad => False
def OkXI (g : GX) (E : XK) (μ : List Addr) (F : FZ) (H : Hp) (σ : Sl) (σc : St) (r : ResXI) (Q : It → Hp → Prop) : Prop := match r with
  | .st ds S' => ∀ J μ' F' H', Later μ F H μ' F' H' → Rel g μ' F' σ S' σc H' → Wk g μ' F' H' J (fun _ => some ds) → Q J H'
  | .ex c as S' => ∀ cls dx μ' F' H', Later μ F H μ' F' H' → Rel g μ' F' σ S' σc H' → RepX g H' F' μ' c as cls dx → E cls dx H'
  | .bad => False
def TX (g : GX) (W : WX) (f : CEx) : TE := fun σc H Q => ∃ μ F σ S, Rel g μ F σ S σc H ∧ OkX g (wat W σc) μ F H σ σc (f σ S) Q
abbrev TBX (g : GX) (W : WX) (f : CEx) : TT := tTest (TX g W f)
def TXL (g : GX) (W : WX) (f : CAx) : TA := fun σc H Q => ∃ μ F σ S, Rel g μ F σ S σc H ∧ OkXL g (wat W σc) μ F H σ σc (f σ S) Q
def TXI (g : GX) (W : WX) (f : CIx) : TI := fun σc H Q => ∃ μ F σ S, Rel g μ F σ S σc H ∧ OkXI g (wat W σc) μ F H σ σc (f σ S) Q
section
variable {g : GX} {E : XK} {μ μ' : List Addr} {F F' : FZ} {H H' : Hp} {σ : Sl} {S : List SO} {σc : St}
theorem OkX.from {r : ResX} {Q : VK} (q : OkX g E μ F H σ σc r Q) (l : Later μ F H μ' F' H') : OkX g E μ' F' H' σ σc r Q := by
  cases r with
  | ok d fr S' => exact fun v μ2 F2 H2 l2 R2 r2 => q v μ2 F2 H2 (l.trans l2) R2 (r2.imp (fun h => h) fun ⟨e, a, ev, h0, r⟩ => ⟨e, a, ev, l.dom a h0, r⟩)
  | ex c as S' => exact fun cls dx μ2 F2 H2 l2 => q cls dx μ2 F2 H2 (l.trans l2)
  | bad => exact q
theorem OkXL.from {r : ResXL} {Q : List V → Hp → Prop} (q : OkXL g E μ F H σ σc r Q) (l : Later μ F H μ' F' H') : OkXL g E μ' F' H' σ σc r Q := by
  cases r with
  | ok d S' => exact fun v μ2 F2 H2 l2 => q v μ2 F2 H2 (l.trans l2)
  | ex c as S' => exact fun cls dx μ2 F2 H2 l2 => q cls dx μ2 F2 H2 (l.trans l2)
  | bad => exact q
theorem Rel.growF (R : Rel g μ F σ S σc H) {a : Addr} (nm : a ∉ μ) (th : ∃ o, H a = some o) : Rel g μ (fun b => F b ∨ b = a) σ S σc H := by
  have up : ∀ b, F b → F b ∨ b = a := fun b h => .inl h
  exact ⟨fun i d h => let ⟨v, h1, h2⟩ := R.env i d h; ⟨v, h1, h2.mono (Same.refl H) up⟩, R.len, fun n o h => let ⟨b, h1, h2⟩ := R.st n o h; ⟨b, h1, h2.mono (Same.refl H) up⟩, R.ml, R.nd,
    fun b hb h => h.elim (R.ap b hb) fun e => nm (e ▸ hb), fun b h => h.elim (R.dom b) fun e => by rw [e]; exact th, fun p hp => (R.xc p hp).mono (Same.refl H) up⟩
/-- a fresh object is frozen -/
theorem RepR.frzX {d : D} {fr : Bool} {v : V} (l : Later μ F H μ' F' H') (R : Rel g μ' F' σ S σc H') (r : RepR g H H' F' μ' d fr v) : ∃ F2 : FZ, Later μ F H μ' F2 H' ∧ Rel g μ' F2 σ S σc H' ∧ RepV g H' F2 μ' d v := by
  rcases r with ⟨_, r⟩ | ⟨_, a, rfl, h0, nf, nm, r⟩
  · exact ⟨F', l, R, r⟩
  · refine ⟨fun b => F' b ∨ b = a, ⟨l.mu, fun b h => .inl (l.up b h), l.keep, l.dom, fun b h => h.elim (l.nw b) fun e => .inr (by rw [e]; exact h0)⟩, R.growF nm r.there, .inr ?_⟩
    have r2 := r.mono (F' := fun b => F' b ∨ b = a) (fun _ _ e => e) fun b h => .inl h
    cases d with
    | lst xs =>
      obtain ⟨vs, q1, q2, q3⟩ := r2
      exact ⟨a, vs, rfl, ⟨.inr rfl, q1, q2⟩, q3⟩
    | dct ks ws =>
      obtain ⟨vs, q1, q2⟩ := r2
      exact ⟨a, vs, rfl, .inr rfl, q1, q2.imp (fun ⟨kvs, z, y⟩ => ⟨kvs, .inl z, y⟩) fun ⟨kvs, z, y⟩ => ⟨kvs, .inl z, y⟩⟩
    | obj c ws =>
      obtain ⟨dx, fs, vs, q1, q2, q3, q4⟩ := r2
      exact ⟨a, dx, fs, vs, rfl, .inr rfl, q1, q2, q3, q4⟩
    | _ => exact r2.elim
/-- what is told where nothing of the store is changed -/
theorem Ok.x_of {r : Res} {Q : VK} (R : Rel g μ F σ S σc H) (q : OkX g E μ F H σ σc (match r with | .ok d fr => .ok d fr S | .ex c as => .ex c as S | .bad => .bad) Q) : Ok g E H F μ r Q := by
  cases r with
  | ok d fr => exact fun v H' F' s x rr => q v μ F' H' (.of s x) (R.mono s x) rr
  | ex c as => exact fun cls dx H' F' s x rr => q cls dx μ F' H' (.of s x) (R.mono s x) rr
  | bad => exact q
end
def liftR (r : Res) (S : List SO) : ResX := match r with
  | .ok d fr => .ok d fr S
  | .ex c as => .ex c as S
  | .bad => .bad
def xL (f : CE) : CEx := fun σ S => liftR (f σ S) S
def xLs (f : CA) : CAx := fun σ S => match f σ S with
  | .ok ds => .ok ds S
  | .ex c as => .ex c as S
  | .bad => .bad
section
variable {X : Cx} {g : GX} {W : WX} {e a b c : Expr} {es rest : List Expr} {f : CE} {fc : CA} {pos : Pos}
theorem lift_of {σc : St} {H : Hp} {Q : VK} (h : TX g W (xL f) σc H Q) : T g W f σc H Q := by
  obtain ⟨μ, F, σ, S, R, q⟩ := h
  exact ⟨μ, F, σ, S, R, Ok.x_of R q⟩
theorem x_l (h : PE X e (T g W f)) : PE X e (TX g W (xL f)) := h.hc fun σc H Q h => lift_of h
theorem xt_l (h : PT X e (TB g W f)) : PT X e (TBX g W (xL f)) := h.hc fun σc H Q h => lift_of h
theorem xa_l (h : PA X es (TL g W fc)) : PA X es (TXL g W (xLs fc)) := h.hc fun σc H Q ⟨μ, F, σ, S, R, q⟩ => by
  refine ⟨μ, F, σ, S, R, ?_⟩
  unfold xLs at q
  cases ea : fc σ S with
  | bad => rw [ea] at q; exact q
  | ex c as => rw [ea] at q; exact fun cls dx H' F' s x rr => q cls dx μ F' H' (.of s x) (R.mono s x) rr
  | ok ds => rw [ea] at q; exact fun vs H' F' s x rr => q vs μ F' H' (.of s x) (R.mono s x) rr
end
/-! ### two values -/
def xBin (fn : List SO → D → D → Res) (a b : CEx) : CEx := fun σ S => match a σ S with
  | .ok x _ S1 => match b σ S1 with
    | .ok y _ S2 => liftR (fn S2 x y) S2
    | .ex c as S2 => .ex c as S2
    | .bad => .bad
  | .ex c as S1 => .ex c as S1
  | .bad => .bad
theorem TX.two {g : GX} {E : WX} {a b : CEx} {fn : List SO → D → D → Res} {σc : St} {H : Hp} {Q : VK} {R2' : V → V → Hp → Prop} (h : TX g E (xBin fn a b) σc H Q)
    (w : ∀ (μ : List Addr) (F : FZ) (σ : Sl) (S : List SO) (H2 : Hp) (x y : D) (vx vy : V), Rel g μ F σ S σc H2 → RepV g H2 F μ x vx → RepV g H2 F μ y vy → Ok g (wat E σc) H2 F μ (fn S x y) Q → R2' vx vy H2) :
    TX g E a σc H fun x H1 => TX g E b σc H1 fun y H2 => R2' x y H2 := by
  obtain ⟨μ, F, σ, S, R, q⟩ := h
  refine ⟨μ, F, σ, S, R, ?_⟩
  unfold xBin at q
  cases ea : a σ S with
  | bad => rw [ea] at q; exact q
  | ex c as S1 => rw [ea] at q; exact q
  | ok x fx S1 =>
    rw [ea] at q
    intro vx μ1 F1 H1 l1 R1 r1
    obtain ⟨F2, l2, R2, rx⟩ := r1.frzX l1 R1
    refine ⟨μ1, F2, σ, S1, R2, ?_⟩
    dsimp only at q
    cases eb : b σ S1 with
    | bad => rw [eb] at q; exact q
    | ex c as S2 => rw [eb] at q; exact (OkX.from q l2 : OkX g (wat E σc) μ1 F2 H1 σ σc (.ex c as S2) Q)
    | ok y fy S2 =>
      rw [eb] at q
      intro vy μ3 F3 H3 l3 R3 r3
      obtain ⟨F4, l4, R4, ry⟩ := r3.frzX l3 R3
      exact w μ3 F4 σ S2 H3 x y vx vy R4 (rx.later R2 l4) ry (Ok.x_of R4 (OkX.from q (l2.trans l4)))
section
variable {X : Cx} {g : GX} {E : WX} {a b : Expr} {fa fb : CEx} {pos : Pos} {r : R2} {fn : List SO → D → D → Res}
theorem x_op {op : Operator} (ho : OpR X (binaryOp op) r) (l : Lk2 g r fn) (ha : PE X a (TX g E fa)) (hb : PE X b (TX g E fb)) : PE X (.BinOp a op b pos) (TX g E (xBin fn fa fb)) :=
  (pe_op ho ha hb).hc fun σc H Q h => TX.two h fun μ F σ S H2 x y vx vy R rx ry q => l (wat E σc) μ F σ S σc H2 x y vx vy Q R rx ry q
theorem x_cmp {op : CmpOp} (ho : OpR X (compareOp op) r) (l : Lk2 g r fn) (ha : PE X a (TX g E fa)) (hb : PE X b (TX g E fb)) (hm : behindInMarks op b = false := by first | exact nomark _ | rfl) : PE X (.Compare a [op] [b] pos) (TX g E (xBin fn fa fb)) :=
  (pe_cmpR ho ha hb hm).hc fun σc H Q h => TX.two h fun μ F σ S H2 x y vx vy R rx ry q => l (wat E σc) μ F σ S σc H2 x y vx vy Q R rx ry q
theorem x_cmpT {op : CmpOp} (ho : OpR X (compareOp op) r) (l : Lk2 g r fn) (ha : PE X a (TX g E fa)) (hb : PE X b (TX g E fb)) (hm : behindInMarks op b = false := by first | exact nomark _ | rfl) : PT X (.Compare a [op] [b] pos) (TBX g E (xBin fn fa fb)) :=
  (pt_cmpR ho ha hb hm).hc fun σc H Q h => TX.two h fun μ F σ S H2 x y vx vy R rx ry q => l (wat E σc) μ F σ S σc H2 x y vx vy _ R rx ry q
theorem x_ix {p2 : Pos} (ha : PE X a (TX g E fa)) (hb : PE X b (TX g E fb)) (hg : X.K = g.K := by rfl) (hs : PlainIx b := by exact fun _ _ => rfl) : PE X (.Subscript a b pos) (TX g E (xBin bIx fa fb)) :=
  (pe_ix ix_seq ha hb hs).hc fun σc H Q h => TX.two h fun μ F σ S H2 x y vx vy R rx ry q => by rw [hg]; exact lk_ix (wat E σc) μ F σ S σc H2 x y vx vy Q R rx ry q
end
/-! ### arguments -/
def xNil : CAx := fun _ S => .ok [] S
def xCons (a : CEx) (r : CAx) : CAx := fun σ S => match a σ S with
  | .ok d _ S1 => match r σ S1 with
    | .ok ds S2 => .ok (d :: ds) S2
    | .ex c as S2 => .ex c as S2
    | .bad => .bad
  | .ex c as S1 => .ex c as S1
  | .bad => .bad
def xApp (fn : List SO → List D → Res) (f : CAx) : CEx := fun σ S => match f σ S with
  | .ok ds S1 => liftR (fn S1 ds) S1
  | .ex c as S1 => .ex c as S1
  | .bad => .bad
def xCall (m : FnX) (f : CAx) : CEx := fun σ S => match f σ S with
  | .ok ds S1 => m ds S1
  | .ex c as S1 => .ex c as S1
  | .bad => .bad
def xApI (fn : List SO → List D → ResI) (f : CAx) : CIx := fun σ S => match f σ S with
  | .ok ds S1 => match fn S1 ds with
    | .st xs => .st xs S1
    | .dy _ => .bad
    | .ex c as => .ex c as S1
    | .bad => .bad
  | .ex c as S1 => .ex c as S1
  | .bad => .bad
theorem TXL.app {g : GX} {E : WX} {f : CAx} {fn : List SO → List D → Res} {σc : St} {H : Hp} {Q : VK} {R1 : List V → Hp → Prop} (h : TX g E (xApp fn f) σc H Q)
    (w : ∀ (μ : List Addr) (F : FZ) (σ : Sl) (S : List SO) (H1 : Hp) (ds : List D) (vs : List V), Rel g μ F σ S σc H1 → RepVs g H1 F μ ds vs → Ok g (wat E σc) H1 F μ (fn S ds) Q → R1 vs H1) : TXL g E f σc H R1 := by
  obtain ⟨μ, F, σ, S, R, q⟩ := h
  refine ⟨μ, F, σ, S, R, ?_⟩
  unfold xApp at q
  cases ea : f σ S with
  | bad => rw [ea] at q; exact q
  | ex c as S1 => rw [ea] at q; exact q
  | ok ds S1 =>
    rw [ea] at q
    exact fun vs μ1 F1 H1 l1 R1 r1 => w μ1 F1 σ S1 H1 ds vs R1 r1 (Ok.x_of R1 (OkX.from q l1))
theorem TXL.call {g : GX} {E : WX} {f : CAx} {m : FnX} {σc : St} {H : Hp} {Q : VK} {R1 : List V → Hp → Prop} (h : TX g E (xCall m f) σc H Q)
    (w : ∀ (μ : List Addr) (F : FZ) (σ : Sl) (S : List SO) (H1 : Hp) (ds : List D) (vs : List V), Rel g μ F σ S σc H1 → RepVs g H1 F μ ds vs → OkX g (wat E σc) μ F H1 σ σc (m ds S) Q → R1 vs H1) : TXL g E f σc H R1 := by
  obtain ⟨μ, F, σ, S, R, q⟩ := h
  refine ⟨μ, F, σ, S, R, ?_⟩
  unfold xCall at q
  cases ea : f σ S with
  | bad => rw [ea] at q; exact q
  | ex c as S1 => rw [ea] at q; exact q
  | ok ds S1 =>
    rw [ea] at q
    exact fun vs μ1 F1 H1 l1 R1 r1 => w μ1 F1 σ S1 H1 ds vs R1 r1 (OkX.from q l1)
theorem TXL.appI {g : GX} {E : WX} {f : CAx} {fn : List SO → List D → ResI} {σc : St} {H : Hp} {Rq : It → Hp → Prop} {R1 : List V → Hp → Prop} (h : TXI g E (xApI fn f) σc H Rq)
    (w : ∀ (μ : List Addr) (F : FZ) (σ : Sl) (S : List SO) (H1 : Hp) (ds : List D) (vs : List V), Rel g μ F σ S σc H1 → RepVs g H1 F μ ds vs → OkI g (wat E σc) H1 F μ (fn S ds) Rq → R1 vs H1) : TXL g E f σc H R1 := by
  obtain ⟨μ, F, σ, S, R, q⟩ := h
  refine ⟨μ, F, σ, S, R, ?_⟩
  unfold xApI at q
  cases ea : f σ S with
  | bad => rw [ea] at q; exact q
  | ex c as S1 => rw [ea] at q; exact q
  | ok ds S1 =>
    rw [ea] at q
    intro vs μ1 F1 H1 l1 R1 r1
    refine w μ1 F1 σ S1 H1 ds vs R1 r1 ?_
    dsimp only at q
    cases ei : fn S1 ds with
    | bad => rw [ei] at q; exact q
    | dy _ => rw [ei] at q; exact q.elim
    | ex c as => rw [ei] at q; exact fun cls dx H' F' s x rr => q cls dx μ1 F' H' (l1.trans (.of s x)) (R1.mono s x) rr
    | st xs => rw [ei] at q; exact fun J H' F' s x rr => q J μ1 F' H' (l1.trans (.of s x)) (R1.mono s x) rr
section
variable {X : Cx} {g : GX} {E : WX} {e : Expr} {es : List Expr} {f : CEx} {fr : CAx} {pos p : Pos} {x : Str} {id T' : String} {r : List V → Hp → VK → Prop} {fn : List SO → List D → Res}
theorem xa_nil : PA X [] (TXL g E xNil) := pa_nil.hc fun σc H Q ⟨μ, F, σ, S, R, q⟩ => q [] μ F H .refl R .nil
theorem xa_cons (ha : PE X e (TX g E f)) (hr : PA X es (TXL g E fr)) (hs : starEach (e :: es) X.env = (false, eval e X.env) :: starEach es X.env := by rfl) : PA X (e :: es) (TXL g E (xCons f fr)) :=
  (pa_cons ha hr hs).hc fun σc H Q ⟨μ, F, σ, S, R, q⟩ => by
    refine ⟨μ, F, σ, S, R, ?_⟩
    unfold xCons at q
    cases ea : f σ S with
    | bad => rw [ea] at q; exact q
    | ex c as S1 => rw [ea] at q; exact q
    | ok d fl S1 =>
      rw [ea] at q
      intro v μ1 F1 H1 l1 R1 r1
      obtain ⟨F2, l2, R2, rx⟩ := r1.frzX l1 R1
      refine ⟨μ1, F2, σ, S1, R2, ?_⟩
      dsimp only at q
      cases eb : fr σ S1 with
      | bad => rw [eb] at q; exact q
      | ex c as S2 => rw [eb] at q; exact (OkXL.from q l2 : OkXL g (wat E σc) μ1 F2 H1 σ σc (.ex c as S2) Q)
      | ok ds S2 =>
        rw [eb] at q
        exact fun vs μ3 F3 H3 l3 R3 r3 => q (v :: vs) μ3 F3 H3 (l2.trans l3) R3 (.cons (rx.later R2 l3) r3)
theorem x_tup {x1} (h : PA X es (TXL g E fr)) : PE X (.Tuple es x1 pos) (TX g E (xApp fTup fr)) := (pe_tup h).hc fun σc H Q h => TXL.app h fun μ F σ S H1 ds vs R r q => by
  unfold fTup at q
  split at q
  · rename_i hp
    rw [Bool.and_eq_true, decide_eq_true_eq] at hp
    have hl : vs.length ≤ sizeLine := by rw [lim_eq, ← r.length]; exact hp.2
    exact ⟨hl, fun p hn => q.tup R.dom hn hl (r.pure hp.1)⟩
  · exact q.elim
theorem x_lst (h : PA X es (TXL g E fr)) : PE X (.List es pos) (TX g E (xApp fLst fr)) := (pe_lst h).hc fun σc H Q h => TXL.app h fun μ F σ S H1 ds vs R r q => by
  unfold fLst at q
  split at q
  · rename_i hp
    rw [Bool.and_eq_true, decide_eq_true_eq] at hp
    have hl : vs.length ≤ sizeLine := by rw [lim_eq, ← r.length]; exact hp.2
    exact ⟨hl, fun p hn => q.lst R.dom (fun a h => R.mu_there h) hn hl (r.pure hp.1)⟩
  · exact q.elim
theorem x_callB (hc : CallR X (.builtin id) r) (l : LkC g r fn) (hg : Gl X x) (hm : X.mg x = none) (hv : bootBuiltins x = some (.builtin id)) (ha : PA X (e :: es) (TXL g E fr)) (hn : x ≠ "__name__" := by decide) (hdb : (x == ("__debug__" : Str)) = false := by decide)
    (he : starEach (e :: es) X.env = (false, eval e X.env) :: starEach es X.env := by rfl) (hpl : (backTo pos (starEach es X.env)).any (·.1) = false := by rfl) : PE X (.Call (.Name x p) (e :: es) [] pos) (TX g E (xApp fn fr)) :=
  (pe_callB hc hg hm hv ha hn hdb he hpl).hc fun σc H Q h => TXL.app h fun μ F σ S H1 ds vs R r q => l (wat E σc) μ F σ S σc H1 ds vs Q R r q
theorem x_callTy (hc : CallR X (.type T') r) (l : LkC g r fn) (hg : Gl X x) (hm : X.mg x = none) (hv : bootBuiltins x = some (.type T')) (ha : PA X (e :: es) (TXL g E fr)) (hn : x ≠ "__name__" := by decide) (hdb : (x == ("__debug__" : Str)) = false := by decide)
    (he : starEach (e :: es) X.env = (false, eval e X.env) :: starEach es X.env := by rfl) (hpl : (backTo pos (starEach es X.env)).any (·.1) = false := by rfl) : PE X (.Call (.Name x p) (e :: es) [] pos) (TX g E (xApp fn fr)) :=
  (pe_callTy hc hg hm hv ha hn hdb he hpl).hc fun σc H Q h => TXL.app h fun μ F σ S H1 ds vs R r q => l (wat E σc) μ F σ S σc H1 ds vs Q R r q
end
end HC

set_option maxRecDepth 100000
namespace HC
open PySem PySem.Spec L2
open PyProof.Rows hiding St
/-! ## defs that change the store -/
def fnSpX (g : GX) (m : FnX) : Sp := fun vs H Q E => ∃ (μ : List Addr) (F : FZ) (S : List SO) (ds : List D), Rel g μ F [] S [] H ∧ RepVs g H F μ ds vs ∧ OkX g E μ F H [] [] (m ds S) Q
def refD (n : Nat) : D → Bool
  | .loc k => decide (k < n)
  | _ => true
def refO (n : Nat) : SO → Bool
  | .lst xs => xs.all (refD n)
  | .dct _ ws => ws.all (refD n)
  | .ins _ ws => ws.all (refD n)
/-- what a def leaves behind: its own objects go, if nothing that stands refers to them -/
def finX (n : Nat) (d : D) (fr : Bool) (S : List SO) : ResX := if S.length ≤ n then .ok d fr S else if (S.take n).all (refO n) then (match d with
  | .loc m => if m < n then .ok d fr (S.take n) else (match gets S m with
    | some (.lst xs) => if pureL xs then .ok (.lst xs) true (S.take n) else .ok d fr S
    | some (.dct ks ws) => if pureL ws then .ok (.dct ks ws) true (S.take n) else .ok d fr S
    | _ => .ok d fr S)
  | d => .ok d fr (S.take n)) else .ok d fr S
def runX (np n : Nat) (body : SC) : FnX := fun ds S => if ds.length = np then (match body (startD n ds) S with
  | .rx d fr _ S' => finX S.length d fr S'
  | .nx _ S' => finX S.length .non false S'
  | .ex c as _ S' => .ex c as S'
  | _ => .bad) else .bad
section
variable {g : GX} {E : XK} {μ μ' : List Addr} {F F' : FZ} {H H' : Hp} {σ : Sl} {S S' : List SO} {σc : St}
theorem Rel.bare (R : Rel g μ F σ S σc H) : Rel g μ F [] S [] H := ⟨fun i d h => by simp at h, rfl, R.st, R.ml, R.nd, R.ap, R.dom, R.xc⟩
theorem Rel.join (R : Rel g μ F σ S σc H) (l : Later μ F H μ' F' H') (R' : Rel g μ' F' [] S' [] H') : Rel g μ' F' σ S' σc H' :=
  ⟨fun i d h => let ⟨v, h1, h2⟩ := R.env i d h; ⟨v, h1, h2.later R l⟩, R.len, R'.st, R'.ml, R'.nd, R'.ap, R'.dom, fun p hp => RepX.later R l (R.xc p hp)⟩
theorem RepVs.takeM {n : Nat} : ∀ {ds : List D} {vs : List V}, RepVs g H F μ ds vs → ds.all (refD n) = true → RepVs g H F (μ.take n) ds vs
  | _, _, .nil, _ => .nil
  | _, _, .cons (a := d) r t, h => by
    rw [List.all_cons, Bool.and_eq_true] at h
    refine .cons ?_ (RepVs.takeM t h.2)
    rcases r with ⟨k, a, rfl, hk, ev⟩ | r
    · have hk2 : k < n := of_decide_eq_true h.1
      exact .inl ⟨k, a, rfl, by rw [List.getElem?_take, if_pos hk2]; exact hk, ev⟩
    · exact .inr r
theorem Rel.trim (R : Rel g μ F [] S [] H) {n : Nat} (h : (S.take n).all (refO n) = true) (hx : g.xc = none) : Rel g (μ.take n) F [] (S.take n) [] H := by
  refine ⟨fun i d h => by simp at h, rfl, fun k o hk => ?_, by rw [List.length_take, List.length_take, R.ml], R.nd.sublist (List.take_sublist _ _), fun a ha => R.ap a (List.mem_of_mem_take ha), R.dom, fun p hp => by rw [hx] at hp; cases hp⟩
  rw [List.getElem?_take] at hk
  split at hk
  · rename_i hkn
    obtain ⟨a, h1, h2⟩ := R.st k o hk
    refine ⟨a, by rw [List.getElem?_take, if_pos hkn]; exact h1, ?_⟩
    have ho : refO n o = true := List.all_eq_true.mp h o (List.mem_of_getElem? (by rw [List.getElem?_take, if_pos hkn]; exact hk))
    cases o with
    | lst xs => obtain ⟨vs, q1, q2, q3⟩ := h2; exact ⟨vs, q1, q2, q3.takeM ho⟩
    | dct ks ws => obtain ⟨vs, q1, q2⟩ := h2; exact ⟨vs, q1.takeM ho, q2⟩
    | ins c ws => obtain ⟨dx, fs, vs, q1, q2, q3, q4⟩ := h2; exact ⟨dx, fs, vs, q1, q2, q3, q4.takeM ho⟩
  · cases hk
theorem finX_ok {d : D} {fr : Bool} {v : V} {Q : VK} (hx : g.xc = none) (hm : μ.length = S.length) (l : Later μ F H μ' F' H') (R : Rel g μ' F' [] S' [] H') (r : RepR g H H' F' μ' d fr v) (q : OkX g E μ F H [] [] (finX S.length d fr S') Q) : Q v H' := by
  unfold finX at q
  split at q
  · exact q v μ' F' H' l R r
  · split at q
    · rename_i h1 h2
      obtain ⟨ν, eν, nν⟩ := l.mu
      have em : μ'.take S.length = μ := by rw [eν, ← hm, List.take_left']; rfl
      have R2 := R.trim h2 hx
      rw [em] at R2
      have l2 : Later μ F H μ F' H' := ⟨⟨[], by simp, fun a h => (nomatch h)⟩, l.up, l.keep, l.dom, l.nw⟩
      have go : ∀ {n : Nat} {a : Addr} {o : SO}, d = .loc n → μ'[n]? = some a → ¬ n < S.length → gets S' n = some o → RepO g H' F' μ' o a ∧ H a = none ∧ ¬ F' a ∧ a ∉ μ := fun {n a o} ed ha hn ho => by
        obtain ⟨b, hb, k⟩ := R.st n o (by rw [← gets_eq]; exact ho)
        rw [ha] at hb
        cases hb
        have haν : a ∈ ν := by
          rw [eν, List.getElem?_append_right (by omega)] at ha
          exact List.mem_of_getElem? ha
        refine ⟨k, nν a haν, R.ap a (List.mem_of_getElem? ha), fun hμ => ?_⟩
        have nd := R.nd
        rw [eν] at nd
        exact (List.nodup_append.mp nd).2.2 a hμ a haν rfl
      split at q
      · rename_i m
        split at q
        · rename_i hmn
          refine q v μ F' H' l2 R2 (r.imp (fun ⟨e, r⟩ => ⟨e, ?_⟩) fun ⟨e, a, ev, h0, nf, nm, rn⟩ => rn.elim)
          rcases r with ⟨k, a, e2, hk, ev⟩ | r
          · cases e2
            exact .inl ⟨m, a, rfl, by rw [← em, List.getElem?_take, if_pos hmn]; exact hk, ev⟩
          · exact r.elim
        · rename_i hmn
          have hv : ∃ a, μ'[m]? = some a ∧ v = .ref a := by
            rcases r with ⟨e, r⟩ | ⟨e, a, ev, h0, nf, nm, rn⟩
            · rcases r with ⟨k, a, e2, hk, ev⟩ | r
              · cases e2; exact ⟨a, hk, ev⟩
              · exact r.elim
            · exact rn.elim
          obtain ⟨a, ha, rfl⟩ := hv
          split at q
          · rename_i xs ex
            obtain ⟨k, h0, nf, nm⟩ := go rfl ha hmn ex
            split at q
            · rename_i hp
              obtain ⟨vs, q1, q2, q3⟩ := k
              exact q _ μ F' H' l2 R2 (.inr ⟨rfl, a, rfl, h0, nf, nm, vs, q1, q2, q3.pure hp⟩)
            · exact q _ μ' F' H' l R r
          · rename_i ks ws ex
            obtain ⟨k, h0, nf, nm⟩ := go rfl ha hmn ex
            split at q
            · rename_i hp
              obtain ⟨vs, q1, q2⟩ := k
              exact q _ μ F' H' l2 R2 (.inr ⟨rfl, a, rfl, h0, nf, nm, vs, q1.pure hp, q2⟩)
            · exact q _ μ' F' H' l R r
          · exact q _ μ' F' H' l R r
      · rename_i hd
        refine q v μ F' H' l2 R2 (r.imp (fun ⟨e, r⟩ => ⟨e, ?_⟩) fun ⟨e, a, ev, h0, nf, nm, rn⟩ => ⟨e, a, ev, h0, nf, fun h => nm (by rw [eν]; exact List.mem_append.mpr (.inl h)), rn⟩)
        rcases r with ⟨k, a, e2, hk, ev⟩ | r
        · exact absurd e2 (hd k)
        · exact .inr r
    · exact q v μ' F' H' l R r
theorem start_relX {N : List Str} {ds : List D} {vs : List V} (R : Rel g μ F [] S [] H) (r : RepVs g H F μ ds vs) : Rel g μ F (startD N.length ds) S (L2.start N vs) H := by
  have hl := r.length
  refine ⟨fun i d h => ?_, ?_, R.st, R.ml, R.nd, R.ap, R.dom, R.xc⟩
  · unfold startD at h
    unfold L2.start
    by_cases hi : i < ds.length
    · rw [List.getElem?_append_left (by simpa using hi), List.getElem?_map] at h
      cases e : ds[i]? with
      | none => rw [e] at h; cases h
      | some d' =>
        rw [e] at h
        cases h
        obtain ⟨v, h1, h2⟩ := r.get e
        refine ⟨v, ?_, h2⟩
        rw [List.getElem?_append_left (by rw [List.length_map]; omega), List.getElem?_map, h1]
        rfl
    · rw [List.getElem?_append_right (by simpa using hi), List.getElem?_replicate] at h
      split at h <;> cases h
  · unfold startD L2.start
    rw [List.length_append, List.length_append, List.length_map, List.length_map, List.length_replicate, List.length_replicate, hl]
end
/-- the rule for such a def -/
theorem fn_okX {P : Program} {w : World} {K : PySem.W.Frag} {mg : Str → Option Value} {base : Heap} {g : GX} {x qual : Str} {st : Stmt} {f : Addr} {fd : FuncData} {N ps : List Str} {k : Nat} {body : SC} (Fn : L2.Fun K x qual st f fd) (Sc : FnScope N ps (defScope st)) (hx : g.xc = none)
    (hb : ∀ (cdv : Value) (A : Around) (outer : List Env) (s : Shared) (H : Hp) (E : XK), RG k (A.deeper (envOfC qual (defScope st) s.heap.objs.size f cdv)) →
      PSs (cxOf (L2.CX P w) P w K mg base N qual (defScope st) f cdv A outer s H E) (defBody st) (TSt g (fun c d _ H => E c d H) body)) :
    FnG P w K mg base (L2.CX P w) (k + 1) f fd ps (fnSpX g (runX ps.length N.length body)) := by
  refine fnG_of Fn Sc (fun vs H Q E h => ?_) (fun cdv A outer s H vs Q E hr h => ?_)
  · obtain ⟨μ, F, S, ds, R, r, q⟩ := h
    unfold runX at q
    split at q
    · rename_i e
      rw [← r.length, e]
    · exact q.elim
  · obtain ⟨μ, F, S, ds, R, r, q⟩ := h
    unfold runX at q
    split at q
    · refine ⟨_, hb cdv A outer s H E hr, μ, F, _, S, start_relX R r, ?_⟩
      cases e : body (startD N.length ds) S with
      | nx σ' S' =>
        rw [e] at q
        exact fun σc' μ' F' H' l R' => finX_ok (d := .non) (fr := false) hx R.ml l R'.bare (.inl ⟨rfl, .inr rfl⟩) q
      | rx d fr σ' S' =>
        rw [e] at q
        exact fun v σc' μ' F' H' l R' b => finX_ok hx R.ml l R'.bare b q
      | ex c as σ' S' =>
        rw [e] at q
        exact fun cls dx σc' μ' F' H' l R' rx => q cls dx μ' F' H' l R'.bare rx
      | rt _ _ => rw [e] at q; exact q.elim
      | bk _ _ => rw [e] at q; exact q.elim
      | ct _ _ => rw [e] at q; exact q.elim
      | bad => rw [e] at q; exact q.elim
    · exact q.elim
section
variable {X : Cx} {g : GX} {W : WX} {k : Nat} {f : Addr} {fd : FuncData} {ps : List Str} {m : FnS} {mx : FnX} {x : Str} {p pos : Pos} {e : Expr} {es : List Expr} {cf : CAx}
theorem OkX.called {μ : List Addr} {F : FZ} {σ : Sl} {S : List SO} {σc : St} {H : Hp} {ds : List D} {vs : List V} {Q : VK} (R : Rel g μ F σ S σc H) (r : RepVs g H F μ ds vs) (q : OkX g (wat W σc) μ F H σ σc (mx ds S) Q) : fnSpX g mx vs H Q (WE W σc) := by
  refine ⟨μ, F, S, ds, R.bare, r, ?_⟩
  cases e : mx ds S with
  | ok d fr S' => rw [e] at q; exact fun v μ' F' H' l R' rr => q v μ' F' H' l (R.join l R') rr
  | ex c as S' => rw [e] at q; exact fun cls dx μ' F' H' l R' rr => q cls dx μ' F' H' l (R.join l R') rr
  | bad => rw [e] at q; exact q
/-- f(e, ..), a def that changes the store -/
theorem x_call (Fo : FnG X.prog X.w X.K X.mg X.base (L2.CX X.prog X.w) k f fd ps (fnSpX g mx)) (hr : RG k X.A) (hg : Gl X x) (hm : X.mg x = some (.ref f)) (hk : PySem.W.keepIn X.K (.ref f) = true) (hb : Binds X.K fd ps []) (tk : Takes X W) (ha : PA X (e :: es) (TXL g W cf))
    (hdb : (x == ("__debug__" : Str)) = false := by decide) (he : starEach (e :: es) X.env = (false, eval e X.env) :: starEach es X.env := by rfl) (hpl : (backTo pos (starEach es X.env)).any (·.1) = false := by rfl) :
    PE X (.Call (.Name x p) (e :: es) [] pos) (TX g W (xCall mx cf)) := by
  refine ⟨fun pins s σ H Q I h => wpAny_Call_Name_kw (ld_glob I hg hm ?_ hdb)⟩
  refine PySem.W.callWith_K (h₀ := X.base) I.ok.mod.kin hk (thn (ha.run pos pins s σ H (fun vs H1 => fnSpX g mx vs H1 Q (WE W σ)) I (TXL.call h fun μ F σd S H1 ds vs R r q => q.called R r)) fun us s1 ⟨vs, H1, I1, r, q⟩ => ⟨I1.kIn, ?_⟩) he hpl
  have hl : us.length = ps.length := by rw [← r.length]; exact Fo.ln _ _ _ _ q
  have b := hb s1 us I1.kIn (by rw [List.append_nil]; exact hl)
  rw [List.append_nil] at b
  exact run_G (ar := ⟨us, []⟩) Fo hr (passAt tk σ) I1 b r q
/-- f(e, ..), a def that doesn't, with such arguments -/
theorem x_callP (Fo : FnG X.prog X.w X.K X.mg X.base (L2.CX X.prog X.w) k f fd ps (fnSp g m)) (hr : RG k X.A) (hg : Gl X x) (hm : X.mg x = some (.ref f)) (hk : PySem.W.keepIn X.K (.ref f) = true) (hb : Binds X.K fd ps []) (tk : Takes X W) (ha : PA X (e :: es) (TXL g W cf))
    (hdb : (x == ("__debug__" : Str)) = false := by decide) (he : starEach (e :: es) X.env = (false, eval e X.env) :: starEach es X.env := by rfl) (hpl : (backTo pos (starEach es X.env)).any (·.1) = false := by rfl) :
    PE X (.Call (.Name x p) (e :: es) [] pos) (TX g W (xApp (callD m) cf)) := by
  refine ⟨fun pins s σ H Q I h => wpAny_Call_Name_kw (ld_glob I hg hm ?_ hdb)⟩
  refine PySem.W.callWith_K (h₀ := X.base) I.ok.mod.kin hk (thn (ha.run pos pins s σ H (fun vs H1 => fnSp g m vs H1 Q (WE W σ)) I (TXL.app h fun μ F σd S H1 ds vs R r q => q.called R r)) fun us s1 ⟨vs, H1, I1, r, q⟩ => ⟨I1.kIn, ?_⟩) he hpl
  have hl : us.length = ps.length := by rw [← r.length]; exact Fo.ln _ _ _ _ q
  have b := hb s1 us I1.kIn (by rw [List.append_nil]; exact hl)
  rw [List.append_nil] at b
  exact run_G (ar := ⟨us, []⟩) Fo hr (passAt tk σ) I1 b r q
end
end HC

set_option maxRecDepth 100000
namespace HC
open PySem PySem.Spec L2
open PyProof.Rows hiding St
/-! ## tests -/
def xTwo (f : CEx) (k : Sl → List SO → D → ResX) : CEx := fun σ S => match f σ S with
  | .ok d _ S1 => k σ S1 d
  | .ex c as S1 => .ex c as S1
  | .bad => .bad
def xTru (f : CEx) : CEx := xTwo f fun _ S d => match truth S d with
  | some b => .ok (.bl b) false S
  | none => .bad
def xNotB (f : CEx) : CEx := xTwo f fun _ S d => match d with
  | .bl b => .ok (.bl (!b)) false S
  | _ => .bad
def xIf (c a b : CEx) : CEx := xTwo c fun σ S d => match d with
  | .bl true => a σ S
  | .bl false => b σ S
  | _ => .bad
def xAndB (a b : CEx) : CEx := xTwo a fun σ S d => match d with
  | .bl true => b σ S
  | .bl false => .ok (.bl false) false S
  | _ => .bad
def xOrB (a b : CEx) : CEx := xTwo a fun σ S d => match d with
  | .bl true => .ok (.bl true) false S
  | .bl false => b σ S
  | _ => .bad
section
variable {X : Cx} {g : GX} {E : WX} {a b c : Expr} {fa fb fc : CEx} {pos : Pos}
theorem TX.one {f : CEx} {k : Sl → List SO → D → ResX} {σc : St} {H : Hp} {Q : VK} {R1 : V → Hp → Prop} (h : TX g E (xTwo f k) σc H Q)
    (w : ∀ (μ : List Addr) (F : FZ) (σ : Sl) (S : List SO) (H1 : Hp) (d : D) (v : V), Rel g μ F σ S σc H1 → RepV g H1 F μ d v → OkX g (wat E σc) μ F H1 σ σc (k σ S d) Q → R1 v H1) : TX g E f σc H R1 := by
  obtain ⟨μ, F, σ, S, R, q⟩ := h
  refine ⟨μ, F, σ, S, R, ?_⟩
  unfold xTwo at q
  cases ea : f σ S with
  | bad => rw [ea] at q; exact q
  | ex c as S1 => rw [ea] at q; exact q
  | ok d fr S1 =>
    rw [ea] at q
    intro v μ1 F1 H1 l1 R1 r1
    obtain ⟨F2, l2, R2, rx⟩ := r1.frzX l1 R1
    exact w μ1 F2 σ S1 H1 d v R2 rx (OkX.from q l2)
theorem OkX.here {μ : List Addr} {F : FZ} {σ : Sl} {S : List SO} {σc : St} {H : Hp} {E : XK} {d : D} {v : V} {Q : VK} (R : Rel g μ F σ S σc H) (q : OkX g E μ F H σ σc (.ok d false S) Q) (r : RepV g H F μ d v) : Q v H := q v μ F H .refl R (.inl ⟨rfl, r⟩)
theorem x_tru (ha : PE X a (TX g E fa)) (hg : X.K = g.K := by rfl) (he : ∀ whole, isTrue a X.env whole = (do let v ← whole; standAt a.pos; holding [v] (truthy v)) := by intro _; rfl) : PT X a (TBX g E (xTru fa)) :=
  (pt_truth ha he).hc fun σc H Q h => TX.one h fun μ F σ S H1 d v R r q => by
    split at q
    · rename_i b e
      obtain ⟨k, e2, z⟩ := q.here R (v := .bl b) (.inr rfl)
      cases e2
      exact ⟨b, by rw [hg]; exact R.tru r e, z⟩
    · exact q.elim
theorem x_trB (ha : PE X a (TX g E fa)) (he : ∀ whole, isTrue a X.env whole = (do let v ← whole; standAt a.pos; holding [v] (truthy v)) := by intro _; rfl) : PT X a (TBX g E fa) := pt_val ha he
theorem TBX.one {f : CEx} {k : Sl → List SO → D → ResX} {σc : St} {H : Hp} {Q : VK} {R1 : Bool → Hp → Prop} (hk : ∀ σ S d, (∀ b, d ≠ .bl b) → k σ S d = .bad) (h : TX g E (xTwo f k) σc H Q)
    (w : ∀ (μ : List Addr) (F : FZ) (σ : Sl) (S : List SO) (H1 : Hp) (b : Bool), Rel g μ F σ S σc H1 → OkX g (wat E σc) μ F H1 σ σc (k σ S (.bl b)) Q → R1 b H1) : TBX g E f σc H R1 :=
  TX.one h fun μ F σ S H1 d v R r q => by
    cases d with
    | bl b => exact ⟨b, r.bl, w μ F σ S H1 b R q⟩
    | _ => rw [hk _ _ _ (by intro b z; cases z)] at q; exact q.elim
theorem bl_bad {α : Type} {p : Bool → α} {z : α} {d : D} (h : ∀ b, d ≠ .bl b) : (match d with | .bl b => p b | _ => z) = z := by
  cases d with
  | bl b => exact absurd rfl (h b)
  | _ => rfl
theorem x_notT (ha : PT X a (TBX g E fa)) : PT X (.UnaryOp .Not a pos) (TBX g E (xNotB fa)) :=
  (pt_not ha).hc fun σc H Q h => TBX.one (fun σ S d h => by cases d <;> first | rfl | exact absurd rfl (h _)) h fun μ F σ S H1 b R q => by
    obtain ⟨k, e, z⟩ := q.here R (v := .bl (!b)) (.inr rfl)
    cases e
    exact z
theorem xw_and1 (ha : PT X a (TBX g E fa)) : PW X (.BoolOp .And [a] pos) (TBX g E fa) := pw_and1 ha
theorem xw_or1 (ha : PT X a (TBX g E fa)) : PW X (.BoolOp .Or [a] pos) (TBX g E fa) := pw_or1 ha
theorem xw_and {rest : List Expr} (ha : PT X a (TBX g E fa)) (hb : PW X (.BoolOp .And (b :: rest) pos) (TBX g E fb)) : PW X (.BoolOp .And (a :: b :: rest) pos) (TBX g E (xAndB fa fb)) :=
  (pw_and ha hb).hc fun σc H Q h => TBX.one (fun σ S d h => by cases d <;> first | rfl | exact absurd rfl (h _)) h fun μ F σ S H1 c R q => by
    cases c with
    | true => exact iteT ⟨μ, F, σ, S, R, q⟩
    | false =>
      obtain ⟨k, e, z⟩ := q.here R (v := .bl false) (.inr rfl)
      cases e
      exact iteF z
theorem xw_or {rest : List Expr} (ha : PT X a (TBX g E fa)) (hb : PW X (.BoolOp .Or (b :: rest) pos) (TBX g E fb)) : PW X (.BoolOp .Or (a :: b :: rest) pos) (TBX g E (xOrB fa fb)) :=
  (pw_or ha hb).hc fun σc H Q h => TBX.one (fun σ S d h => by cases d <;> first | rfl | exact absurd rfl (h _)) h fun μ F σ S H1 c R q => by
    cases c with
    | true =>
      obtain ⟨k, e, z⟩ := q.here R (v := .bl true) (.inr rfl)
      cases e
      exact iteT z
    | false => exact iteF ⟨μ, F, σ, S, R, q⟩
theorem x_if (hc : PT X c (TBX g E fc)) (ha : PE X a (TX g E fa)) (hb : PE X b (TX g E fb)) : PE X (.IfExp c a b pos) (TX g E (xIf fc fa fb)) :=
  (pe_ifExp hc ha hb).hc fun σc H Q h => TBX.one (fun σ S d h => by cases d <;> first | rfl | exact absurd rfl (h _)) h fun μ F σ S H1 c R q => by
    cases c with
    | true => exact iteT ⟨μ, F, σ, S, R, q⟩
    | false => exact iteF ⟨μ, F, σ, S, R, q⟩
end
/-! ## statements -/
def sValX (f : CEx) (k : Sl → List SO → D → Bool → RS) : SC := fun σ S => match f σ S with
  | .ok d fr S1 => k σ S1 d fr
  | .ex c as S1 => .ex c as σ S1
  | .bad => .bad
def sAsgX (i : Nat) (f : CEx) : SC := sValX f fun σ S d _ => .nx (setD σ i d) S
def newX (i : Nat) (σ : Sl) (S : List SO) (d : D) (fr : Bool) : RS := match fr with
  | true => match d with
    | .lst xs => .nx (setD σ i (.loc S.length)) (S ++ [.lst xs])
    | .dct ks ws => .nx (setD σ i (.loc S.length)) (S ++ [.dct ks ws])
    | _ => .bad
  | false => .bad
def sNewX (i : Nat) (f : CEx) : SC := sValX f (newX i)
def sExprX (f : CEx) : SC := sValX f fun σ S _ _ => .nx σ S
/-- return in a def that changes the store -/
def sRetX (f : CEx) : SC := sValX f fun σ S d fr => .rx d fr σ S
/-- return in a def that doesn't -/
def sRetE (f : CEx) : SC := sValX f fun _ S d fr => retD S d fr
def sIfX (c : CEx) (a b : SC) : SC := sValX c fun σ S d _ => match d with
  | .bl true => a σ S
  | .bl false => b σ S
  | _ => .bad
def sAsgTX (A : TgF) (f : CEx) : SC := sValX f fun σ S d _ => match A d σ with
  | some σ1 => .nx σ1 S
  | none => .bad
def sAugX (k : Nat) (fn : List SO → D → D → Res) (f : CEx) : SC := fun σ S => match gets σ k with
  | some (some x) => sValX f (fun σ S y _ => match fn S x y with
    | .ok z false => .nx (setD σ k z) S
    | _ => .bad) σ S
  | _ => .bad
def sForX (fi : CIx) (A : TgF) (body : SC) : SC := fun σ S => match fi σ S with
  | .st ds S1 => forL A body ds σ S1
  | .ex c as S1 => .ex c as σ S1
  | .bad => .bad
def xVal (f : CEx) : CIx := fun σ S => match f σ S with
  | .ok (.tup xs) _ S1 => .st xs S1
  | .ok (.lst xs) _ S1 => .st xs S1
  | .ok (.rol xs) _ S1 => .st xs S1
  | .ok _ _ _ => .bad
  | .ex c as S1 => .ex c as S1
  | .bad => .bad
section
variable {g : GX} {μ : List Addr} {F : FZ} {σ : Sl} {S : List SO} {σc : St} {H : Hp} {W : WX} {Dn : Ends}
theorem Rel.svalX (R : Rel g μ F σ S σc H) {f : CEx} {k : Sl → List SO → D → Bool → RS} {Q : VK} (q : OkS g W μ F H (sValX f k σ S) Dn)
    (w : ∀ (d : D) (fr : Bool) (v : V) (μ1 : List Addr) (F1 : FZ) (H1 : Hp) (S1 : List SO), Later μ F H μ1 F1 H1 → Rel g μ1 F1 σ S1 σc H1 → RepR g H H1 F1 μ1 d fr v → OkS g W μ F H (k σ S1 d fr) Dn → Q v H1) : TX g W f σc H Q := by
  refine ⟨μ, F, σ, S, R, ?_⟩
  unfold sValX at q
  cases ea : f σ S with
  | bad => rw [ea] at q; exact q
  | ex c as S1 => rw [ea] at q; exact fun cls dx μ1 F1 H1 l1 R1 rx => q cls dx σc μ1 F1 H1 l1 R1 rx
  | ok d fr S1 => rw [ea] at q; exact fun v μ1 F1 H1 l1 R1 r1 => w d fr v μ1 F1 H1 S1 l1 R1 r1 q
theorem Rel.svalXF (R : Rel g μ F σ S σc H) {f : CEx} {k : Sl → List SO → D → Bool → RS} {Q : VK} (q : OkS g W μ F H (sValX f k σ S) Dn)
    (w : ∀ (d : D) (fr : Bool) (v : V) (μ1 : List Addr) (F1 : FZ) (H1 : Hp) (S1 : List SO), Later μ F H μ1 F1 H1 → Rel g μ1 F1 σ S1 σc H1 → RepV g H1 F1 μ1 d v → OkS g W μ1 F1 H1 (k σ S1 d fr) Dn → Q v H1) : TX g W f σc H Q :=
  R.svalX q fun d fr v μ1 F1 H1 S1 l1 R1 r1 q1 => by
    obtain ⟨F2, l2, R2, rx⟩ := r1.frzX l1 R1
    exact w d fr v μ1 F2 H1 S1 l2 R2 rx (q1.from l2)
end
section
variable {X : Cx} {g : GX} {W : WX} {st : Stmt} {rest : List Stmt} {e : Expr} {f fc : CEx} {fs fr body : SC} {fi : CIx} {pos pos' : Pos} {i k : Nat} {x : Str} {A : TgF} {ss : List Nat} {op : Operator} {r : R2} {fn : List SO → D → D → Res}
theorem xs_asg (hN : X.N.Nodup) (hi : X.N[i]? = some x) (hx : Loc X.env.scope x) (he : PE X e (TX g W f)) (hs : swapsWith e (some (.Name x pos')) pos.line X.env = pure false := by rfl) (hf : X.fn x = true ∨ X.env.scope.names.lookup x = some .local := by first | exact .inl rfl | exact .inr rfl | assumption) :
    PS X (.Assign [.Name x pos'] e pos) (TSt g W (sAsgX i f)) := (ps_set hN hi hx he hs hf).hc fun Dn σc H ⟨μ, F, σ, S, R, q⟩ =>
  R.svalXF q fun d fr v μ1 F1 H1 S1 l1 R1 r1 q1 => q1.next (R1.set r1)
theorem xs_new (hN : X.N.Nodup) (hi : X.N[i]? = some x) (hx : Loc X.env.scope x) (he : PE X e (TX g W f)) (hs : swapsWith e (some (.Name x pos')) pos.line X.env = pure false := by rfl) (hf : X.fn x = true ∨ X.env.scope.names.lookup x = some .local := by first | exact .inl rfl | exact .inr rfl | assumption) :
    PS X (.Assign [.Name x pos'] e pos) (TSt g W (sNewX i f)) := (ps_set hN hi hx he hs hf).hc fun Dn σc H ⟨μ, F, σ, S, R, q⟩ =>
  R.svalX q fun d fr v μ1 F1 H1 S1 l1 R1 r1 q1 => by
    unfold newX at q1
    split at q1
    · rcases r1 with ⟨e, _⟩ | ⟨_, a, rfl, h0, nf, nm, rn⟩
      · cases e
      have l2 : Later μ F H (μ1 ++ [a]) F1 H1 := ⟨by obtain ⟨ν, e, n⟩ := l1.mu; exact ⟨ν ++ [a], by rw [e, List.append_assoc], fun b hb => (List.mem_append.mp hb).elim (n b) fun h => by rw [List.mem_singleton.mp h]; exact h0⟩, l1.up, l1.keep, l1.dom, l1.nw⟩
      have up : ∀ {ds vs}, RepL g H1 F1 ds vs → RepVs g H1 F1 (μ1 ++ [a]) ds vs := fun h => h.vs
      have fin : ∀ o : SO, RepO g H1 F1 (μ1 ++ [a]) o a → OkS g W μ F H (.nx (setD σ i (.loc S1.length)) (S1 ++ [o])) Dn → gName i (.ref a) σc H1 Dn.nx := fun o ro q2 => by
        refine q2 _ _ _ _ l2 ((R1.grow nf nm ro).set (.inl ⟨S1.length, a, rfl, ?_, rfl⟩))
        rw [← R1.ml, List.getElem?_append_right (Nat.le_refl _), Nat.sub_self]
        rfl
      split at q1
      · rename_i xs
        obtain ⟨vs, k1, k2, k3⟩ := rn
        exact fin (.lst xs) ⟨vs, k1, k2, up k3⟩ q1
      · rename_i ks ws
        obtain ⟨vs, k1, k2⟩ := rn
        exact fin (.dct ks ws) ⟨vs, up k1, k2⟩ q1
      · exact q1.elim
    · exact q1.elim
theorem xs_expr (he : PE X e (TX g W f)) (hs : swapsWith e none pos.line X.env = pure false := by rfl) : PS X (.Expr e pos) (TSt g W (sExprX f)) := (ps_expr he hs).hc fun Dn σc H ⟨μ, F, σ, S, R, q⟩ =>
  R.svalXF q fun d fr v μ1 F1 H1 S1 l1 R1 r1 q1 => q1.next R1
theorem xs_ret (he : PE X e (TX g W f)) : PS X (.Return (some e) pos) (TSt g W (sRetX f)) := (ps_ret he).hc fun Dn σc H ⟨μ, F, σ, S, R, q⟩ =>
  R.svalX q fun d fr v μ1 F1 H1 S1 l1 R1 r1 q1 => q1 v σc μ1 F1 H1 l1 R1 r1
theorem xs_retE (he : PE X e (TX g W f)) : PS X (.Return (some e) pos) (TSt g W (sRetE f)) := (ps_ret he).hc fun Dn σc H ⟨μ, F, σ, S, R, q⟩ =>
  R.svalX q fun d fr v μ1 F1 H1 S1 l R1 r1 q1 => by
    have q2 : OkS g W μ F H (retD S1 d fr) Dn := q1
    unfold retD at q2
    split at q2
    · rename_i n
      rcases r1 with ⟨_, r1⟩ | ⟨_, _, _, _, _, _, r1⟩
      · rcases r1 with ⟨m, a, e, ha, rfl⟩ | r1
        · cases e
          have am : a ∈ μ1 := List.mem_of_getElem? ha
          have am2 : H a = none ∨ a ∈ μ := by
            obtain ⟨ν, en, hn⟩ := l.mu
            rw [en] at am
            exact (List.mem_append.mp am).elim .inr fun h => .inl (hn a h)
          split at q2
          · rename_i xs es
            split at q2
            · rename_i hp
              obtain ⟨b, hb, vs, k1, k2, k3⟩ := R1.st n _ (by rw [← gets_eq]; exact es)
              rw [ha] at hb
              cases hb
              exact q2 _ μ1 F1 H1 l (.inr ⟨rfl, a, rfl, am2, R1.ap a am, vs, k1, k2, k3.pure hp⟩) R1.dom
            · exact q2.elim
          · rename_i ks ws es
            split at q2
            · rename_i hp
              obtain ⟨b, hb, vs, k1, k2⟩ := R1.st n _ (by rw [← gets_eq]; exact es)
              rw [ha] at hb
              cases hb
              exact q2 _ μ1 F1 H1 l (.inr ⟨rfl, a, rfl, am2, R1.ap a am, vs, k1.pure hp, k2⟩) R1.dom
            · exact q2.elim
          · exact q2.elim
        · exact r1.elim
      · exact r1.elim
    · exact q2.elim
    · rename_i h1 h2
      refine q2 v μ1 F1 H1 l ?_ R1.dom
      rcases r1 with ⟨e, r1⟩ | ⟨e, a, ev, h0, nf, nm, rn⟩
      · refine .inl ⟨e, r1.pure ?_⟩
        cases d with
        | loc n => exact absurd rfl (h1 n)
        | _ => rfl
      · exact .inr ⟨e, a, ev, .inl h0, nf, rn⟩
theorem xs_if {c : Expr} {a b : List Stmt} (hc : PT X c (TBX g W fc)) (ha : PSs X a (TSt g W fs)) (hb : PSs X b (TSt g W fr)) : PS X (.If c a b pos) (TSt g W (sIfX fc fs fr)) := (ps_if hc ha hb).hc fun Dn σc H ⟨μ, F, σ, S, R, q⟩ =>
  R.svalXF q fun d fl v μ1 F1 H1 S1 l1 R1 r1 q1 => by
    cases d with
    | bl b =>
      refine ⟨b, r1.bl, ?_⟩
      cases b with
      | true => exact iteT ⟨μ1, F1, σ, S1, R1, q1⟩
      | false => exact iteF ⟨μ1, F1, σ, S1, R1, q1⟩
    | _ => exact q1.elim
theorem xs_asgT {tg : Expr} (he : PE X e (TX g W f)) (hg : PG X tg (TGt g ss A)) (hs : swapsWithSole [tg] e pos.line X.env = pure false := by rfl) (hw : swappedStores [tg] e X.env = pure none := by rfl)
    (h1 : (assignEach [tg] X.env).map (·.2) = [assign tg X.env] := by rfl) : PS X (.Assign [tg] e pos) (TSt g W (sAsgTX A f)) := (ps_asg he hg hs hw h1).hc fun Dn σc H ⟨μ, F, σ, S, R, q⟩ =>
  R.svalXF q fun d fr v μ1 F1 H1 S1 l1 R1 r1 q1 => by
    split at q1
    · rename_i σ1 e1
      exact ⟨μ1, F1, σ, S1, d, σ1, R1, r1, e1, fun σc' R2 _ => q1.next R2⟩
    · exact q1.elim
theorem xs_for {tg iter : Expr} {bd : List Stmt} (hp : PassesOwn (model X.prog X.w) X.A X.env X.xe) (hc : X.calm = true) (hi : PI X tg iter (TXI g W fi)) (hg : PG X tg (TGt g ss A)) (hb : PSs X bd (TSt g W body)) (hs : ∀ x, foldedSetIterable iter X.env x = pure x := by intro _; rfl) :
    PS X (.For tg iter bd [] pos) (TSt g W (sForX fi A body)) := (ps_for hp hc hi hg hb hs).hc fun Dn σc H ⟨μ, F, σ, S, R, q⟩ => by
  refine ⟨μ, F, σ, S, R, ?_⟩
  unfold sForX at q
  cases ei : fi σ S with
  | bad => rw [ei] at q; exact q
  | ex c as S1 => rw [ei] at q; exact fun cls dx μ1 F1 H1 l1 R1 rx => q cls dx σc μ1 F1 H1 l1 R1 rx
  | st ds S1 =>
    rw [ei] at q
    intro J μ1 F1 H1 l1 R1 w
    have hlen := (w μ1 F1 σ S1 σc H1 .refl R1 ds rfl).1
    let P : Nat → St → Hp → Prop := fun i σ' H' => i ≤ ds.length ∧ ∃ μ2 F2 σ2 S2, Rel g μ2 F2 σ2 S2 σ' H' ∧ Wk g μ2 F2 H' J (fun _ => some ds) ∧ OkS g W μ2 F2 H' (forL A body (ds.drop i) σ2 S2) Dn
    refine ⟨fun i m σ' H' => m = ds.length - i ∧ P i σ' H', ⟨ds.length, by simp, Nat.zero_le _, μ1, F1, σ, S1, R1, w, q.from l1⟩, ?_⟩
    rintro i m σ' H' ⟨rfl, hi, μ2, F2, σ2, S2, R2, w2, q2⟩
    obtain ⟨_, wk⟩ := w2 μ2 F2 σ2 S2 σ' H' .refl R2 ds rfl
    obtain ⟨go, yl, stop⟩ := wk i
    by_cases hlt : i < ds.length
    · rw [List.drop_eq_getElem_cons hlt] at q2
      unfold forL at q2
      refine .inr ⟨go hlt, P (i + 1), fun σ3 H3 p => ⟨ds.length - (i + 1), by omega, rfl, p⟩, fun x H3 hy => ?_⟩
      obtain ⟨sm, rx⟩ := yl x H3 hy
      have rx := rx _ (List.getElem?_eq_getElem hlt)
      have fx0 : FX F2 H' F2 H3 := ⟨fun _ h => h, fun _ h => .inl h, fun a h => let ⟨o, e⟩ := R2.dom a h; ⟨o, sm _ _ e⟩⟩
      have R3 := R2.mono sm fx0
      have l3 : Later μ2 F2 H' μ2 F2 H3 := .of sm fx0
      split at q2
      · rename_i σ4 eA
        refine ⟨μ2, F2, σ2, S2, ds[i], σ4, R3, rx, eA, fun σ5 R5 _ => ⟨μ2, F2, σ4, S2, R5, ?_⟩⟩
        have q3 := q2.from l3
        exact OkS.body (k := forL A body (ds.drop (i + 1))) q3 fun σ6 S6 σc' μ' F' H6 l R6 q6 => ⟨by omega, μ', F', σ6, S6, R6, (w2.later l3).later l, q6.from l⟩
      · exact q2.elim
    · have ei2 : i = ds.length := by omega
      rw [List.drop_eq_nil_of_le (by omega)] at q2
      exact .inl ⟨stop (by omega), q2.next R2⟩
theorem xs_aug (hN : X.N.Nodup) (hi : X.N[k]? = some x) (hx : Loc X.env.scope x) (he : PE X e (TX g W f)) (ho : OpR X (inplaceOp op) r) (l : Lk2 g r fn) (hf : X.fn x = true ∨ X.env.scope.names.lookup x = some .local := by first | exact .inl rfl | exact .inr rfl | assumption) :
    PS X (.AugAssign (.Name x pos') op e pos) (TSt g W (sAugX k fn f)) :=
  (ps_aug hN hi hx he ho hf).hc fun Dn σc H ⟨μ, F, σ, S, R, q⟩ => by
    unfold sAugX at q
    split at q
    · rename_i d ed
      obtain ⟨v, hv, rv⟩ := R.get ed
      refine ⟨v, hv, R.svalXF q fun y fy vy μ1 F1 H1 S1 l1 R1 ry q1 => ?_⟩
      split at q1
      · rename_i z ez
        refine l (fun _ _ _ => False) μ1 F1 σ S1 σc H1 d y v vy _ R1 (rv.later R l1) ry ?_
        rw [ez]
        intro w H2 F2 s2 x2 r2
        rcases r2 with ⟨_, r2⟩ | ⟨e, _⟩
        · exact (q1.from (.of s2 x2)).next ((R1.mono s2 x2).set r2)
        · cases e
      · exact q1.elim
    · exact q.elim
/-! ## what is walked -/
theorem xi_range1 {tg a : Expr} {p : Pos} {fa : CAx} (hg : Gl X "range") (hm : X.mg "range" = none) (ha : PA X [a] (TXL g W fa)) (hs : starEach [a] X.env = [(false, eval a X.env)] := by rfl) : PI X tg (.Call (.Name "range" p) [a] [] pos) (TXI g W (xApI rg1 fa)) :=
  (pi_range1 hg hm ha hs).hc fun σc H R h => TXL.appI h fun μ F σ S H1 ds vs Rl r q => by
    unfold rg1 at q
    split at q
    · rename_i j
      obtain ⟨v, rfl, rv⟩ := r.one
      cases rv.int
      split at q
      · rename_i hj
        rw [Bool.and_eq_true, decide_eq_true_eq] at hj
        obtain ⟨h1, h2⟩ := inRg_ok hj.1
        exact ⟨j, rfl, h1, h2, q _ H1 F (Same.refl _) Rl.fx (wk_range 0 _ hj.2)⟩
      · exact q.elim
    · exact q.elim
theorem xi_val {tg : Expr} (he : PE X e (TX g W f)) (hg : X.K = g.K := by rfl) : PI X tg e (TXI g W (xVal f)) := by
  have key : PI X tg e (fun σ H R => iTup X.K (TX g W f) σ H R ∨ iList X.K (TX g W f) σ H R) := ⟨fun pins s σ H R I h => h.elim ((pi_tup he).run pins s σ H R I) ((pi_list he).run pins s σ H R I)⟩
  refine key.hc fun σc H R ⟨μ, F, σ, S, Rl, q⟩ => ?_
  unfold xVal at q
  have bad : ∀ {A : Prop}, OkXI g (wat W σc) μ F H σ σc .bad R → A := fun h => h.elim
  cases ef : f σ S with
  | bad => rw [ef] at q; exact bad q
  | ex c as S1 => rw [ef] at q; exact .inl ⟨μ, F, σ, S, Rl, by rw [ef]; exact q⟩
  | ok d fr S1 =>
    rw [ef] at q
    cases d with
    | tup xs =>
      refine .inl ⟨μ, F, σ, S, Rl, ?_⟩
      rw [ef]
      intro v μ1 F1 H1 l1 R1 r1
      obtain ⟨F2, l2, R2, rx⟩ := r1.frzX l1 R1
      obtain ⟨a, vs, rfl, h1, w⟩ := Wk.val R2 rx
      rw [hg]
      exact ⟨a, rfl, ⟨vs, h1⟩, q _ μ1 F2 H1 l2 R2 w⟩
    | lst xs =>
      refine .inr ⟨μ, F, σ, S, Rl, ?_⟩
      rw [ef]
      intro v μ1 F1 H1 l1 R1 r1
      obtain ⟨F2, l2, R2, rx⟩ := r1.frzX l1 R1
      obtain ⟨a, vs, rfl, h1, w⟩ := Wk.val R2 rx
      rw [hg]
      exact ⟨a, rfl, ⟨vs, h1⟩, q _ μ1 F2 H1 l2 R2 w⟩
    | rol xs =>
      refine .inr ⟨μ, F, σ, S, Rl, ?_⟩
      rw [ef]
      intro v μ1 F1 H1 l1 R1 r1
      obtain ⟨F2, l2, R2, rx⟩ := r1.frzX l1 R1
      obtain ⟨a, vs, rfl, h1, w⟩ := Wk.val R2 rx
      rw [hg]
      exact ⟨a, rfl, ⟨vs, h1⟩, q _ μ1 F2 H1 l2 R2 w⟩
    | _ => exact bad q
end
end HC

set_option maxRecDepth 100000
namespace HC
open PySem PySem.Spec L2
open PyProof.Rows hiding St
/-! ## dicts: d[k], d[k] = e, k in d -/
def keyK : D → Option Key
  | .int i => some (.inl i)
  | .str x => some (.inr x)
  | _ => none
def keyKs : List D → Option (List Key)
  | [] => some []
  | d :: r => match keyK d, keyKs r with
    | some k, some ks => some (k :: ks)
    | _, _ => none
def keyT : D → Option (List Key)
  | .tup ds => keyKs ds
  | _ => none
def eqKey (a b : D) : Bool := match keyK a with
  | some j => (match keyK b with
    | some k => decide (j = k)
    | none => false)
  | none => match keyT a with
    | some js => (match keyT b with
      | some ks => decide (js = ks)
      | none => false)
    | none => false
def getKD : List D → List D → D → Option D
  | k :: ks, w :: ws, y => if eqKey k y then some w else getKD ks ws y
  | _, _, _ => none
def setKD : List D → List D → D → D → List D
  | k :: ks, w :: ws, y, v => (if eqKey k y then v else w) :: setKD ks ws y v
  | _, ws, _, _ => ws
def putKD (ks ws : List D) (y v : D) : SO := if ks.any (fun k => eqKey k y) then .dct ks (setKD ks ws y v) else .dct (ks ++ [y]) (ws ++ [v])
def dctOf (S : List SO) : D → Option (List D × List D)
  | .dct ks ws => some (ks, ws)
  | .loc n => match gets S n with
    | some (.dct ks ws) => some (ks, ws)
    | _ => none
  | _ => none
/-- keys of one kind: ints and texts (false), tuples of them (true) -/
def kindK (d : D) : Option Bool := match keyK d with
  | some _ => some false
  | none => match keyT d with
    | some _ => some true
    | none => none
def fits (ks : List D) (y : D) : Bool := match ks with
  | [] => false
  | k :: _ => match kindK k, kindK y with
    | some a, some b => a == b
    | _, _ => false
theorem keyK_D (k : Key) : keyK (keyD k) = some k := by cases k <;> rfl
theorem keyKs_D : ∀ ks : List Key, keyKs (ks.map keyD) = some ks
  | [] => rfl
  | k :: ks => by
    rw [List.map_cons]
    unfold keyKs
    rw [keyK_D, keyKs_D ks]
theorem keyK_inv {d : D} {k : Key} (h : keyK d = some k) : d = keyD k := by
  cases d <;> first | (cases h; rfl) | exact nomatch h
theorem keyKs_inv : ∀ {ds : List D} {ks : List Key}, keyKs ds = some ks → ds = ks.map keyD
  | [], ks, h => by cases h; rfl
  | d :: ds, ks, h => by
    unfold keyKs at h
    split at h
    · rename_i k r e1 e2
      cases h
      rw [List.map_cons, ← keyK_inv e1, ← keyKs_inv e2]
    · cases h
theorem eqKey_K {j k : Key} {y : D} (hy : keyK y = some k) : eqKey (keyD j) y = decide (j = k) := by
  unfold eqKey
  rw [keyK_D, hy]
theorem eqKey_T {j k : List Key} {y : D} (hy : keyT y = some k) : eqKey (keysD j) y = decide (j = k) := by
  unfold eqKey keysD
  show (match keyT (.tup (j.map keyD)) with | some js => _ | none => false) = _
  have e : keyT (.tup (j.map keyD)) = some j := keyKs_D j
  rw [e, hy]
section
variable {g : GX} {μ : List Addr} {F : FZ} {σ : Sl} {S : List SO} {σc : St} {H : Hp}
theorem val_of {α : Type} [DecidableEq α] (kd : α → D) (y : D) (k : α) (he : ∀ j, eqKey (kd j) y = decide (j = k)) : ∀ {kvs : List (α × V)} {ws : List D}, RepVs g H F μ ws (kvs.map (·.2)) →
    (∀ d, getKD (kvs.map fun p => kd p.1) ws y = some d → ∃ v, valV kvs k = some v ∧ RepV g H F μ d v) ∧ (getKD (kvs.map fun p => kd p.1) ws y = none → valV kvs k = none)
  | [], ws, r => by cases r; exact ⟨fun d h => (nomatch h), fun _ => rfl⟩
  | p :: kvs, ws, r => by
    cases r with
    | @cons w _ ws _ r t =>
      have ih := val_of kd y k he t
      rw [List.map_cons]
      unfold getKD
      rw [he]
      by_cases e : p.1 = k
      · rw [valV_pos e, decide_eq_true e, if_pos rfl]
        exact ⟨fun d h => ⟨_, rfl, by cases h; exact r⟩, fun h => nomatch h⟩
      · rw [valV_neg e, decide_eq_false e, if_neg Bool.false_ne_true]
        exact ih
theorem put_of {α : Type} [DecidableEq α] (kd : α → D) (y : D) (k : α) (he : ∀ j, eqKey (kd j) y = decide (j = k)) {d : D} {v : V} (rd : RepV g H F μ d v) : ∀ {kvs : List (α × V)} {ws : List D}, RepVs g H F μ ws (kvs.map (·.2)) →
    RepVs g H F μ (setKD (kvs.map fun p => kd p.1) ws y d) ((kvs.map fun kv => if kv.1 = k then (kv.1, v) else kv).map (·.2))
  | [], ws, r => by cases r; exact .nil
  | p :: kvs, ws, r => by
    cases r with
    | @cons w _ ws _ r t =>
      rw [List.map_cons, List.map_cons, List.map_cons]
      unfold setKD
      rw [he]
      refine .cons ?_ (put_of kd y k he rd t)
      by_cases e : p.1 = k
      · rw [if_pos e, decide_eq_true e, if_pos rfl]; exact rd
      · rw [if_neg e, decide_eq_false e, if_neg Bool.false_ne_true]; exact r
theorem any_of {α : Type} [DecidableEq α] (kd : α → D) (y : D) (k : α) (he : ∀ j, eqKey (kd j) y = decide (j = k)) : ∀ kvs : List (α × V), (kvs.map fun p => kd p.1).any (fun j => eqKey j y) = kvs.any fun kv => decide (kv.1 = k)
  | [] => rfl
  | p :: kvs => by
    rw [List.map_cons, List.any_cons, List.any_cons, he, any_of kd y k he kvs]
theorem keys_same {α : Type} [DecidableEq α] (kd : α → D) (k : α) (v : V) (kvs : List (α × V)) : ((kvs.map fun kv => if kv.1 = k then (kv.1, v) else kv).map fun p => kd p.1) = kvs.map fun p => kd p.1 := by
  rw [List.map_map]
  refine List.map_congr_left fun p _ => ?_
  show kd (if p.1 = k then (p.1, v) else p).1 = kd p.1
  split <;> rfl
/-- a dict of the data is a dict of the heap -/
theorem Rel.dct (R : Rel g μ F σ S σc H) {d : D} {v : V} {ks ws : List D} (r : RepV g H F μ d v) (h : dctOf S d = some (ks, ws)) :
    ∃ a vs, v = .ref a ∧ RepVs g H F μ ws vs ∧ ((∃ kvs, Rd H a (.dK kvs) ∧ ks = kvs.map (fun p => keyD p.1) ∧ vs = kvs.map (·.2)) ∨ (∃ kvs, Rd H a (.dT kvs) ∧ ks = kvs.map (fun p => keysD p.1) ∧ vs = kvs.map (·.2))) := by
  rcases r with ⟨n, a, rfl, e, rfl⟩ | r
  · have h : (match gets S n with | some (.dct ks ws) => some (ks, ws) | _ => none) = some (ks, ws) := h
    cases q : gets S n with
    | none => rw [q] at h; cases h
    | some o =>
      rw [q] at h
      cases o with
      | dct ks2 ws2 =>
        cases h
        obtain ⟨b, e3, vs, h1, h2⟩ := R.st n _ (by rw [← gets_eq]; exact q)
        rw [e] at e3
        cases e3
        exact ⟨a, vs, rfl, h1, h2.imp (fun ⟨kvs, z, y⟩ => ⟨kvs, .inl z, y⟩) fun ⟨kvs, z, y⟩ => ⟨kvs, .inl z, y⟩⟩
      | _ => cases h
  · cases d with
    | dct ks2 ws2 =>
      cases h
      obtain ⟨a, vs, rfl, h0, h1, h2⟩ := r
      exact ⟨a, vs, rfl, h1.vs, h2⟩
    | loc n => exact r.elim
    | _ => cases h
theorem keysV : ∀ {ks : List Key} {vs : List V}, RepL g H F (ks.map keyD) vs → vs = ks.map kV
  | [], vs, h => h
  | k :: ks, vs, h => by
    obtain ⟨v, ws, rfl, h1, h2⟩ := h
    rw [List.map_cons, keysV h2]
    congr 1
    cases k <;> exact h1
/-- the key of a dict: what DGet and DPut ask of it -/
theorem key_cases {ks : List D} {y : D} {vy : V} (hf : fits ks y = true) (ry : RepV g H F μ y vy) :
    (∃ k, keyK y = some k ∧ vy = kV k ∧ ∀ kvs : List (List Key × V), ks ≠ kvs.map fun p => keysD p.1) ∨ (∃ k b, keyT y = some k ∧ keyK y = none ∧ vy = .ref b ∧ H b = some (.tup (k.map kV)) ∧ ∀ kvs : List (Key × V), ks ≠ kvs.map fun p => keyD p.1) := by
  unfold fits at hf
  cases ks with
  | nil => exact nomatch hf
  | cons k0 ks =>
    dsimp only at hf
    cases e : keyK y with
    | some k =>
      refine .inl ⟨k, rfl, ?_, fun kvs z => ?_⟩
      · have := keyK_inv e
        subst this
        have r := ry.pure (by cases k <;> rfl)
        cases k <;> exact r
      · cases kvs with
        | nil => exact nomatch z
        | cons p kvs =>
          rw [List.map_cons] at z
          injection z with z1 z2
          subst z1
          have e1 : kindK (keysD p.1) = some true := by
            unfold kindK
            show (match keyT (.tup (p.1.map keyD)) with | some _ => some true | none => none) = _
            rw [show keyT (.tup (p.1.map keyD)) = some p.1 from keyKs_D p.1]
          have e2 : kindK y = some false := by unfold kindK; rw [e]
          rw [e1, e2] at hf
          exact nomatch hf
    | none =>
      cases e2 : keyT y with
      | none =>
        have e3 : kindK y = none := by unfold kindK; rw [e, e2]
        rw [e3] at hf
        cases kindK k0 <;> simp at hf
      | some k =>
        have hy : ∃ ds, y = .tup ds ∧ keyKs ds = some k := by
          cases y <;> first | exact ⟨_, rfl, e2⟩ | exact nomatch e2
        obtain ⟨ds, rfl, hds⟩ := hy
        obtain ⟨b, vs, rfl, ⟨h1, _⟩, h2⟩ := ry.pure rfl
        rw [keyKs_inv hds] at h2
        have hv := keysV h2
        refine .inr ⟨k, b, rfl, rfl, rfl, by rw [← hv]; exact h1, fun kvs z => ?_⟩
        cases kvs with
        | nil => exact nomatch z
        | cons p kvs =>
          rw [List.map_cons] at z
          injection z with z1 z2
          subst z1
          have e1 : kindK (keyD p.1) = some false := by unfold kindK; rw [keyK_D]
          have e3 : kindK (.tup ds) = some true := by unfold kindK; rw [e, e2]
          rw [e1, e3] at hf
          exact nomatch hf
end
/-- d[k] -/
def bDg (S : List SO) (x y : D) : Res := match dctOf S x with
  | some (ks, ws) => if fits ks y then (match getKD ks ws y with
    | some d => .ok d false
    | none => .bad) else .bad
  | none => .bad
/-- k in d -/
def bDin (S : List SO) (y x : D) : Res := match dctOf S x with
  | some (ks, ws) => if fits ks y then .ok (.bl (getKD ks ws y).isSome) false else .bad
  | none => .bad
def bDnin (S : List SO) (y x : D) : Res := match dctOf S x with
  | some (ks, ws) => if fits ks y then .ok (.bl (!(getKD ks ws y).isSome)) false else .bad
  | none => .bad
section
variable {g : GX} {μ : List Addr} {F : FZ} {σ : Sl} {S : List SO} {σc : St} {H : Hp}
theorem Rel.dget (R : Rel g μ F σ S σc H) {x y : D} {vx vy : V} {ks ws : List D} (rx : RepV g H F μ x vx) (ry : RepV g H F μ y vy) (h : dctOf S x = some (ks, ws)) (hf : fits ks y = true) :
    ∃ a o, vx = .ref a ∧ DGet H a vy o ∧ (∀ d, getKD ks ws y = some d → ∃ v, o = some v ∧ RepV g H F μ d v) ∧ (getKD ks ws y = none → o = none) := by
  obtain ⟨a, vs, rfl, h1, h2⟩ := R.dct rx h
  rcases key_cases hf ry with ⟨k, e1, rfl, no⟩ | ⟨k, b, e1, e0, rfl, hb, no⟩
  · rcases h2 with ⟨kvs, q1, q2, rfl⟩ | ⟨kvs, q1, q2, _⟩
    · subst q2
      obtain ⟨z1, z2⟩ := val_of keyD y k (fun j => eqKey_K e1) h1
      exact ⟨a, _, rfl, .inl ⟨kvs, k, q1, rfl, rfl⟩, z1, z2⟩
    · exact absurd q2 (no kvs)
  · rcases h2 with ⟨kvs, q1, q2, _⟩ | ⟨kvs, q1, q2, rfl⟩
    · exact absurd q2 (no kvs)
    · subst q2
      obtain ⟨z1, z2⟩ := val_of keysD y k (fun j => eqKey_T e1) h1
      exact ⟨a, _, rfl, .inr ⟨kvs, k, b, q1, rfl, hb, rfl⟩, z1, z2⟩
end
section
variable {X : Cx} {g : GX} {E : WX} {a b : Expr} {fa fb : CE} {pos : Pos}
theorem q_dg (hu : X.A.units + 1 < cLine) (ha : PE X a (T g E fa)) (hb : PE X b (T g E fb)) (hs : NoSl b := by exact fun _ _ => rfl) : PE X (.Subscript a b pos) (T g E (cBin bDg fa fb)) :=
  (pe_dget hu ha hb hs).hc fun σc H Q h => T.two (R2' := fun x y H2 => ∃ a v, x = .ref a ∧ DGet H2 a y (some v) ∧ Q v H2) h fun μ F σ S H2 x y vx vy R rx ry q => by
    unfold bDg at q
    split at q
    · rename_i ks ws e
      split at q
      · rename_i hf
        obtain ⟨a, o, rfl, h1, h2, _⟩ := R.dget rx ry e hf
        split at q
        · rename_i d ed
          obtain ⟨v, rfl, rv⟩ := h2 d ed
          exact ⟨a, v, rfl, h1, q.here R.dom rv⟩
        · exact q.elim
      · exact q.elim
    · exact q.elim
theorem _root_.L2.PC.hc {op : CmpOp} {t t' : TE} (h : PC X op a b t) (w : ∀ σ H Q, t' σ H Q → t σ H Q) : PC X op a b t' := ⟨fun pins s σ H Q I q => h.run pins s σ H Q I (w _ _ _ q)⟩
theorem pc_in (hu : X.A.units + 1 < cLine) (ha : PE X a (T g E fa)) (hb : PE X b (T g E fb)) : PC X .In a b (T g E (cBin bDin fa fb)) :=
  (pc_din hu ha hb).hc fun σc H Q h => T.two (R2' := fun y x H2 => ∃ a o, x = .ref a ∧ DGet H2 a y o ∧ Q (.bl o.isSome) H2) h fun μ F σ S H2 y x vy vx R ry rx q => by
    unfold bDin at q
    split at q
    · rename_i ks ws e
      split at q
      · rename_i hf
        obtain ⟨a, o, rfl, h1, h2, h3⟩ := R.dget rx ry e hf
        refine ⟨a, o, rfl, h1, ?_⟩
        have : o.isSome = (getKD ks ws y).isSome := by
          cases ek : getKD ks ws y with
          | none => rw [h3 ek]; rfl
          | some d => obtain ⟨v, rfl, _⟩ := h2 d ek; rfl
        rw [this]
        exact q.here R.dom (.inr rfl)
      · exact q.elim
    · exact q.elim
theorem pc_nin (hu : X.A.units + 1 < cLine) (ha : PE X a (T g E fa)) (hb : PE X b (T g E fb)) : PC X .NotIn a b (T g E (cBin bDnin fa fb)) :=
  (pc_dnotin hu ha hb).hc fun σc H Q h => T.two (R2' := fun y x H2 => ∃ a o, x = .ref a ∧ DGet H2 a y o ∧ Q (.bl (!o.isSome)) H2) h fun μ F σ S H2 y x vy vx R ry rx q => by
    unfold bDnin at q
    split at q
    · rename_i ks ws e
      split at q
      · rename_i hf
        obtain ⟨a, o, rfl, h1, h2, h3⟩ := R.dget rx ry e hf
        refine ⟨a, o, rfl, h1, ?_⟩
        have : o.isSome = (getKD ks ws y).isSome := by
          cases ek : getKD ks ws y with
          | none => rw [h3 ek]; rfl
          | some d => obtain ⟨v, rfl, _⟩ := h2 d ek; rfl
        rw [this]
        exact q.here R.dom (.inr rfl)
      · exact q.elim
    · exact q.elim
theorem q_in (h : PC X .In a b (T g E (cBin bDin fa fb))) (h1 : behindInMarks .In b = false := by rfl) : PE X (.Compare a [.In] [b] pos) (T g E (cBin bDin fa fb)) := pe_cmp h h1
theorem q_nin (h : PC X .NotIn a b (T g E (cBin bDnin fa fb))) (h1 : behindInMarks .NotIn b = false := by rfl) : PE X (.Compare a [.NotIn] [b] pos) (T g E (cBin bDnin fa fb)) := pe_cmp h h1
theorem q_inT (h : PC X .In a b (T g E (cBin bDin fa fb))) (h1 : behindInMarks .In b = false := by rfl) : PT X (.Compare a [.In] [b] pos) (TB g E (cBin bDin fa fb)) := pt_cmp h h1
theorem q_ninT (h : PC X .NotIn a b (T g E (cBin bDnin fa fb))) (h1 : behindInMarks .NotIn b = false := by rfl) : PT X (.Compare a [.NotIn] [b] pos) (TB g E (cBin bDnin fa fb)) := pt_cmp h h1
end
/-! ### d[k] = e -/
section
variable {g : GX} {μ : List Addr} {F : FZ} {σ : Sl} {S : List SO} {σc : St} {H : Hp} {a : Addr} {u o : HO}
theorem RepV.writeD {d : D} {v : V} (nt : ∀ xs, H a ≠ some (.tup xs)) (nz : ∀ ob u, H a ≠ some (.frz ob u)) (nf : ¬ F a) (r : RepV g H F μ d v) : RepV g (upd H a o) F μ d v := r.imp (fun h => h) (RepP.writeG nt nz nf _ _)
theorem RepVs.writeD {ds : List D} {vs : List V} (nt : ∀ xs, H a ≠ some (.tup xs)) (nz : ∀ ob u, H a ≠ some (.frz ob u)) (nf : ¬ F a) (r : RepVs g H F μ ds vs) : RepVs g (upd H a o) F μ ds vs := Paired.mapP r fun _ _ => RepV.writeD nt nz nf
/-- the dict at n becomes another one -/
theorem Rel.putD (R : Rel g μ F σ S σc H) {n : Nat} {ks0 ws0 ks ws : List D} (hS : gets S n = some (.dct ks0 ws0)) (hm : μ[n]? = some a) (hn : H a = some u) (nt : ∀ xs, u ≠ .tup xs) (nz : ∀ ob x, u ≠ .frz ob x) (nx : ∀ fs, u ≠ .xd fs)
    (ro : ∃ vs, RepVs g H F μ ws vs ∧ ((∃ kvs, o = .dK kvs ∧ ks = kvs.map (fun p => keyD p.1) ∧ vs = kvs.map (·.2)) ∨ (∃ kvs, o = .dT kvs ∧ ks = kvs.map (fun p => keysD p.1) ∧ vs = kvs.map (·.2)))) :
    Rel g μ F σ (S.set n (.dct ks ws)) σc (upd H a o) ∧ Later μ F H μ F (upd H a o) := by
  rw [gets_eq] at hS
  have am : a ∈ μ := List.mem_of_getElem? hm
  have nf : ¬ F a := R.ap a am
  have nt' : ∀ xs, H a ≠ some (.tup xs) := fun xs z => by rw [hn] at z; cases z; exact nt xs rfl
  have nz' : ∀ ob x, H a ≠ some (.frz ob x) := fun ob x z => by rw [hn] at z; cases z; exact nz ob x rfl
  refine ⟨⟨fun i d h => let ⟨v, h1, h2⟩ := R.env i d h; ⟨v, h1, h2.writeD nt' nz' nf⟩, R.len, fun k o2 h => ?_, by rw [List.length_set]; exact R.ml, R.nd, R.ap, fun b hb => ?_, fun p hp => ?_⟩, ⟨⟨[], by simp, fun x h => (nomatch h)⟩, fun _ h => h, fun b o hb e => ?_, fun b h => ?_, fun _ h => .inl h⟩⟩
  · by_cases hk : n = k
    · subst hk
      rw [List.getElem?_set_self (List.getElem?_eq_some_iff.mp hS).1] at h
      cases h
      obtain ⟨vs, h1, h2⟩ := ro
      refine ⟨a, hm, vs, h1.writeD nt' nz' nf, h2.imp (fun ⟨kvs, e, z⟩ => ⟨kvs, by rw [upd_same, e], z⟩) fun ⟨kvs, e, z⟩ => ⟨kvs, by rw [upd_same, e], z⟩⟩
    · rw [List.getElem?_set_ne hk] at h
      obtain ⟨b, h1, h2⟩ := R.st k o2 h
      have nb : b ≠ a := fun z => hk (nodup_at R.nd hm (by rw [← z]; exact h1))
      refine ⟨b, h1, ?_⟩
      cases o2 with
      | lst zs => obtain ⟨vs, q1, q2, q3⟩ := h2; exact ⟨vs, (upd_ne nb).trans q1, q2, q3.writeD nt' nz' nf⟩
      | dct ks zs =>
        obtain ⟨vs, q1, q2⟩ := h2
        exact ⟨vs, q1.writeD nt' nz' nf, q2.imp (fun ⟨kvs, z, y⟩ => ⟨kvs, (upd_ne nb).trans z, y⟩) fun ⟨kvs, z, y⟩ => ⟨kvs, (upd_ne nb).trans z, y⟩⟩
      | ins c zs => obtain ⟨dx, fs, vs, q1, q2, q3, q4⟩ := h2; exact ⟨dx, fs, vs, (upd_ne nb).trans q1, q2, q3, q4.writeD nt' nz' nf⟩
  · obtain ⟨o, e⟩ := R.dom b hb
    have nb : b ≠ a := fun z => nf (z ▸ hb)
    exact ⟨o, (upd_ne nb).trans e⟩
  · obtain ⟨h1, x, vs, h2, h3, fs, h4, h5⟩ := R.xc p hp
    have nb : x ≠ a := fun z => by rw [z, hn] at h4; cases h4; exact nx fs rfl
    exact ⟨h1, x, vs, h2, h3.writeD nt' nz' nf, fs, (upd_ne nb).trans h4, h5⟩
  · have nb : b ≠ a := fun z => hb (by rw [z]; exact am)
    exact (upd_ne nb).trans e
  · by_cases z : b = a
    · rw [z, upd_same] at h; cases h
    · rw [upd_ne z] at h; exact h
end
def kDput (y : D) (σ : Sl) (S : List SO) (x i : D) : RS := match x with
  | .loc n => match gets S n with
    | some (.dct ks ws) => if fits ks i && decide (ks.length < lim) then .nx σ (S.set n (putKD ks ws i y)) else .bad
    | _ => .bad
  | _ => .bad
def sDput (fe fo fi : CE) : SC := sVal fe fun σ S y _ => sTwo fo fi (kDput y) σ S
section
variable {g : GX} {μ : List Addr} {F : FZ} {σ : Sl} {S : List SO} {σc : St} {H : Hp} {W : WX} {Dn : Ends}
theorem kDput_ok {x i y : D} {vx vi vy : V} {Q : Hp → Prop} (R : Rel g μ F σ S σc H) (rx : RepV g H F μ x vx) (ri : RepV g H F μ i vi) (ry : RepV g H F μ y vy) (q : OkS g W μ F H (kDput y σ S x i) Dn)
    (w : ∀ (S' : List SO) (H' : Hp), Rel g μ F σ S' σc H' → OkS g W μ F H' (.nx σ S') Dn → Q H') : ∃ a H', vx = .ref a ∧ DPut H a vi vy H' ∧ Q H' := by
  unfold kDput at q
  split at q
  · rename_i n
    split at q
    · rename_i ks ws e
      split at q
      · rename_i hf
        rw [Bool.and_eq_true, decide_eq_true_eq] at hf
        rcases rx with ⟨m, a, e2, hm, rfl⟩ | rx
        · cases e2
          obtain ⟨b, hb, vs, h1, h2⟩ := R.st n _ (by rw [← gets_eq]; exact e)
          rw [hm] at hb
          cases hb
          refine ⟨a, ?_⟩
          rcases key_cases hf.1 ri with ⟨k, e1, rfl, no⟩ | ⟨k, b, e1, e0, rfl, hb, no⟩
          · rcases h2 with ⟨kvs, q1, q2, rfl⟩ | ⟨kvs, q1, q2, _⟩
            · have hl : kvs.length < sizeLine := by have := hf.2; rw [q2, List.length_map] at this; rw [lim_eq]; exact this
              have hh := R.putD (o := .dK (putK kvs k vy)) (ks := (match putKD ks ws i y with | .dct a _ => a | _ => [])) (ws := (match putKD ks ws i y with | .dct _ b => b | _ => [])) e hm q1 (by intro _ z; cases z) (by intro _ _ z; cases z) (by intro _ z; cases z) (by
                subst q2
                unfold putKD putK
                rw [any_of keyD i k (fun j => eqKey_K e1)]
                by_cases ha : (kvs.any fun kv => decide (kv.1 = k)) = true
                · rw [if_pos ha, if_pos ha]
                  exact ⟨_, put_of keyD i k (fun j => eqKey_K e1) ry h1, .inl ⟨_, rfl, (keys_same keyD k vy kvs).symm, rfl⟩⟩
                · rw [if_neg ha, if_neg ha]
                  refine ⟨kvs.map (·.2) ++ [vy], h1.app (.cons ry .nil), .inl ⟨_, rfl, ?_, by rw [List.map_append]; rfl⟩⟩
                  rw [List.map_append]
                  show kvs.map (fun p => keyD p.1) ++ [i] = kvs.map (fun p => keyD p.1) ++ [keyD k]
                  rw [← keyK_inv e1])
              have es : putKD ks ws i y = .dct (match putKD ks ws i y with | .dct a _ => a | _ => []) (match putKD ks ws i y with | .dct _ b => b | _ => []) := by unfold putKD; split <;> rfl
              rw [← es] at hh
              exact ⟨_, rfl, .inl ⟨kvs, k, q1, rfl, hl, rfl⟩, w _ _ hh.1 (q.from hh.2)⟩
            · exact absurd q2 (no kvs)
          · rcases h2 with ⟨kvs, q1, q2, _⟩ | ⟨kvs, q1, q2, rfl⟩
            · exact absurd q2 (no kvs)
            · have hl : kvs.length < sizeLine := by have := hf.2; rw [q2, List.length_map] at this; rw [lim_eq]; exact this
              have hh := R.putD (o := .dT (putK kvs k vy)) (ks := (match putKD ks ws i y with | .dct a _ => a | _ => [])) (ws := (match putKD ks ws i y with | .dct _ b => b | _ => [])) e hm q1 (by intro _ z; cases z) (by intro _ _ z; cases z) (by intro _ z; cases z) (by
                subst q2
                unfold putKD putK
                rw [any_of keysD i k (fun j => eqKey_T e1)]
                by_cases ha : (kvs.any fun kv => decide (kv.1 = k)) = true
                · rw [if_pos ha, if_pos ha]
                  exact ⟨_, put_of keysD i k (fun j => eqKey_T e1) ry h1, .inr ⟨_, rfl, (keys_same keysD k vy kvs).symm, rfl⟩⟩
                · rw [if_neg ha, if_neg ha]
                  refine ⟨kvs.map (·.2) ++ [vy], h1.app (.cons ry .nil), .inr ⟨_, rfl, ?_, by rw [List.map_append]; rfl⟩⟩
                  have hy : ∃ ds, i = .tup ds ∧ keyKs ds = some k := by
                    cases i <;> first | exact ⟨_, rfl, e1⟩ | exact nomatch e1
                  obtain ⟨ds, rfl, hds⟩ := hy
                  rw [List.map_append, keyKs_inv hds]
                  rfl)
              have es : putKD ks ws i y = .dct (match putKD ks ws i y with | .dct a _ => a | _ => []) (match putKD ks ws i y with | .dct _ b => b | _ => []) := by unfold putKD; split <;> rfl
              rw [← es] at hh
              exact ⟨_, rfl, .inr ⟨kvs, k, b, q1, rfl, hb, hl, rfl⟩, w _ _ hh.1 (q.from hh.2)⟩
        · exact rx.elim
      · exact q.elim
    · exact q.elim
  · exact q.elim
end
section
variable {X : Cx} {g : GX} {W : WX} {o e i : Expr} {fo fe fi : CE} {pos pos' : Pos}
theorem s_dput (hu : X.A.units + 1 < cLine) (he : PE X e (T g W fe)) (ho : PE X o (T g W fo)) (hi : PE X i (T g W fi)) (hs : swapsWith e (some (.Subscript o i pos')) pos.line X.env = pure false := by rfl) : PS X (.Assign [.Subscript o i pos'] e pos) (TSt g W (sDput fe fo fi)) :=
  (ps_dput hu ho hi he hs).hc fun Dn σc H ⟨μ, F, σ, S, R, q⟩ => by
    have q : OkS g W μ F H (sVal fe (fun σ S y _ => sTwo fo fi (kDput y) σ S) σ S) Dn := q
    refine R.svalF q fun y fy vy H1 F1 s1 x1 R1 ry q1 => ?_
    refine R1.svalF q1 fun x fx vx H2 F2 s2 x2 R2 rx q2 => ?_
    refine R2.svalF q2 fun i fi vi H3 F3 s3 x3 R3 ri q3 => ?_
    exact kDput_ok R3 (rx.mono s3 x3.up) ri ((ry.mono s2 x2.up).mono s3 x3.up) q3 fun S' H' R' q' => q'.next R'
end
section
variable {σ : Sl} {S : List SO} {e e1 e2 : CE} {n : Nat} {ks ws : List D} {y i : D}
@[simp] theorem sDput_e : sDput e e1 e2 σ S = vB (e σ S) σ S fun y _ => vB (e1 σ S) σ S fun x _ => vB (e2 σ S) σ S fun i _ => kDput y σ S x i := by
  unfold sDput sTwo sVal
  cases e σ S with
  | ok d f => first
    | rfl
    | (dsimp only [vB]; cases e1 σ S with
      | ok d f => (try dsimp only) <;> (cases e2 σ S <;> rfl)
      | _ => rfl)
  | _ => rfl
end
end HC

set_option maxRecDepth 100000
namespace HC
/-! ## to run what changes the store by simp -/
def rX (r : ResX) (k : D → Bool → List SO → ResX) : ResX := match r with
  | .ok d fr S => k d fr S
  | .ex c as S => .ex c as S
  | .bad => .bad
def raX (r : ResX) (k : D → List SO → ResXL) : ResXL := match r with
  | .ok d _ S => k d S
  | .ex c as S => .ex c as S
  | .bad => .bad
def llX (r : ResXL) (k : List D → List SO → ResXL) : ResXL := match r with
  | .ok ds S => k ds S
  | .ex c as S => .ex c as S
  | .bad => .bad
def lX (r : ResXL) (k : List D → List SO → ResX) : ResX := match r with
  | .ok ds S => k ds S
  | .ex c as S => .ex c as S
  | .bad => .bad
def lXI (r : ResXL) (k : List D → List SO → ResXI) : ResXI := match r with
  | .ok ds S => k ds S
  | .ex c as S => .ex c as S
  | .bad => .bad
def liftI (r : ResI) (S : List SO) : ResXI := match r with
  | .st xs => .st xs S
  | .dy _ => .bad
  | .ex c as => .ex c as S
  | .bad => .bad
def sX (r : ResX) (σ : Sl) (k : D → Bool → List SO → RS) : RS := match r with
  | .ok d fr S => k d fr S
  | .ex c as S => .ex c as σ S
  | .bad => .bad
def fX (r : ResXI) (A : TgF) (body : SC) (σ : Sl) : RS := match r with
  | .st ds S => forL A body ds σ S
  | .ex c as S => .ex c as σ S
  | .bad => .bad
def btX (d : D) (a b : ResX) : ResX := match d with
  | .bl true => a
  | .bl false => b
  | _ => .bad
def btS (d : D) (a b : RS) : RS := match d with
  | .bl true => a
  | .bl false => b
  | _ => .bad
def truX (o : Option Bool) (S : List SO) : ResX := match o with
  | some b => .ok (.bl b) false S
  | none => .bad
def vlX (r : ResX) : ResXI := match r with
  | .ok (.tup xs) _ S => .st xs S
  | .ok (.lst xs) _ S => .st xs S
  | .ok (.rol xs) _ S => .st xs S
  | .ok _ _ _ => .bad
  | .ex c as S => .ex c as S
  | .bad => .bad
def gTX (o : Option Sl) (S : List SO) : RS := match o with
  | some σ => .nx σ S
  | none => .bad
def augX (k : Nat) (σ : Sl) (S : List SO) (r : Res) : RS := match r with
  | .ok z false => .nx (setD σ k z) S
  | _ => .bad
def finE (n : Nat) (r : RS) : ResX := match r with
  | .rx d fr _ S => finX n d fr S
  | .nx _ S => finX n .non false S
  | .ex c as _ S => .ex c as S
  | _ => .bad
theorem runX_e {np n : Nat} {b : SC} {ds : List D} {S : List SO} : runX np n b ds S = if ds.length = np then finE S.length (b (startD n ds) S) else .bad := by
  unfold runX finE
  split
  · cases b (startD n ds) S <;> rfl
  · rfl
section
variable {d x : D} {fr : Bool} {S S1 : List SO} {c : Nat} {as ds xs : List D} {k : D → Bool → List SO → ResX} {ka : D → List SO → ResXL} {kl : List D → List SO → ResXL} {kx : List D → List SO → ResX} {ki : List D → List SO → ResXI} {ks : D → Bool → List SO → RS} {σ : Sl} {A : TgF} {body : SC} {a b : ResX} {sa sb : RS} {n : Nat}
@[simp] theorem rX_ok : rX (.ok d fr S) k = k d fr S := id rfl
@[simp] theorem rX_ex : rX (.ex c as S) k = .ex c as S := id rfl
@[simp] theorem raX_ok : raX (.ok d fr S) ka = ka d S := id rfl
@[simp] theorem raX_ex : raX (.ex c as S) ka = .ex c as S := id rfl
@[simp] theorem llX_ok : llX (.ok ds S) kl = kl ds S := id rfl
@[simp] theorem llX_ex : llX (.ex c as S) kl = .ex c as S := id rfl
@[simp] theorem lX_ok : lX (.ok ds S) kx = kx ds S := id rfl
@[simp] theorem lX_ex : lX (.ex c as S) kx = .ex c as S := id rfl
@[simp] theorem lXI_ok : lXI (.ok ds S) ki = ki ds S := id rfl
@[simp] theorem liftI_st : liftI (.st ds) S = .st ds S := id rfl
@[simp] theorem liftR_ok : liftR (.ok d fr) S = .ok d fr S := id rfl
@[simp] theorem liftR_ex : liftR (.ex c as) S = .ex c as S := id rfl
@[simp] theorem sX_ok : sX (.ok d fr S) σ ks = ks d fr S := id rfl
@[simp] theorem sX_ex : sX (.ex c as S) σ ks = .ex c as σ S := id rfl
@[simp] theorem fX_st : fX (.st ds S) A body σ = forL A body ds σ S := id rfl
@[simp] theorem btX_t : btX (.bl true) a b = a := id rfl
@[simp] theorem btX_f : btX (.bl false) a b = b := id rfl
@[simp] theorem btS_t : btS (.bl true) sa sb = sa := id rfl
@[simp] theorem btS_f : btS (.bl false) sa sb = sb := id rfl
@[simp] theorem btX_d {p : Prop} [Decidable p] : btX (.bl (decide p)) a b = if p then a else b := by by_cases h : p <;> simp [h]
@[simp] theorem btS_d {p : Prop} [Decidable p] : btS (.bl (decide p)) sa sb = if p then sa else sb := by by_cases h : p <;> simp [h]
@[simp] theorem truX_s {q : Bool} : truX (some q) S = .ok (.bl q) false S := id rfl
@[simp] theorem vlX_t : vlX (.ok (.tup xs) fr S) = .st xs S := id rfl
@[simp] theorem vlX_l : vlX (.ok (.lst xs) fr S) = .st xs S := id rfl
@[simp] theorem vlX_r : vlX (.ok (.rol xs) fr S) = .st xs S := id rfl
@[simp] theorem gTX_s : gTX (some σ) S = .nx σ S := id rfl
@[simp] theorem augX_s : augX n σ S (.ok d false) = .nx (σ.set n (some d)) S := id rfl
@[simp] theorem finE_rx : finE n (.rx d fr σ S) = finX n d fr S := id rfl
@[simp] theorem finE_nx : finE n (.nx σ S) = finX n .non false S := id rfl
@[simp] theorem finE_ex : finE n (.ex c as σ S) = .ex c as S := id rfl
@[simp] theorem sB_rx {r : SC} : sB (.rx d fr σ S) r = .rx d fr σ S := id rfl
@[simp] theorem oS_rx {r : SC} : oS (.rx d fr σ S) r = .rx d fr σ S := id rfl
@[simp] theorem tryB_rx {kt : Nat → List D → SC} : tryB (.rx d fr σ S) kt = .rx d fr σ S := id rfl
theorem finX_le (h : S.length ≤ n) : finX n d fr S = .ok d fr S := by unfold finX; rw [if_pos h]
theorem finX_cut (h : n < S.length) (hr : (S.take n).all (refO n) = true) (hp : d.pure = true) : finX n d fr S = .ok d fr (S.take n) := by
  unfold finX
  rw [if_neg (by omega), if_pos hr]
  cases d <;> first | rfl | exact nomatch hp
theorem finX_own {m : Nat} (h : n < S.length) (hr : (S.take n).all (refO n) = true) (hm : ¬ m < n) (hg : gets S m = some (.lst xs)) (hp : pureL xs = true) : finX n (.loc m) fr S = .ok (.lst xs) true (S.take n) := by
  unfold finX
  rw [if_neg (by omega), if_pos hr]
  dsimp only
  rw [if_neg hm, hg]
  dsimp only
  rw [if_pos hp]
end
section
variable {σ : Sl} {S : List SO} {e : CE} {ce : CA} {f a b q : CEx} {fa : CAx} {fi : CIx} {fn : List SO → D → D → Res} {fc : List SO → List D → Res} {fI : List SO → List D → ResI} {m : FnX} {k : Sl → List SO → D → ResX} {i : Nat} {A : TgF} {body r1 r2 : SC}
@[simp] theorem xL_e : xL e σ S = liftR (e σ S) S := id rfl
def liftL (r : ResL) (S : List SO) : ResXL := match r with
  | .ok ds => .ok ds S
  | .ex c as => .ex c as S
  | .bad => .bad
@[simp] theorem liftL_ok {ds : List D} : liftL (.ok ds) S = .ok ds S := id rfl
@[simp] theorem xLs_e : xLs ce σ S = liftL (ce σ S) S := by unfold xLs liftL; cases ce σ S <;> rfl
@[simp] theorem xBin_e : xBin fn a b σ S = rX (a σ S) fun x _ S1 => rX (b σ S1) fun y _ S2 => liftR (fn S2 x y) S2 := by
  unfold xBin
  cases a σ S with
  | ok d fr S1 => show _ = rX (b σ S1) _; dsimp only; cases b σ S1 <;> rfl
  | _ => rfl
@[simp] theorem xNil_e : xNil σ S = .ok [] S := id rfl
@[simp] theorem xCons_e : xCons a fa σ S = raX (a σ S) fun d S1 => llX (fa σ S1) fun ds S2 => .ok (d :: ds) S2 := by
  unfold xCons
  cases a σ S with
  | ok d fr S1 => show _ = llX (fa σ S1) _; dsimp only; cases fa σ S1 <;> rfl
  | _ => rfl
@[simp] theorem xApp_e : xApp fc fa σ S = lX (fa σ S) fun ds S1 => liftR (fc S1 ds) S1 := by unfold xApp; cases fa σ S <;> rfl
@[simp] theorem xCall_e : xCall m fa σ S = lX (fa σ S) m := by unfold xCall; cases fa σ S <;> rfl
@[simp] theorem xApI_e : xApI fI fa σ S = lXI (fa σ S) fun ds S1 => liftI (fI S1 ds) S1 := by unfold xApI; cases fa σ S <;> rfl
@[simp] theorem xVal_e : xVal f σ S = vlX (f σ S) := by
  unfold xVal vlX
  cases f σ S with
  | ok d fr S1 => cases d <;> rfl
  | _ => rfl
@[simp] theorem xTwo_e : xTwo f k σ S = rX (f σ S) fun d _ S1 => k σ S1 d := by unfold xTwo; cases f σ S <;> rfl
@[simp] theorem xTru_e : xTru f σ S = rX (f σ S) fun d _ S1 => truX (truth S1 d) S1 := by unfold xTru; rw [xTwo_e]; rfl
def notX (d : D) (S : List SO) : ResX := match d with
  | .bl b => .ok (.bl (!b)) false S
  | _ => .bad
@[simp] theorem notX_b {b : Bool} : notX (.bl b) S = .ok (.bl (!b)) false S := id rfl
@[simp] theorem xNotB_e : xNotB f σ S = rX (f σ S) fun d _ S1 => notX d S1 := by unfold xNotB; rw [xTwo_e]; rfl
theorem bt_eq {d : D} {x y : ResX} : (match d with | .bl true => x | .bl false => y | _ => .bad) = btX d x y := rfl
@[simp] theorem xIf_e : xIf q a b σ S = rX (q σ S) fun d _ S1 => btX d (a σ S1) (b σ S1) := by unfold xIf; rw [xTwo_e]; rfl
@[simp] theorem xAndB_e : xAndB a b σ S = rX (a σ S) fun d _ S1 => btX d (b σ S1) (.ok (.bl false) false S1) := by unfold xAndB; rw [xTwo_e]; rfl
@[simp] theorem xOrB_e : xOrB a b σ S = rX (a σ S) fun d _ S1 => btX d (.ok (.bl true) false S1) (b σ S1) := by unfold xOrB; rw [xTwo_e]; rfl
theorem sValX_e {kk : Sl → List SO → D → Bool → RS} : sValX f kk σ S = sX (f σ S) σ fun d fr S1 => kk σ S1 d fr := by unfold sValX sX; cases f σ S <;> rfl
@[simp] theorem sAsgX_e : sAsgX i f σ S = sX (f σ S) σ fun d _ S1 => .nx (σ.set i (some d)) S1 := by unfold sAsgX; rw [sValX_e]; rfl
@[simp] theorem sNewX_e : sNewX i f σ S = sX (f σ S) σ fun d fr S1 => newK i σ S1 d fr := by unfold sNewX; rw [sValX_e]; rfl
@[simp] theorem sExprX_e : sExprX f σ S = sX (f σ S) σ fun _ _ S1 => .nx σ S1 := by unfold sExprX; rw [sValX_e]
@[simp] theorem sRetX_e : sRetX f σ S = sX (f σ S) σ fun d fr S1 => .rx d fr σ S1 := by unfold sRetX; rw [sValX_e]
@[simp] theorem sRetE_e : sRetE f σ S = sX (f σ S) σ fun d fr S1 => retD S1 d fr := by unfold sRetE; rw [sValX_e]
@[simp] theorem sIfX_e : sIfX q r1 r2 σ S = sX (q σ S) σ fun d _ S1 => btS d (r1 σ S1) (r2 σ S1) := by unfold sIfX; rw [sValX_e]; rfl
@[simp] theorem sAsgTX_e : sAsgTX A f σ S = sX (f σ S) σ fun d _ S1 => gTX (A d σ) S1 := by unfold sAsgTX; rw [sValX_e]; rfl
@[simp] theorem sAugX_e : sAugX i fn f σ S = vOS (gets σ i) fun x => sX (f σ S) σ fun y _ S1 => augX i σ S1 (fn S1 x y) := by
  unfold sAugX vOS
  cases gets σ i with
  | none => rfl
  | some o => cases o with
    | none => rfl
    | some x => dsimp only; rw [sValX_e]; rfl
@[simp] theorem sForX_e : sForX fi A body σ S = fX (fi σ S) A body σ := by unfold sForX fX; cases fi σ S <;> rfl
end
end HC

set_option maxRecDepth 100000
namespace HC
open PySem PySem.Spec L2
open PyProof.Rows hiding St
/-! ## and, or, not as values; return -/
def xAnd (a b : CEx) : CEx := xTwo a fun σ S d => match truth S d with
  | some true => b σ S
  | some false => .ok d false S
  | none => .bad
def xOr (a b : CEx) : CEx := xTwo a fun σ S d => match truth S d with
  | some true => .ok d false S
  | some false => b σ S
  | none => .bad
def xNot (a : CEx) : CEx := xTwo a fun _ S d => match truth S d with
  | some b => .ok (.bl (!b)) false S
  | none => .bad
def sRetNX : SC := fun σ S => .rx .non false σ S
section
variable {X : Cx} {g : GX} {E W : WX} {a b : Expr} {fa fb : CEx} {pos : Pos}
theorem x_one {op} (ha : PE X a (TX g E fa)) : PE X (.BoolOp op [a] pos) (TX g E fa) := pe_one ha
theorem x_and {rest : List Expr} (ha : PE X a (TX g E fa)) (hb : PE X (.BoolOp .And (b :: rest) pos) (TX g E fb)) (hg : X.K = g.K := by rfl) : PE X (.BoolOp .And (a :: b :: rest) pos) (TX g E (xAnd fa fb)) :=
  (pe_andT ha hb).hc fun σc H Q h => TX.one h fun μ F σ S H1 d v R r q => by
    split at q
    · rename_i e
      exact ⟨true, by rw [hg]; exact R.tru r e, iteT ⟨μ, F, σ, S, R, q⟩⟩
    · rename_i e
      exact ⟨false, by rw [hg]; exact R.tru r e, iteF (q.here R r)⟩
    · exact q.elim
theorem x_or {rest : List Expr} (ha : PE X a (TX g E fa)) (hb : PE X (.BoolOp .Or (b :: rest) pos) (TX g E fb)) (hg : X.K = g.K := by rfl) : PE X (.BoolOp .Or (a :: b :: rest) pos) (TX g E (xOr fa fb)) :=
  (pe_orT ha hb).hc fun σc H Q h => TX.one h fun μ F σ S H1 d v R r q => by
    split at q
    · rename_i e
      exact ⟨true, by rw [hg]; exact R.tru r e, iteT (q.here R r)⟩
    · rename_i e
      exact ⟨false, by rw [hg]; exact R.tru r e, iteF ⟨μ, F, σ, S, R, q⟩⟩
    · exact q.elim
theorem x_not (ha : PE X a (TX g E fa)) (hg : X.K = g.K := by rfl) : PE X (.UnaryOp .Not a pos) (TX g E (xNot fa)) :=
  (pe_notT ha).hc fun σc H Q h => TX.one h fun μ F σ S H1 d v R r q => by
    split at q
    · rename_i b e
      exact ⟨b, by rw [hg]; exact R.tru r e, q.here R (.inr rfl)⟩
    · exact q.elim
theorem xs_retN : PS X (.Return none pos) (TSt g W sRetNX) := ps_retN.hc fun Dn σc H ⟨μ, F, σ, S, R, q⟩ => q .non σc μ F H .refl R (.inl ⟨rfl, .inr rfl⟩)
end
def boX (o : Option Bool) (x y : ResX) : ResX := match o with
  | some true => x
  | some false => y
  | none => .bad
section
variable {σ : Sl} {S : List SO} {a b : CEx} {x y : ResX}
@[simp] theorem boX_t : boX (some true) x y = x := id rfl
@[simp] theorem boX_f : boX (some false) x y = y := id rfl
@[simp] theorem boX_d {p : Prop} [Decidable p] : boX (some (decide p)) x y = if p then x else y := by by_cases h : p <;> simp [h]
@[simp] theorem xAnd_e : xAnd a b σ S = rX (a σ S) fun d _ S1 => boX (truth S1 d) (b σ S1) (.ok d false S1) := by unfold xAnd; rw [xTwo_e]; rfl
@[simp] theorem xOr_e : xOr a b σ S = rX (a σ S) fun d _ S1 => boX (truth S1 d) (.ok d false S1) (b σ S1) := by unfold xOr; rw [xTwo_e]; rfl
@[simp] theorem xNot_e : xNot a σ S = rX (a σ S) fun d _ S1 => match truth S1 d with | some b => .ok (.bl (!b)) false S1 | none => .bad := by unfold xNot; rw [xTwo_e]
@[simp] theorem sRetNX_e : sRetNX σ S = .rx .non false σ S := id rfl
end
end HC

set_option maxRecDepth 100000
namespace HC
open PySem PySem.Spec L2
open Sem (wp)
open PyProof.Rows hiding St
/-! ## max and min of many whole numbers -/
section
variable {prog : Program} {w : World} {A : Around} {E : Value → Shared → Prop} {s : Shared}
theorem args_maxN (a b : Value) (r : List Value) : argsOk "max" ⟨a :: b :: r, []⟩ := by unfold argsOk; kernel_rfl
theorem args_minN (a b : Value) (r : List Value) : argsOk "min" ⟨a :: b :: r, []⟩ := by unfold argsOk; kernel_rfl
theorem call_max_many {a b : Value} {r : List Value} {Q : Value → Shared → Prop} (hr : r.length ≤ 1000)
    (h : wpAny (model prog w) A.in1 (pyIter (.ref s.heap.objs.size)) (fun it s₂ => ∃ I fp wr n P St bt, it = .ref I ∧ Walks prog w A.in1 I fp wr n P St ∧ St 0 s₂.heap ∧ (∀ b ∈ fp, b < s₂.heap.objs.size) ∧ 0 < n ∧ CmpOf prog w A.in1 .Gt P bt ∧
      ∀ v h' tk, P (argBest bt (n - 1)) v → (∀ b o, b ∉ wr → s₂.heap.get? b = some o → h'.get? b = some o) → Q v { s₂ with heap := h', toks := tk }) E
      { s with heap := s.heap.push { cls := .type "tuple", data := .seq (a :: b :: r).toArray } }) :
    wpAny (model prog w) A (call (.builtin "max") (a :: b :: r)) Q E s := by
  have hname : (toString "max" ++ toString ".loop" : String) = "max.loop" := by decide
  refine call_function_tree F.kind_max F.plain_max F.entry_max (args_maxN _ _ _) ?_
  show wpAny _ A.in1 (Builtin.Builtins.bindParams "max" ["key", "default"] 0 ⟨[], []⟩ >>= _) _ _ s
  refine wpAny_bind (wpAny_of_eq (show Builtin.Builtins.bindParams "max" ["key", "default"] 0 ⟨[], []⟩ = pure [none, none] from rfl) ?_)
  show wpAny _ A.in1 (newTuple (a :: b :: r) >>= _) _ _ s
  refine wpAny_bind (wpAny_newObj_type ?_ (hd := by show (a :: b :: r).toArray.size ≤ sizeLine; rw [sizeLine_eq, List.size_toArray]; simp only [List.length_cons]; omega))
  refine wpAny_bind (wpAny_mono h (fun it s₂ h₂ => ?_) fun _ _ e => e)
  obtain ⟨I, fp, wr, n, P, St, bt, rfl, W, hst, hfp, hn, hcmp, hQ⟩ := h₂
  refine wpAny_bind (wpAny_newObj_type ?_)
  have hSf : s₂.heap.objs.size ∉ fp := fun hm => Nat.lt_irrefl _ (hfp _ hm)
  rw [hname]
  refine wpAny_pure ⟨plainId_quiet F.plain_max_loop _, codeAny_max_loop_first W bt hcmp s₂.heap.objs.size hSf hn (W.frame _ _ _ hst fun b _ o e => Heap.get?_push_of_some _ e) (Heap.get?_push_size _ rfl) fun v h' tk hP hk => ?_⟩
  exact hQ v h' tk hP fun b o hbw e => hk b o hbw (Nat.ne_of_lt (Heap.lt_size e)) (Heap.get?_push_of_some _ e)
theorem call_min_many {a b : Value} {r : List Value} {Q : Value → Shared → Prop} (hr : r.length ≤ 1000)
    (h : wpAny (model prog w) A.in1 (pyIter (.ref s.heap.objs.size)) (fun it s₂ => ∃ I fp wr n P St bt, it = .ref I ∧ Walks prog w A.in1 I fp wr n P St ∧ St 0 s₂.heap ∧ (∀ b ∈ fp, b < s₂.heap.objs.size) ∧ 0 < n ∧ CmpOf prog w A.in1 .Lt P bt ∧
      ∀ v h' tk, P (argBest bt (n - 1)) v → (∀ b o, b ∉ wr → s₂.heap.get? b = some o → h'.get? b = some o) → Q v { s₂ with heap := h', toks := tk }) E
      { s with heap := s.heap.push { cls := .type "tuple", data := .seq (a :: b :: r).toArray } }) :
    wpAny (model prog w) A (call (.builtin "min") (a :: b :: r)) Q E s := by
  have hname : (toString "min" ++ toString ".loop" : String) = "min.loop" := by decide
  refine call_function_tree F.kind_min F.plain_min F.entry_min (args_minN _ _ _) ?_
  show wpAny _ A.in1 (Builtin.Builtins.bindParams "min" ["key", "default"] 0 ⟨[], []⟩ >>= _) _ _ s
  refine wpAny_bind (wpAny_of_eq (show Builtin.Builtins.bindParams "min" ["key", "default"] 0 ⟨[], []⟩ = pure [none, none] from rfl) ?_)
  show wpAny _ A.in1 (newTuple (a :: b :: r) >>= _) _ _ s
  refine wpAny_bind (wpAny_newObj_type ?_ (hd := by show (a :: b :: r).toArray.size ≤ sizeLine; rw [sizeLine_eq, List.size_toArray]; simp only [List.length_cons]; omega))
  refine wpAny_bind (wpAny_mono h (fun it s₂ h₂ => ?_) fun _ _ e => e)
  obtain ⟨I, fp, wr, n, P, St, bt, rfl, W, hst, hfp, hn, hcmp, hQ⟩ := h₂
  refine wpAny_bind (wpAny_newObj_type ?_)
  have hSf : s₂.heap.objs.size ∉ fp := fun hm => Nat.lt_irrefl _ (hfp _ hm)
  rw [hname]
  refine wpAny_pure ⟨plainId_quiet F.plain_min_loop _, codeAny_min_loop_first W bt hcmp s₂.heap.objs.size hSf hn (W.frame _ _ _ hst fun b _ o e => Heap.get?_push_of_some _ e) (Heap.get?_push_size _ rfl) fun v h' tk hP hk => ?_⟩
  exact hQ v h' tk hP fun b o hbw e => hk b o hbw (Nat.ne_of_lt (Heap.lt_size e)) (Heap.get?_push_of_some _ e)
theorem intItems_rows {a b : Value} {r : List Value} {xs : Array (Int × Tok)} (e : (a :: b :: r).toArray = intItems xs) : 0 < xs.size := by
  have := congrArg Array.size e
  simp [intItems] at this
  omega
theorem max_many_ints {a b : Value} {r : List Value} {xs : Array (Int × Tok)} {Q : Value → Shared → Prop} (hr : r.length ≤ 1000) (hh : A.handled = none) (e : (a :: b :: r).toArray = intItems xs)
    (h : ∀ h' tk t, (∀ d o, s.heap.get? d = some o → h'.get? d = some o) → Q (.int (numAt xs (argBest (fun i j => decide (numAt xs i > numAt xs j)) (xs.size - 1))) t) { s with heap := h', toks := tk }) :
    wpAny (model prog w) A (call (.builtin "max") (a :: b :: r)) Q E s := by
  have hn := intItems_rows e
  refine call_max_many hr ?_
  rw [e]
  have hT : (s.heap.push { cls := .type "tuple", data := .seq (intItems xs) }).IsTuple s.heap.objs.size (intItems xs) := ⟨_, Heap.get?_push_size _ rfl, rfl, 0, by rfl⟩
  refine wpAny_pyIter_tuple hT ?_
  have hsz : (s.heap.push { cls := .type "tuple", data := .seq (intItems xs) }).objs.size = s.heap.objs.size + 1 := Heap.size_push ..
  refine ⟨_, [_, s.heap.objs.size], [_], _, _, _, _, rfl, Walks.tuple (A := A.in1) hh _ s.heap.objs.size (by rw [hsz]; exact Nat.ne_of_lt (Nat.lt_succ_self _)) (intItems xs),
    ⟨⟨_, Heap.get?_push_size _ rfl, rfl, rfl⟩, hT.push _⟩, fun d hd => ?_, by simpa [intItems] using hn, CmpOf.ints_gt (numAt xs) (fun _ _ => intItems_at), fun v h' tk hP hk => ?_⟩
  · show d < ((s.heap.push _).push _).objs.size
    rw [Heap.size_push, hsz]
    rcases List.mem_cons.mp hd with rfl | hd
    · rw [hsz]; exact Nat.lt_succ_self _
    · rcases List.mem_cons.mp hd with rfl | hd
      · exact Nat.lt_succ_of_lt (Nat.lt_succ_self _)
      · cases hd
  · have hold : ∀ d o, s.heap.get? d = some o → h'.get? d = some o := fun d o e => by
      refine hk d o (fun hm => ?_) (Heap.get?_push_of_some _ (Heap.get?_push_of_some _ e))
      rcases List.mem_cons.mp hm with e1 | hm
      · have := Heap.lt_size e; rw [e1, hsz] at this; exact Nat.lt_irrefl _ (Nat.lt_of_succ_lt this)
      · cases hm
    have hz : (intItems xs).size = xs.size := by simp [intItems]
    rw [hz] at hP
    obtain ⟨t, rfl⟩ := intItems_at hP
    exact h h' tk t hold
theorem min_many_ints {a b : Value} {r : List Value} {xs : Array (Int × Tok)} {Q : Value → Shared → Prop} (hr : r.length ≤ 1000) (hh : A.handled = none) (e : (a :: b :: r).toArray = intItems xs)
    (h : ∀ h' tk t, (∀ d o, s.heap.get? d = some o → h'.get? d = some o) → Q (.int (numAt xs (argBest (fun i j => decide (numAt xs i < numAt xs j)) (xs.size - 1))) t) { s with heap := h', toks := tk }) :
    wpAny (model prog w) A (call (.builtin "min") (a :: b :: r)) Q E s := by
  have hn := intItems_rows e
  refine call_min_many hr ?_
  rw [e]
  have hT : (s.heap.push { cls := .type "tuple", data := .seq (intItems xs) }).IsTuple s.heap.objs.size (intItems xs) := ⟨_, Heap.get?_push_size _ rfl, rfl, 0, by rfl⟩
  refine wpAny_pyIter_tuple hT ?_
  have hsz : (s.heap.push { cls := .type "tuple", data := .seq (intItems xs) }).objs.size = s.heap.objs.size + 1 := Heap.size_push ..
  refine ⟨_, [_, s.heap.objs.size], [_], _, _, _, _, rfl, Walks.tuple (A := A.in1) hh _ s.heap.objs.size (by rw [hsz]; exact Nat.ne_of_lt (Nat.lt_succ_self _)) (intItems xs),
    ⟨⟨_, Heap.get?_push_size _ rfl, rfl, rfl⟩, hT.push _⟩, fun d hd => ?_, by simpa [intItems] using hn, CmpOf.ints_lt (numAt xs) (fun _ _ => intItems_at), fun v h' tk hP hk => ?_⟩
  · show d < ((s.heap.push _).push _).objs.size
    rw [Heap.size_push, hsz]
    rcases List.mem_cons.mp hd with rfl | hd
    · rw [hsz]; exact Nat.lt_succ_self _
    · rcases List.mem_cons.mp hd with rfl | hd
      · exact Nat.lt_succ_of_lt (Nat.lt_succ_self _)
      · cases hd
  · have hold : ∀ d o, s.heap.get? d = some o → h'.get? d = some o := fun d o e => by
      refine hk d o (fun hm => ?_) (Heap.get?_push_of_some _ (Heap.get?_push_of_some _ e))
      rcases List.mem_cons.mp hm with e1 | hm
      · have := Heap.lt_size e; rw [e1, hsz] at this; exact Nat.lt_irrefl _ (Nat.lt_of_succ_lt this)
      · cases hm
    have hz : (intItems xs).size = xs.size := by simp [intItems]
    rw [hz] at hP
    obtain ⟨t, rfl⟩ := intItems_at hP
    exact h h' tk t hold
end
section
variable {X : Cx}
def rMaxN : List V → Hp → VK → Prop := fun vs H Q => ∃ i j ns, vs = (i :: j :: ns : List Int).map V.int ∧ ns.length ≤ 1000 ∧ Q (.int (maxI i (j :: ns))) H
def rMinN : List V → Hp → VK → Prop := fun vs H Q => ∃ i j ns, vs = (i :: j :: ns : List Int).map V.int ∧ ns.length ≤ 1000 ∧ Q (.int (minI i (j :: ns))) H
theorem vals_ints : ∀ {ns : List Int} {us : List Value}, Vals (ns.map V.int) us → ∃ xs : Array (Int × Tok), us = (intItems xs).toList ∧ xs.toList.map (·.1) = ns := by
  intro ns
  induction ns with
  | nil => intro us r; cases r; exact ⟨#[], by simp [intItems], rfl⟩
  | cons i ns ih =>
    intro us r
    cases r with
    | cons r1 r2 =>
      obtain ⟨t, rfl⟩ := r1
      obtain ⟨xs, rfl, h⟩ := ih r2
      refine ⟨⟨(i, t) :: xs.toList⟩, ?_, ?_⟩
      · simp [intItems]
      · simp [h]
theorem maxI_uniq {i : Int} {r : List Int} {m : Int} (hm : m ∈ i :: r) (hle : ∀ y, y ∈ i :: r → y ≤ m) : m = maxI i r := by
  obtain ⟨k1, k2, k3⟩ := maxI_spec r i
  have h1 : maxI i r ≤ m := by
    rcases k1 with e | e
    · rw [e]; exact hle _ (List.mem_cons_self ..)
    · exact hle _ (List.mem_cons_of_mem _ e)
  have h2 : m ≤ maxI i r := by
    rcases List.mem_cons.mp hm with e | e
    · rw [e]; exact k2
    · exact k3 _ e
  omega
theorem minI_uniq {i : Int} {r : List Int} {m : Int} (hm : m ∈ i :: r) (hle : ∀ y, y ∈ i :: r → m ≤ y) : m = minI i r := by
  obtain ⟨k1, k2, k3⟩ := minI_spec r i
  have h1 : m ≤ minI i r := by
    rcases k1 with e | e
    · rw [e]; exact hle _ (List.mem_cons_self ..)
    · exact hle _ (List.mem_cons_of_mem _ e)
  have h2 : minI i r ≤ m := by
    rcases List.mem_cons.mp hm with e | e
    · rw [e]; exact k2
    · exact k3 _ e
  omega
theorem cr_maxN (hc : X.calm = true) : CallR X (.builtin "max") rMaxN := by
  intro pins s σ H vs us Q I r h
  obtain ⟨i, j, ns, rfl, hl0, q⟩ := h
  obtain ⟨xs, e, hn⟩ := vals_ints r
  cases r with
  | cons r1 r2 =>
    cases r2 with
    | cons r2 r3 =>
      have hl9 := hl0
      rw [← show _ = ns.length from (List.length_map (f := V.int) ..).trans rfl, r3.length] at hl9
      refine max_many_ints hl9 (I.ok.hd hc) (by rw [e]) fun h' tk t k => ⟨.int _, H, I.kept k, ⟨t, rfl⟩, ?_⟩
      obtain ⟨h1, h2⟩ := argBest_gt (numAt xs) (xs.size - 1)
      have hl : xs.size = ns.length + 2 := by have := congrArg List.length hn; simpa using this
      rw [maxI_uniq (i := i) (r := j :: ns) (m := numAt xs _) (by
        rw [← hn, numAt_eq]; exact PySem.getD_mem (by rw [List.length_map, Array.length_toList]; omega)) (fun y hy => by
        rw [← hn] at hy
        obtain ⟨k, hk, rfl⟩ := mem_getD hy
        rw [List.length_map, Array.length_toList] at hk
        rw [← numAt_eq]; exact h2 k (by omega))]
      exact q
theorem cr_minN (hc : X.calm = true) : CallR X (.builtin "min") rMinN := by
  intro pins s σ H vs us Q I r h
  obtain ⟨i, j, ns, rfl, hl0, q⟩ := h
  obtain ⟨xs, e, hn⟩ := vals_ints r
  cases r with
  | cons r1 r2 =>
    cases r2 with
    | cons r2 r3 =>
      have hl9 := hl0
      rw [← show _ = ns.length from (List.length_map (f := V.int) ..).trans rfl, r3.length] at hl9
      refine min_many_ints hl9 (I.ok.hd hc) (by rw [e]) fun h' tk t k => ⟨.int _, H, I.kept k, ⟨t, rfl⟩, ?_⟩
      obtain ⟨h1, h2⟩ := argBest_lt (numAt xs) (xs.size - 1)
      have hl : xs.size = ns.length + 2 := by have := congrArg List.length hn; simpa using this
      rw [minI_uniq (i := i) (r := j :: ns) (m := numAt xs _) (by
        rw [← hn, numAt_eq]; exact PySem.getD_mem (by rw [List.length_map, Array.length_toList]; omega)) (fun y hy => by
        rw [← hn] at hy
        obtain ⟨k, hk, rfl⟩ := mem_getD hy
        rw [List.length_map, Array.length_toList] at hk
        rw [← numAt_eq]; exact h2 k (by omega))]
      exact q
end
def fMaxN (_ : List SO) (ds : List D) : Res := match intsOf ds with
  | some (i :: j :: ns) => if ns.length ≤ 1000 then .ok (.int (maxI i (j :: ns))) false else .bad
  | _ => .bad
def fMinN (_ : List SO) (ds : List D) : Res := match intsOf ds with
  | some (i :: j :: ns) => if ns.length ≤ 1000 then .ok (.int (minI i (j :: ns))) false else .bad
  | _ => .bad
theorem lk_maxN {g : GX} : LkC g rMaxN fMaxN := by
  intro E μ F σ S σc H ds vs Q R r q
  unfold fMaxN at q
  split at q
  · rename_i i j ns en
    split at q
    · rename_i hl
      exact ⟨i, j, ns, r.ints en, hl, q.here R.dom (.inr rfl)⟩
    · exact q.elim
  · exact q.elim
theorem lk_minN {g : GX} : LkC g rMinN fMinN := by
  intro E μ F σ S σc H ds vs Q R r q
  unfold fMinN at q
  split at q
  · rename_i i j ns en
    split at q
    · rename_i hl
      exact ⟨i, j, ns, r.ints en, hl, q.here R.dom (.inr rfl)⟩
    · exact q.elim
  · exact q.elim
@[simp] theorem fMaxN_3 {i j k : Int} {S : List SO} : fMaxN S [.int i, .int j, .int k] = .ok (.int (maxI i [j, k])) false := id rfl
@[simp] theorem fMinN_3 {i j k : Int} {S : List SO} : fMinN S [.int i, .int j, .int k] = .ok (.int (minI i [j, k])) false := id rfl
@[simp] theorem fMaxN_6 {i j k a b c : Int} {S : List SO} : fMaxN S [.int i, .int j, .int k, .int a, .int b, .int c] = .ok (.int (maxI i [j, k, a, b, c])) false := id rfl
theorem maxI_e {i j : Int} {r : List Int} : maxI i (j :: r) = maxI (max i j) r := by
  show maxI (if j > i then j else i) r = _
  congr 1; split <;> omega
theorem minI_e {i j : Int} {r : List Int} : minI i (j :: r) = minI (min i j) r := by
  show minI (if j < i then j else i) r = _
  congr 1; split <;> omega
theorem maxI_n {i : Int} : maxI i [] = i := id rfl
theorem minI_n {i : Int} : minI i [] = i := id rfl
/-! ## where nothing is told -/
def xBad : CEx := fun _ _ => .bad
end HC
namespace HC
theorem unit1 {a c : Nat} (h : a + 64 < c) : a + 1 < c := by omega
end HC

set_option maxRecDepth 100000
namespace HC
open PySem PySem.Spec L2
open PyProof.Rows hiding St
/-! ## {k: v} whose key is a tuple -/
section
variable {X : Cx} {pos : Pos} {k v : Expr} {tk tv : TE}
def tDisp1T (tk tv : TE) : TE := fun σ H Q => ∀ p, H p = none → tk σ (upd H p (.dT [])) fun x H1 => tv σ H1 fun y H2 => H2 p = some (.dT []) ∧ ∃ (b : Addr) (ks : List Key), x = .ref b ∧ H2 b = some (.tup (ks.map kV)) ∧ Q (.ref p) (upd H2 p (.dT [(ks, y)]))
theorem pe_disp1T (hu : X.A.units + 1 < cLine) (hk : PE X k tk) (hv : PE X v tv) : PE X (.Dict [some k] [v] pos) (tDisp1T tk tv) := by
  refine ⟨fun pins s σ H Q I q => ?_⟩
  have hn := I.hok.fresh (Nat.le_refl s.heap.objs.size)
  have I1 := I.laid (a := s.heap.objs.size) (o := .dT []) (h' := s.heap.push { cls := .type "dict", data := .dict #[] }) (t' := s.toks) (fun _ _ q => Heap.get?_push_of_some _ q) (Nat.le_refl _) (dt_empty s.heap I.big)
  have hp := pps_cons (pos := pos) hk hv pps_nil
  have hz : s.heap.objs.size = s.heap.objs.size := rfl
  rw [arm_eval_Dict, zip_pairTrees [some k] [v] X.env pos rfl rfl, dictDisplay_pairs (pairTrees [some k] [v] X.env pos) (by intro z; cases z) (by show 1 < 17; decide)]
  refine wpAny_bind (wpAny_standAt (wpAny_bind (wpAny_subDictH (knd := tupleKind (mixKind X.prog X.w)) (show X.A.units < cLine by omega) (by show 1 ≤ 15; decide) ?_)))
  refine thn (hp.run pins _ σ _ (fun ps H2 => match ps with
    | [(x, y)] => H2 s.heap.objs.size = some (.dT []) ∧ ∃ (b : Addr) (ks : List Key), x = .ref b ∧ H2 b = some (.tup (ks.map kV)) ∧ Q (.ref s.heap.objs.size) (upd H2 s.heap.objs.size (.dT [(ks, y)]))
    | _ => False) I1 (q _ hn)) fun ws s2 ⟨ps, H2, I2, rel, q2⟩ => ?_
  match ps, rel, q2 with
  | [(x, y)], rel, q2 =>
    obtain ⟨e, b, ks, ex, eb, q2⟩ := q2
    cases rel with
    | @cons _ w1 _ _ r1 r2 =>
      cases r2
      obtain ⟨u, r⟩ := w1
      obtain ⟨r1, r3⟩ := r1
      subst ex
      cases (show u = Value.ref b from r1)
      obtain ⟨z, hd, xs0, rel0, dd⟩ := dt_of I2.hok e
      cases rel0
      refine ⟨[(ks, b, r)], ⟨rfl, rfl, key_of I2.hok eb, trivial⟩, dd, fun h' tk dd' hs => wpAny_pure ⟨.ref s.heap.objs.size, _, ?_, rfl, q2⟩⟩
      obtain ⟨o, es, ep, ho, h2, h3, h4, _, h5⟩ := dd'
      refine d_write I2 (by rw [e]; exact True.intro) hs ⟨o, ho⟩ ⟨by show 1 ≤ sizeLine; decide, hd, [(ks, b, r)], .cons ⟨rfl, ?_, r3⟩ .nil, o, es, ep, ho, h2, h3, h4, h5⟩
      rw [upd_ne (ne_of eb e (fun z => nomatch z))]
      exact eb
  | [], _, q2 => exact q2.elim
  | _ :: _ :: _, _, q2 => exact q2.elim
end
/-- {k: e}, k a tuple of ints and texts -/
def cDctT (fk fv : CE) : CE := fun σ S => match cCons fk (cCons fv cNil) σ S with
  | .ok [.tup ks, v] => match keyKs ks with
    | some _ => if v.pure then .ok (.dct [.tup ks] [v]) true else .bad
    | none => .bad
  | .ok _ => .bad
  | .ex c as => .ex c as
  | .bad => .bad
theorem TL.nil {g : GX} {W : WX} {σc : St} {H : Hp} {Q : List V → Hp → Prop} (h : TL g W cNil σc H Q) : Q [] H := by
  obtain ⟨μ, F, σ, S, R, q⟩ := h
  exact q [] H F (Same.refl H) R.fx .nil
section
variable {X : Cx} {g : GX} {W : WX} {pos : Pos} {k v : Expr} {fk fv : CE}
theorem q_dctT (hu : X.A.units + 1 < cLine) (hk : PE X k (T g W fk)) (hv : PE X v (T g W fv)) : PE X (.Dict [some k] [v] pos) (T g W (cDctT fk fv)) :=
  (pe_disp1T hu hk hv).hc fun σc H Q ⟨μ, F, σ, S, R, q⟩ p hp => by
    have s : Same H (upd H p (.dT [])) := same_new hp
    have fx : FX F H F (upd H p (.dT [])) := ⟨fun _ h => h, fun _ h => .inl h, fun a h => let ⟨o, e⟩ := R.dom a h; ⟨o, s _ _ e⟩⟩
    have nF : ¬ F p := fun h => by obtain ⟨o, e⟩ := R.dom p h; rw [hp] at e; cases e
    have nM : p ∉ μ := fun h => by obtain ⟨o, e⟩ := R.mu_there h; rw [hp] at e; cases e
    have key : TL g W (cCons fk (cCons fv cNil)) σc (upd H p (.dT [])) (fun vs H2 => ∀ x y, vs = [x, y] → H2 p = some (.dT []) ∧ ∃ (b : Addr) (ks : List Key), x = .ref b ∧ H2 b = some (.tup (ks.map kV)) ∧ Q (.ref p) (upd H2 p (.dT [(ks, y)]))) := by
      refine ⟨μ, F, σ, S, R.mono s fx, ?_⟩
      unfold cDctT at q
      cases e : cCons fk (cCons fv cNil) σ S with
      | bad => rw [e] at q; exact q
      | ex c as => rw [e] at q; exact fun cls dx H' F' s' x' rr => q cls dx H' F' (s.trans s') (fx.trans s x') rr
      | ok ds =>
        rw [e] at q
        intro vs H' F' s' x' rr x y ev
        subst ev
        cases rr with
        | @cons dk _ dr _ rk rr =>
          cases rr with
          | @cons dv _ dr2 _ rv rr =>
            cases rr
            cases dk with
            | tup ks =>
              have q : Ok g (wat W σc) H F μ (match keyKs ks with | some _ => if dv.pure then .ok (.dct [.tup ks] [dv]) true else .bad | none => .bad) Q := q
              cases ek : keyKs ks with
              | none => rw [ek] at q; exact q.elim
              | some kk =>
                rw [ek] at q
                have q : Ok g (wat W σc) H F μ (if dv.pure then .ok (.dct [.tup ks] [dv]) true else .bad) Q := q
                have ek2 := keyKs_inv ek
                subst ek2
                split at q
                · rename_i hpure
                  have hpp : H' p = some (.dT []) := s' _ _ upd_same
                  have nF' : ¬ F' p := fun h => (x'.nw p h).elim nF fun z => by rw [upd_same] at z; cases z
                  rcases rk with ⟨_, _, z, _, _⟩ | rk
                  · cases z
                  · obtain ⟨b, us, rfl, ⟨hb, hz⟩, rl⟩ := rk
                    have eu := keysV rl
                    subst eu
                    refine ⟨hpp, b, kk, rfl, hb, ?_⟩
                    have sm : Same H (upd H' p (.dT [(kk, y)])) := fun a o ha => by
                      have na : a ≠ p := fun z => by rw [z, hp] at ha; cases ha
                      rw [upd_ne na]
                      exact s' _ _ (s _ _ ha)
                    refine q _ _ F' sm ⟨fun a h => x'.up a h, fun a h => (x'.nw a h).imp (fun h => h) fun z => same_none s z, fun a h => ?_⟩ (.inr ⟨rfl, p, rfl, hp, nF', nM, [y], ?_, .inr ⟨[(kk, y)], upd_same, rfl, rfl⟩⟩)
                    · obtain ⟨o, e⟩ := x'.dom a h
                      have na : a ≠ p := fun z => nF' (z ▸ h)
                      exact ⟨o, (upd_ne na).trans e⟩
                    · have rv1 : RepVs g H' F' μ [dv] [y] := .cons rv .nil
                      exact RepL.writeG (fun xs z => by rw [hpp] at z; cases z) (fun ob u z => by rw [hpp] at z; cases z) nF' _ _ (rv1.pure (by show (dv.pure && true) = true; rw [hpure]; rfl))
                · exact q.elim
            | _ => exact q.elim
    exact key.cons.imp fun x H1 z => z.cons.imp fun y H2 z2 => z2.nil x y rfl
end
@[simp] theorem cDctT_e {fk fv : CE} {σ : Sl} {S : List SO} : cDctT fk fv σ S = rB (fk σ S) fun x => rB (fv σ S) fun y => (match x with | .tup ks => (match keyKs ks with | some _ => if y.pure then .ok (.dct [.tup ks] [y]) true else .bad | none => .bad) | _ => .bad) := by
  unfold cDctT cCons cNil
  cases fk σ S with
  | ok x fr =>
    dsimp only [rB]
    cases fv σ S with
    | ok y fr => dsimp only [rB]; cases x <;> rfl
    | _ => rfl
  | _ => rfl
end HC

set_option maxRecDepth 100000
namespace PM
/-! stairs as lists of numbers -/
structure Stair (s : List Nat) : Prop where
  dn : s.Pairwise (· ≥ ·)
  pos : ∀ x ∈ s, 0 < x
/-- how many rows are greater than j -/
def cnt (s : List Nat) (j : Nat) : Nat := s.countP fun x => decide (j < x)
def conj (s : List Nat) : List Nat := (List.range (s.headD 0)).map (cnt s)
def add (a b : List Nat) : List Nat := (List.range (max a.length b.length)).map fun i => a.getD i 0 + b.getD i 0
theorem Stair.tail {x : Nat} {s : List Nat} (h : Stair (x :: s)) : Stair s := ⟨(List.pairwise_cons.mp h.dn).2, fun y hy => h.pos y (List.mem_cons_of_mem _ hy)⟩
theorem stair_nil : Stair [] := ⟨.nil, fun _ h => nomatch h⟩
theorem cnt_le (s : List Nat) (j : Nat) : cnt s j ≤ s.length := List.countP_le_length
theorem cnt_cons (x : Nat) (s : List Nat) (j : Nat) : cnt (x :: s) j = cnt s j + if j < x then 1 else 0 := by
  unfold cnt
  rw [List.countP_cons]
  simp
/-- the k-th row is greater than j exactly if more than k rows are -/
theorem cnt_gt : ∀ {s : List Nat}, Stair s → ∀ (i j : Nat), i < cnt s j ↔ j < s.getD i 0
  | [], _, i, j => by simp [cnt]
  | x :: s, h, i, j => by
    have ih := cnt_gt h.tail
    rw [cnt_cons]
    cases i with
    | zero =>
      have h0 : j < x ∨ cnt s j = 0 := by
        by_cases hx : j < x
        · exact .inl hx
        · right
          cases hc : cnt s j with
          | zero => rfl
          | succ n =>
            have h1 : 0 < cnt s j := by omega
            rw [ih 0 j] at h1
            cases s with
            | nil => simp at h1
            | cons y t =>
              have := (List.pairwise_cons.mp h.dn).1 y (List.mem_cons_self ..)
              simp at h1
              omega
      simp only [List.getD_cons_zero]
      split <;> omega
    | succ n =>
      simp only [List.getD_cons_succ]
      rw [← ih n j]
      split
      · omega
      · rename_i hx
        have hz : cnt s j = 0 := by
          cases hc : cnt s j with
          | zero => rfl
          | succ n =>
            have h1 : 0 < cnt s j := by omega
            rw [ih 0 j] at h1
            cases s with
            | nil => simp at h1
            | cons y t =>
              have := (List.pairwise_cons.mp h.dn).1 y (List.mem_cons_self ..)
              simp at h1
              omega
        omega
theorem getD_le {s : List Nat} (h : Stair s) (i : Nat) : s.getD i 0 ≤ s.headD 0 := by
  cases s with
  | nil => simp
  | cons x s =>
    cases i with
    | zero => simp
    | succ n =>
      simp only [List.getD_cons_succ, List.headD_cons]
      rw [List.getD_eq_getElem?_getD]
      cases e : s[n]? with
      | none => simp
      | some y =>
        have := (List.pairwise_cons.mp h.dn).1 y (List.mem_of_getElem? e)
        simpa using this
theorem getD_pos {s : List Nat} (h : Stair s) (i : Nat) : 0 < s.getD i 0 ↔ i < s.length := by
  rw [List.getD_eq_getElem?_getD]
  by_cases hi : i < s.length
  · rw [List.getElem?_eq_getElem hi]
    simp [hi]
    exact h.pos _ (List.getElem_mem hi)
  · rw [List.getElem?_eq_none (by omega)]
    simp [hi]
theorem conj_len (s : List Nat) : (conj s).length = s.headD 0 := by simp [conj]
theorem conj_getD (s : List Nat) (hs : Stair s) (j : Nat) : (conj s).getD j 0 = cnt s j := by
  rw [List.getD_eq_getElem?_getD]
  unfold conj
  rw [List.getElem?_map]
  by_cases h : j < s.headD 0
  · rw [List.getElem?_range h]
    rfl
  · rw [List.getElem?_eq_none (by simpa using h)]
    have : ¬ 0 < cnt s j := by
      rw [cnt_gt hs 0 j]
      cases s with
      | nil => simp
      | cons x s => simpa using h
    simp
    omega
theorem cnt_anti (s : List Nat) {i j : Nat} (h : i ≤ j) : cnt s j ≤ cnt s i := by
  unfold cnt
  refine List.countP_mono_left fun x _ hx => ?_
  simp at hx ⊢
  omega
theorem conj_stair {s : List Nat} (hs : Stair s) : Stair (conj s) := by
  constructor
  · unfold conj
    rw [List.pairwise_map]
    exact List.pairwise_lt_range.imp fun h => cnt_anti s (Nat.le_of_lt h)
  · intro x hx
    unfold conj at hx
    obtain ⟨j, hj, rfl⟩ := List.mem_map.mp hx
    rw [cnt_gt hs 0 j]
    cases s with
    | nil => simp at hj
    | cons y t => simpa using hj
theorem ext_getD {a b : List Nat} (hl : a.length = b.length) (h : ∀ i, a.getD i 0 = b.getD i 0) : a = b := by
  refine List.ext_getElem? fun i => ?_
  have := h i
  rw [List.getD_eq_getElem?_getD, List.getD_eq_getElem?_getD] at this
  by_cases hi : i < a.length
  · rw [List.getElem?_eq_getElem hi, List.getElem?_eq_getElem (by omega)] at this ⊢
    simpa using this
  · rw [List.getElem?_eq_none (by omega), List.getElem?_eq_none (by omega)]
/-- two stairs with the same rows -/
theorem stair_ext {a b : List Nat} (ha : Stair a) (hb : Stair b) (h : ∀ i, a.getD i 0 = b.getD i 0) : a = b := by
  refine ext_getD ?_ h
  have key : ∀ i, i < a.length ↔ i < b.length := fun i => by rw [← getD_pos ha, ← getD_pos hb, h]
  have h1 := key a.length
  have h2 := key b.length
  omega
theorem countP_range (p : Nat → Bool) (m : Nat) : ∀ n, (∀ j, j < n → (p j = true ↔ j < m)) → (List.range n).countP p = min n m
  | 0, _ => by simp
  | n + 1, h => by
    rw [List.range_succ, List.countP_append, countP_range p m n fun j hj => h j (by omega)]
    have := h n (by omega)
    cases e : p n with
    | true =>
      have := this.mp e
      simp [e]
      omega
    | false =>
      rw [e] at this
      simp at this
      simp [e]
      omega
theorem conj_conj {s : List Nat} (hs : Stair s) : conj (conj s) = s := by
  have hc := conj_stair hs
  refine stair_ext (conj_stair hc) hs fun i => ?_
  rw [conj_getD _ hc]
  unfold cnt
  rw [show conj s = (List.range (s.headD 0)).map (cnt s) from rfl, List.countP_map]
  rw [countP_range _ (s.getD i 0) _ fun j hj => by simp only [Function.comp, decide_eq_true_eq]; exact cnt_gt hs i j]
  have := getD_le hs i
  omega
theorem add_len (a b : List Nat) : (add a b).length = max a.length b.length := by simp [add]
theorem add_getD (a b : List Nat) (i : Nat) : (add a b).getD i 0 = a.getD i 0 + b.getD i 0 := by
  rw [List.getD_eq_getElem?_getD]
  unfold add
  rw [List.getElem?_map]
  by_cases h : i < max a.length b.length
  · rw [List.getElem?_range h]
    rfl
  · rw [List.getElem?_eq_none (by simpa using h)]
    rw [List.getD_eq_getElem?_getD, List.getD_eq_getElem?_getD, List.getElem?_eq_none (by omega), List.getElem?_eq_none (by omega)]
    rfl
theorem getD_anti {a : List Nat} (ha : Stair a) {i j : Nat} (h : i ≤ j) : a.getD j 0 ≤ a.getD i 0 := by
  have key : ∀ x, x < a.getD j 0 → x < a.getD i 0 := fun x hx => by
    rw [← cnt_gt ha] at hx ⊢
    omega
  have := key (a.getD j 0 - 1)
  omega
theorem add_stair {a b : List Nat} (ha : Stair a) (hb : Stair b) : Stair (add a b) := by
  constructor
  · unfold add
    rw [List.pairwise_map]
    refine List.pairwise_lt_range.imp fun {i j} h => ?_
    have h1 := getD_anti ha (Nat.le_of_lt h)
    have h2 := getD_anti hb (Nat.le_of_lt h)
    omega
  · intro x hx
    unfold add at hx
    obtain ⟨i, hi, rfl⟩ := List.mem_map.mp hx
    have hi : i < max a.length b.length := by simpa using hi
    have h1 := getD_pos ha i
    have h2 := getD_pos hb i
    omega
theorem cnt_perm {a b : List Nat} (h : a.Perm b) (j : Nat) : cnt a j = cnt b j := h.countP_eq _
theorem cnt_append (a b : List Nat) (j : Nat) : cnt (a ++ b) j = cnt a j + cnt b j := List.countP_append
/-- the stairs' rows together, turned: the sum of the turned -/
theorem conj_join {a b c : List Nat} (ha : Stair a) (hb : Stair b) (hc : Stair c) (h : c.Perm (a ++ b)) : conj c = add (conj a) (conj b) := by
  refine stair_ext (conj_stair hc) (add_stair (conj_stair ha) (conj_stair hb)) fun i => ?_
  rw [conj_getD c hc, add_getD, conj_getD a ha, conj_getD b hb, cnt_perm h, cnt_append]
theorem sorted_eq : ∀ {a b : List Nat}, a.Perm b → a.Pairwise (· ≥ ·) → b.Pairwise (· ≥ ·) → a = b := fun h ha hb => h.eq_of_pairwise (fun x y _ _ h1 h2 => by have h1 : x ≥ y := h1; have h2 : y ≥ x := h2; omega) ha hb
theorem conj_add {a b c : List Nat} (ha : Stair a) (hb : Stair b) (hc : Stair c) (h : c.Perm (conj a ++ conj b)) : conj (add a b) = c := by
  have e := conj_join (conj_stair ha) (conj_stair hb) hc h
  rw [conj_conj ha, conj_conj hb] at e
  rw [← e, conj_conj hc]
end PM

set_option maxRecDepth 100000
namespace PM
/-! ## which stair is above which -/
def psum (l : List Nat) (m : Nat) : Nat := (l.take m).sum
theorem psum_zero (l : List Nat) : psum l 0 = 0 := by simp [psum]
theorem psum_succ (l : List Nat) (m : Nat) : psum l (m + 1) = psum l m + l.getD m 0 := by
  unfold psum
  rw [List.getD_eq_getElem?_getD]
  by_cases h : m < l.length
  · rw [List.take_succ, List.sum_append, List.getElem?_eq_getElem h]
    simp
  · rw [List.take_of_length_le (by omega), List.take_of_length_le (by omega), List.getElem?_eq_none (by omega)]
    simp
theorem psum_all (l : List Nat) (m : Nat) (h : l.length ≤ m) : psum l m = l.sum := by unfold psum; rw [List.take_of_length_le h]
theorem psum_le (l : List Nat) : ∀ {m n : Nat}, m ≤ n → psum l m ≤ psum l n := fun {m n} h => by
  induction h with
  | refl => exact Nat.le_refl _
  | step _ ih => rw [psum_succ]; omega
theorem psum_sum (l : List Nat) (m : Nat) : psum l m ≤ l.sum := by
  rw [← psum_all l (max m l.length) (by omega)]
  exact psum_le l (by omega)
def above (a b : List Nat) : Prop := ∀ m, psum b m ≤ psum a m
theorem above_refl (a : List Nat) : above a a := fun _ => Nat.le_refl _
theorem above_trans {a b c : List Nat} (h1 : above a b) (h2 : above b c) : above a c := fun m => Nat.le_trans (h2 m) (h1 m)
theorem psum_ext {a b : List Nat} (h : ∀ m, psum a m = psum b m) : ∀ i, a.getD i 0 = b.getD i 0 := fun i => by
  have h1 := h i
  have h2 := h (i + 1)
  rw [psum_succ, psum_succ] at h2
  omega
theorem above_anti {a b : List Nat} (ha : Stair a) (hb : Stair b) (h1 : above a b) (h2 : above b a) : a = b :=
  stair_ext ha hb (psum_ext fun m => Nat.le_antisymm (h2 m) (h1 m))
/-! ## a step down -/
theorem set_getD (c : List Nat) (j i x : Nat) (hj : j < c.length) : (c.set j x).getD i 0 = if i = j then x else c.getD i 0 := by
  rw [List.getD_eq_getElem?_getD, List.getElem?_set, List.getD_eq_getElem?_getD]
  by_cases h : j = i
  · subst h
    simp [hj]
  · rw [if_neg h, if_neg (Ne.symm h)]
/-- one box from row f to a later row t -/
def mv (l : List Nat) (f t : Nat) : List Nat := (l.set f (l.getD f 0 - 1)).set t (l.getD t 0 + 1)
theorem mv_len (l : List Nat) (f t : Nat) : (mv l f t).length = l.length := by simp [mv]
theorem mv_getD (l : List Nat) {f t : Nat} (hf : f < l.length) (ht : t < l.length) (hft : f ≠ t) (i : Nat) : (mv l f t).getD i 0 = if i = t then l.getD t 0 + 1 else if i = f then l.getD f 0 - 1 else l.getD i 0 := by
  unfold mv
  rw [set_getD _ _ _ _ (by simpa using ht), set_getD _ _ _ _ hf]
theorem mv_psum (l : List Nat) {f t : Nat} (hf : f < t) (ht : t < l.length) (hp : 0 < l.getD f 0) : ∀ m, psum (mv l f t) m + (if f < m ∧ m ≤ t then 1 else 0) = psum l m
  | 0 => by simp [psum_zero]
  | m + 1 => by
    have ih := mv_psum l hf ht hp m
    rw [psum_succ, psum_succ, mv_getD l (by omega) ht (by omega)]
    by_cases h1 : m = t
    · subst h1
      rw [if_pos ⟨by omega, Nat.le_refl _⟩] at ih
      rw [if_pos rfl, if_neg (by omega)]
      omega
    · rw [if_neg h1]
      by_cases h2 : m = f
      · subst h2
        rw [if_neg (by omega)] at ih
        rw [if_pos rfl, if_pos (by omega)]
        omega
      · rw [if_neg h2]
        by_cases h3 : f < m ∧ m ≤ t
        · rw [if_pos h3] at ih
          rw [if_pos (by omega)]
          omega
        · rw [if_neg h3] at ih
          rw [if_neg (by omega)]
          omega
/-- where the step goes from and to -/
structure StepAt (l g : List Nat) (f t : Nat) : Prop where
  ft : f < t
  tl : t < l.length
  hf : g.getD f 0 < l.getD f 0
  last : ∀ i, f < i → i < l.length → l.getD i 0 ≤ g.getD i 0
  ht : l.getD t 0 < g.getD t 0
  mid : ∀ i, f < i → i < t → l.getD i 0 = g.getD i 0
theorem last_of (p : Nat → Prop) [DecidablePred p] : ∀ n, (∃ i, i < n ∧ p i) → ∃ i, i < n ∧ p i ∧ ∀ j, i < j → j < n → ¬ p j
  | 0, ⟨i, h, _⟩ => absurd h (Nat.not_lt_zero _)
  | n + 1, ⟨i, h, hp⟩ => by
    by_cases hn : p n
    · exact ⟨n, by omega, hn, fun j h1 h2 => by omega⟩
    · have hi : i ≠ n := fun e => hn (e ▸ hp)
      obtain ⟨k, h1, h2, h3⟩ := last_of p n ⟨i, by omega, hp⟩
      refine ⟨k, by omega, h2, fun j hj hjn => ?_⟩
      by_cases e : j = n
      · rw [e]; exact hn
      · exact h3 j hj (by omega)
theorem first_of (p : Nat → Prop) [DecidablePred p] (n : Nat) (h : p n) : ∃ i, i ≤ n ∧ p i ∧ ∀ j, j < i → ¬ p j := by
  induction n using Nat.strongRecOn with
  | _ n ih =>
    by_cases hx : ∃ j, j < n ∧ p j
    · obtain ⟨j, h1, h2⟩ := hx
      obtain ⟨i, h3, h4, h5⟩ := ih j h1 h2
      exact ⟨i, by omega, h4, h5⟩
    · exact ⟨n, Nat.le_refl _, h, fun j hj hp => hx ⟨j, hj, hp⟩⟩
theorem step_at {l g : List Nat} (hl : l.length = g.length) (hs : l.sum = g.sum) (ha : above l g) (hn : l ≠ g) : ∃ f t, StepAt l g f t := by
  have ex : ∃ i, i < l.length ∧ g.getD i 0 < l.getD i 0 := by
    refine Classical.byContradiction fun hx => hn ?_
    have hle : ∀ i, l.getD i 0 ≤ g.getD i 0 := fun i => by
      by_cases hi : i < l.length
      · exact Nat.not_lt.mp fun h => hx ⟨i, hi, h⟩
      · rw [List.getD_eq_getElem?_getD, List.getElem?_eq_none (by omega)]
        simp
    have key : ∀ m, psum l m ≤ psum g m := fun m => by
      induction m with
      | zero => simp [psum_zero]
      | succ m ih => rw [psum_succ, psum_succ]; have := hle m; omega
    exact ext_getD hl (psum_ext fun m => Nat.le_antisymm (key m) (ha m))
  obtain ⟨f, hf, h1, h2⟩ := last_of (fun i => g.getD i 0 < l.getD i 0) l.length ex
  have h2 : ∀ j, f < j → j < l.length → l.getD j 0 ≤ g.getD j 0 := fun j a b => Nat.not_lt.mp (h2 j a b)
  have ex2 : ∃ j, f < j ∧ j < l.length ∧ l.getD j 0 < g.getD j 0 := by
    refine Classical.byContradiction fun hx => ?_
    have he : ∀ j, f < j → j < l.length → l.getD j 0 = g.getD j 0 := fun j a b => Nat.le_antisymm (h2 j a b) (Nat.not_lt.mp fun h => hx ⟨j, a, b, h⟩)
    have key : ∀ m, f < m → m ≤ l.length → psum g m < psum l m := fun m => by
      induction m with
      | zero => intro h; omega
      | succ m ih =>
        intro a b
        rw [psum_succ, psum_succ]
        by_cases e : f = m
        · subst e
          have := ha f
          omega
        · have := ih (by omega) (by omega)
          have := he m (by omega) (by omega)
          omega
    have := key l.length hf (Nat.le_refl _)
    rw [psum_all l _ (Nat.le_refl _), psum_all g _ (by omega), hs] at this
    omega
  obtain ⟨n, hn1, hn2, hn3⟩ := ex2
  obtain ⟨t, _, ⟨h3, h4, h5⟩, h6⟩ := first_of (fun j => f < j ∧ j < l.length ∧ l.getD j 0 < g.getD j 0) n ⟨hn1, hn2, hn3⟩
  exact ⟨f, t, h3, h4, h1, h2, h5, fun i a b => Nat.le_antisymm (h2 i a (by omega)) (Nat.not_lt.mp fun h => h6 i b ⟨a, by omega, h⟩)⟩
theorem down_getD {l : List Nat} (h : l.Pairwise (· ≥ ·)) {i j : Nat} (hij : i ≤ j) : l.getD j 0 ≤ l.getD i 0 := by
  rw [List.getD_eq_getElem?_getD, List.getD_eq_getElem?_getD]
  by_cases hj : j < l.length
  · rw [List.getElem?_eq_getElem hj, List.getElem?_eq_getElem (by omega)]
    by_cases e : i = j
    · subst e; exact Nat.le_refl _
    · exact List.pairwise_iff_getElem.mp h i j (by omega) hj (by omega)
  · rw [List.getElem?_eq_none (by omega)]
    simp
theorem getD_down {l : List Nat} (h : ∀ i, i + 1 < l.length → l.getD (i + 1) 0 ≤ l.getD i 0) : l.Pairwise (· ≥ ·) := by
  rw [List.pairwise_iff_getElem]
  intro i j hi hj hij
  have key : ∀ k, i + k < l.length → l.getD (i + k) 0 ≤ l.getD i 0 := fun k => by
    induction k with
    | zero => intro _; exact Nat.le_refl _
    | succ k ih => intro a; exact Nat.le_trans (h (i + k) a) (ih (by omega))
  have := key (j - i) (by omega)
  rw [show i + (j - i) = j by omega, List.getD_eq_getElem?_getD, List.getD_eq_getElem?_getD, List.getElem?_eq_getElem hi, List.getElem?_eq_getElem hj] at this
  exact this
/-- the step's stair is one, it is above the goal -/
theorem StepAt.ok {l g : List Nat} {f t : Nat} (s : StepAt l g f t) (hl : l.Pairwise (· ≥ ·)) (hg : g.Pairwise (· ≥ ·)) (ha : above l g) : (mv l f t).Pairwise (· ≥ ·) ∧ above (mv l f t) g ∧ (mv l f t).sum = l.sum := by
  have ft := s.ft
  have tl := s.tl
  have hf := s.hf
  have ht := s.ht
  have mp := mv_psum l ft tl (by omega)
  refine ⟨getD_down fun i hi => ?_, fun m => ?_, ?_⟩
  · rw [mv_len] at hi
    rw [mv_getD l (by omega) tl (by omega), mv_getD l (by omega) tl (by omega)]
    have d := down_getD hl (i := i) (j := i + 1) (by omega)
    have dg := down_getD hg (i := i) (j := i + 1) (by omega)
    by_cases h1 : i + 1 = t
    · rw [if_pos h1, if_neg (by omega)]
      rw [h1] at d dg
      by_cases h2 : i = f
      · subst h2
        rw [if_pos rfl]
        omega
      · rw [if_neg h2]
        have := s.mid i (by omega) (by omega)
        omega
    · rw [if_neg h1]
      by_cases h2 : i + 1 = f
      · subst h2
        rw [if_pos rfl, if_neg (by omega), if_neg (by omega)]
        omega
      · rw [if_neg h2]
        by_cases h3 : i = t
        · subst h3
          rw [if_pos rfl]
          omega
        · rw [if_neg h3]
          by_cases h4 : i = f
          · subst h4
            rw [if_pos rfl]
            have := s.last (i + 1) (by omega) (by omega)
            omega
          · rw [if_neg h4]
            exact d
  · have := mp m
    have hm := ha m
    by_cases h : f < m ∧ m ≤ t
    · rw [if_pos h] at this
      have key : ∀ k, f < k → k ≤ t → psum g k < psum l k := fun k => by
        induction k with
        | zero => intro h; omega
        | succ k ih =>
          intro a b
          rw [psum_succ, psum_succ]
          by_cases e : f = k
          · subst e
            have := ha f
            omega
          · have := ih (by omega) (by omega)
            have := s.mid k (by omega) (by omega)
            omega
      have := key m h.1 h.2
      omega
    · rw [if_neg h] at this
      omega
  · have := mp l.length
    rw [if_neg (by omega), psum_all _ _ (by rw [mv_len]; exact Nat.le_refl _), psum_all _ _ (Nat.le_refl _)] at this
    omega
/-- the sum of all sums of first rows -/
def height (l : List Nat) : Nat → Nat
  | 0 => 0
  | n + 1 => height l n + psum l (n + 1)
theorem height_mono {l g : List Nat} (h : above l g) : ∀ n, height g n ≤ height l n
  | 0 => Nat.le_refl _
  | n + 1 => by
    have := height_mono h n
    have := h (n + 1)
    simp only [height]
    omega
theorem height_le (l : List Nat) : ∀ n, height l n ≤ n * l.sum
  | 0 => by simp [height]
  | n + 1 => by
    have := height_le l n
    have := psum_sum l (n + 1)
    simp only [height, Nat.succ_mul]
    omega
theorem StepAt.less {l g : List Nat} {f t : Nat} (s : StepAt l g f t) : ∀ n, t ≤ n → height (mv l f t) n < height l n := by
  have mp := mv_psum l s.ft s.tl (by have := s.hf; omega)
  have ft := s.ft
  have key : ∀ n, height (mv l f t) n + (if t ≤ n then 1 else 0) ≤ height l n := fun n => by
    induction n with
    | zero => simp only [height]; rw [if_neg (by omega)]; exact Nat.le_refl _
    | succ n ih =>
      have := mp (n + 1)
      simp only [height]
      by_cases h1 : t ≤ n
      · rw [if_pos h1] at ih
        rw [if_pos (by omega)]
        split at this <;> omega
      · rw [if_neg h1] at ih
        by_cases h2 : t ≤ n + 1
        · rw [if_pos h2]
          rw [if_pos (by omega)] at this
          omega
        · rw [if_neg h2]
          split at this <;> omega
  intro n hn
  have := key n
  rw [if_pos hn] at this
  omega
end PM

set_option maxRecDepth 100000
namespace PL
open PySem HC
def b_is_integer : SC := (sRet (cAnd (cApp (fIsi [.int]) (cCons (cVar 0) cNil)) (cNot (cApp (fIsi [.bool]) (cCons (cVar 0) cNil)))))
theorem b_is_integer_e {σ : Sl} {S : List SO} : b_is_integer σ S = (sRet (cAnd (cApp (fIsi [.int]) (cCons (cVar 0) cNil)) (cNot (cApp (fIsi [.bool]) (cCons (cVar 0) cNil))))) σ S := id rfl
def m_is_integer : FnS := runF 1 1 b_is_integer
theorem r_is_integer {a0 : D} : m_is_integer [a0] = fin (b_is_integer [some a0] []) := id rfl
def b_is_positive : SC := (sRet (cAnd (cApp (callD m_is_integer) (cCons (cVar 0) cNil)) (cBin bGe (cVar 0) (cD (.int 1)))))
theorem b_is_positive_e {σ : Sl} {S : List SO} : b_is_positive σ S = (sRet (cAnd (cApp (callD m_is_integer) (cCons (cVar 0) cNil)) (cBin bGe (cVar 0) (cD (.int 1))))) σ S := id rfl
def m_is_positive : FnS := runF 1 1 b_is_positive
theorem r_is_positive {a0 : D} : m_is_positive [a0] = fin (b_is_positive [some a0] []) := id rfl
def b_row_of : SC := (sSeq (sIf (cBin bLt (cVar 1) (cApp fLen (cCons (cVar 0) cNil))) (sRet (cBin bIx (cVar 0) (cVar 1))) sSkip)
    (sRet (cD (.int 0))))
theorem b_row_of_e {σ : Sl} {S : List SO} : b_row_of σ S = (sSeq (sIf (cBin bLt (cVar 1) (cApp fLen (cCons (cVar 0) cNil))) (sRet (cBin bIx (cVar 0) (cVar 1))) sSkip)
    (sRet (cD (.int 0)))) σ S := id rfl
def m_row_of : FnS := runF 2 2 b_row_of
theorem r_row_of {a0 a1 : D} : m_row_of [a0, a1] = fin (b_row_of [some a0, some a1] []) := id rfl
def L_is_stair_1 : SC := (sSeq (sIf (cNotB (cTru (cApp (callD m_is_positive) (cCons (cVar 2) cNil)))) (sRet (cD (.bl false))) sSkip)
    (sIf (cAndB (cBin bGt (cVar 1) (cD (.int 0))) (cBin bGt (cVar 2) (cBin bIx (cVar 0) (cBin bSub (cVar 1) (cD (.int 1)))))) (sRet (cD (.bl false))) sSkip))
theorem L_is_stair_1_e {σ : Sl} {S : List SO} : L_is_stair_1 σ S = (sSeq (sIf (cNotB (cTru (cApp (callD m_is_positive) (cCons (cVar 2) cNil)))) (sRet (cD (.bl false))) sSkip)
    (sIf (cAndB (cBin bGt (cVar 1) (cD (.int 0))) (cBin bGt (cVar 2) (cBin bIx (cVar 0) (cBin bSub (cVar 1) (cD (.int 1)))))) (sRet (cD (.bl false))) sSkip)) σ S := id rfl
def b_is_stair : SC := (sSeq (sIf (cNotB (cTru (cApp (fIsi [.tup]) (cCons (cVar 0) cNil)))) (sRet (cD (.bl false))) sSkip)
    (sSeq (sFor (iApp enI (cCons (cVar 0) cNil)) (tgTup 2 (tgCons (tgName 1) (tgCons (tgName 2) tgNil))) L_is_stair_1)
    (sRet (cD (.bl true)))))
theorem b_is_stair_e {σ : Sl} {S : List SO} : b_is_stair σ S = (sSeq (sIf (cNotB (cTru (cApp (fIsi [.tup]) (cCons (cVar 0) cNil)))) (sRet (cD (.bl false))) sSkip)
    (sSeq (sFor (iApp enI (cCons (cVar 0) cNil)) (tgTup 2 (tgCons (tgName 1) (tgCons (tgName 2) tgNil))) L_is_stair_1)
    (sRet (cD (.bl true))))) σ S := id rfl
def m_is_stair : FnS := runF 1 3 b_is_stair
theorem r_is_stair {a0 : D} : m_is_stair [a0] = fin (b_is_stair [some a0, none, none] []) := id rfl
def b_need_stair : SC := (sIf (cNotB (cTru (cApp (callD m_is_stair) (cCons (cVar 0) cNil)))) (sRaise 2 (cCons (cVar 0) cNil)) sSkip)
theorem b_need_stair_e {σ : Sl} {S : List SO} : b_need_stair σ S = (sIf (cNotB (cTru (cApp (callD m_is_stair) (cCons (cVar 0) cNil)))) (sRaise 2 (cCons (cVar 0) cNil)) sSkip) σ S := id rfl
def m_need_stair : FnS := runF 1 1 b_need_stair
theorem r_need_stair {a0 : D} : m_need_stair [a0] = fin (b_need_stair [some a0] []) := id rfl
def W_turned_1 : CE := (cBin bLe (cBin bIx (cVar 0) (cBin bSub (cVar 2) (cD (.int 1)))) (cVar 3))
theorem W_turned_1_e {σ : Sl} {S : List SO} : W_turned_1 σ S = (cBin bLe (cBin bIx (cVar 0) (cBin bSub (cVar 2) (cD (.int 1)))) (cVar 3)) σ S := id rfl
def L_turned_1 : SC := (sAug 2 bSub (cD (.int 1)))
theorem L_turned_1_e {σ : Sl} {S : List SO} : L_turned_1 σ S = (sAug 2 bSub (cD (.int 1))) σ S := id rfl
def L_turned_2 : SC := (sSeq (sWhile W_turned_1 L_turned_1)
    (sMethE mAppend (cVar 1) (cCons (cVar 2) cNil)))
theorem L_turned_2_e {σ : Sl} {S : List SO} : L_turned_2 σ S = (sSeq (sWhile W_turned_1 L_turned_1)
    (sMethE mAppend (cVar 1) (cCons (cVar 2) cNil))) σ S := id rfl
def b_turned : SC := (sSeq (sExpr (cApp (callD m_need_stair) (cCons (cVar 0) cNil)))
    (sSeq (sNew 1 (cApp fLst cNil))
    (sSeq (sAsg 2 (cApp fLen (cCons (cVar 0) cNil)))
    (sSeq (sFor (iApp rg1 (cCons (cApp (callD m_row_of) (cCons (cVar 0) (cCons (cD (.int 0)) cNil))) cNil)) (tgName 3) L_turned_2)
    (sRet (cApp fTuple (cCons (cVar 1) cNil)))))))
theorem b_turned_e {σ : Sl} {S : List SO} : b_turned σ S = (sSeq (sExpr (cApp (callD m_need_stair) (cCons (cVar 0) cNil)))
    (sSeq (sNew 1 (cApp fLst cNil))
    (sSeq (sAsg 2 (cApp fLen (cCons (cVar 0) cNil)))
    (sSeq (sFor (iApp rg1 (cCons (cApp (callD m_row_of) (cCons (cVar 0) (cCons (cD (.int 0)) cNil))) cNil)) (tgName 3) L_turned_2)
    (sRet (cApp fTuple (cCons (cVar 1) cNil))))))) σ S := id rfl
def m_turned : FnS := runF 1 4 b_turned
theorem r_turned {a0 : D} : m_turned [a0] = fin (b_turned [some a0, none, none, none] []) := id rfl
def E_added_1 : CE := (cBin bAdd (cApp (callD m_row_of) (cCons (cVar 0) (cCons (cVar 2) cNil))) (cApp (callD m_row_of) (cCons (cVar 1) (cCons (cVar 2) cNil))))
theorem E_added_1_e {σ : Sl} {S : List SO} : E_added_1 σ S = (cBin bAdd (cApp (callD m_row_of) (cCons (cVar 0) (cCons (cVar 2) cNil))) (cApp (callD m_row_of) (cCons (cVar 1) (cCons (cVar 2) cNil)))) σ S := id rfl
def b_added : SC := (sSeq (sExpr (cApp (callD m_need_stair) (cCons (cVar 0) cNil)))
    (sSeq (sExpr (cApp (callD m_need_stair) (cCons (cVar 1) cNil)))
    (sRet (cApp fTuple (cCons (cComp (iApp rg1 (cCons (cApp fMax2 (cCons (cApp fLen (cCons (cVar 0) cNil)) (cCons (cApp fLen (cCons (cVar 1) cNil)) cNil))) cNil)) (tgName 2) [2] cTrue E_added_1) cNil)))))
theorem b_added_e {σ : Sl} {S : List SO} : b_added σ S = (sSeq (sExpr (cApp (callD m_need_stair) (cCons (cVar 0) cNil)))
    (sSeq (sExpr (cApp (callD m_need_stair) (cCons (cVar 1) cNil)))
    (sRet (cApp fTuple (cCons (cComp (iApp rg1 (cCons (cApp fMax2 (cCons (cApp fLen (cCons (cVar 0) cNil)) (cCons (cApp fLen (cCons (cVar 1) cNil)) cNil))) cNil)) (tgName 2) [2] cTrue E_added_1) cNil))))) σ S := id rfl
def m_added : FnS := runF 2 3 b_added
theorem r_added {a0 a1 : D} : m_added [a0, a1] = fin (b_added [some a0, some a1, none] []) := id rfl
def E_times_1 : CE := (cBin bMul (cVar 2) (cVar 1))
theorem E_times_1_e {σ : Sl} {S : List SO} : E_times_1 σ S = (cBin bMul (cVar 2) (cVar 1)) σ S := id rfl
def b_times : SC := (sSeq (sExpr (cApp (callD m_need_stair) (cCons (cVar 0) cNil)))
    (sSeq (sIf (cNotB (cTru (cApp (callD m_is_positive) (cCons (cVar 1) cNil)))) (sRaise 1 (cCons (cVar 1) cNil)) sSkip)
    (sRet (cApp fTuple (cCons (cComp (iVal (cVar 0)) (tgName 2) [2] cTrue E_times_1) cNil)))))
theorem b_times_e {σ : Sl} {S : List SO} : b_times σ S = (sSeq (sExpr (cApp (callD m_need_stair) (cCons (cVar 0) cNil)))
    (sSeq (sIf (cNotB (cTru (cApp (callD m_is_positive) (cCons (cVar 1) cNil)))) (sRaise 1 (cCons (cVar 1) cNil)) sSkip)
    (sRet (cApp fTuple (cCons (cComp (iVal (cVar 0)) (tgName 2) [2] cTrue E_times_1) cNil))))) σ S := id rfl
def m_times : FnS := runF 2 3 b_times
theorem r_times {a0 a1 : D} : m_times [a0, a1] = fin (b_times [some a0, some a1, none] []) := id rfl
def b_joined : SC := (sSeq (sExpr (cApp (callD m_need_stair) (cCons (cVar 0) cNil)))
    (sSeq (sExpr (cApp (callD m_need_stair) (cCons (cVar 1) cNil)))
    (sRet (cApp fTuple (cCons (cApp (fSorted true) (cCons (cBin bAdd (cApp fList (cCons (cVar 0) cNil)) (cApp fList (cCons (cVar 1) cNil))) cNil)) cNil)))))
theorem b_joined_e {σ : Sl} {S : List SO} : b_joined σ S = (sSeq (sExpr (cApp (callD m_need_stair) (cCons (cVar 0) cNil)))
    (sSeq (sExpr (cApp (callD m_need_stair) (cCons (cVar 1) cNil)))
    (sRet (cApp fTuple (cCons (cApp (fSorted true) (cCons (cBin bAdd (cApp fList (cCons (cVar 0) cNil)) (cApp fList (cCons (cVar 1) cNil))) cNil)) cNil))))) σ S := id rfl
def m_joined : FnS := runF 2 2 b_joined
theorem r_joined {a0 a1 : D} : m_joined [a0, a1] = fin (b_joined [some a0, some a1] []) := id rfl
def b__law_cell : SC := (sSeq (sIf (cBin bLt (cVar 1) (cApp fLen (cCons (cVar 0) cNil))) (sRet (cApp fInt (cCons (cBin bIx (cVar 0) (cVar 1)) cNil))) sSkip)
    (sSeq (sIf (cBin bEq (cApp fLen (cCons (cVar 0) cNil)) (cD (.int 0))) (sRet (cVar 1)) sSkip)
    (sRet (cBin bAdd (cBin bFdiv (cApp fInt (cCons (cBin bIx (cVar 0) (cBin bMod (cVar 1) (cApp fLen (cCons (cVar 0) cNil)))) cNil)) (cBin bAdd (cVar 1) (cD (.int 2)))) (cVar 1)))))
theorem b__law_cell_e {σ : Sl} {S : List SO} : b__law_cell σ S = (sSeq (sIf (cBin bLt (cVar 1) (cApp fLen (cCons (cVar 0) cNil))) (sRet (cApp fInt (cCons (cBin bIx (cVar 0) (cVar 1)) cNil))) sSkip)
    (sSeq (sIf (cBin bEq (cApp fLen (cCons (cVar 0) cNil)) (cD (.int 0))) (sRet (cVar 1)) sSkip)
    (sRet (cBin bAdd (cBin bFdiv (cApp fInt (cCons (cBin bIx (cVar 0) (cBin bMod (cVar 1) (cApp fLen (cCons (cVar 0) cNil)))) cNil)) (cBin bAdd (cVar 1) (cD (.int 2)))) (cVar 1))))) σ S := id rfl
def m__law_cell : FnS := runF 2 2 b__law_cell
theorem r__law_cell {a0 a1 : D} : m__law_cell [a0, a1] = fin (b__law_cell [some a0, some a1] []) := id rfl
def b__law_draw : SC := (sSeq (sAsg 3 (cBin bMod (cApp fInt (cCons (cBin bAdd (cBin bAdd (cBin bMul (cVar 0) (cD (.int 48271))) (cBin bMul (cBin bAdd (cVar 1) (cD (.int 1))) (cD (.int 69621)))) (cD (.int 7))) cNil)) (cD (.int 2147483647))))
    (sSeq (sAsg 3 (cBin bMod (cApp fInt (cCons (cBin bAdd (cBin bAdd (cBin bMul (cVar 3) (cVar 3)) (cBin bMul (cD (.int 7919)) (cVar 1))) (cD (.int 104729))) cNil)) (cD (.int 2147483629))))
    (sSeq (sAsg 3 (cBin bMod (cApp fInt (cCons (cBin bAdd (cBin bMul (cVar 3) (cBin bAdd (cBin bMod (cApp fInt (cCons (cVar 3) cNil)) (cD (.int 65521))) (cD (.int 3)))) (cD (.int 40692))) cNil)) (cD (.int 2147483587))))
    (sRet (cBin bMod (cBin bFdiv (cApp fInt (cCons (cVar 3) cNil)) (cD (.int 7))) (cVar 2))))))
theorem b__law_draw_e {σ : Sl} {S : List SO} : b__law_draw σ S = (sSeq (sAsg 3 (cBin bMod (cApp fInt (cCons (cBin bAdd (cBin bAdd (cBin bMul (cVar 0) (cD (.int 48271))) (cBin bMul (cBin bAdd (cVar 1) (cD (.int 1))) (cD (.int 69621)))) (cD (.int 7))) cNil)) (cD (.int 2147483647))))
    (sSeq (sAsg 3 (cBin bMod (cApp fInt (cCons (cBin bAdd (cBin bAdd (cBin bMul (cVar 3) (cVar 3)) (cBin bMul (cD (.int 7919)) (cVar 1))) (cD (.int 104729))) cNil)) (cD (.int 2147483629))))
    (sSeq (sAsg 3 (cBin bMod (cApp fInt (cCons (cBin bAdd (cBin bMul (cVar 3) (cBin bAdd (cBin bMod (cApp fInt (cCons (cVar 3) cNil)) (cD (.int 65521))) (cD (.int 3)))) (cD (.int 40692))) cNil)) (cD (.int 2147483587))))
    (sRet (cBin bMod (cBin bFdiv (cApp fInt (cCons (cVar 3) cNil)) (cD (.int 7))) (cVar 2)))))) σ S := id rfl
def m__law_draw : FnS := runF 3 4 b__law_draw
theorem r__law_draw {a0 a1 a2 : D} : m__law_draw [a0, a1, a2] = fin (b__law_draw [some a0, some a1, some a2, none] []) := id rfl
def L__law_digits_1 : SC := (sIf (cBin bGe (cVar 0) (cBin bPow (cD (.int 10)) (cD (.int 18)))) (sSeq (sMethE mAppend (cVar 3) (cCons (cBin bMod (cApp fInt (cCons (cVar 4) cNil)) (cVar 2)) cNil))
    (sAsg 4 (cBin bFdiv (cVar 4) (cVar 2)))) (sMethE mAppend (cVar 3) (cCons (cApp (callD m__law_draw) (cCons (cVar 0) (cCons (cVar 5) (cCons (cVar 2) cNil)))) cNil)))
theorem L__law_digits_1_e {σ : Sl} {S : List SO} : L__law_digits_1 σ S = (sIf (cBin bGe (cVar 0) (cBin bPow (cD (.int 10)) (cD (.int 18)))) (sSeq (sMethE mAppend (cVar 3) (cCons (cBin bMod (cApp fInt (cCons (cVar 4) cNil)) (cVar 2)) cNil))
    (sAsg 4 (cBin bFdiv (cVar 4) (cVar 2)))) (sMethE mAppend (cVar 3) (cCons (cApp (callD m__law_draw) (cCons (cVar 0) (cCons (cVar 5) (cCons (cVar 2) cNil)))) cNil))) σ S := id rfl
def b__law_digits : SC := (sSeq (sNew 3 (cApp fLst cNil))
    (sSeq (sAsg 4 (cBin bSub (cVar 0) (cBin bPow (cD (.int 10)) (cD (.int 18)))))
    (sSeq (sFor (iApp rg1 (cCons (cVar 1) cNil)) (tgName 5) L__law_digits_1)
    (sRet (cVar 3)))))
theorem b__law_digits_e {σ : Sl} {S : List SO} : b__law_digits σ S = (sSeq (sNew 3 (cApp fLst cNil))
    (sSeq (sAsg 4 (cBin bSub (cVar 0) (cBin bPow (cD (.int 10)) (cD (.int 18)))))
    (sSeq (sFor (iApp rg1 (cCons (cVar 1) cNil)) (tgName 5) L__law_digits_1)
    (sRet (cVar 3))))) σ S := id rfl
def m__law_digits : FnS := runF 3 6 b__law_digits
theorem r__law_digits {a0 a1 a2 : D} : m__law_digits [a0, a1, a2] = fin (b__law_digits [some a0, some a1, some a2, none, none, none] []) := id rfl
def T__law_stair_1 : CE := (cBin bGt (cVar 3) (cD (.int 0)))
theorem T__law_stair_1_e {σ : Sl} {S : List SO} : T__law_stair_1 σ S = (cBin bGt (cVar 3) (cD (.int 0))) σ S := id rfl
def b__law_stair : SC := (sRet (cApp fTuple (cCons (cComp (iVal (cApp (fSorted true) (cCons (cApp (callD m__law_digits) (cCons (cVar 0) (cCons (cVar 1) (cCons (cBin bAdd (cVar 2) (cD (.int 1))) cNil)))) cNil))) (tgName 3) [3] T__law_stair_1 (cVar 3)) cNil)))
theorem b__law_stair_e {σ : Sl} {S : List SO} : b__law_stair σ S = (sRet (cApp fTuple (cCons (cComp (iVal (cApp (fSorted true) (cCons (cApp (callD m__law_digits) (cCons (cVar 0) (cCons (cVar 1) (cCons (cBin bAdd (cVar 2) (cD (.int 1))) cNil)))) cNil))) (tgName 3) [3] T__law_stair_1 (cVar 3)) cNil))) σ S := id rfl
def m__law_stair : FnS := runF 3 4 b__law_stair
theorem r__law_stair {a0 a1 a2 : D} : m__law_stair [a0, a1, a2] = fin (b__law_stair [some a0, some a1, some a2, none] []) := id rfl
def L__law_is_row_1 : SC := (sIf (cOrB (cNotB (cTru (cApp (fIsi [.int]) (cCons (cBin bIx (cVar 0) (cVar 2)) cNil)))) (cOrB (cTru (cApp (fIsi [.bool]) (cCons (cBin bIx (cVar 0) (cVar 2)) cNil))) (cBin bNe (cBin bIx (cVar 0) (cVar 2)) (cBin bIx (cVar 1) (cVar 2))))) (sRet (cD (.bl false))) sSkip)
theorem L__law_is_row_1_e {σ : Sl} {S : List SO} : L__law_is_row_1 σ S = (sIf (cOrB (cNotB (cTru (cApp (fIsi [.int]) (cCons (cBin bIx (cVar 0) (cVar 2)) cNil)))) (cOrB (cTru (cApp (fIsi [.bool]) (cCons (cBin bIx (cVar 0) (cVar 2)) cNil))) (cBin bNe (cBin bIx (cVar 0) (cVar 2)) (cBin bIx (cVar 1) (cVar 2))))) (sRet (cD (.bl false))) sSkip) σ S := id rfl
def b__law_is_row : SC := (sSeq (sIf (cOrB (cNotB (cTru (cApp (fIsi [.tup]) (cCons (cVar 0) cNil)))) (cBin bNe (cApp fLen (cCons (cVar 0) cNil)) (cApp fLen (cCons (cVar 1) cNil)))) (sRet (cD (.bl false))) sSkip)
    (sSeq (sFor (iApp rg1 (cCons (cApp fLen (cCons (cVar 1) cNil)) cNil)) (tgName 2) L__law_is_row_1)
    (sRet (cD (.bl true)))))
theorem b__law_is_row_e {σ : Sl} {S : List SO} : b__law_is_row σ S = (sSeq (sIf (cOrB (cNotB (cTru (cApp (fIsi [.tup]) (cCons (cVar 0) cNil)))) (cBin bNe (cApp fLen (cCons (cVar 0) cNil)) (cApp fLen (cCons (cVar 1) cNil)))) (sRet (cD (.bl false))) sSkip)
    (sSeq (sFor (iApp rg1 (cCons (cApp fLen (cCons (cVar 1) cNil)) cNil)) (tgName 2) L__law_is_row_1)
    (sRet (cD (.bl true))))) σ S := id rfl
def m__law_is_row : FnS := runF 2 3 b__law_is_row
theorem r__law_is_row {a0 a1 : D} : m__law_is_row [a0, a1] = fin (b__law_is_row [some a0, some a1, none] []) := id rfl
def W_strip_1 : CE := (cAndB (cBin bGt (cVar 1) (cD (.int 0))) (cBin bEq (cBin bIx (cVar 0) (cBin bSub (cVar 1) (cD (.int 1)))) (cD (.int 0))))
theorem W_strip_1_e {σ : Sl} {S : List SO} : W_strip_1 σ S = (cAndB (cBin bGt (cVar 1) (cD (.int 0))) (cBin bEq (cBin bIx (cVar 0) (cBin bSub (cVar 1) (cD (.int 1)))) (cD (.int 0)))) σ S := id rfl
def L_strip_1 : SC := (sAug 1 bSub (cD (.int 1)))
theorem L_strip_1_e {σ : Sl} {S : List SO} : L_strip_1 σ S = (sAug 1 bSub (cD (.int 1))) σ S := id rfl
def b_strip : SC := (sSeq (sAsg 1 (cApp fLen (cCons (cVar 0) cNil)))
    (sSeq (sWhile W_strip_1 L_strip_1)
    (sRet (cApp fTuple (cCons (cCutH (cVar 0) (cVar 1)) cNil)))))
theorem b_strip_e {σ : Sl} {S : List SO} : b_strip σ S = (sSeq (sAsg 1 (cApp fLen (cCons (cVar 0) cNil)))
    (sSeq (sWhile W_strip_1 L_strip_1)
    (sRet (cApp fTuple (cCons (cCutH (cVar 0) (cVar 1)) cNil))))) σ S := id rfl
def m_strip : FnS := runF 1 2 b_strip
theorem r_strip {a0 : D} : m_strip [a0] = fin (b_strip [some a0, none] []) := id rfl
def b__need_equal_sizes : SC := (sSeq (sExpr (cApp (callD m_need_stair) (cCons (cVar 0) cNil)))
    (sSeq (sExpr (cApp (callD m_need_stair) (cCons (cVar 1) cNil)))
    (sIf (cBin bNe (cApp fSum (cCons (cVar 0) cNil)) (cApp fSum (cCons (cVar 1) cNil))) (sRaise 10 (cCons (cD (.str (Str.ofString "sizes"))) cNil)) sSkip)))
theorem b__need_equal_sizes_e {σ : Sl} {S : List SO} : b__need_equal_sizes σ S = (sSeq (sExpr (cApp (callD m_need_stair) (cCons (cVar 0) cNil)))
    (sSeq (sExpr (cApp (callD m_need_stair) (cCons (cVar 1) cNil)))
    (sIf (cBin bNe (cApp fSum (cCons (cVar 0) cNil)) (cApp fSum (cCons (cVar 1) cNil))) (sRaise 10 (cCons (cD (.str (Str.ofString "sizes"))) cNil)) sSkip))) σ S := id rfl
def m__need_equal_sizes : FnS := runF 2 2 b__need_equal_sizes
theorem r__need_equal_sizes {a0 a1 : D} : m__need_equal_sizes [a0, a1] = fin (b__need_equal_sizes [some a0, some a1] []) := id rfl
def L_breach_1 : SC := (sSeq (sAug 2 iAdd (cBin bSub (cApp (callD m_row_of) (cCons (cVar 0) (cCons (cVar 3) cNil))) (cApp (callD m_row_of) (cCons (cVar 1) (cCons (cVar 3) cNil)))))
    (sIf (cBin bLt (cVar 2) (cD (.int 0))) (sRet (cBin bAdd (cVar 3) (cD (.int 1)))) sSkip))
theorem L_breach_1_e {σ : Sl} {S : List SO} : L_breach_1 σ S = (sSeq (sAug 2 iAdd (cBin bSub (cApp (callD m_row_of) (cCons (cVar 0) (cCons (cVar 3) cNil))) (cApp (callD m_row_of) (cCons (cVar 1) (cCons (cVar 3) cNil)))))
    (sIf (cBin bLt (cVar 2) (cD (.int 0))) (sRet (cBin bAdd (cVar 3) (cD (.int 1)))) sSkip)) σ S := id rfl
def b_breach : SC := (sSeq (sExpr (cApp (callD m__need_equal_sizes) (cCons (cVar 0) (cCons (cVar 1) cNil))))
    (sSeq (sAsg 2 (cD (.int 0)))
    (sSeq (sFor (iApp rg1 (cCons (cApp fMax2 (cCons (cApp fLen (cCons (cVar 0) cNil)) (cCons (cApp fLen (cCons (cVar 1) cNil)) cNil))) cNil)) (tgName 3) L_breach_1)
    (sRet (cD .non)))))
theorem b_breach_e {σ : Sl} {S : List SO} : b_breach σ S = (sSeq (sExpr (cApp (callD m__need_equal_sizes) (cCons (cVar 0) (cCons (cVar 1) cNil))))
    (sSeq (sAsg 2 (cD (.int 0)))
    (sSeq (sFor (iApp rg1 (cCons (cApp fMax2 (cCons (cApp fLen (cCons (cVar 0) cNil)) (cCons (cApp fLen (cCons (cVar 1) cNil)) cNil))) cNil)) (tgName 3) L_breach_1)
    (sRet (cD .non))))) σ S := id rfl
def m_breach : FnS := runF 2 4 b_breach
theorem r_breach {a0 a1 : D} : m_breach [a0, a1] = fin (b_breach [some a0, some a1, none, none] []) := id rfl
def b_is_above : SC := (sRet (cBin bIs (cApp (callD m_breach) (cCons (cVar 0) (cCons (cVar 1) cNil))) (cD .non)))
theorem b_is_above_e {σ : Sl} {S : List SO} : b_is_above σ S = (sRet (cBin bIs (cApp (callD m_breach) (cCons (cVar 0) (cCons (cVar 1) cNil))) (cD .non))) σ S := id rfl
def m_is_above : FnS := runF 2 2 b_is_above
theorem r_is_above {a0 a1 : D} : m_is_above [a0, a1] = fin (b_is_above [some a0, some a1] []) := id rfl
def T__step_1 : CE := (cBin bGt (cBin bIx (cVar 0) (cVar 5)) (cBin bIx (cVar 1) (cVar 5)))
theorem T__step_1_e {σ : Sl} {S : List SO} : T__step_1 σ S = (cBin bGt (cBin bIx (cVar 0) (cVar 5)) (cBin bIx (cVar 1) (cVar 5))) σ S := id rfl
def T__step_2 : CE := (cBin bLt (cBin bIx (cVar 0) (cVar 6)) (cBin bIx (cVar 1) (cVar 6)))
theorem T__step_2_e {σ : Sl} {S : List SO} : T__step_2 σ S = (cBin bLt (cBin bIx (cVar 0) (cVar 6)) (cBin bIx (cVar 1) (cVar 6))) σ S := id rfl
def b__step : SC := (sSeq (sAsg 2 (cApp fMaxL (cCons (cComp (iApp rg1 (cCons (cApp fLen (cCons (cVar 0) cNil)) cNil)) (tgName 5) [5] T__step_1 (cVar 5)) cNil)))
    (sSeq (sAsg 3 (cApp fMinL (cCons (cComp (iApp rg2 (cCons (cBin bAdd (cVar 2) (cD (.int 1))) (cCons (cApp fLen (cCons (cVar 0) cNil)) cNil))) (tgName 6) [6] T__step_2 (cVar 6)) cNil)))
    (sSeq (sNew 4 (cApp fList (cCons (cVar 0) cNil)))
    (sSeq (sAugS bSub (cVar 4) (cVar 2) (cD (.int 1)))
    (sSeq (sAugS iAdd (cVar 4) (cVar 3) (cD (.int 1)))
    (sRet (cVar 4)))))))
theorem b__step_e {σ : Sl} {S : List SO} : b__step σ S = (sSeq (sAsg 2 (cApp fMaxL (cCons (cComp (iApp rg1 (cCons (cApp fLen (cCons (cVar 0) cNil)) cNil)) (tgName 5) [5] T__step_1 (cVar 5)) cNil)))
    (sSeq (sAsg 3 (cApp fMinL (cCons (cComp (iApp rg2 (cCons (cBin bAdd (cVar 2) (cD (.int 1))) (cCons (cApp fLen (cCons (cVar 0) cNil)) cNil))) (tgName 6) [6] T__step_2 (cVar 6)) cNil)))
    (sSeq (sNew 4 (cApp fList (cCons (cVar 0) cNil)))
    (sSeq (sAugS bSub (cVar 4) (cVar 2) (cD (.int 1)))
    (sSeq (sAugS iAdd (cVar 4) (cVar 3) (cD (.int 1)))
    (sRet (cVar 4))))))) σ S := id rfl
def m__step : FnS := runF 2 7 b__step
theorem r__step {a0 a1 : D} : m__step [a0, a1] = fin (b__step [some a0, some a1, none, none, none, none, none] []) := id rfl
def E_steps_down_1 : CE := (cApp (callD m_row_of) (cCons (cVar 0) (cCons (cVar 6) cNil)))
theorem E_steps_down_1_e {σ : Sl} {S : List SO} : E_steps_down_1 σ S = (cApp (callD m_row_of) (cCons (cVar 0) (cCons (cVar 6) cNil))) σ S := id rfl
def E_steps_down_2 : CE := (cApp (callD m_row_of) (cCons (cVar 1) (cCons (cVar 6) cNil)))
theorem E_steps_down_2_e {σ : Sl} {S : List SO} : E_steps_down_2 σ S = (cApp (callD m_row_of) (cCons (cVar 1) (cCons (cVar 6) cNil))) σ S := id rfl
def W_steps_down_1 : CE := (cBin bNe (cVar 3) (cVar 4))
theorem W_steps_down_1_e {σ : Sl} {S : List SO} : W_steps_down_1 σ S = (cBin bNe (cVar 3) (cVar 4)) σ S := id rfl
def L_steps_down_1 : SC := (sSeq (sAsg 3 (cApp (callD m__step) (cCons (cVar 3) (cCons (cVar 4) cNil))))
    (sMethE mAppend (cVar 5) (cCons (cApp (callD m_strip) (cCons (cVar 3) cNil)) cNil)))
theorem L_steps_down_1_e {σ : Sl} {S : List SO} : L_steps_down_1 σ S = (sSeq (sAsg 3 (cApp (callD m__step) (cCons (cVar 3) (cCons (cVar 4) cNil))))
    (sMethE mAppend (cVar 5) (cCons (cApp (callD m_strip) (cCons (cVar 3) cNil)) cNil))) σ S := id rfl
def b_steps_down : SC := (sSeq (sIf (cNotB (cTru (cApp (callD m_is_above) (cCons (cVar 0) (cCons (cVar 1) cNil))))) (sRet (cD .non)) sSkip)
    (sSeq (sAsg 2 (cApp fMax2 (cCons (cApp fLen (cCons (cVar 0) cNil)) (cCons (cApp fLen (cCons (cVar 1) cNil)) cNil))))
    (sSeq (sAsg 3 (cComp (iApp rg1 (cCons (cVar 2) cNil)) (tgName 6) [6] cTrue E_steps_down_1))
    (sSeq (sAsg 4 (cComp (iApp rg1 (cCons (cVar 2) cNil)) (tgName 6) [6] cTrue E_steps_down_2))
    (sSeq (sNew 5 (cApp fLst (cCons (cApp (callD m_strip) (cCons (cVar 3) cNil)) cNil)))
    (sSeq (sWhile W_steps_down_1 L_steps_down_1)
    (sRet (cApp fTuple (cCons (cVar 5) cNil)))))))))
theorem b_steps_down_e {σ : Sl} {S : List SO} : b_steps_down σ S = (sSeq (sIf (cNotB (cTru (cApp (callD m_is_above) (cCons (cVar 0) (cCons (cVar 1) cNil))))) (sRet (cD .non)) sSkip)
    (sSeq (sAsg 2 (cApp fMax2 (cCons (cApp fLen (cCons (cVar 0) cNil)) (cCons (cApp fLen (cCons (cVar 1) cNil)) cNil))))
    (sSeq (sAsg 3 (cComp (iApp rg1 (cCons (cVar 2) cNil)) (tgName 6) [6] cTrue E_steps_down_1))
    (sSeq (sAsg 4 (cComp (iApp rg1 (cCons (cVar 2) cNil)) (tgName 6) [6] cTrue E_steps_down_2))
    (sSeq (sNew 5 (cApp fLst (cCons (cApp (callD m_strip) (cCons (cVar 3) cNil)) cNil)))
    (sSeq (sWhile W_steps_down_1 L_steps_down_1)
    (sRet (cApp fTuple (cCons (cVar 5) cNil))))))))) σ S := id rfl
def m_steps_down : FnS := runF 2 7 b_steps_down
theorem r_steps_down {a0 a1 : D} : m_steps_down [a0, a1] = fin (b_steps_down [some a0, some a1, none, none, none, none, none] []) := id rfl
def b_is_number : SC := (sRet (cAnd (cApp (callD m_is_integer) (cCons (cVar 0) cNil)) (cBin bGe (cVar 0) (cD (.int 0)))))
theorem b_is_number_e {σ : Sl} {S : List SO} : b_is_number σ S = (sRet (cAnd (cApp (callD m_is_integer) (cCons (cVar 0) cNil)) (cBin bGe (cVar 0) (cD (.int 0))))) σ S := id rfl
def m_is_number : FnS := runF 1 1 b_is_number
theorem r_is_number {a0 : D} : m_is_number [a0] = fin (b_is_number [some a0] []) := id rfl
def L__need_numbers_1 : SC := (sIf (cNotB (cTru (cApp (callD m_is_number) (cCons (cVar 1) cNil)))) (sRaise 1 (cCons (cVar 1) cNil)) sSkip)
theorem L__need_numbers_1_e {σ : Sl} {S : List SO} : L__need_numbers_1 σ S = (sIf (cNotB (cTru (cApp (callD m_is_number) (cCons (cVar 1) cNil)))) (sRaise 1 (cCons (cVar 1) cNil)) sSkip) σ S := id rfl
def b__need_numbers : SC := (sFor (iVal (cVar 0)) (tgName 1) L__need_numbers_1)
theorem b__need_numbers_e {σ : Sl} {S : List SO} : b__need_numbers σ S = (sFor (iVal (cVar 0)) (tgName 1) L__need_numbers_1) σ S := id rfl
def m__need_numbers : FnS := runF 1 2 b__need_numbers
theorem r__need_numbers {a0 : D} : m__need_numbers [a0] = fin (b__need_numbers [some a0, none] []) := id rfl
def L__next_counts_1 : SC := (sAugS iAdd (cVar 5) (cVar 6) (cBin bIx (cVar 4) (cBin bSub (cVar 6) (cVar 1))))
theorem L__next_counts_1_e {σ : Sl} {S : List SO} : L__next_counts_1 σ S = (sAugS iAdd (cVar 5) (cVar 6) (cBin bIx (cVar 4) (cBin bSub (cVar 6) (cVar 1)))) σ S := id rfl
def L__next_counts_2 : SC := (sFrz (sSeq (sAsg 4 (cBin bIx (cVar 2) (cBin bSub (cVar 3) (cD (.int 1)))))
    (sSeq (sNew 5 (cApp fList (cCons (cBin bIx (cVar 0) (cVar 3)) cNil)))
    (sSeq (sFor (iApp rg2 (cCons (cVar 1) (cCons (cApp fLen (cCons (cVar 5) cNil)) cNil))) (tgName 6) L__next_counts_1)
    (sMethE mAppend (cVar 2) (cCons (cVar 5) cNil))))))
theorem L__next_counts_2_e {σ : Sl} {S : List SO} : L__next_counts_2 σ S = (sFrz (sSeq (sAsg 4 (cBin bIx (cVar 2) (cBin bSub (cVar 3) (cD (.int 1)))))
    (sSeq (sNew 5 (cApp fList (cCons (cBin bIx (cVar 0) (cVar 3)) cNil)))
    (sSeq (sFor (iApp rg2 (cCons (cVar 1) (cCons (cApp fLen (cCons (cVar 5) cNil)) cNil))) (tgName 6) L__next_counts_1)
    (sMethE mAppend (cVar 2) (cCons (cVar 5) cNil)))))) σ S := id rfl
def b__next_counts : SC := (sSeq (sNew 2 (cApp fLst (cCons (cApp fList (cCons (cBin bIx (cVar 0) (cD (.int 0))) cNil)) cNil)))
    (sSeq (sFor (iApp rg2 (cCons (cD (.int 1)) (cCons (cApp fLen (cCons (cVar 0) cNil)) cNil))) (tgName 3) L__next_counts_2)
    (sRet (cVar 2))))
theorem b__next_counts_e {σ : Sl} {S : List SO} : b__next_counts σ S = (sSeq (sNew 2 (cApp fLst (cCons (cApp fList (cCons (cBin bIx (cVar 0) (cD (.int 0))) cNil)) cNil)))
    (sSeq (sFor (iApp rg2 (cCons (cD (.int 1)) (cCons (cApp fLen (cCons (cVar 0) cNil)) cNil))) (tgName 3) L__next_counts_2)
    (sRet (cVar 2)))) σ S := id rfl
def m__next_counts : FnS := runF 2 7 b__next_counts
theorem r__next_counts {a0 a1 : D} : m__next_counts [a0, a1] = fin (b__next_counts [some a0, some a1, none, none, none, none, none] []) := id rfl
def E__all_counts_1 : CE := (cBin bAdd (cApp fLst (cCons (cD (.int 1)) cNil)) (cBin bMul (cApp fLst (cCons (cD (.int 0)) cNil)) (cVar 0)))
theorem E__all_counts_1_e {σ : Sl} {S : List SO} : E__all_counts_1 σ S = (cBin bAdd (cApp fLst (cCons (cD (.int 1)) cNil)) (cBin bMul (cApp fLst (cCons (cD (.int 0)) cNil)) (cVar 0))) σ S := id rfl
def L__all_counts_1 : SC := (sMethE mAppend (cVar 3) (cCons (cApp (callD m__next_counts) (cCons (cBin bIx (cVar 3) (cBin bSub (cVar 4) (cD (.int 1)))) (cCons (cVar 4) cNil))) cNil))
theorem L__all_counts_1_e {σ : Sl} {S : List SO} : L__all_counts_1 σ S = (sMethE mAppend (cVar 3) (cCons (cApp (callD m__next_counts) (cCons (cBin bIx (cVar 3) (cBin bSub (cVar 4) (cD (.int 1)))) (cCons (cVar 4) cNil))) cNil)) σ S := id rfl
def b__all_counts : SC := (sSeq (sNew 3 (cApp fLst (cCons (cComp (iApp rg1 (cCons (cBin bAdd (cVar 1) (cD (.int 1))) cNil)) (tgName 5) [5] cTrue E__all_counts_1) cNil)))
    (sSeq (sFor (iApp rg2 (cCons (cD (.int 1)) (cCons (cBin bAdd (cVar 2) (cD (.int 1))) cNil))) (tgName 4) L__all_counts_1)
    (sRet (cVar 3))))
theorem b__all_counts_e {σ : Sl} {S : List SO} : b__all_counts σ S = (sSeq (sNew 3 (cApp fLst (cCons (cComp (iApp rg1 (cCons (cBin bAdd (cVar 1) (cD (.int 1))) cNil)) (tgName 5) [5] cTrue E__all_counts_1) cNil)))
    (sSeq (sFor (iApp rg2 (cCons (cD (.int 1)) (cCons (cBin bAdd (cVar 2) (cD (.int 1))) cNil))) (tgName 4) L__all_counts_1)
    (sRet (cVar 3)))) σ S := id rfl
def m__all_counts : FnS := runF 3 6 b__all_counts
theorem r__all_counts {a0 a1 a2 : D} : m__all_counts [a0, a1, a2] = fin (b__all_counts [some a0, some a1, some a2, none, none, none] []) := id rfl
def b_count_stairs : SC := (sSeq (sExpr (cApp (callD m__need_numbers) (cCons (cApp fTup (cCons (cVar 0) (cCons (cVar 1) (cCons (cVar 2) cNil)))) cNil)))
    (sSeq (sAsg 3 (cApp fMin2 (cCons (cVar 1) (cCons (cVar 0) cNil))))
    (sSeq (sAsg 4 (cApp fMin2 (cCons (cVar 2) (cCons (cVar 0) cNil))))
    (sSeq (sIf (cBin bGt (cVar 0) (cBin bMul (cVar 3) (cVar 4))) (sRet (cD (.int 0))) sSkip)
    (sRet (cBin bIx (cBin bIx (cBin bIx (cApp (callD m__all_counts) (cCons (cVar 0) (cCons (cVar 3) (cCons (cVar 4) cNil)))) (cVar 4)) (cVar 3)) (cVar 0)))))))
theorem b_count_stairs_e {σ : Sl} {S : List SO} : b_count_stairs σ S = (sSeq (sExpr (cApp (callD m__need_numbers) (cCons (cApp fTup (cCons (cVar 0) (cCons (cVar 1) (cCons (cVar 2) cNil)))) cNil)))
    (sSeq (sAsg 3 (cApp fMin2 (cCons (cVar 1) (cCons (cVar 0) cNil))))
    (sSeq (sAsg 4 (cApp fMin2 (cCons (cVar 2) (cCons (cVar 0) cNil))))
    (sSeq (sIf (cBin bGt (cVar 0) (cBin bMul (cVar 3) (cVar 4))) (sRet (cD (.int 0))) sSkip)
    (sRet (cBin bIx (cBin bIx (cBin bIx (cApp (callD m__all_counts) (cCons (cVar 0) (cCons (cVar 3) (cCons (cVar 4) cNil)))) (cVar 4)) (cVar 3)) (cVar 0))))))) σ S := id rfl
def m_count_stairs : FnS := runF 3 5 b_count_stairs
theorem r_count_stairs {a0 a1 a2 : D} : m_count_stairs [a0, a1, a2] = fin (b_count_stairs [some a0, some a1, some a2, none, none] []) := id rfl
def W_stair_at_1 : CE := (cBin bGt (cVar 7) (cD (.int 0)))
theorem W_stair_at_1_e {σ : Sl} {S : List SO} : W_stair_at_1 σ S = (cBin bGt (cVar 7) (cD (.int 0))) σ S := id rfl
def L_stair_at_1 : SC := (sSeq (sAsg 5 (cApp fMin2 (cCons (cVar 5) (cCons (cVar 7) cNil))))
    (sSeq (sAsg 9 (cBin bIx (cBin bIx (cBin bIx (cVar 6) (cVar 5)) (cBin bSub (cVar 4) (cD (.int 1)))) (cBin bSub (cVar 7) (cVar 5))))
    (sIf (cBin bLt (cVar 3) (cVar 9)) (sSeq (sMethE mAppend (cVar 8) (cCons (cVar 5) cNil))
    (sSeq (sAug 7 bSub (cVar 5))
    (sAug 4 bSub (cD (.int 1))))) (sSeq (sAug 3 bSub (cVar 9))
    (sAug 5 bSub (cD (.int 1)))))))
theorem L_stair_at_1_e {σ : Sl} {S : List SO} : L_stair_at_1 σ S = (sSeq (sAsg 5 (cApp fMin2 (cCons (cVar 5) (cCons (cVar 7) cNil))))
    (sSeq (sAsg 9 (cBin bIx (cBin bIx (cBin bIx (cVar 6) (cVar 5)) (cBin bSub (cVar 4) (cD (.int 1)))) (cBin bSub (cVar 7) (cVar 5))))
    (sIf (cBin bLt (cVar 3) (cVar 9)) (sSeq (sMethE mAppend (cVar 8) (cCons (cVar 5) cNil))
    (sSeq (sAug 7 bSub (cVar 5))
    (sAug 4 bSub (cD (.int 1))))) (sSeq (sAug 3 bSub (cVar 9))
    (sAug 5 bSub (cD (.int 1))))))) σ S := id rfl
def b_stair_at : SC := (sSeq (sExpr (cApp (callD m__need_numbers) (cCons (cApp fTup (cCons (cVar 0) (cCons (cVar 1) (cCons (cVar 2) (cCons (cVar 3) cNil))))) cNil)))
    (sSeq (sAsg 4 (cApp fMin2 (cCons (cVar 1) (cCons (cVar 0) cNil))))
    (sSeq (sAsg 5 (cApp fMin2 (cCons (cVar 2) (cCons (cVar 0) cNil))))
    (sSeq (sIf (cBin bGt (cVar 0) (cBin bMul (cVar 4) (cVar 5))) (sRaise 10 (cCons (cD (.str (Str.ofString "place"))) cNil)) sSkip)
    (sSeq (sAsg 6 (cApp (callD m__all_counts) (cCons (cVar 0) (cCons (cVar 4) (cCons (cVar 5) cNil)))))
    (sSeq (sIf (cBin bGe (cVar 3) (cBin bIx (cBin bIx (cBin bIx (cVar 6) (cVar 5)) (cVar 4)) (cVar 0))) (sRaise 10 (cCons (cD (.str (Str.ofString "place"))) cNil)) sSkip)
    (sSeq (sAsg 7 (cVar 0))
    (sSeq (sNew 8 (cApp fLst cNil))
    (sSeq (sWhile W_stair_at_1 L_stair_at_1)
    (sRet (cApp fTuple (cCons (cVar 8) cNil))))))))))))
theorem b_stair_at_e {σ : Sl} {S : List SO} : b_stair_at σ S = (sSeq (sExpr (cApp (callD m__need_numbers) (cCons (cApp fTup (cCons (cVar 0) (cCons (cVar 1) (cCons (cVar 2) (cCons (cVar 3) cNil))))) cNil)))
    (sSeq (sAsg 4 (cApp fMin2 (cCons (cVar 1) (cCons (cVar 0) cNil))))
    (sSeq (sAsg 5 (cApp fMin2 (cCons (cVar 2) (cCons (cVar 0) cNil))))
    (sSeq (sIf (cBin bGt (cVar 0) (cBin bMul (cVar 4) (cVar 5))) (sRaise 10 (cCons (cD (.str (Str.ofString "place"))) cNil)) sSkip)
    (sSeq (sAsg 6 (cApp (callD m__all_counts) (cCons (cVar 0) (cCons (cVar 4) (cCons (cVar 5) cNil)))))
    (sSeq (sIf (cBin bGe (cVar 3) (cBin bIx (cBin bIx (cBin bIx (cVar 6) (cVar 5)) (cVar 4)) (cVar 0))) (sRaise 10 (cCons (cD (.str (Str.ofString "place"))) cNil)) sSkip)
    (sSeq (sAsg 7 (cVar 0))
    (sSeq (sNew 8 (cApp fLst cNil))
    (sSeq (sWhile W_stair_at_1 L_stair_at_1)
    (sRet (cApp fTuple (cCons (cVar 8) cNil)))))))))))) σ S := id rfl
def m_stair_at : FnS := runF 4 10 b_stair_at
theorem r_stair_at {a0 a1 a2 a3 : D} : m_stair_at [a0, a1, a2, a3] = fin (b_stair_at [some a0, some a1, some a2, some a3, none, none, none, none, none, none] []) := id rfl
def L_place_of_1 : SC := (sAug 7 iAdd (cBin bIx (cBin bIx (cBin bIx (cVar 6) (cVar 9)) (cBin bSub (cVar 4) (cD (.int 1)))) (cBin bSub (cVar 3) (cVar 9))))
theorem L_place_of_1_e {σ : Sl} {S : List SO} : L_place_of_1 σ S = (sAug 7 iAdd (cBin bIx (cBin bIx (cBin bIx (cVar 6) (cVar 9)) (cBin bSub (cVar 4) (cD (.int 1)))) (cBin bSub (cVar 3) (cVar 9)))) σ S := id rfl
def L_place_of_2 : SC := (sSeq (sFor (iApp rg2 (cCons (cBin bAdd (cVar 8) (cD (.int 1))) (cCons (cBin bAdd (cApp fMin2 (cCons (cVar 5) (cCons (cVar 3) cNil))) (cD (.int 1))) cNil))) (tgName 9) L_place_of_1)
    (sSeq (sAsg 5 (cVar 8))
    (sSeq (sAug 3 bSub (cVar 8))
    (sAug 4 bSub (cD (.int 1))))))
theorem L_place_of_2_e {σ : Sl} {S : List SO} : L_place_of_2 σ S = (sSeq (sFor (iApp rg2 (cCons (cBin bAdd (cVar 8) (cD (.int 1))) (cCons (cBin bAdd (cApp fMin2 (cCons (cVar 5) (cCons (cVar 3) cNil))) (cD (.int 1))) cNil))) (tgName 9) L_place_of_1)
    (sSeq (sAsg 5 (cVar 8))
    (sSeq (sAug 3 bSub (cVar 8))
    (sAug 4 bSub (cD (.int 1)))))) σ S := id rfl
def b_place_of : SC := (sSeq (sExpr (cApp (callD m_need_stair) (cCons (cVar 0) cNil)))
    (sSeq (sIf (cOrB (cBin bGt (cApp fLen (cCons (cVar 0) cNil)) (cVar 1)) (cAndB (cBin bGt (cApp fLen (cCons (cVar 0) cNil)) (cD (.int 0))) (cBin bGt (cBin bIx (cVar 0) (cD (.int 0))) (cVar 2)))) (sRaise 10 (cCons (cD (.str (Str.ofString "box"))) cNil)) sSkip)
    (sSeq (sAsg 3 (cApp fSum (cCons (cVar 0) cNil)))
    (sSeq (sAsg 4 (cApp fMin2 (cCons (cVar 1) (cCons (cVar 3) cNil))))
    (sSeq (sAsg 5 (cApp fMin2 (cCons (cVar 2) (cCons (cVar 3) cNil))))
    (sSeq (sAsg 6 (cApp (callD m__all_counts) (cCons (cVar 3) (cCons (cVar 4) (cCons (cVar 5) cNil)))))
    (sSeq (sAsg 7 (cD (.int 0)))
    (sSeq (sFor (iVal (cVar 0)) (tgName 8) L_place_of_2)
    (sRet (cVar 7))))))))))
theorem b_place_of_e {σ : Sl} {S : List SO} : b_place_of σ S = (sSeq (sExpr (cApp (callD m_need_stair) (cCons (cVar 0) cNil)))
    (sSeq (sIf (cOrB (cBin bGt (cApp fLen (cCons (cVar 0) cNil)) (cVar 1)) (cAndB (cBin bGt (cApp fLen (cCons (cVar 0) cNil)) (cD (.int 0))) (cBin bGt (cBin bIx (cVar 0) (cD (.int 0))) (cVar 2)))) (sRaise 10 (cCons (cD (.str (Str.ofString "box"))) cNil)) sSkip)
    (sSeq (sAsg 3 (cApp fSum (cCons (cVar 0) cNil)))
    (sSeq (sAsg 4 (cApp fMin2 (cCons (cVar 1) (cCons (cVar 3) cNil))))
    (sSeq (sAsg 5 (cApp fMin2 (cCons (cVar 2) (cCons (cVar 3) cNil))))
    (sSeq (sAsg 6 (cApp (callD m__all_counts) (cCons (cVar 3) (cCons (cVar 4) (cCons (cVar 5) cNil)))))
    (sSeq (sAsg 7 (cD (.int 0)))
    (sSeq (sFor (iVal (cVar 0)) (tgName 8) L_place_of_2)
    (sRet (cVar 7)))))))))) σ S := id rfl
def m_place_of : FnS := runF 3 10 b_place_of
theorem r_place_of {a0 a1 a2 : D} : m_place_of [a0, a1, a2] = fin (b_place_of [some a0, some a1, some a2, none, none, none, none, none, none, none] []) := id rfl
def b__law_is_number : SC := (sRet (cAnd (cApp (fIsi [.int]) (cCons (cVar 0) cNil)) (cAnd (cNot (cApp (fIsi [.bool]) (cCons (cVar 0) cNil))) (cBin bEq (cVar 0) (cVar 1)))))
theorem b__law_is_number_e {σ : Sl} {S : List SO} : b__law_is_number σ S = (sRet (cAnd (cApp (fIsi [.int]) (cCons (cVar 0) cNil)) (cAnd (cNot (cApp (fIsi [.bool]) (cCons (cVar 0) cNil))) (cBin bEq (cVar 0) (cVar 1))))) σ S := id rfl
def m__law_is_number : FnS := runF 2 2 b__law_is_number
theorem r__law_is_number {a0 a1 : D} : m__law_is_number [a0, a1] = fin (b__law_is_number [some a0, some a1] []) := id rfl
def b_as_tuple : SC := (sSeq (sIf (cTru (cApp (fIsi [.lst, .tup]) (cCons (cVar 0) cNil))) (sRet (cApp fTuple (cCons (cVar 0) cNil))) sSkip)
    (sRet (cD .non)))
theorem b_as_tuple_e {σ : Sl} {S : List SO} : b_as_tuple σ S = (sSeq (sIf (cTru (cApp (fIsi [.lst, .tup]) (cCons (cVar 0) cNil))) (sRet (cApp fTuple (cCons (cVar 0) cNil))) sSkip)
    (sRet (cD .non))) σ S := id rfl
def m_as_tuple : FnS := runF 1 1 b_as_tuple
theorem r_as_tuple {a0 : D} : m_as_tuple [a0] = fin (b_as_tuple [some a0] []) := id rfl
def E_as_numbers_1 : CE := (cApp (callD m_is_number) (cCons (cVar 2) cNil))
theorem E_as_numbers_1_e {σ : Sl} {S : List SO} : E_as_numbers_1 σ S = (cApp (callD m_is_number) (cCons (cVar 2) cNil)) σ S := id rfl
def b_as_numbers : SC := (sSeq (sAsg 1 (cApp (callD m_as_tuple) (cCons (cVar 0) cNil)))
    (sSeq (sIf (cOrB (cBin bIs (cVar 1) (cD .non)) (cNotB (cTru (cApp fAll (cCons (cComp (iVal (cVar 1)) (tgName 2) [2] cTrue E_as_numbers_1) cNil))))) (sRet (cD .non)) sSkip)
    (sRet (cVar 1))))
theorem b_as_numbers_e {σ : Sl} {S : List SO} : b_as_numbers σ S = (sSeq (sAsg 1 (cApp (callD m_as_tuple) (cCons (cVar 0) cNil)))
    (sSeq (sIf (cOrB (cBin bIs (cVar 1) (cD .non)) (cNotB (cTru (cApp fAll (cCons (cComp (iVal (cVar 1)) (tgName 2) [2] cTrue E_as_numbers_1) cNil))))) (sRet (cD .non)) sSkip)
    (sRet (cVar 1)))) σ S := id rfl
def m_as_numbers : FnS := runF 1 3 b_as_numbers
theorem r_as_numbers {a0 : D} : m_as_numbers [a0] = fin (b_as_numbers [some a0, none, none] []) := id rfl
def b__sums_of : SC := (sSeq (sAsg 2 (cApp (callD m_as_numbers) (cCons (cVar 0) cNil)))
    (sSeq (sIf (cBin bIs (cVar 2) (cD .non)) (sRaise 5 (cCons (cD (.str (Str.ofString "rows"))) cNil)) sSkip)
    (sSeq (sAsg 3 (cApp (callD m_as_numbers) (cCons (cVar 1) cNil)))
    (sSeq (sIf (cBin bIs (cVar 3) (cD .non)) (sRaise 5 (cCons (cD (.str (Str.ofString "columns"))) cNil)) sSkip)
    (sRet (cApp fTup (cCons (cVar 2) (cCons (cVar 3) cNil))))))))
theorem b__sums_of_e {σ : Sl} {S : List SO} : b__sums_of σ S = (sSeq (sAsg 2 (cApp (callD m_as_numbers) (cCons (cVar 0) cNil)))
    (sSeq (sIf (cBin bIs (cVar 2) (cD .non)) (sRaise 5 (cCons (cD (.str (Str.ofString "rows"))) cNil)) sSkip)
    (sSeq (sAsg 3 (cApp (callD m_as_numbers) (cCons (cVar 1) cNil)))
    (sSeq (sIf (cBin bIs (cVar 3) (cD .non)) (sRaise 5 (cCons (cD (.str (Str.ofString "columns"))) cNil)) sSkip)
    (sRet (cApp fTup (cCons (cVar 2) (cCons (cVar 3) cNil)))))))) σ S := id rfl
def m__sums_of : FnS := runF 2 4 b__sums_of
theorem r__sums_of {a0 a1 : D} : m__sums_of [a0, a1] = fin (b__sums_of [some a0, some a1, none, none] []) := id rfl
def E__breach_1 : CE := (cApp fMin2 (cCons (cBin bAdd (cVar 3) (cD (.int 1))) (cCons (cVar 5) cNil)))
theorem E__breach_1_e {σ : Sl} {S : List SO} : E__breach_1 σ S = (cApp fMin2 (cCons (cBin bAdd (cVar 3) (cD (.int 1))) (cCons (cVar 5) cNil))) σ S := id rfl
def L__breach_1 : SC := (sSeq (sAug 2 iAdd (cVar 4))
    (sIf (cBin bGt (cVar 2) (cApp fSum (cCons (cComp (iVal (cVar 1)) (tgName 5) [5] cTrue E__breach_1) cNil))) (sRet (cBin bAdd (cVar 3) (cD (.int 1)))) sSkip))
theorem L__breach_1_e {σ : Sl} {S : List SO} : L__breach_1 σ S = (sSeq (sAug 2 iAdd (cVar 4))
    (sIf (cBin bGt (cVar 2) (cApp fSum (cCons (cComp (iVal (cVar 1)) (tgName 5) [5] cTrue E__breach_1) cNil))) (sRet (cBin bAdd (cVar 3) (cD (.int 1)))) sSkip)) σ S := id rfl
def b__breach : SC := (sSeq (sIf (cBin bNe (cApp fSum (cCons (cVar 0) cNil)) (cApp fSum (cCons (cVar 1) cNil))) (sRet (cD (.str (Str.ofString "sums")))) sSkip)
    (sSeq (sAsg 2 (cD (.int 0)))
    (sSeq (sFor (iApp enI (cCons (cApp (fSortedS true) (cCons (cVar 0) cNil)) cNil)) (tgTup 2 (tgCons (tgName 3) (tgCons (tgName 4) tgNil))) L__breach_1)
    (sRet (cD .non)))))
theorem b__breach_e {σ : Sl} {S : List SO} : b__breach σ S = (sSeq (sIf (cBin bNe (cApp fSum (cCons (cVar 0) cNil)) (cApp fSum (cCons (cVar 1) cNil))) (sRet (cD (.str (Str.ofString "sums")))) sSkip)
    (sSeq (sAsg 2 (cD (.int 0)))
    (sSeq (sFor (iApp enI (cCons (cApp (fSortedS true) (cCons (cVar 0) cNil)) cNil)) (tgTup 2 (tgCons (tgName 3) (tgCons (tgName 4) tgNil))) L__breach_1)
    (sRet (cD .non))))) σ S := id rfl
def m__breach : FnS := runF 2 6 b__breach
theorem r__breach {a0 a1 : D} : m__breach [a0, a1] = fin (b__breach [some a0, some a1, none, none, none, none] []) := id rfl
def b_grid_breach : SC := (sSeq (sAsgT (tgTup 2 (tgCons (tgName 2) (tgCons (tgName 3) tgNil))) (cApp (callD m__sums_of) (cCons (cVar 0) (cCons (cVar 1) cNil))))
    (sRet (cApp (callD m__breach) (cCons (cVar 2) (cCons (cVar 3) cNil)))))
theorem b_grid_breach_e {σ : Sl} {S : List SO} : b_grid_breach σ S = (sSeq (sAsgT (tgTup 2 (tgCons (tgName 2) (tgCons (tgName 3) tgNil))) (cApp (callD m__sums_of) (cCons (cVar 0) (cCons (cVar 1) cNil))))
    (sRet (cApp (callD m__breach) (cCons (cVar 2) (cCons (cVar 3) cNil))))) σ S := id rfl
def m_grid_breach : FnS := runF 2 4 b_grid_breach
theorem r_grid_breach {a0 a1 : D} : m_grid_breach [a0, a1] = fin (b_grid_breach [some a0, some a1, none, none] []) := id rfl
def E_grid_1 : CE := (cApp fTup (cCons (cNeg (cVar 11)) (cCons (cVar 10) cNil)))
theorem E_grid_1_e {σ : Sl} {S : List SO} : E_grid_1 σ S = (cApp fTup (cCons (cNeg (cVar 11)) (cCons (cVar 10) cNil))) σ S := id rfl
def L_grid_1 : SC := (sSeq (sSub (cD (.int 1)) (cVar 8) (cVar 10))
    (sAugS bSub (cVar 2) (cVar 10) (cD (.int 1))))
theorem L_grid_1_e {σ : Sl} {S : List SO} : L_grid_1 σ S = (sSeq (sSub (cD (.int 1)) (cVar 8) (cVar 10))
    (sAugS bSub (cVar 2) (cVar 10) (cD (.int 1)))) σ S := id rfl
def L_grid_2 : SC := (sFrz (sSeq (sAsg 7 (cApp fSortedP (cCons (cComp (iApp enI (cCons (cVar 2) cNil)) (tgTup 2 (tgCons (tgName 10) (tgCons (tgName 11) tgNil))) [10, 11] cTrue E_grid_1) cNil)))
    (sSeq (sNew 8 (cBin bMul (cApp fLst (cCons (cD (.int 0)) cNil)) (cApp fLen (cCons (cVar 2) cNil))))
    (sSeq (sFor (iVal (cCutH (cVar 7) (cVar 4))) (tgTup 2 (tgCons (tgName 9) (tgCons (tgName 10) tgNil))) L_grid_1)
    (sMethE mAppend (cVar 3) (cCons (cApp fTuple (cCons (cVar 8) cNil)) cNil))))))
theorem L_grid_2_e {σ : Sl} {S : List SO} : L_grid_2 σ S = (sFrz (sSeq (sAsg 7 (cApp fSortedP (cCons (cComp (iApp enI (cCons (cVar 2) cNil)) (tgTup 2 (tgCons (tgName 10) (tgCons (tgName 11) tgNil))) [10, 11] cTrue E_grid_1) cNil)))
    (sSeq (sNew 8 (cBin bMul (cApp fLst (cCons (cD (.int 0)) cNil)) (cApp fLen (cCons (cVar 2) cNil))))
    (sSeq (sFor (iVal (cCutH (cVar 7) (cVar 4))) (tgTup 2 (tgCons (tgName 9) (tgCons (tgName 10) tgNil))) L_grid_1)
    (sMethE mAppend (cVar 3) (cCons (cApp fTuple (cCons (cVar 8) cNil)) cNil)))))) σ S := id rfl
def b_grid : SC := (sSeq (sAsgT (tgTup 2 (tgCons (tgName 5) (tgCons (tgName 6) tgNil))) (cApp (callD m__sums_of) (cCons (cVar 0) (cCons (cVar 1) cNil))))
    (sSeq (sIf (cBin bIsNot (cApp (callD m__breach) (cCons (cVar 5) (cCons (cVar 6) cNil))) (cD .non)) (sRet (cD .non)) sSkip)
    (sSeq (sNew 2 (cApp fList (cCons (cVar 6) cNil)))
    (sSeq (sNew 3 (cApp fLst cNil))
    (sSeq (sFor (iVal (cVar 5)) (tgName 4) L_grid_2)
    (sRet (cApp fTuple (cCons (cVar 3) cNil))))))))
theorem b_grid_e {σ : Sl} {S : List SO} : b_grid σ S = (sSeq (sAsgT (tgTup 2 (tgCons (tgName 5) (tgCons (tgName 6) tgNil))) (cApp (callD m__sums_of) (cCons (cVar 0) (cCons (cVar 1) cNil))))
    (sSeq (sIf (cBin bIsNot (cApp (callD m__breach) (cCons (cVar 5) (cCons (cVar 6) cNil))) (cD .non)) (sRet (cD .non)) sSkip)
    (sSeq (sNew 2 (cApp fList (cCons (cVar 6) cNil)))
    (sSeq (sNew 3 (cApp fLst cNil))
    (sSeq (sFor (iVal (cVar 5)) (tgName 4) L_grid_2)
    (sRet (cApp fTuple (cCons (cVar 3) cNil)))))))) σ S := id rfl
def m_grid : FnS := runF 2 12 b_grid
theorem r_grid {a0 a1 : D} : m_grid [a0, a1] = fin (b_grid [some a0, some a1, none, none, none, none, none, none, none, none, none, none] []) := id rfl
def b_size : SC := (sSeq (sExpr (cApp (callD m_need_stair) (cCons (cVar 0) cNil)))
    (sRet (cApp fSum (cCons (cVar 0) cNil))))
theorem b_size_e {σ : Sl} {S : List SO} : b_size σ S = (sSeq (sExpr (cApp (callD m_need_stair) (cCons (cVar 0) cNil)))
    (sRet (cApp fSum (cCons (cVar 0) cNil)))) σ S := id rfl
def m_size : FnS := runF 1 1 b_size
theorem r_size {a0 : D} : m_size [a0] = fin (b_size [some a0] []) := id rfl
def E_contains_1 : CE := (cBin bGe (cApp (callD m_row_of) (cCons (cVar 0) (cCons (cVar 2) cNil))) (cVar 3))
theorem E_contains_1_e {σ : Sl} {S : List SO} : E_contains_1 σ S = (cBin bGe (cApp (callD m_row_of) (cCons (cVar 0) (cCons (cVar 2) cNil))) (cVar 3)) σ S := id rfl
def b_contains : SC := (sSeq (sExpr (cApp (callD m_need_stair) (cCons (cVar 0) cNil)))
    (sSeq (sExpr (cApp (callD m_need_stair) (cCons (cVar 1) cNil)))
    (sRet (cApp fAll (cCons (cComp (iApp enI (cCons (cVar 1) cNil)) (tgTup 2 (tgCons (tgName 2) (tgCons (tgName 3) tgNil))) [2, 3] cTrue E_contains_1) cNil)))))
theorem b_contains_e {σ : Sl} {S : List SO} : b_contains σ S = (sSeq (sExpr (cApp (callD m_need_stair) (cCons (cVar 0) cNil)))
    (sSeq (sExpr (cApp (callD m_need_stair) (cCons (cVar 1) cNil)))
    (sRet (cApp fAll (cCons (cComp (iApp enI (cCons (cVar 1) cNil)) (tgTup 2 (tgCons (tgName 2) (tgCons (tgName 3) tgNil))) [2, 3] cTrue E_contains_1) cNil))))) σ S := id rfl
def m_contains : FnS := runF 2 4 b_contains
theorem r_contains {a0 a1 : D} : m_contains [a0, a1] = fin (b_contains [some a0, some a1, none, none] []) := id rfl
def E_row_changed_1 : CE := (cApp (callD m_row_of) (cCons (cVar 0) (cCons (cVar 4) cNil)))
theorem E_row_changed_1_e {σ : Sl} {S : List SO} : E_row_changed_1 σ S = (cApp (callD m_row_of) (cCons (cVar 0) (cCons (cVar 4) cNil))) σ S := id rfl
def b_row_changed : SC := (sSeq (sNew 3 (cComp (iApp rg1 (cCons (cApp fMax2 (cCons (cApp fLen (cCons (cVar 0) cNil)) (cCons (cBin bAdd (cVar 1) (cD (.int 1))) cNil))) cNil)) (tgName 4) [4] cTrue E_row_changed_1))
    (sSeq (sAugS iAdd (cVar 3) (cVar 1) (cVar 2))
    (sRet (cApp (callD m_strip) (cCons (cVar 3) cNil)))))
theorem b_row_changed_e {σ : Sl} {S : List SO} : b_row_changed σ S = (sSeq (sNew 3 (cComp (iApp rg1 (cCons (cApp fMax2 (cCons (cApp fLen (cCons (cVar 0) cNil)) (cCons (cBin bAdd (cVar 1) (cD (.int 1))) cNil))) cNil)) (tgName 4) [4] cTrue E_row_changed_1))
    (sSeq (sAugS iAdd (cVar 3) (cVar 1) (cVar 2))
    (sRet (cApp (callD m_strip) (cCons (cVar 3) cNil))))) σ S := id rfl
def m_row_changed : FnS := runF 3 5 b_row_changed
theorem r_row_changed {a0 a1 a2 : D} : m_row_changed [a0, a1, a2] = fin (b_row_changed [some a0, some a1, some a2, none, none] []) := id rfl
def T_without_box_1 : CE := (cBin bGt (cVar 2) (cApp (callD m_row_of) (cCons (cVar 0) (cCons (cBin bAdd (cVar 1) (cD (.int 1))) cNil))))
theorem T_without_box_1_e {σ : Sl} {S : List SO} : T_without_box_1 σ S = (cBin bGt (cVar 2) (cApp (callD m_row_of) (cCons (cVar 0) (cCons (cBin bAdd (cVar 1) (cD (.int 1))) cNil)))) σ S := id rfl
def E_without_box_1 : CE := (cApp fTup (cCons (cVar 1) (cCons (cApp (callD m_row_changed) (cCons (cVar 0) (cCons (cVar 1) (cCons (cNeg (cD (.int 1))) cNil)))) cNil)))
theorem E_without_box_1_e {σ : Sl} {S : List SO} : E_without_box_1 σ S = (cApp fTup (cCons (cVar 1) (cCons (cApp (callD m_row_changed) (cCons (cVar 0) (cCons (cVar 1) (cCons (cNeg (cD (.int 1))) cNil)))) cNil))) σ S := id rfl
def b_without_box : SC := (sSeq (sExpr (cApp (callD m_need_stair) (cCons (cVar 0) cNil)))
    (sRet (cApp fTuple (cCons (cComp (iApp enI (cCons (cVar 0) cNil)) (tgTup 2 (tgCons (tgName 1) (tgCons (tgName 2) tgNil))) [1, 2] T_without_box_1 E_without_box_1) cNil))))
theorem b_without_box_e {σ : Sl} {S : List SO} : b_without_box σ S = (sSeq (sExpr (cApp (callD m_need_stair) (cCons (cVar 0) cNil)))
    (sRet (cApp fTuple (cCons (cComp (iApp enI (cCons (cVar 0) cNil)) (tgTup 2 (tgCons (tgName 1) (tgCons (tgName 2) tgNil))) [1, 2] T_without_box_1 E_without_box_1) cNil)))) σ S := id rfl
def m_without_box : FnS := runF 1 3 b_without_box
theorem r_without_box {a0 : D} : m_without_box [a0] = fin (b_without_box [some a0, none, none] []) := id rfl
def T_with_box_1 : CE := (cOrB (cBin bEq (cVar 2) (cD (.int 0))) (cBin bGt (cBin bIx (cVar 0) (cBin bSub (cVar 2) (cD (.int 1)))) (cApp (callD m_row_of) (cCons (cVar 0) (cCons (cVar 2) cNil)))))
theorem T_with_box_1_e {σ : Sl} {S : List SO} : T_with_box_1 σ S = (cOrB (cBin bEq (cVar 2) (cD (.int 0))) (cBin bGt (cBin bIx (cVar 0) (cBin bSub (cVar 2) (cD (.int 1)))) (cApp (callD m_row_of) (cCons (cVar 0) (cCons (cVar 2) cNil))))) σ S := id rfl
def E_with_box_1 : CE := (cApp fTup (cCons (cVar 2) (cCons (cApp (callD m_row_changed) (cCons (cVar 0) (cCons (cVar 2) (cCons (cD (.int 1)) cNil)))) cNil)))
theorem E_with_box_1_e {σ : Sl} {S : List SO} : E_with_box_1 σ S = (cApp fTup (cCons (cVar 2) (cCons (cApp (callD m_row_changed) (cCons (cVar 0) (cCons (cVar 2) (cCons (cD (.int 1)) cNil)))) cNil))) σ S := id rfl
def b_with_box : SC := (sSeq (sExpr (cApp (callD m_need_stair) (cCons (cVar 0) cNil)))
    (sSeq (sAsg 1 (cComp (iApp rg1 (cCons (cBin bAdd (cApp fLen (cCons (cVar 0) cNil)) (cD (.int 1))) cNil)) (tgName 2) [2] T_with_box_1 (cVar 2)))
    (sRet (cApp fTuple (cCons (cComp (iVal (cVar 1)) (tgName 2) [2] cTrue E_with_box_1) cNil)))))
theorem b_with_box_e {σ : Sl} {S : List SO} : b_with_box σ S = (sSeq (sExpr (cApp (callD m_need_stair) (cCons (cVar 0) cNil)))
    (sSeq (sAsg 1 (cComp (iApp rg1 (cCons (cBin bAdd (cApp fLen (cCons (cVar 0) cNil)) (cD (.int 1))) cNil)) (tgName 2) [2] T_with_box_1 (cVar 2)))
    (sRet (cApp fTuple (cCons (cComp (iVal (cVar 1)) (tgName 2) [2] cTrue E_with_box_1) cNil))))) σ S := id rfl
def m_with_box : FnS := runF 1 3 b_with_box
theorem r_with_box {a0 : D} : m_with_box [a0] = fin (b_with_box [some a0, none, none] []) := id rfl
def b__law_next : SC := (sSeq (sIf (cAndB (cBin bLt (cBin bDg (cVar 0) (cD (.str (Str.ofString "digits")))) (cD (.int 1))) (cBin bLt (cBin bDg (cVar 0) (cD (.str (Str.ofString "at")))) (cApp fLen (cCons (cBin bDg (cVar 0) (cD (.str (Str.ofString "cells")))) cNil)))) (sSeq (sAsg 2 (cBin bIx (cBin bDg (cVar 0) (cD (.str (Str.ofString "cells")))) (cBin bDg (cVar 0) (cD (.str (Str.ofString "at"))))))
    (sSeq (sDput (cBin bAdd (cBin bDg (cVar 0) (cD (.str (Str.ofString "at")))) (cD (.int 1))) (cVar 0) (cD (.str (Str.ofString "at"))))
    (sIf (cBin bGe (cVar 2) (cBin bPow (cD (.int 10)) (cD (.int 18)))) (sDput (cVar 2) (cVar 0) (cD (.str (Str.ofString "digits")))) (sDput (cBin bMod (cApp fInt (cCons (cBin bAdd (cBin bAdd (cBin bMul (cBin bDg (cVar 0) (cD (.str (Str.ofString "mix")))) (cD (.int 40503))) (cBin bMul (cVar 2) (cD (.int 9973)))) (cD (.int 17))) cNil)) (cD (.int 2147483629))) (cVar 0) (cD (.str (Str.ofString "mix"))))))) sSkip)
    (sSeq (sIf (cBin bGt (cBin bDg (cVar 0) (cD (.str (Str.ofString "digits")))) (cD (.int 0))) (sSeq (sAsg 3 (cBin bMod (cApp fInt (cCons (cBin bDg (cVar 0) (cD (.str (Str.ofString "digits")))) cNil)) (cVar 1)))
    (sSeq (sDput (cBin bFdiv (cBin bDg (cVar 0) (cD (.str (Str.ofString "digits")))) (cVar 1)) (cVar 0) (cD (.str (Str.ofString "digits"))))
    (sRetX (xL (cVar 3))))) sSkip)
    (sSeq (sDput (cBin bMod (cApp fInt (cCons (cBin bAdd (cBin bMul (cBin bDg (cVar 0) (cD (.str (Str.ofString "mix")))) (cD (.int 48271))) (cD (.int 2531))) cNil)) (cD (.int 2147483647))) (cVar 0) (cD (.str (Str.ofString "mix"))))
    (sRetX (xL (cBin bMod (cBin bFdiv (cApp fInt (cCons (cBin bDg (cVar 0) (cD (.str (Str.ofString "mix")))) cNil)) (cD (.int 97))) (cVar 1)))))))
theorem b__law_next_e {σ : Sl} {S : List SO} : b__law_next σ S = (sSeq (sIf (cAndB (cBin bLt (cBin bDg (cVar 0) (cD (.str (Str.ofString "digits")))) (cD (.int 1))) (cBin bLt (cBin bDg (cVar 0) (cD (.str (Str.ofString "at")))) (cApp fLen (cCons (cBin bDg (cVar 0) (cD (.str (Str.ofString "cells")))) cNil)))) (sSeq (sAsg 2 (cBin bIx (cBin bDg (cVar 0) (cD (.str (Str.ofString "cells")))) (cBin bDg (cVar 0) (cD (.str (Str.ofString "at"))))))
    (sSeq (sDput (cBin bAdd (cBin bDg (cVar 0) (cD (.str (Str.ofString "at")))) (cD (.int 1))) (cVar 0) (cD (.str (Str.ofString "at"))))
    (sIf (cBin bGe (cVar 2) (cBin bPow (cD (.int 10)) (cD (.int 18)))) (sDput (cVar 2) (cVar 0) (cD (.str (Str.ofString "digits")))) (sDput (cBin bMod (cApp fInt (cCons (cBin bAdd (cBin bAdd (cBin bMul (cBin bDg (cVar 0) (cD (.str (Str.ofString "mix")))) (cD (.int 40503))) (cBin bMul (cVar 2) (cD (.int 9973)))) (cD (.int 17))) cNil)) (cD (.int 2147483629))) (cVar 0) (cD (.str (Str.ofString "mix"))))))) sSkip)
    (sSeq (sIf (cBin bGt (cBin bDg (cVar 0) (cD (.str (Str.ofString "digits")))) (cD (.int 0))) (sSeq (sAsg 3 (cBin bMod (cApp fInt (cCons (cBin bDg (cVar 0) (cD (.str (Str.ofString "digits")))) cNil)) (cVar 1)))
    (sSeq (sDput (cBin bFdiv (cBin bDg (cVar 0) (cD (.str (Str.ofString "digits")))) (cVar 1)) (cVar 0) (cD (.str (Str.ofString "digits"))))
    (sRetX (xL (cVar 3))))) sSkip)
    (sSeq (sDput (cBin bMod (cApp fInt (cCons (cBin bAdd (cBin bMul (cBin bDg (cVar 0) (cD (.str (Str.ofString "mix")))) (cD (.int 48271))) (cD (.int 2531))) cNil)) (cD (.int 2147483647))) (cVar 0) (cD (.str (Str.ofString "mix"))))
    (sRetX (xL (cBin bMod (cBin bFdiv (cApp fInt (cCons (cBin bDg (cVar 0) (cD (.str (Str.ofString "mix")))) cNil)) (cD (.int 97))) (cVar 1))))))) σ S := id rfl
def m__law_next : FnX := runX 2 4 b__law_next
theorem r__law_next {a0 a1 : D} {S : List SO} : m__law_next [a0, a1] S = finE S.length (b__law_next [some a0, some a1, none, none] S) := runX_e
end PL

set_option maxRecDepth 100000
namespace PL
open HC

/-! ## what is a stair -/
def goodD : D → Bool
  | .int i => decide (1 ≤ i)
  | _ => false
def typD (d : D) : Prop := ∃ t, tgD [] d = some t
theorem pos_is {d : D} (h : typD d) : m_is_positive [d] = .ok (.bl (goodD d)) false := by
  obtain ⟨t, ht⟩ := h
  cases d with
  | int i => rfl
  | bl b => cases b <;> rfl
  | non => rfl
  | str x => rfl
  | tup xs => rfl
  | lst xs => rfl
  | rol xs => rfl
  | dct ks vs => rfl
  | obj c vs => exact nomatch ht
  | loc n => exact nomatch ht
  | err => exact nomatch ht
def leP : Option Int → Int → Bool
  | none, _ => true
  | some p, z => decide (z ≤ p)
def stairB : Option Int → List D → Bool
  | _, [] => true
  | p, d :: r => goodD d && (leP p (intD d) && stairB (some (intD d)) r)
abbrev stTg : TgF := tgTup 2 (tgCons (tgName 1) (tgCons (tgName 2) tgNil))
theorem typ_pure {d : D} (h : typD d) : d.pure = true := by
  obtain ⟨t, ht⟩ := h
  cases d <;> first | rfl | exact nomatch ht
theorem stair_loop (xs : List D) (hx : ∀ d ∈ xs, typD d) : ∀ (rest : List D) (i : Nat) (p : Option Int) (a b : Option D), xs.drop i = rest → (match p with | none => i = 0 | some q => ∃ j, i = j + 1 ∧ gets xs j = some (.int q)) →
    (stairB p rest = true → ∃ σ', forL stTg L_is_stair_1 (enumD i rest) [some (.tup xs), a, b] [] = .nx σ' []) ∧ (stairB p rest = false → forL stTg L_is_stair_1 (enumD i rest) [some (.tup xs), a, b] [] = .rt (.bl false) false)
  | [], i, p, a, b, _, _ => ⟨fun _ => ⟨_, rfl⟩, fun h => nomatch h⟩
  | d :: rest, i, p, a, b, hd, hp => by
    have hg : gets xs i = some d := by
      rw [gets_eq, ← List.head?_drop, hd]
      rfl
    have td : typD d := hx d (List.mem_of_mem_drop (hd ▸ List.mem_cons_self ..))
    have hr : xs.drop (i + 1) = rest := by rw [← List.tail_drop, hd]; rfl
    have t1 : (cNotB (cTru (cApp (callD m_is_positive) (cCons (cVar 2) cNil)))) [some (.tup xs), some (.int i), some d] [] = .ok (.bl (!goodD d)) false := by
      have e : cApp (callD m_is_positive) (cCons (cVar 2) cNil) [some (.tup xs), some (.int i), some d] [] = .ok (.bl (goodD d)) false := call_d (ds := [d]) rfl (by show (d.pure && true) = true; rw [typ_pure td]; rfl) (pos_is td)
      unfold cNotB cTru
      simp only [e, truth]
    cases g : goodD d with
    | false =>
      refine ⟨fun h => ?_, fun _ => ?_⟩
      · unfold stairB at h
        rw [g] at h
        exact nomatch h
      · rw [g] at t1
        show (match L_is_stair_1 [some (.tup xs), some (.int i), some d] [] with | .nx σ2 S2 => forL stTg L_is_stair_1 (enumD (i + 1) rest) σ2 S2 | .ct σ2 S2 => forL stTg L_is_stair_1 (enumD (i + 1) rest) σ2 S2 | .bk σ2 S2 => .nx σ2 S2 | r => r) = _
        rw [show L_is_stair_1 [some (.tup xs), some (.int i), some d] [] = .rt (.bl false) false from seq_rt ((if_t t1).trans (ret_v rfl))]
    | true =>
      obtain ⟨z, rfl⟩ : ∃ z, d = .int z := by
        cases d with
        | int z => exact ⟨z, rfl⟩
        | _ => exact nomatch g
      rw [g] at t1
      have t2 : (cAndB (cBin bGt (cVar 1) (cD (.int 0))) (cBin bGt (cVar 2) (cBin bIx (cVar 0) (cBin bSub (cVar 1) (cD (.int 1)))))) [some (.tup xs), some (.int i), some (.int z)] [] = .ok (.bl (!(leP p z))) false := by
        cases p with
        | none =>
          obtain rfl : i = 0 := hp
          rfl
        | some q =>
          obtain ⟨j, rfl, hj⟩ := hp
          have e1 : cBin bIx (cVar 0) (cBin bSub (cVar 1) (cD (.int 1))) [some (.tup xs), some (.int (j + 1 : Nat)), some (.int z)] [] = .ok (.int q) false := by
            refine bin_to (x := .tup xs) (y := .int j) (fy := false) rfl ?_ ?_
            · refine (bin_to rfl rfl rfl : _ = Res.ok (.int (((j + 1 : Nat) : Int) - 1)) false).trans ?_
              rw [show ((j + 1 : Nat) : Int) - 1 = j by omega]
            · show (match gets xs j with | some d => Res.ok d false | none => Res.bad) = _
              rw [hj]
          have e2 : cBin bGt (cVar 1) (cD (.int 0)) [some (.tup xs), some (.int (j + 1 : Nat)), some (.int z)] [] = .ok (.bl true) false := by
            refine (bin_to rfl rfl rfl : _ = Res.ok (.bl (decide ((0 : Int) < ((j + 1 : Nat) : Int)))) false).trans ?_
            rw [decide_eq_true (by omega)]
          have e3 : cBin bGt (cVar 2) (cBin bIx (cVar 0) (cBin bSub (cVar 1) (cD (.int 1)))) [some (.tup xs), some (.int (j + 1 : Nat)), some (.int z)] [] = .ok (.bl (decide (q < z))) false := bin_to rfl e1 rfl
          unfold cAndB
          simp only [e2, e3]
          show Res.ok (.bl (decide (q < z))) false = Res.ok (.bl (!decide (z ≤ q))) false
          rw [← decide_not]
          congr 2
          exact decide_eq_decide.mpr (by omega)
      have step : ∀ c : Bool, (leP p z) = c → L_is_stair_1 [some (.tup xs), some (.int i), some (.int z)] [] = if c then .nx [some (.tup xs), some (.int i), some (.int z)] [] else .rt (.bl false) false := fun c hc => by
        rw [hc] at t2
        cases c with
        | true => exact (seq_nx (if_f t1)).trans (if_f t2)
        | false => exact (seq_nx (if_f t1)).trans ((if_t t2).trans (ret_v rfl))
      have nxt := stair_loop xs hx rest (i + 1) (some z) (some (.int i)) (some (.int z)) hr ⟨i, rfl, hg⟩
      have unf : forL stTg L_is_stair_1 (enumD i (.int z :: rest)) [some (.tup xs), a, b] [] = (match L_is_stair_1 [some (.tup xs), some (.int i), some (.int z)] [] with | .nx σ2 S2 => forL stTg L_is_stair_1 (enumD (i + 1) rest) σ2 S2 | .ct σ2 S2 => forL stTg L_is_stair_1 (enumD (i + 1) rest) σ2 S2 | .bk σ2 S2 => .nx σ2 S2 | r => r) := rfl
      cases c : (leP p z) with
      | true =>
        rw [unf, step true c]
        have e : stairB p (.int z :: rest) = stairB (some z) rest := by
          unfold stairB
          rw [g]
          show (true && ((leP p z) && stairB (some z) rest)) = _
          rw [c]
          cases rest <;> rfl
        rw [e]
        exact nxt
      | false =>
        rw [unf, step false c]
        have e : stairB p (.int z :: rest) = false := by
          unfold stairB
          rw [g]
          show (true && ((leP p z) && stairB (some z) rest)) = _
          rw [c]
          rfl
        rw [e]
        exact ⟨(fun h => nomatch h), fun _ => rfl⟩
theorem isStair_is (xs : List D) (hx : ∀ d ∈ xs, typD d) : m_is_stair [.tup xs] = .ok (.bl (stairB none xs)) false := by
  have t : (cNotB (cTru (cApp (fIsi [.tup]) (cCons (cVar 0) cNil)))) [some (.tup xs), none, none] [] = .ok (.bl false) false := rfl
  obtain ⟨h1, h2⟩ := stair_loop xs hx xs 0 none none none rfl rfl
  cases e : stairB none xs with
  | true =>
    obtain ⟨σ', h⟩ := h1 e
    exact run_rt rfl ((seq_nx (if_f t)).trans ((seq_nx ((for_st rfl).trans h)).trans (ret_v rfl)))
  | false => exact run_rt rfl ((seq_nx (if_f t)).trans (seq_rt ((for_st rfl).trans (h2 e))))
theorem notTup_is {d : D} {t : Tg} (h : tgD [] d = some t) (ht : isa t .tup = false) : m_is_stair [d] = .ok (.bl false) false := by
  have t1 : (cNotB (cTru (cApp (fIsi [.tup]) (cCons (cVar 0) cNil)))) [some d, none, none] [] = .ok (.bl true) false := by
    have e : cApp (fIsi [.tup]) (cCons (cVar 0) cNil) [some d, none, none] [] = .ok (.bl false) false := by
      refine app_to rfl ?_
      unfold fIsi
      simp only [h, List.any_cons, List.any_nil, ht, Bool.or_false]
    unfold cNotB cTru
    simp only [e, truth, Bool.not_false]
  exact run_rt rfl (seq_rt ((if_t t1).trans (ret_v rfl)))
end PL

set_option maxRecDepth 100000
namespace PL
open HC

/-! ## the drawing of inputs -/
theorem cell_is (ns : List Int) (k : Nat) (hk : k ≤ 1000) : ∃ c, m__law_cell [.rol (its ns), .int k] = .ok (.int c) false := by
  have hl : (its ns).length = ns.length := List.length_map ..
  have t : (cBin bLt (cVar 1) (cApp fLen (cCons (cVar 0) cNil))) [some (.rol (its ns)), some (.int k)] [] = .ok (.bl (decide ((k : Int) < ((its ns).length : Nat)))) false := rfl
  by_cases h : k < ns.length
  · obtain ⟨i, hi⟩ : ∃ i, ns[k]? = some i := ⟨_, List.getElem?_eq_getElem h⟩
    rw [decide_eq_true (by rw [hl]; omega)] at t
    exact ⟨i, run_rt rfl ((seq_rt ((if_t t).trans (ret_v (app_to (bin_to rfl rfl (ixS hi)) rfl)))))⟩
  · rw [decide_eq_false (by rw [hl]; omega)] at t
    have t2 : (cBin bEq (cApp fLen (cCons (cVar 0) cNil)) (cD (.int 0))) [some (.rol (its ns)), some (.int k)] [] = .ok (.bl (decide (((its ns).length : Int) = 0))) false := rfl
    by_cases h0 : ns.length = 0
    · rw [decide_eq_true (by rw [hl]; omega)] at t2
      exact ⟨k, run_rt rfl ((seq_nx (if_f t)).trans (seq_rt (if_t t2)))⟩
    · rw [decide_eq_false (by rw [hl]; omega)] at t2
      have hm : k % ns.length < ns.length := Nat.mod_lt _ (by omega)
      obtain ⟨i, hi⟩ : ∃ i, ns[k % ns.length]? = some i := ⟨_, List.getElem?_eq_getElem hm⟩
      have e1 : (cBin bMod (cVar 1) (cApp fLen (cCons (cVar 0) cNil))) [some (.rol (its ns)), some (.int k)] [] = .ok (.int ((k % ns.length : Nat) : Int)) false := by
        refine (bin_ok (x := .int k) (y := .int ((its ns).length : Nat)) rfl rfl).trans ?_
        rw [mod_p (by rw [hl]; omega), hl]
        rfl
      refine ⟨i / ((k : Int) + 2) + k, run_rt rfl ((seq_nx (if_f t)).trans ((seq_nx (if_f t2)).trans ?_))⟩
      exact ret_v (bin_to (bin_to (app_to (bin_to rfl e1 (ixS hi)) rfl) rfl (div_p (by omega) (by omega))) rfl rfl)
theorem draw_is (c : Int) (k : Nat) (l : Int) (hk : k ≤ 1000) (h0 : 0 < l) : ∃ d, m__law_draw [.int c, .int k, .int l] = .ok (.int d) false ∧ 0 ≤ d ∧ d < l := by
  have b1 : ∃ z : Int, z = (c * 48271 + ((k : Int) + 1) * 69621 + 7) % 2147483647 := ⟨_, rfl⟩
  obtain ⟨z1, e1⟩ := b1
  have r1 : 0 ≤ z1 ∧ z1 < 2147483647 := by omega
  obtain ⟨z2, e2⟩ : ∃ z : Int, z = (z1 * z1 + 7919 * (k : Int) + 104729) % 2147483629 := ⟨_, rfl⟩
  have r2 : 0 ≤ z2 ∧ z2 < 2147483629 := by omega
  obtain ⟨z3, e3⟩ : ∃ z : Int, z = (z2 * (z2 % 65521 + 3) + 40692) % 2147483587 := ⟨_, rfl⟩
  have r3 : 0 ≤ z3 ∧ z3 < 2147483587 := by omega
  have s1 : small z1 = true := small_of (by omega) (by omega)
  have s2 : small z2 = true := small_of (by omega) (by omega)
  refine ⟨z3 / 7 % l, run_rt rfl ((seq_nx (σ1 := [some (.int c), some (.int k), some (.int l), some (.int z1)]) (S1 := []) (asg_ok (d := .int z1) (fr := false) ?_)).trans
    ((seq_nx (σ1 := [some (.int c), some (.int k), some (.int l), some (.int z2)]) (S1 := []) (asg_ok (d := .int z2) (fr := false) ?_)).trans
    ((seq_nx (σ1 := [some (.int c), some (.int k), some (.int l), some (.int z3)]) (S1 := []) (asg_ok (d := .int z3) (fr := false) ?_)).trans (ret_v ?_)))), Int.emod_nonneg _ (by omega), Int.emod_lt_of_pos _ h0⟩
  · rw [e1]
    exact bin_to (app_to (bin_to (bin_to (bin_to rfl rfl (mul_r rfl)) (bin_to (bin_to rfl rfl rfl) rfl (mul_r rfl)) rfl) rfl rfl) rfl) rfl (mod_p (by omega))
  · rw [e2]
    exact bin_to (app_to (bin_to (bin_to (bin_to rfl rfl (mul_r s1)) (bin_to rfl rfl (mul_l rfl)) rfl) rfl rfl) rfl) rfl (mod_p (by omega))
  · rw [e3]
    exact bin_to (app_to (bin_to (bin_to rfl (bin_to (bin_to (app_to rfl rfl) rfl (mod_p (by omega))) rfl rfl) (mul_l s2)) rfl rfl) rfl) rfl (mod_p (by omega))
  · exact bin_to (bin_to (app_to rfl rfl) rfl (div_p (by omega) (by omega))) rfl (mod_p h0)
theorem digits_big (c : Int) (n : Nat) (l : Int) (hn : n ≤ 1000) (h0 : 0 < l) (h1 : ∀ (S : List SO) (i : Int), bFdiv S (.int i) (.int l) = .ok (.int (i / l)) false) : ∃ ds : List Int, m__law_digits [.int c, .int n, .int l] = .ok (.lst (its ds)) true ∧ ds.length = n ∧ ∀ d ∈ ds, 0 ≤ d ∧ d < l := by
  let I : Nat → Sl → List SO → Prop := fun i σ S => ∃ (ds : List Int) (rest : Int) (k : Option D), σ = [some (.int c), some (.int n), some (.int l), some (.loc 0), some (.int rest), k] ∧ S = [.lst (its ds)] ∧ ds.length = i ∧ ∀ d ∈ ds, 0 ≤ d ∧ d < l
  obtain ⟨σ', S', hf, ds, rest, k, rfl, rfl, hl, hd⟩ := for_inv (A := tgName 5) (body := sIf (cBin bGe (cVar 0) (cBin bPow (cD (.int 10)) (cD (.int 18)))) (sSeq (sMethE mAppend (cVar 3) (cCons (cBin bMod (cApp fInt (cCons (cVar 4) cNil)) (cVar 2)) cNil)) (sAsg 4 (cBin bFdiv (cVar 4) (cVar 2)))) (sMethE mAppend (cVar 3) (cCons (cApp (callD m__law_draw) (cCons (cVar 0) (cCons (cVar 5) (cCons (cVar 2) cNil)))) cNil)))
    I (rangeD 0 n) 0 [some (.int c), some (.int n), some (.int l), some (.loc 0), some (.int (c - 1000000000000000000)), none] [.lst []] ⟨[], _, _, rfl, rfl, rfl, fun d h => nomatch h⟩ (fun j d σ S hj hi => by
      obtain ⟨ds, rest, k, rfl, rfl, hl, hd⟩ := hi
      have hjn : j < n := by
        have := (List.getElem?_eq_some_iff.mp hj).1
        rw [rangeD_len] at this
        exact this
      have ed : d = .int j := by
        rw [range_get n 0 j hjn] at hj
        rw [← Option.some.inj hj]
        congr 1
        omega
      subst ed
      have hlen : (its ds).length < lim := by
        rw [List.length_map]
        unfold lim
        omega
      have hz : ∀ z : Int, 0 ≤ z → z < l → I (0 + j + 1) [some (.int c), some (.int n), some (.int l), some (.loc 0), some (.int rest), some (.int j)] [.lst (its ds ++ [.int z])] := fun z z0 z1 =>
        ⟨ds ++ [z], rest, _, rfl, by rw [its_snoc], by rw [List.length_append, hl]; rfl, fun y hy => (List.mem_append.mp hy).elim (hd y) fun h => by rw [List.mem_singleton.mp h]; exact ⟨z0, z1⟩⟩
      refine ⟨[some (.int c), some (.int n), some (.int l), some (.loc 0), some (.int rest), some (.int j)], ?_⟩
      by_cases hc : 1000000000000000000 ≤ c
      · have t : (cBin bGe (cVar 0) (cBin bPow (cD (.int 10)) (cD (.int 18)))) [some (.int c), some (.int n), some (.int l), some (.loc 0), some (.int rest), some (.int j)] [.lst (its ds)] = .ok (.bl (decide ((1000000000000000000 : Int) ≤ c))) false := rfl
        rw [decide_eq_true hc] at t
        obtain ⟨ds2, _, k2, e1, e2, e3, e4⟩ := hz (rest % l) (Int.emod_nonneg _ (by omega)) (Int.emod_lt_of_pos _ h0)
        refine ⟨_, _, rfl, .inl ((if_t t).trans ((seq_nx (append_ok rfl (bin_to (app_to rfl rfl) rfl (mod_p h0)) rfl hlen)).trans (asg_ok (bin_to rfl rfl (h1 _ _))))), ds2, rest / l, some (.int j), rfl, e2, e3, e4⟩
      · have t : (cBin bGe (cVar 0) (cBin bPow (cD (.int 10)) (cD (.int 18)))) [some (.int c), some (.int n), some (.int l), some (.loc 0), some (.int rest), some (.int j)] [.lst (its ds)] = .ok (.bl (decide ((1000000000000000000 : Int) ≤ c))) false := rfl
        rw [decide_eq_false hc] at t
        obtain ⟨z, q1, q2, q3⟩ := draw_is c j l (by omega) h0
        exact ⟨_, _, rfl, .inl ((if_f t).trans (append_ok rfl (call_d rfl rfl q1) rfl hlen)), hz z q2 q3⟩)
  refine ⟨ds, run_rt rfl ((seq_nx (σ1 := [some (.int c), some (.int n), some (.int l), some (.loc 0), none, none]) (S1 := [.lst []]) (new_l rfl)).trans ((seq_nx (σ1 := [some (.int c), some (.int n), some (.int l), some (.loc 0), some (.int (c - 1000000000000000000)), none]) (S1 := [.lst []]) (asg_ok rfl)).trans
    ((seq_nx ((for_st (iapp_to rfl (rg1_n (by omega) (by omega)))).trans hf)).trans (ret_loc rfl rfl (pure_its ds))))), ?_, hd⟩
  rw [hl, rangeD_len, Nat.zero_add]
theorem digits_is (c : Int) (n : Nat) (l : Int) (hn : n ≤ 1000) (h0 : 0 < l) (h1 : l < 1073741824) : ∃ ds : List Int, m__law_digits [.int c, .int n, .int l] = .ok (.lst (its ds)) true ∧ ds.length = n ∧ ∀ d ∈ ds, 0 ≤ d ∧ d < l := digits_big c n l hn h0 fun S i => div_p h0 h1
theorem stair_is (c : Int) (n : Nat) (m : Int) (hn : n ≤ 1000) (h0 : 0 ≤ m) (h1 : m < 1000000000) : ∃ ds : List Int, m__law_stair [.int c, .int n, .int m] = .ok (.tup (its ds)) false ∧ ds.length ≤ n ∧ ds.Pairwise (· ≥ ·) ∧ ∀ d ∈ ds, 0 < d ∧ d ≤ m := by
  obtain ⟨ds, q1, q2, q3⟩ := digits_is c n (m + 1) hn (by omega) (by omega)
  have hs : (cApp (fSorted true) (cCons (cApp (callD m__law_digits) (cCons (cVar 0) (cCons (cVar 1) (cCons (cBin bAdd (cVar 2) (cD (.int 1))) cNil)))) cNil)) [some (.int c), some (.int n), some (.int m), none] [] = .ok (.lst (its (sortI true ds))) true := by
    refine app_to (call_d rfl rfl q1) ?_
    show (match intsOf (its ds) with | some ns => Res.ok (.lst (its (sortI true ns))) true | none => Res.bad) = _
    rw [ints_its]
  have hc := comp_is (A := tgName 3) (t := cBin bGt (cVar 3) (cD (.int 0))) (f := cVar 3) (σ := [some (.int c), some (.int n), some (.int m), none]) (S := []) (fun d => decide (0 < intD d)) (fun d => d) (its (sortI true ds)) fun d hd => by
    obtain ⟨i, _, rfl⟩ := List.mem_map.mp hd
    exact ⟨_, false, rfl, rfl, fun _ => ⟨rfl, _, rfl⟩⟩
  rw [filter_its (fun i => decide (0 < i)) _ (fun i => rfl), List.map_id'] at hc
  refine ⟨(sortI true ds).filter fun i => decide (0 < i), run_rt rfl (ret_v (tuple_l (cons1 (comp_st (ws := [3]) (ival_l hs) hc)) (pure_its _))), ?_, ?_, fun d hd => ?_⟩
  · exact Nat.le_trans (List.length_filter_le ..) (by rw [sortI_len, q2]; exact Nat.le_refl _)
  · exact (sort_down ds).filter _
  · obtain ⟨h1, h2⟩ := List.mem_filter.mp hd
    have := q3 d (rev_mem h1)
    have := of_decide_eq_true h2
    omega
end PL

set_option maxRecDepth 2000
namespace PL
open HC PM
/-! ## lists of numbers as data -/
def nts (s : List Nat) : List D := s.map fun n : Nat => D.int (n : Int)
theorem nts_its (s : List Nat) : nts s = its (s.map fun n : Nat => (n : Int)) := by
  unfold nts
  show _ = List.map D.int _
  rw [List.map_map]
  rfl
@[simp] theorem nts_len (s : List Nat) : (nts s).length = s.length := List.length_map ..
@[simp] theorem nts_pure (s : List Nat) : pureL (nts s) = true := by rw [nts_its]; exact pure_its _
@[simp] theorem nts_nil : nts [] = [] := rfl
@[simp] theorem nts_append (a b : List Nat) : nts a ++ nts b = nts (a ++ b) := by unfold nts; rw [List.map_append]
@[simp] theorem nts_snoc (a : List Nat) (b : Nat) : nts a ++ [D.int (b : Int)] = nts (a ++ [b]) := by rw [← nts_append]; rfl
theorem nts_get (s : List Nat) (i : Nat) : (nts s)[i]? = (s[i]?).map fun n : Nat => D.int (n : Int) := List.getElem?_map ..
theorem nts_at {s : List Nat} {i : Nat} (h : i < s.length) : atD (nts s) (i : Int) = some (.int (s.getD i 0 : Nat)) := by
  show gets (nts s) i = _
  rw [gets_eq, nts_get, List.getD_eq_getElem?_getD, List.getElem?_eq_getElem h]
  rfl
theorem nts_take (s : List Nat) (k : Nat) : (nts s).take k = nts (s.take k) := by unfold nts; rw [List.map_take]
theorem nts_drop (s : List Nat) (k : Nat) : (nts s).drop k = nts (s.drop k) := by unfold nts; rw [List.map_drop]
theorem sumI_map (s : List Nat) : sumI (s.map fun n : Nat => (n : Int)) = ((s.sum : Nat) : Int) := by
  induction s with
  | nil => rfl
  | cons x s ih =>
    show (x : Int) + sumI (s.map fun n : Nat => (n : Int)) = _
    rw [ih, List.sum_cons]
    omega
theorem sum_nts {S : List SO} {d : D} {s : List Nat} (h : seqOf S d = some (nts s)) : fSum S [d] = .ok (.int (s.sum : Nat)) false := by
  rw [nts_its] at h
  rw [fSum_s h, sumI_map]
/-! ## the checks -/
theorem stairB_nts : ∀ {s : List Nat}, Stair s → ∀ p : Option Int, (∀ x ∈ s, leP p (x : Int) = true) → stairB p (nts s) = true
  | [], _, _, _ => rfl
  | x :: s, h, p, hp => by
    have h1 := h.pos x (List.mem_cons_self ..)
    have ih := stairB_nts h.tail (some (x : Int)) fun y hy => by
      have := (List.pairwise_cons.mp h.dn).1 y hy
      unfold leP
      simp
      omega
    show (goodD (.int (x : Int)) && (leP p (intD (.int (x : Int))) && stairB (some (x : Int)) (nts s))) = true
    rw [ih, show leP p (intD (.int (x : Int))) = true from hp x (List.mem_cons_self ..)]
    simp [goodD]
    omega
theorem nts_typ (s : List Nat) : ∀ d ∈ nts s, typD d := fun d hd => by
  unfold nts at hd
  obtain ⟨n, _, rfl⟩ := List.mem_map.mp hd
  exact ⟨_, rfl⟩
theorem is_stair_nts {s : List Nat} (h : Stair s) : m_is_stair [.tup (nts s)] = .ok (.bl true) false := by
  rw [isStair_is _ (nts_typ s), stairB_nts h none fun _ _ => rfl]
theorem need_stair_nts {s : List Nat} (h : Stair s) : m_need_stair [.tup (nts s)] = .ok .non false := by
  unfold m_need_stair
  simp [b_need_stair, is_stair_nts h]
theorem is_positive_i (i : Int) : m_is_positive [.int i] = .ok (.bl (decide (1 ≤ i))) false := rfl
theorem row_of_nts (s : List Nat) (i : Nat) : m_row_of [.tup (nts s), .int (i : Int)] = .ok (.int (s.getD i 0 : Nat)) false := by
  unfold m_row_of
  by_cases h : i < s.length
  · simp only [runF_e, b_row_of]
    simp [h, nts_at h, -atD_n]
  · have e : s.getD i 0 = 0 := by rw [List.getD_eq_getElem?_getD, List.getElem?_eq_none (by omega)]; rfl
    simp only [runF_e, b_row_of]
    simp [h, e]
/-! ## turned -/
theorem turned_while {s : List Nat} (hs : Stair s) {j : Nat} (hj : 0 < cnt s j) (x : Option D) (S : List SO) : ∀ (k many : Nat), cnt s j ≤ many → many ≤ s.length → many - cnt s j < k →
    whileF W_turned_1 L_turned_1 k [some (.tup (nts s)), x, some (.int (many : Int)), some (.int (j : Int))] S = .nx [some (.tup (nts s)), x, some (.int (cnt s j : Nat)), some (.int (j : Int))] S
  | 0, _, _, _, h => absurd h (Nat.not_lt_zero _)
  | k + 1, many, h1, h2, h3 => by
    rw [whileF_s]
    obtain ⟨m, rfl⟩ : ∃ m, many = m + 1 := ⟨many - 1, by omega⟩
    have hm : m < s.length := by omega
    have e : ((m + 1 : Nat) : Int) - 1 = (m : Int) := by omega
    have hg := cnt_gt hs m j
    by_cases h : m + 1 = cnt s j
    · have : ¬ s.getD m 0 ≤ j := by omega
      simp [W_turned_1_e, e, nts_at hm, -atD_n, this, -List.getD_eq_getElem?_getD]
      omega
    · have h4 : s.getD m 0 ≤ j := by omega
      have ih := turned_while hs hj x S k m (by omega) (by omega) (by omega)
      simp [W_turned_1_e, L_turned_1_e, e, nts_at hm, -atD_n, h4, ih, -List.getD_eq_getElem?_getD]
theorem turned_for {s : List Nat} (hs : Stair s) (hl : s.length ≤ 1000000) : ∀ (n j : Nat) (many : Nat) (w : Option D) (f : List Nat), j + n = s.headD 0 → cnt s j ≤ many → many ≤ s.length → f.length = j → s.headD 0 ≤ 1000000 →
    ∃ m w', forL (tgName 3) L_turned_2 (rangeD j n) [some (.tup (nts s)), some (.loc 0), some (.int (many : Int)), w] [.lst (nts f)] = .nx [some (.tup (nts s)), some (.loc 0), m, w'] [.lst (nts (f ++ (List.range' j n).map (cnt s)))]
  | 0, j, many, w, f, _, _, _, _, _ => ⟨some (.int (many : Int)), w, by simp⟩
  | n + 1, j, many, w, f, h, h1, h2, h3, h4 => by
    have hj : 0 < cnt s j := by
      rw [cnt_gt hs]
      cases s with
      | nil => simp at h
      | cons x t => simp at h ⊢; omega
    have hw := turned_while hs hj (some (.loc 0)) [.lst (nts f)] fuel many h1 h2 (by show _ < 1073741824; omega)
    obtain ⟨m, w', ih⟩ := turned_for hs hl n (j + 1) (cnt s j) (some (.int (j : Int))) (f ++ [cnt s j]) (by omega) (cnt_anti s (by omega)) (cnt_le s j) (by simp [h3]) h4
    have hlt : f.length < lim := by unfold lim; omega
    refine ⟨m, w', ?_⟩
    have e1 : ((j : Int) + 1) = ((j + 1 : Nat) : Int) := by omega
    simp only [rangeD_s, forL_c, tgName_e, gB_s, L_turned_2_e, sSeq_e, sWhile_e]
    simp only [List.set_cons_succ, List.set_cons_zero]
    rw [hw]
    simp [hlt]
    rw [e1, ih]
    simp [List.range'_succ]
theorem turned_is {s : List Nat} (hs : Stair s) (hl : s.length ≤ 1000000) (h0 : s.headD 0 ≤ 1000000) : m_turned [.tup (nts s)] = .ok (.tup (nts (conj s))) false := by
  obtain ⟨m, w', hf⟩ := turned_for hs hl (s.headD 0) 0 s.length none [] (by omega) (cnt_le s 0) (Nat.le_refl _) rfl h0
  have r0 := row_of_nts s 0
  have e : s.getD 0 0 = s.headD 0 := by cases s <;> rfl
  rw [e] at r0
  unfold m_turned
  simp only [runF_e, b_turned]
  have hr : rg1 [.lst []] [.int (s.headD 0 : Nat)] = .st (rangeD 0 (s.headD 0)) := rg1_nat h0
  simp [need_stair_nts hs, -List.headD_eq_head?_getD]
  rw [show ((0 : Int)) = ((0 : Nat) : Int) from rfl, r0]
  simp [hr, -List.headD_eq_head?_getD]
  rw [show ((0 : Int)) = ((0 : Nat) : Int) from rfl]
  rw [show ([] : List D) = nts [] from rfl, hf]
  simp [List.range_eq_range', conj]
end PL

set_option maxRecDepth 2000
namespace PL
open HC PM
/-! ## ranges, comprehensions -/
theorem range_map : ∀ (n j : Nat), rangeD (j : Int) n = (List.range' j n).map fun i : Nat => D.int (i : Int)
  | 0, _ => rfl
  | n + 1, j => by
    rw [rangeD_s, List.range'_succ, List.map_cons, ← range_map n (j + 1)]
    congr 1
theorem range_0 (n : Nat) : rangeD 0 n = (List.range n).map fun i : Nat => D.int (i : Int) := by
  rw [List.range_eq_range']
  exact range_map n 0
theorem rg1_of {S : List SO} {i : Int} {n : Nat} (h : i = (n : Int)) (hn : n ≤ 1000000) : rg1 S [.int i] = .st (rangeD 0 n) := by rw [h]; exact rg1_nat hn
theorem nts_map {α : Type} (f : α → Nat) (xs : List α) : nts (xs.map f) = xs.map fun x => D.int (f x : Nat) := by
  unfold nts
  rw [List.map_map]
  rfl
theorem added_is {a b : List Nat} (ha : Stair a) (hb : Stair b) (la : a.length ≤ 1000000) (lb : b.length ≤ 1000000) : m_added [.tup (nts a), .tup (nts b)] = .ok (.tup (nts (add a b))) false := by
  have hr : ∀ S, rg1 S [.int ((max a.length b.length : Nat) : Int)] = .st (rangeD 0 (max a.length b.length)) := fun S => rg1_nat (by omega)
  have hc := comp_all (A := tgName 2) (t := cTrue) (f := E_added_1) (σ := [some (.tup (nts a)), some (.tup (nts b)), none]) (S := []) (fun i : Nat => D.int (i : Int)) (fun i => D.int ((a.getD i 0 + b.getD i 0 : Nat) : Int)) (List.range (max a.length b.length)) fun i _ => by
    refine ⟨_, _, false, rfl, rfl, ?_, rfl⟩
    simp [E_added_1_e, row_of_nts, -List.getD_eq_getElem?_getD]
  rw [← range_0, ← nts_map (fun i => a.getD i 0 + b.getD i 0)] at hc
  unfold m_added
  simp only [runF_e, b_added_e, sSeq_e, sExpr_e]
  simp [need_stair_nts ha, need_stair_nts hb, hr, hc, -List.getD_eq_getElem?_getD]
  rfl
theorem bMul_of {S : List SO} {i j : Int} (h : small i = true ∨ small j = true) : bMul S (.int i) (.int j) = .ok (.int (i * j)) false := h.elim mul_l mul_r
theorem small_n {n : Nat} (h : n < 18446744073709551616) : small (n : Int) = true := decide_eq_true (by omega)
theorem times_is {a : List Nat} (ha : Stair a) {n : Nat} (hn : 1 ≤ n) (h2 : n < 18446744073709551616) : m_times [.tup (nts a), .int (n : Int)] = .ok (.tup (nts (a.map (· * n)))) false := by
  have hc := comp_all (A := tgName 2) (t := cTrue) (f := E_times_1) (σ := [some (.tup (nts a)), some (.int (n : Int)), none]) (S := []) (fun i : Nat => D.int (i : Int)) (fun i => D.int ((i * n : Nat) : Int)) a fun i _ => by
    refine ⟨_, _, false, rfl, rfl, ?_, rfl⟩
    simp [E_times_1_e, bMul_of (.inr (small_n h2))]
  rw [← nts_map (fun i => i * n)] at hc
  have hc : compL (tgName 2) cTrue E_times_1 [some (.tup (nts a)), some (.int (n : Int)), none] [] (nts a) = _ := hc
  have h3 : (1 : Int) ≤ (n : Int) := by omega
  unfold m_times
  simp only [runF_e, b_times_e, sSeq_e, sExpr_e]
  simp [need_stair_nts ha, is_positive_i, h3, hc]
/-! ## sorted, falling -/
def sortD (s : List Nat) : List Nat := (sortI true (s.map fun n : Nat => (n : Int))).map Int.toNat
theorem sortI_perm (b : Bool) (ns : List Int) : (sortI b ns).Perm ns := by
  cases b with
  | false => exact sortU_perm ns
  | true => exact (List.reverse_perm _).trans (sortU_perm ns)
theorem map_toNat : ∀ s : List Nat, (s.map fun n : Nat => (n : Int)).map Int.toNat = s
  | [] => rfl
  | x :: s => by simp [map_toNat s]
theorem sortD_perm (s : List Nat) : (sortD s).Perm s := by
  have := (sortI_perm true (s.map fun n : Nat => (n : Int))).map Int.toNat
  rw [map_toNat] at this
  exact this
theorem sortD_down (s : List Nat) : (sortD s).Pairwise (· ≥ ·) := by
  unfold sortD
  rw [List.pairwise_map]
  exact (sort_down _).imp fun {a b} h => by
    have h : a ≥ b := h
    show b.toNat ≤ a.toNat
    omega
theorem sortD_its (s : List Nat) : nts (sortD s) = its (sortI true (s.map fun n : Nat => (n : Int))) := by
  rw [nts_its]
  congr 1
  unfold sortD
  rw [List.map_map]
  have h : ∀ i ∈ sortI true (s.map fun n : Nat => (n : Int)), ((fun n : Nat => (n : Int)) ∘ Int.toNat) i = i := fun i hi => by
    obtain ⟨n, _, rfl⟩ := List.mem_map.mp (rev_mem hi)
    rfl
  conv => rhs; rw [← List.map_id (sortI true (s.map fun n : Nat => (n : Int)))]
  exact List.map_congr_left h
theorem sorted_nts (S : List SO) {d : D} {s : List Nat} (h : rdOf S d = some (nts s)) : fSorted true S [d] = .ok (.lst (nts (sortD s))) true := by
  dsimp only [fSorted]
  rw [h]
  dsimp only
  rw [nts_its, ints_its]
  dsimp only
  rw [sortD_its]
def joinS (a b : List Nat) : List Nat := sortD (a ++ b)
theorem joinS_perm (a b : List Nat) : (joinS a b).Perm (a ++ b) := sortD_perm _
theorem joinS_stair {a b : List Nat} (ha : Stair a) (hb : Stair b) : Stair (joinS a b) :=
  ⟨sortD_down _, fun x hx => (List.mem_append.mp ((joinS_perm a b).mem_iff.mp hx)).elim (ha.pos x) (hb.pos x)⟩
theorem joined_is {a b : List Nat} (ha : Stair a) (hb : Stair b) (hl : a.length + b.length ≤ lim) : m_joined [.tup (nts a), .tup (nts b)] = .ok (.tup (nts (joinS a b))) false := by
  unfold m_joined
  simp only [runF_e, b_joined_e, sSeq_e, sExpr_e]
  have hs := sorted_nts [] (d := .lst (nts (a ++ b))) (s := a ++ b) rfl
  simp [need_stair_nts ha, need_stair_nts hb, hl, hs]
  rfl
/-! ## the laws' judge of a row -/
theorem is_row_for (s : List Nat) (d : D) (hd : ∀ S, seqOf S d = some (nts s)) (hix : ∀ (S : List SO) (i : Nat), i < s.length → bIx S d (.int (i : Int)) = .ok (.int (s.getD i 0 : Nat)) false) : ∀ (n j : Nat) (w : Option D), j + n = s.length →
    ∃ w', forL (tgName 2) L__law_is_row_1 (rangeD j n) [some (.tup (nts s)), some d, w] [] = .nx [some (.tup (nts s)), some d, w'] []
  | 0, j, w, _ => ⟨w, by simp⟩
  | n + 1, j, w, h => by
    obtain ⟨w', ih⟩ := is_row_for s d hd hix n (j + 1) (some (.int (j : Int))) (by omega)
    refine ⟨w', ?_⟩
    have hj : j < s.length := by omega
    rw [rangeD_s, forL_c]
    simp [L__law_is_row_1_e, nts_at hj, hix _ j hj, -atD_n, isa, -List.getD_eq_getElem?_getD]
    exact ih
theorem is_row_is (s : List Nat) (hl : s.length ≤ 1000000) (d : D) (hd : ∀ S, seqOf S d = some (nts s)) (hix : ∀ (S : List SO) (i : Nat), i < s.length → bIx S d (.int (i : Int)) = .ok (.int (s.getD i 0 : Nat)) false) : m__law_is_row [.tup (nts s), d] = .ok (.bl true) false := by
  obtain ⟨w', hf⟩ := is_row_for s d hd hix s.length 0 none (by omega)
  have hr : rg1 [] [.int (s.length : Int)] = .st (rangeD 0 s.length) := rg1_nat hl
  have hle : ∀ S, fLen S [d] = .ok (.int (s.length : Int)) false := fun S => by rw [fLen_s (hd S), nts_len]
  unfold m__law_is_row
  simp only [runF_e, b__law_is_row_e]
  simp [isa, hle, hr]
  rw [show (0 : Int) = ((0 : Nat) : Int) from rfl, hf]
  simp
theorem is_row_t (s : List Nat) (hl : s.length ≤ 1000000) : m__law_is_row [.tup (nts s), .tup (nts s)] = .ok (.bl true) false := is_row_is s hl _ (fun _ => rfl) fun S i hi => by rw [bIx_t, nts_at hi]; rfl
theorem is_row_l (s : List Nat) (hl : s.length ≤ 1000000) : m__law_is_row [.tup (nts s), .lst (nts s)] = .ok (.bl true) false := is_row_is s hl _ (fun _ => rfl) fun S i hi => by rw [bIx_l, nts_at hi]; rfl
/-! ## the drawn stair -/
theorem stair_nat (c : Int) (n : Nat) (m : Nat) (hn : n ≤ 1000) (h1 : m < 1000000000) : ∃ s : List Nat, m__law_stair [.int c, .int (n : Int), .int (m : Int)] = .ok (.tup (nts s)) false ∧ s.length ≤ n ∧ Stair s ∧ ∀ x ∈ s, x ≤ m := by
  obtain ⟨ds, q1, q2, q3, q4⟩ := stair_is c n m hn (by omega) (by omega)
  refine ⟨ds.map Int.toNat, ?_, by simpa using q2, ⟨?_, fun x hx => ?_⟩, fun x hx => ?_⟩
  · have e : (ds.map Int.toNat).map (fun n : Nat => (n : Int)) = ds := by
      rw [List.map_map]
      refine (List.map_congr_left (g := id) fun d hd => ?_).trans (List.map_id ds)
      have := q4 d hd
      simp
      omega
    rw [q1, nts_its, e]
  · rw [List.pairwise_map]
    exact q3.imp fun {a b} h => by
      have h : a ≥ b := h
      show b.toNat ≤ a.toNat
      omega
  · obtain ⟨d, hd, rfl⟩ := List.mem_map.mp hx
    have := q4 d hd
    omega
  · obtain ⟨d, hd, rfl⟩ := List.mem_map.mp hx
    have := q4 d hd
    omega
end PL

set_option maxRecDepth 2000
namespace PL
open HC PM
theorem nts_set (c : List Nat) (j x : Nat) : (nts c).set j (.int (x : Int)) = nts (c.set j x) := by
  unfold nts
  rw [List.map_set]
/-! ## without the zeros at the end -/
def trim (l : List Nat) : Nat → Nat
  | 0 => 0
  | n + 1 => if l.getD n 0 = 0 then trim l n else n + 1
def strp (l : List Nat) : List Nat := l.take (trim l l.length)
theorem trim_le (l : List Nat) : ∀ n, trim l n ≤ n
  | 0 => Nat.le_refl _
  | n + 1 => by
    unfold trim
    have := trim_le l n
    split <;> omega
theorem trim_zero (l : List Nat) : ∀ n i, trim l n ≤ i → i < n → l.getD i 0 = 0
  | 0, _, _, h => absurd h (Nat.not_lt_zero _)
  | n + 1, i, h1, h2 => by
    unfold trim at h1
    split at h1
    · rename_i h
      by_cases e : i = n
      · rw [e]; exact h
      · exact trim_zero l n i h1 (by omega)
    · omega
theorem trim_pos (l : List Nat) : ∀ n, 0 < trim l n → 0 < l.getD (trim l n - 1) 0
  | 0, h => absurd h (Nat.not_lt_zero _)
  | n + 1, h => by
    unfold trim at h ⊢
    split
    · rename_i e
      rw [if_pos e] at h
      exact trim_pos l n h
    · rename_i e
      rw [Nat.add_sub_cancel]
      omega
theorem take_getD (l : List Nat) (k i : Nat) : (l.take k).getD i 0 = if i < k then l.getD i 0 else 0 := by
  rw [List.getD_eq_getElem?_getD, List.getElem?_take]
  split
  · rw [List.getD_eq_getElem?_getD]
  · rfl
theorem strp_getD (l : List Nat) (i : Nat) : (strp l).getD i 0 = l.getD i 0 := by
  unfold strp
  rw [take_getD]
  by_cases h : i < trim l l.length
  · rw [if_pos h]
  · rw [if_neg h]
    by_cases h2 : i < l.length
    · rw [trim_zero l l.length i (by omega) h2]
    · rw [List.getD_eq_getElem?_getD, List.getElem?_eq_none (by omega)]
      rfl
theorem strp_stair {l : List Nat} (h : l.Pairwise (· ≥ ·)) : Stair (strp l) := by
  have hle := trim_le l l.length
  refine ⟨h.sublist (List.take_sublist _ _), fun x hx => ?_⟩
  obtain ⟨i, hi, rfl⟩ := List.getElem_of_mem hx
  have hi2 : i < trim l l.length := by
    unfold strp at hi
    rw [List.length_take] at hi
    omega
  have h1 := trim_pos l l.length (by omega)
  have h2 := down_getD h (i := i) (j := trim l l.length - 1) (by omega)
  have h3 := strp_getD l i
  rw [List.getD_eq_getElem?_getD, List.getElem?_eq_getElem hi] at h3
  simp only [Option.getD_some] at h3
  omega
theorem strp_len (l : List Nat) : (strp l).length ≤ l.length := by
  unfold strp
  rw [List.length_take]
  exact Nat.min_le_right _ _
theorem strip_while (l : List Nat) (d : D) (hix : ∀ (S : List SO) (i : Nat), i < l.length → bIx S d (.int (i : Int)) = .ok (.int (l.getD i 0 : Nat)) false) : ∀ (k many : Nat), many ≤ l.length → many < k →
    whileF W_strip_1 L_strip_1 k [some d, some (.int (many : Int))] [] = .nx [some d, some (.int (trim l many : Nat))] []
  | 0, _, _, h => absurd h (Nat.not_lt_zero _)
  | k + 1, 0, _, _ => by
    rw [whileF_s]
    simp [W_strip_1_e, trim]
  | k + 1, many + 1, h1, h2 => by
    rw [whileF_s]
    have e : ((many + 1 : Nat) : Int) - 1 = (many : Int) := by omega
    have hp : (0 : Int) < ((many + 1 : Nat) : Int) := by omega
    have hi := hix [] many (by omega)
    by_cases hz : l.getD many 0 = 0
    · have ih := strip_while l d hix k many (by omega) (by omega)
      have ez : ((l.getD many 0 : Nat) : Int) = 0 := by omega
      simp only [W_strip_1_e, cAndB_e, cBin_e, cVar_e, gets_z, gets_s, vO_s, rB_ok, cD_e, bCmp_i, tB_ok, hp, decide_true, if_true, bSub_i, e, hi, bEq_i, ez, iS_ok, L_strip_1_e, sAug_e, vOS_s, vB_ok, augK_s, List.set_cons_succ, List.set_cons_zero, oS_nx]
      rw [ih]
      simp [trim, hz, -List.getD_eq_getElem?_getD]
    · have ez : ¬ ((l.getD many 0 : Nat) : Int) = 0 := by omega
      simp only [W_strip_1_e, cAndB_e, cBin_e, cVar_e, gets_z, gets_s, vO_s, rB_ok, cD_e, bCmp_i, tB_ok, hp, decide_true, if_true, bSub_i, e, hi, bEq_i, ez, iS_ok, decide_false, if_false, Bool.false_eq_true]
      simp [trim, hz, -List.getD_eq_getElem?_getD]
theorem strip_l (l : List Nat) (hl : l.length ≤ 1000000) : m_strip [.lst (nts l)] = .ok (.tup (nts (strp l))) false := by
  have hw := strip_while l (.lst (nts l)) (fun S i hi => by rw [bIx_l, nts_at hi]; rfl) fuel l.length (Nat.le_refl _) (by show _ < 1073741824; omega)
  unfold m_strip
  simp only [runF_e, b_strip_e]
  simp [hw, nts_take]
  rfl
/-! ## above or not -/
def brk (a b : List Nat) : Nat → Nat → Option Nat
  | _, 0 => none
  | j, n + 1 => if psum a (j + 1) < psum b (j + 1) then some (j + 1) else brk a b (j + 1) n
def breachN (a b : List Nat) : Option Nat := brk a b 0 (max a.length b.length)
def brD : Option Nat → D
  | none => .non
  | some k => .int (k : Int)
theorem brk_none (a b : List Nat) : ∀ (n j : Nat), brk a b j n = none ↔ ∀ m, j < m → m ≤ j + n → psum b m ≤ psum a m
  | 0, j => by
    simp only [brk, true_iff]
    intro m h1 h2
    omega
  | n + 1, j => by
    unfold brk
    split
    · rename_i h
      simp only [reduceCtorEq, false_iff]
      intro hx
      have := hx (j + 1) (by omega) (by omega)
      omega
    · rename_i h
      rw [brk_none a b n (j + 1)]
      constructor
      · intro hx m h1 h2
        by_cases e : m = j + 1
        · rw [e]; omega
        · exact hx m (by omega) (by omega)
      · intro hx m h1 h2
        exact hx m (by omega) (by omega)
theorem breachN_none (a b : List Nat) (hs : a.sum = b.sum) : breachN a b = none ↔ above a b := by
  unfold breachN
  rw [brk_none]
  constructor
  · intro h m
    cases m with
    | zero => simp [psum_zero]
    | succ m =>
      by_cases hm : m + 1 ≤ 0 + max a.length b.length
      · exact h (m + 1) (by omega) hm
      · rw [psum_all a _ (by omega), psum_all b _ (by omega), hs]
        exact Nat.le_refl _
  · intro h m _ _
    exact h m
theorem breach_for (a b : List Nat) : ∀ (n j : Nat) (w : Option D), j + n ≤ 1000000 → psum b j ≤ psum a j → (match brk a b j n with
    | none => ∃ v' w', forL (tgName 3) L_breach_1 (rangeD j n) [some (.tup (nts a)), some (.tup (nts b)), some (.int ((psum a j : Nat) - (psum b j : Nat) : Int)), w] [] = .nx [some (.tup (nts a)), some (.tup (nts b)), v', w'] []
    | some k => forL (tgName 3) L_breach_1 (rangeD j n) [some (.tup (nts a)), some (.tup (nts b)), some (.int ((psum a j : Nat) - (psum b j : Nat) : Int)), w] [] = .rt (.int (k : Int)) false)
  | 0, j, w, _, _ => ⟨_, w, by simp; rfl⟩
  | n + 1, j, w, h, hle => by
    have ea : ((psum a j : Nat) - (psum b j : Nat) : Int) + ((a.getD j 0 : Nat) - (b.getD j 0 : Nat) : Int) = ((psum a (j + 1) : Nat) - (psum b (j + 1) : Nat) : Int) := by
      rw [psum_succ, psum_succ]
      omega
    have one : ∀ w, gB (tgName 3 (.int (j : Int)) [some (.tup (nts a)), some (.tup (nts b)), some (.int ((psum a j : Nat) - (psum b j : Nat) : Int)), w]) (fun σ1 => oS (L_breach_1 σ1 []) (forL (tgName 3) L_breach_1 (rangeD ((j : Int) + 1) n))) =
        if psum a (j + 1) < psum b (j + 1) then .rt (.int ((j + 1 : Nat) : Int)) false else forL (tgName 3) L_breach_1 (rangeD ((j : Int) + 1) n) [some (.tup (nts a)), some (.tup (nts b)), some (.int ((psum a (j + 1) : Nat) - (psum b (j + 1) : Nat) : Int)), some (.int (j : Int))] [] := fun w => by
      have hd : ((((psum a (j + 1) : Nat) - (psum b (j + 1) : Nat) : Int)) < 0) ↔ psum a (j + 1) < psum b (j + 1) := by omega
      simp only [tgName_e, gB_s, List.set_cons_succ, List.set_cons_zero, L_breach_1_e, sSeq_e, sAug_e, gets_z, gets_s, vOS_s, cBin_e, cApp_e, cCons_e, cVar_e, vO_s, aB_ok, cNil_e, llB_ok, lB_ok, callD_e, pureL_c, pure_tup, pure_int, pureL_n, Bool.and_true, row_of_nts, rB_ok, bSub_i, vB_ok, iAdd_i, ea, augK_s, sB_nx, sIf_e, cD_e, bCmp_i, iS_ok, hd, decide_eq_true_eq, sRet_e, bAdd_i, retD_int, sSkip_e, oS_if, oS_rt, oS_nx]
      by_cases q : psum a (j + 1) < psum b (j + 1)
      · simp [q]
      · simp [q]
    rw [rangeD_s, forL_c, one]
    unfold brk
    by_cases q : psum a (j + 1) < psum b (j + 1)
    · simp only [if_pos q]
    · simp only [if_neg q]
      exact breach_for a b n (j + 1) (some (.int (j : Int))) (by omega) (by omega)
theorem equal_sizes_is {a b : List Nat} (ha : Stair a) (hb : Stair b) (hs : a.sum = b.sum) : m__need_equal_sizes [.tup (nts a), .tup (nts b)] = .ok .non false := by
  unfold m__need_equal_sizes
  simp only [runF_e, b__need_equal_sizes_e]
  simp [need_stair_nts ha, need_stair_nts hb, sum_nts (s := a) (d := .tup (nts a)) rfl, sum_nts (s := b) (d := .tup (nts b)) rfl, hs]
theorem equal_sizes_no {a b : List Nat} (ha : Stair a) (hb : Stair b) (hs : a.sum ≠ b.sum) : m__need_equal_sizes [.tup (nts a), .tup (nts b)] = .ex 10 [.str (PySem.Str.ofString "sizes")] := by
  unfold m__need_equal_sizes
  simp only [runF_e, b__need_equal_sizes_e]
  have h : ¬ ((a.sum : Nat) : Int) = ((b.sum : Nat) : Int) := by omega
  simp [need_stair_nts ha, need_stair_nts hb, sum_nts (s := a) (d := .tup (nts a)) rfl, sum_nts (s := b) (d := .tup (nts b)) rfl, h]
theorem breach_is {a b : List Nat} (ha : Stair a) (hb : Stair b) (hs : a.sum = b.sum) (la : a.length ≤ 1000000) (lb : b.length ≤ 1000000) : m_breach [.tup (nts a), .tup (nts b)] = .ok (brD (breachN a b)) false := by
  have hf := breach_for a b (max a.length b.length) 0 none (by omega) (by simp [psum_zero])
  have hr : ∀ S, rg1 S [.int ((max a.length b.length : Nat) : Int)] = .st (rangeD 0 (max a.length b.length)) := fun S => rg1_nat (by omega)
  unfold m_breach
  simp only [runF_e, b_breach_e]
  simp only [psum_zero] at hf
  have hf : (match brk a b 0 (max a.length b.length) with
    | none => ∃ v' w', forL (tgName 3) L_breach_1 (rangeD 0 (max a.length b.length)) [some (.tup (nts a)), some (.tup (nts b)), some (.int 0), none] [] = .nx [some (.tup (nts a)), some (.tup (nts b)), v', w'] []
    | some k => forL (tgName 3) L_breach_1 (rangeD 0 (max a.length b.length)) [some (.tup (nts a)), some (.tup (nts b)), some (.int 0), none] [] = .rt (.int (k : Int)) false) := hf
  unfold breachN
  cases e : brk a b 0 (max a.length b.length) with
  | none =>
    rw [e] at hf
    obtain ⟨v', w', hf⟩ := hf
    simp [equal_sizes_is ha hb hs, hr, hf, brD]
  | some k =>
    rw [e] at hf
    simp [equal_sizes_is ha hb hs, hr, hf, brD]
theorem is_above_is {a b : List Nat} (ha : Stair a) (hb : Stair b) (hs : a.sum = b.sum) (la : a.length ≤ 1000000) (lb : b.length ≤ 1000000) : m_is_above [.tup (nts a), .tup (nts b)] = .ok (.bl (breachN a b).isNone) false := by
  unfold m_is_above
  simp only [runF_e, b_is_above_e]
  simp [breach_is ha hb hs la lb]
  cases breachN a b <;> rfl
end PL

set_option maxRecDepth 2000
namespace PL
open HC PM
/-! ## greatest, least; x[i] op= e -/
theorem maxI_of : ∀ (ns : List Int) (i m : Int), (m = i ∨ m ∈ ns) → i ≤ m → (∀ x ∈ ns, x ≤ m) → maxI i ns = m
  | [], i, m, h, _, _ => by
    rcases h with h | h
    · exact h.symm
    · exact nomatch h
  | j :: r, i, m, h, h1, h2 => by
    unfold maxI
    have hj := h2 j (List.mem_cons_self ..)
    refine maxI_of r _ m ?_ (by split <;> omega) fun x hx => h2 x (List.mem_cons_of_mem _ hx)
    rcases h with h | h
    · left
      rw [if_neg (by omega)]
      exact h
    · rcases List.mem_cons.mp h with h | h
      · by_cases e : j > i
        · left
          rw [if_pos e]
          exact h
        · left
          rw [if_neg e]
          omega
      · exact .inr h
theorem minI_of : ∀ (ns : List Int) (i m : Int), (m = i ∨ m ∈ ns) → m ≤ i → (∀ x ∈ ns, m ≤ x) → minI i ns = m
  | [], i, m, h, _, _ => by
    rcases h with h | h
    · exact h.symm
    · exact nomatch h
  | j :: r, i, m, h, h1, h2 => by
    unfold minI
    have hj := h2 j (List.mem_cons_self ..)
    refine minI_of r _ m ?_ (by split <;> omega) fun x hx => h2 x (List.mem_cons_of_mem _ hx)
    rcases h with h | h
    · left
      rw [if_neg (by omega)]
      exact h
    · rcases List.mem_cons.mp h with h | h
      · by_cases e : j < i
        · left
          rw [if_pos e]
          exact h
        · left
          rw [if_neg e]
          omega
      · exact .inr h
theorem max_nts (S : List SO) {xs : List Nat} {m : Nat} (h : m ∈ xs) (h2 : ∀ x ∈ xs, x ≤ m) : fMaxL S [.lst (nts xs)] = .ok (.int (m : Int)) false := by
  cases xs with
  | nil => exact nomatch h
  | cons x r =>
    have e : intsOf (nts (x :: r)) = some ((x : Int) :: r.map fun n : Nat => (n : Int)) := by rw [nts_its, ints_its]; rfl
    dsimp only [fMaxL]
    simp only [rdOf_l, e]
    rw [maxI_of _ _ (m : Int)]
    · rcases List.mem_cons.mp h with h | h
      · left; omega
      · right
        exact List.mem_map.mpr ⟨m, h, rfl⟩
    · have := h2 x (List.mem_cons_self ..)
      omega
    · intro y hy
      obtain ⟨z, hz, rfl⟩ := List.mem_map.mp hy
      have := h2 z (List.mem_cons_of_mem _ hz)
      omega
theorem min_nts (S : List SO) {xs : List Nat} {m : Nat} (h : m ∈ xs) (h2 : ∀ x ∈ xs, m ≤ x) : fMinL S [.lst (nts xs)] = .ok (.int (m : Int)) false := by
  cases xs with
  | nil => exact nomatch h
  | cons x r =>
    have e : intsOf (nts (x :: r)) = some ((x : Int) :: r.map fun n : Nat => (n : Int)) := by rw [nts_its, ints_its]; rfl
    dsimp only [fMinL]
    simp only [rdOf_l, e]
    rw [minI_of _ _ (m : Int)]
    · rcases List.mem_cons.mp h with h | h
      · left; omega
      · right
        exact List.mem_map.mpr ⟨m, h, rfl⟩
    · have := h2 x (List.mem_cons_self ..)
      omega
    · intro y hy
      obtain ⟨z, hz, rfl⟩ := List.mem_map.mp hy
      have := h2 z (List.mem_cons_of_mem _ hz)
      omega
theorem rg2_nat {S : List SO} {a b : Nat} (h1 : b ≤ 1000000) (h2 : a ≤ 1000000) : rg2 S [.int (a : Int), .int (b : Int)] = .st ((List.range' a (b - a)).map fun i : Nat => D.int (i : Int)) := by
  have e : ((b : Int) - (a : Int)).toNat = b - a := by omega
  have h : (inRg (a : Int) && inRg (b : Int) && decide (((b : Int) - (a : Int)).toNat ≤ lim)) = true := by
    unfold inRg lim
    simp only [Bool.and_eq_true, decide_eq_true_eq]
    omega
  dsimp only [rg2]
  rw [if_pos h, e, range_map]
theorem augS_ok {op : List SO → D → D → Res} {fo fi fe : CE} {σ : Sl} {S : List SO} {n k : Nat} {xs : List D} {z y d : D} {f1 f2 f3 : Bool} (ho : fo σ S = .ok (.loc n) f1) (hi : fi σ S = .ok (.int (k : Int)) f2) (hg : gets S n = some (.lst xs)) (hk : k < xs.length)
    (hz : xs[k]? = some z) (he : fe σ S = .ok y f3) (hop : op S z y = .ok d false) : sAugS op fo fi fe σ S = .nx σ (S.set n (.lst (xs.set k d))) := by
  unfold sAugS sTwo sVal
  rw [ho]
  dsimp only
  rw [hi]
  dsimp only
  unfold kAugS
  dsimp only
  unfold locL
  dsimp only
  rw [hg]
  dsimp only
  rw [atD_n, hz]
  dsimp only
  unfold sVal
  rw [he]
  dsimp only
  rw [hop]
  dsimp only
  rw [kSub_e]
  simp only [lS_l, hg, lcB_s]
  rw [setI_n hk]
  rfl
theorem nts_getq {s : List Nat} {i : Nat} (h : i < s.length) : (nts s)[i]? = some (.int (s.getD i 0 : Nat)) := by rw [← atD_n, nts_at h]
/-! ## a step -/
theorem step_is {l g : List Nat} {f t : Nat} (s : StepAt l g f t) (hl : l.length ≤ 1000000) (hlg : l.length = g.length) : m__step [.lst (nts l), .lst (nts g)] = .ok (.lst (nts (mv l f t))) true := by
  have tl := s.tl
  have ft := s.ft
  have ix : ∀ (S : List SO) (q : List Nat) (i : Nat), i < q.length → bIx S (.lst (nts q)) (.int (i : Int)) = .ok (.int (q.getD i 0 : Nat)) false := fun S q i hi => by rw [bIx_l, nts_at hi]; rfl
  have c1 := comp_some (A := tgName 5) (t := T__step_1) (f := cVar 5) (σ := [some (.lst (nts l)), some (.lst (nts g)), none, none, none, none, none]) (S := []) (fun i : Nat => D.int (i : Int)) (fun i => decide (g.getD i 0 < l.getD i 0)) (fun i => D.int (i : Int)) (List.range l.length) fun i hi => by
    have hi : i < l.length := by simpa using hi
    refine ⟨_, false, rfl, ?_, fun _ => ⟨false, rfl, rfl⟩⟩
    have e : decide (((g.getD i 0 : Nat) : Int) < ((l.getD i 0 : Nat) : Int)) = decide (g.getD i 0 < l.getD i 0) := decide_eq_decide.mpr (by omega)
    simp only [T__step_1_e, cBin_e, cVar_e, setD_e, List.set_cons_succ, List.set_cons_zero, gets_s, gets_z, vO_s, rB_ok, ix [] l i hi, ix [] g i (by omega), bCmp_i, e]
  rw [← range_0] at c1
  have m1 : f ∈ (List.range l.length).filter fun i => decide (g.getD i 0 < l.getD i 0) := List.mem_filter.mpr ⟨List.mem_range.mpr (by omega), decide_eq_true s.hf⟩
  have x1 := max_nts [] (xs := (List.range l.length).filter fun i => decide (g.getD i 0 < l.getD i 0)) m1 fun i hi => by
    obtain ⟨h1, h2⟩ := List.mem_filter.mp hi
    have h2 := of_decide_eq_true h2
    refine Nat.not_lt.mp fun h => ?_
    have := s.last i h (by simpa using h1)
    omega
  have c2 := comp_some (A := tgName 6) (t := T__step_2) (f := cVar 6) (σ := [some (.lst (nts l)), some (.lst (nts g)), some (.int (f : Int)), none, none, none, none]) (S := []) (fun i : Nat => D.int (i : Int)) (fun i => decide (l.getD i 0 < g.getD i 0)) (fun i => D.int (i : Int)) (List.range' (f + 1) (l.length - (f + 1))) fun i hi => by
    have hi : i < l.length := by
      rw [List.mem_range'_1] at hi
      omega
    refine ⟨_, false, rfl, ?_, fun _ => ⟨false, rfl, rfl⟩⟩
    have e : decide (((l.getD i 0 : Nat) : Int) < ((g.getD i 0 : Nat) : Int)) = decide (l.getD i 0 < g.getD i 0) := decide_eq_decide.mpr (by omega)
    simp only [T__step_2_e, cBin_e, cVar_e, setD_e, List.set_cons_succ, List.set_cons_zero, gets_s, gets_z, vO_s, rB_ok, ix [] l i hi, ix [] g i (by omega), bCmp_i, e]
  have m2 : t ∈ (List.range' (f + 1) (l.length - (f + 1))).filter fun i => decide (l.getD i 0 < g.getD i 0) := List.mem_filter.mpr ⟨by rw [List.mem_range'_1]; omega, decide_eq_true s.ht⟩
  have x2 := min_nts [] (xs := (List.range' (f + 1) (l.length - (f + 1))).filter fun i => decide (l.getD i 0 < g.getD i 0)) m2 fun i hi => by
    obtain ⟨h1, h2⟩ := List.mem_filter.mp hi
    have h2 := of_decide_eq_true h2
    rw [List.mem_range'_1] at h1
    refine Nat.not_lt.mp fun h => ?_
    have := s.mid i (by omega) h
    omega
  have r1 : rg1 [] [.int (l.length : Int)] = .st (rangeD 0 l.length) := rg1_nat hl
  have r2 : rg2 [] [.int ((f + 1 : Nat) : Int), .int (l.length : Int)] = _ := rg2_nat hl (by omega)
  have ef : (f : Int) + 1 = ((f + 1 : Nat) : Int) := by omega
  have le1 : ∀ S, fLen S [.lst (nts l)] = .ok (.int (l.length : Int)) false := fun S => by rw [fLen_s (xs := nts l) rfl, nts_len]
  have n1 : ∀ xs : List Nat, (xs.map fun i : Nat => D.int (i : Int)) = nts xs := fun _ => rfl
  simp only [n1] at c1 c2 r2
  have ez : ((l.getD f 0 : Nat) : Int) - 1 = ((l.getD f 0 - 1 : Nat) : Int) := by have := s.hf; omega
  have a1 := augS_ok (op := bSub) (fo := cVar 4) (fi := cVar 2) (fe := cD (.int 1)) (σ := [some (.lst (nts l)), some (.lst (nts g)), some (.int (f : Int)), some (.int (t : Int)), some (.loc 0), none, none]) (S := [.lst (nts l)]) (n := 0) (k := f) rfl rfl rfl (by rw [nts_len]; omega) (nts_getq (by omega)) rfl (by rw [bSub_i, ez])
  have et : (l.set f (l.getD f 0 - 1)).getD t 0 = l.getD t 0 := by rw [PM.set_getD _ _ _ _ (by omega), if_neg (by omega)]
  have a2 := augS_ok (op := iAdd) (fo := cVar 4) (fi := cVar 3) (fe := cD (.int 1)) (σ := [some (.lst (nts l)), some (.lst (nts g)), some (.int (f : Int)), some (.int (t : Int)), some (.loc 0), none, none]) (S := [.lst (nts (l.set f (l.getD f 0 - 1)))]) (n := 0) (k := t) rfl rfl rfl (by rw [nts_len, List.length_set]; omega) (nts_getq (by rw [List.length_set]; omega)) rfl (by rw [iAdd_i, et, show ((l.getD t 0 : Nat) : Int) + 1 = ((l.getD t 0 + 1 : Nat) : Int) by omega])
  rw [nts_set] at a1
  rw [nts_set] at a2
  unfold m__step
  simp only [runF_e, b__step_e]
  simp only [startD_e, List.map_cons, List.map_nil, List.length_cons, List.length_nil, Nat.zero_add, Nat.reduceAdd, if_true, Nat.reduceSub, List.replicate_succ, List.replicate_zero, List.cons_append, List.nil_append, sSeq_e, sAsg_e, cApp_e, cCons_e, cComp_e, iApp_e, cVar_e, gets_z, gets_s, vO_s, aB_ok, cNil_e, llB_ok, lB_ok, le1, liB_ok, r1, cB_st, wipeD_c, wipeD_n, List.set_cons_succ, List.set_cons_zero, c1, coB_s, n1, x1, vB_ok, setD_e, sB_nx, cBin_e, rB_ok, cD_e, bAdd_i, ef, r2, c2, x2, sNew_e, fList_e, seqOf_l, lO_s, nts_pure, newK_l]
  rw [a1]
  simp only [sB_nx, List.set_cons_zero, sSeq_e, a2, sRet_e, cVar_e, gets_s, gets_z, vO_s, vB_ok, retD_loc, retO_l, nts_pure, if_true, fin_rt]
  rfl
end PL

set_option maxRecDepth 2000
namespace PL
open HC PM
/-! ## steps down -/
def BoxStep (s x : List Nat) : Prop := ∃ f t, f < t ∧ s.getD f 0 = x.getD f 0 + 1 ∧ x.getD t 0 = s.getD t 0 + 1 ∧ ∀ i, i ≠ f → i ≠ t → x.getD i 0 = s.getD i 0
def ChainTo (n : Nat) : List Nat → List (List Nat) → List Nat → Prop
  | s, [], g => s = g
  | s, x :: r, g => (Stair x ∧ x.length ≤ n ∧ BoxStep s x) ∧ ChainTo n x r g
theorem step_box {l g : List Nat} {f t : Nat} (s : StepAt l g f t) : BoxStep (strp l) (strp (mv l f t)) := by
  have tl := s.tl
  have ft := s.ft
  have hf := s.hf
  refine ⟨f, t, ft, ?_, ?_, fun i h1 h2 => ?_⟩
  · rw [strp_getD, strp_getD, mv_getD l (by omega) tl (by omega), if_neg (by omega), if_pos rfl]
    omega
  · rw [strp_getD, strp_getD, mv_getD l (by omega) tl (by omega), if_pos rfl]
  · rw [strp_getD, strp_getD, mv_getD l (by omega) tl (by omega), if_neg h2, if_neg h1]
theorem plain_nts : ∀ (n : Nat) (s : List Nat), plainDs n (nts s) = true
  | _, [] => by simp [plainDs]
  | n, x :: s => by
    show (plainD n (.int (x : Int)) && plainDs n (nts s)) = true
    rw [plain_nts n s]
    cases n <;> rfl
theorem eqL_nts : ∀ a b : List Nat, eqL (nts a) (nts b) = decide (a = b)
  | [], [] => rfl
  | [], _ :: _ => rfl
  | _ :: _, [] => rfl
  | x :: a, y :: b => by
    show (eqD (.int (x : Int)) (.int (y : Int)) && eqL (nts a) (nts b)) = _
    rw [eqL_nts a b]
    show (((x : Int) == (y : Int)) && decide (a = b)) = _
    by_cases h : x = y
    · subst h
      simp
    · have : ¬ (x : Int) = (y : Int) := by omega
      simp [h, this]
theorem ne_lists (S : List SO) (a b : List Nat) : bNe S (.lst (nts a)) (.lst (nts b)) = .ok (.bl (!decide (a = b))) false := by
  show (let a := look S (.lst (nts a)); let b := look S (.lst (nts b)); if plainD 30 a && plainD 30 b then Res.ok (.bl (!eqD a b)) false else .bad) = _
  show (if plainDs 29 (nts a) && plainDs 29 (nts b) then Res.ok (.bl (!eqL (nts a) (nts b))) false else .bad) = _
  rw [plain_nts, plain_nts, eqL_nts]
  rfl
theorem down_while (A B M : Option D) {g : List Nat} (hg : g.Pairwise (· ≥ ·)) (hn : g.length ≤ 1000000) : ∀ (m : Nat) (l : List Nat) (acc : List D), height l g.length - height g g.length ≤ m → l.length = g.length → l.sum = g.sum → above l g → l.Pairwise (· ≥ ·) → acc.length + m < 10000000 →
    ∀ k, m < k → ∃ more : List (List Nat), whileF W_steps_down_1 L_steps_down_1 k [A, B, M, some (.lst (nts l)), some (.lst (nts g)), some (.loc 0), none] [.lst acc] =
      .nx [A, B, M, some (.lst (nts g)), some (.lst (nts g)), some (.loc 0), none] [.lst (acc ++ more.map fun s => .tup (nts s))] ∧ ChainTo g.length (strp l) more (strp g) ∧ more.length ≤ m
  | m, l, acc, hm, hl, hs, ha, hd, hlim, 0, hk => absurd hk (Nat.not_lt_zero _)
  | m, l, acc, hm, hl, hs, ha, hd, hlim, k + 1, hk => by
    by_cases e : l = g
    · subst e
      refine ⟨[], ?_, rfl, by simp⟩
      rw [whileF_s]
      simp [W_steps_down_1_e, ne_lists]
    · obtain ⟨f, t, s⟩ := step_at hl hs ha e
      obtain ⟨h1, h2, h3⟩ := s.ok hd hg ha
      have hless := s.less g.length (by have := s.tl; omega)
      have hmono := height_mono h2 g.length
      cases m with
      | zero =>
        have := height_mono ha g.length
        omega
      | succ m =>
        have hst := step_is s (by omega) hl
        have hsp := strip_l (mv l f t) (by rw [mv_len]; omega)
        obtain ⟨more, q1, q2, q3⟩ := down_while A B M hg hn m (mv l f t) (acc ++ [.tup (nts (strp (mv l f t)))]) (by omega) (by rw [mv_len]; exact hl) (by rw [h3]; exact hs) h2 h1 (by rw [List.length_append]; simp; omega) k (by omega)
        refine ⟨strp (mv l f t) :: more, ?_, ⟨⟨strp_stair h1, by have := strp_len (mv l f t); rw [mv_len] at this; omega, step_box s⟩, q2⟩, by simp; omega⟩
        have hlt : acc.length < lim := by unfold lim; omega
        rw [whileF_s]
        simp only [W_steps_down_1_e, cBin_e, cVar_e, gets_s, gets_z, vO_s, rB_ok, ne_lists, e, decide_false, Bool.not_false, iS_ok, if_true, L_steps_down_1_e, sSeq_e, sAsg_e, cApp_e, cCons_e, aB_ok, cNil_e, llB_ok, lB_ok, callD_e, pureL_c, pure_lst, pureL_n, Bool.and_true, hst, vB_ok, setD_e, List.set_cons_succ, List.set_cons_zero, sB_nx, sMethE_e, lS_l, hsp, lsB_ok, lcB_s]
        rw [mAppend_e hlt]
        simp only [pO_s, oS_nx, List.set_cons_zero]
        rw [q1]
        simp
theorem pad_getD (a : List Nat) (n i : Nat) (h : a.length ≤ n) : ((List.range n).map fun i => a.getD i 0).getD i 0 = a.getD i 0 := by
  rw [List.getD_eq_getElem?_getD, List.getElem?_map]
  by_cases hi : i < n
  · rw [List.getElem?_range hi]
    rfl
  · rw [List.getElem?_eq_none (by simpa using hi), List.getD_eq_getElem?_getD, List.getElem?_eq_none (by omega)]
    rfl
theorem psum_of {a b : List Nat} (h : ∀ i, a.getD i 0 = b.getD i 0) : ∀ m, psum a m = psum b m
  | 0 => by simp [psum_zero]
  | m + 1 => by rw [psum_succ, psum_succ, psum_of h m, h]
theorem sum_of {a b : List Nat} (h : ∀ i, a.getD i 0 = b.getD i 0) : a.sum = b.sum := by
  rw [← psum_all a (max a.length b.length) (by omega), ← psum_all b (max a.length b.length) (by omega)]
  exact psum_of h _
theorem strp_eq {a l : List Nat} (ha : Stair a) (hl : l.Pairwise (· ≥ ·)) (h : ∀ i, l.getD i 0 = a.getD i 0) : strp l = a := stair_ext (strp_stair hl) ha fun i => by rw [strp_getD, h]
/-- what steps_down tells -/
theorem steps_no {a b : List Nat} (ha : Stair a) (hb : Stair b) (hs : a.sum = b.sum) (la : a.length ≤ 1000000) (lb : b.length ≤ 1000000) (h : ¬ above a b) : m_steps_down [.tup (nts a), .tup (nts b)] = .ok .non false := by
  have e : (breachN a b).isNone = false := by
    cases e : breachN a b with
    | none => exact absurd ((breachN_none a b hs).mp e) h
    | some k => rfl
  unfold m_steps_down
  simp only [runF_e, b_steps_down_e]
  simp [is_above_is ha hb hs la lb, e]
theorem steps_yes {a b : List Nat} (ha : Stair a) (hb : Stair b) (hs : a.sum = b.sum) (la : a.length ≤ 1000) (lb : b.length ≤ 1000) (hz : a.sum ≤ 1000) (h : above a b) :
    ∃ more : List (List Nat), m_steps_down [.tup (nts a), .tup (nts b)] = .ok (.tup (D.tup (nts a) :: more.map fun s => .tup (nts s))) false ∧ ChainTo (max a.length b.length) a more b ∧ more.length ≤ max a.length b.length * a.sum := by
  have e : (breachN a b).isNone = true := by rw [(breachN_none a b hs).mpr h]; rfl
  have pa : ∀ i, ((List.range (max a.length b.length)).map fun i => a.getD i 0).getD i 0 = a.getD i 0 := fun i => pad_getD a _ i (by omega)
  have pb : ∀ i, ((List.range (max a.length b.length)).map fun i => b.getD i 0).getD i 0 = b.getD i 0 := fun i => pad_getD b _ i (by omega)
  have da : ((List.range (max a.length b.length)).map fun i => a.getD i 0).Pairwise (· ≥ ·) := getD_down fun i _ => by rw [pa, pa]; exact getD_anti ha (by omega)
  have db : ((List.range (max a.length b.length)).map fun i => b.getD i 0).Pairwise (· ≥ ·) := getD_down fun i _ => by rw [pb, pb]; exact getD_anti hb (by omega)
  have sa := strp_eq ha da pa
  have sb := strp_eq hb db pb
  have hab : above ((List.range (max a.length b.length)).map fun i => a.getD i 0) ((List.range (max a.length b.length)).map fun i => b.getD i 0) := fun m => by rw [psum_of pa, psum_of pb]; exact h m
  have lg : ((List.range (max a.length b.length)).map fun i => b.getD i 0).length = max a.length b.length := by simp
  have hh := height_le ((List.range (max a.length b.length)).map fun i => a.getD i 0) (max a.length b.length)
  rw [sum_of pa] at hh
  have hb1 : max a.length b.length * a.sum ≤ 1000 * 1000 := Nat.mul_le_mul (by omega) hz
  obtain ⟨more, q1, q2, q3⟩ := down_while (some (.tup (nts a))) (some (.tup (nts b))) (some (.int ((max a.length b.length : Nat) : Int))) db (by rw [lg]; omega) (max a.length b.length * a.sum) ((List.range (max a.length b.length)).map fun i => a.getD i 0) [.tup (nts (strp ((List.range (max a.length b.length)).map fun i => a.getD i 0)))]
    (by rw [lg]; omega) (by simp) (by rw [sum_of pa, sum_of pb, hs]) hab da (by simp; omega) fuel (by show _ < 1073741824; omega)
  rw [sa, sb, lg] at q2
  rw [sa] at q1
  refine ⟨more, ?_, q2, q3⟩
  have hr : ∀ S, rg1 S [.int ((max a.length b.length : Nat) : Int)] = .st (rangeD 0 (max a.length b.length)) := fun S => rg1_nat (by omega)
  have c1 := comp_all (A := tgName 6) (t := cTrue) (f := E_steps_down_1) (σ := [some (.tup (nts a)), some (.tup (nts b)), some (.int ((max a.length b.length : Nat) : Int)), none, none, none, none]) (S := []) (fun i : Nat => D.int (i : Int)) (fun i => D.int (a.getD i 0 : Nat)) (List.range (max a.length b.length)) fun i _ => by
    refine ⟨_, _, false, rfl, rfl, ?_, rfl⟩
    simp [E_steps_down_1_e, row_of_nts, -List.getD_eq_getElem?_getD]
  have c2 := comp_all (A := tgName 6) (t := cTrue) (f := E_steps_down_2) (σ := [some (.tup (nts a)), some (.tup (nts b)), some (.int ((max a.length b.length : Nat) : Int)), some (.lst (nts ((List.range (max a.length b.length)).map fun i => a.getD i 0))), none, none, none]) (S := []) (fun i : Nat => D.int (i : Int)) (fun i => D.int (b.getD i 0 : Nat)) (List.range (max a.length b.length)) fun i _ => by
    refine ⟨_, _, false, rfl, rfl, ?_, rfl⟩
    simp [E_steps_down_2_e, row_of_nts, -List.getD_eq_getElem?_getD]
  rw [← range_0, ← nts_map (fun i => a.getD i 0)] at c1
  rw [← range_0, ← nts_map (fun i => b.getD i 0)] at c2
  have s1 := strip_l ((List.range (max a.length b.length)).map fun i => a.getD i 0) (by simp; omega)
  rw [sa] at s1
  have hp : pureL (D.tup (nts a) :: more.map fun s => D.tup (nts s)) = true := by
    have : ∀ l : List (List Nat), pureL (l.map fun s => D.tup (nts s)) = true := fun l => by
      induction l with
      | nil => rfl
      | cons x l ih => exact ih
    exact this (a :: more)
  have l1 : (1 : Nat) ≤ lim := by unfold lim; omega
  unfold m_steps_down
  simp only [runF_e, b_steps_down_e]
  simp only [startD_e, List.map_cons, List.map_nil, List.length_cons, List.length_nil, Nat.zero_add, Nat.reduceAdd, if_true, Nat.reduceSub, List.replicate_succ, List.replicate_zero, List.cons_append, List.nil_append, sSeq_e, sIf_e, cNotB_e, cTru_e, cApp_e, cCons_e, cVar_e, gets_z, gets_s, vO_s, aB_ok, cNil_e, llB_ok, lB_ok, callD_e, pureL_c, pure_tup, pureL_n, Bool.and_true,
    is_above_is ha hb hs (by omega) (by omega), e, rB_ok, truth_b, trO_s, tB_ok, Bool.not_true, iS_ok, Bool.false_eq_true, if_false, sSkip_e, sB_nx, sAsg_e, fLen_s (seqOf_t), nts_len, fMax2_n, vB_ok, setD_e, List.set_cons_succ, List.set_cons_zero, cComp_e, iApp_e, liB_ok, hr, cB_st, wipeD_c, wipeD_n, c1, coB_s, c2, sNew_e, s1, pure_lst, fLst_e, l1, decide_true, newK_l, sWhile_e]
  rw [q1]
  simp only [sB_nx, sRet_e, cApp_e, cCons_e, cVar_e, gets_s, gets_z, vO_s, aB_ok, cNil_e, llB_ok, lB_ok, fTuple_o, locO_l, tO_s, List.cons_append, List.nil_append, hp, if_true, vB_ok, retD_tup, fin_rt]
end PL

set_option maxRecDepth 2000
namespace PL
open HC PM PySem
/-! ## values that are no stairs -/
structure Bad (d : D) : Prop where
  pu : d.pure = true
  no : m_is_stair [d] = .ok (.bl false) false
theorem need_stair_no {d : D} (h : Bad d) : m_need_stair [d] = .ex 2 [d] := by
  unfold m_need_stair
  simp [b_need_stair_e, h.no, h.pu]
theorem equal_sizes_bad1 {d e : D} (h : Bad d) (he : e.pure = true) : m__need_equal_sizes [d, e] = .ex 2 [d] := by
  unfold m__need_equal_sizes
  simp [b__need_equal_sizes_e, need_stair_no h, h.pu, he]
theorem equal_sizes_bad2 {a : List Nat} (ha : Stair a) {d : D} (h : Bad d) : m__need_equal_sizes [.tup (nts a), d] = .ex 2 [d] := by
  unfold m__need_equal_sizes
  simp [b__need_equal_sizes_e, need_stair_nts ha, need_stair_no h, h.pu]
theorem breach_ex {x y v : D} {c : Nat} (hx : x.pure = true) (hy : y.pure = true) (hv : v.pure = true) (h : m__need_equal_sizes [x, y] = .ex c [v]) : m_breach [x, y] = .ex c [v] := by
  unfold m_breach
  simp [b_breach_e, h, hx, hy, hv]
theorem above_ex {x y v : D} {c : Nat} (hx : x.pure = true) (hy : y.pure = true) (hv : v.pure = true) (h : m__need_equal_sizes [x, y] = .ex c [v]) : m_is_above [x, y] = .ex c [v] := by
  unfold m_is_above
  simp [b_is_above_e, breach_ex hx hy hv h, hx, hy, hv]
theorem steps_ex {x y v : D} {c : Nat} (hx : x.pure = true) (hy : y.pure = true) (hv : v.pure = true) (h : m__need_equal_sizes [x, y] = .ex c [v]) : m_steps_down [x, y] = .ex c [v] := by
  unfold m_steps_down
  simp [b_steps_down_e, above_ex hx hy hv h, hx, hy, hv]
/-! stairB -/
theorem stairB_bad : ∀ {xs : List D} (p : Option Int), (∃ d ∈ xs, goodD d = false) → stairB p xs = false
  | [], _, ⟨_, h, _⟩ => nomatch h
  | x :: r, p, ⟨d, h, hd⟩ => by
    show (goodD x && (leP p (intD x) && stairB (some (intD x)) r)) = false
    rcases List.mem_cons.mp h with h | h
    · rw [← h, hd]
      rfl
    · rw [stairB_bad (some (intD x)) ⟨d, h, hd⟩]
      simp
theorem stairB_last : ∀ (xs : List D) (p i : Int), stairB (some p) (xs ++ [.int i]) = true → i ≤ p
  | [], p, i, h => by
    have h : (goodD (.int i) && (decide (i ≤ p) && true)) = true := h
    simp at h
    exact h.2
  | x :: r, p, i, h => by
    have h : (goodD x && (decide (intD x ≤ p) && stairB (some (intD x)) (r ++ [.int i]))) = true := h
    rw [Bool.and_eq_true, Bool.and_eq_true, decide_eq_true_eq] at h
    exact Int.le_trans (stairB_last r (intD x) i h.2.2) h.2.1
theorem bad_tup {xs : List D} (hx : ∀ d ∈ xs, typD d) (h : stairB none xs = false) : Bad (.tup xs) := ⟨rfl, by rw [isStair_is xs hx, h]⟩
theorem bad_any {d : D} {t : Tg} (h : tgD [] d = some t) (ht : isa t .tup = false) : Bad d := ⟨typ_pure ⟨t, h⟩, notTup_is h ht⟩
/-! ## what repr shows -/
def RepOk (d : D) : Prop := ∃ r : Str, (∀ S, fRepr S [d] = .ok (.str r) false) ∧ PyData.strOk r = true
def Tx (d : D) : Prop := ∃ x, pyD true d = some x ∧ txOk x = true
def Txs (ds : List D) : Prop := ∃ xs, pyDs true ds = some xs ∧ txOks xs = true
theorem txs_of : ∀ {ds : List D}, (∀ d ∈ ds, Tx d) → Txs ds
  | [], _ => ⟨[], rfl, rfl⟩
  | d :: ds, h => by
    obtain ⟨x, a1, a2⟩ := h d (List.mem_cons_self ..)
    obtain ⟨xs, b1, b2⟩ := txs_of fun e he => h e (List.mem_cons_of_mem _ he)
    exact ⟨x :: xs, by unfold pyDs; simp only [a1, b1], by show (txOk x && txOks xs) = true; rw [a2, b2]; rfl⟩
theorem tx_tup {ds : List D} (h : Txs ds) : Tx (.tup ds) := by
  obtain ⟨xs, b1, b2⟩ := h
  exact ⟨.tuple xs, by unfold pyD; simp only [b1], b2⟩
theorem tx_lst {ds : List D} (h : Txs ds) : Tx (.lst ds) := by
  obtain ⟨xs, b1, b2⟩ := h
  exact ⟨.list xs, by unfold pyD; simp only [b1, if_true], b2⟩
theorem tx_int (i : Int) : Tx (.int i) := ⟨_, rfl, rfl⟩
theorem tx_bl (i : Bool) : Tx (.bl i) := ⟨_, rfl, rfl⟩
theorem tx_non : Tx .non := ⟨_, rfl, rfl⟩
theorem repOk_of {d : D} (h : Itm d 60 20000) (t : Tx d) : RepOk d := by
  obtain ⟨x, a1, a2, a3, a4, a5⟩ := h
  obtain ⟨y, b1, b2⟩ := t
  rw [a1] at b1
  cases b1
  refine ⟨x.shown, fun S => ?_, shown_ok x b2⟩
  have hp : lends S [d] = true := by cases d <;> first | rfl | exact nomatch a1
  have hl : look S d = d := by cases d <;> first | rfl | exact nomatch a1
  dsimp only [fRepr]
  rw [hp, if_pos rfl, hl, a1]
  exact shw_of a2 a3 a4 a5
/-- a row of few leaves -/
def Leaf (d : D) : Prop := Itm d 1 601 ∧ Tx d
theorem leaf_int {i : Int} (h : i.natAbs.log2 < 600) : Leaf (.int i) := ⟨itm_int h, tx_int i⟩
theorem leaf_bl {b : Bool} : Leaf (.bl b) := ⟨itm_bl, tx_bl b⟩
theorem leaf_non : Leaf .non := ⟨itm_non, tx_non⟩
theorem rep_leafs {ds : List D} (h : ∀ d ∈ ds, Leaf d) (hl : ds.length ≤ 30) : RepOk (.tup ds) ∧ RepOk (.lst ds) := by
  have i1 := itms_of (ds := ds) (dp := 1) (w := 601) fun d hd => (h d hd).1
  have t1 := txs_of fun d hd => (h d hd).2
  have hw : ds.length * (601 + 1) ≤ 20000 := Nat.le_trans (Nat.mul_le_mul_right _ hl) (by decide)
  exact ⟨repOk_of ((itm_tup i1).le (by omega) hw) (tx_tup t1), repOk_of ((itm_lst i1).le (by omega) hw) (tx_lst t1)⟩
theorem log2_small {i : Int} (h : i.natAbs < 2 ^ 600) : i.natAbs.log2 < 600 := by
  by_cases e : i.natAbs = 0
  · rw [e]
    decide
  · exact (Nat.log2_lt e).mpr h
theorem leaf_n {n : Nat} (h : n < 1000000000) : Leaf (.int (n : Int)) := leaf_int (log2_small (by
  have : (1000000000 : Nat) < 2 ^ 600 := by decide +kernel
  omega))
theorem leaf_nts {s : List Nat} (h : ∀ x ∈ s, x < 1000000000) : ∀ d ∈ nts s, Leaf d := fun d hd => by
  unfold nts at hd
  obtain ⟨n, hn, rfl⟩ := List.mem_map.mp hd
  exact leaf_n (h n hn)
theorem typ_nts_app {s : List Nat} {e : List D} (he : ∀ d ∈ e, typD d) : ∀ d ∈ nts s ++ e, typD d := fun d hd => (List.mem_append.mp hd).elim (nts_typ s d) (he d)
end PL

set_option maxRecDepth 100000
namespace K04
open PySem HC PL
def L__law_all_stairs_1 : SC := (sMethE mAppend (cVar 4) (cCons (cApp fTup (cCons (cBin bAdd (cVar 5) (cApp fTup (cCons (cVar 8) cNil))) (cCons (cBin bSub (cVar 6) (cVar 8)) cNil))) cNil))
theorem L__law_all_stairs_1_e {σ : Sl} {S : List SO} : L__law_all_stairs_1 σ S = (sMethE mAppend (cVar 4) (cCons (cApp fTup (cCons (cBin bAdd (cVar 5) (cApp fTup (cCons (cVar 8) cNil))) (cCons (cBin bSub (cVar 6) (cVar 8)) cNil))) cNil)) σ S := id rfl
def L__law_all_stairs_2 : SC := (sIf (cBin bEq (cVar 6) (cD (.int 0))) (sMethE mAppend (cVar 1) (cCons (cVar 5) cNil)) (sSeq (sAsg 7 (cVar 6))
    (sSeq (sIf (cBin bGt (cApp fLen (cCons (cVar 5) cNil)) (cD (.int 0))) (sAsg 7 (cApp fMin2 (cCons (cVar 6) (cCons (cBin bIx (cVar 5) (cNeg (cD (.int 1)))) cNil)))) sSkip)
    (sFor (iApp rg2 (cCons (cD (.int 1)) (cCons (cBin bAdd (cVar 7) (cD (.int 1))) cNil))) (tgName 8) L__law_all_stairs_1))))
theorem L__law_all_stairs_2_e {σ : Sl} {S : List SO} : L__law_all_stairs_2 σ S = (sIf (cBin bEq (cVar 6) (cD (.int 0))) (sMethE mAppend (cVar 1) (cCons (cVar 5) cNil)) (sSeq (sAsg 7 (cVar 6))
    (sSeq (sIf (cBin bGt (cApp fLen (cCons (cVar 5) cNil)) (cD (.int 0))) (sAsg 7 (cApp fMin2 (cCons (cVar 6) (cCons (cBin bIx (cVar 5) (cNeg (cD (.int 1)))) cNil)))) sSkip)
    (sFor (iApp rg2 (cCons (cD (.int 1)) (cCons (cBin bAdd (cVar 7) (cD (.int 1))) cNil))) (tgName 8) L__law_all_stairs_1)))) σ S := id rfl
def L__law_all_stairs_3 : SC := (sFrz (sSeq (sNew 4 (cApp fLst cNil))
    (sSeq (sFor (iVal (cVar 2)) (tgTup 2 (tgCons (tgName 5) (tgCons (tgName 6) tgNil))) L__law_all_stairs_2)
    (sAsg 2 (cVar 4)))))
theorem L__law_all_stairs_3_e {σ : Sl} {S : List SO} : L__law_all_stairs_3 σ S = (sFrz (sSeq (sNew 4 (cApp fLst cNil))
    (sSeq (sFor (iVal (cVar 2)) (tgTup 2 (tgCons (tgName 5) (tgCons (tgName 6) tgNil))) L__law_all_stairs_2)
    (sAsg 2 (cVar 4))))) σ S := id rfl
def b__law_all_stairs : SC := (sSeq (sNew 1 (cApp fLst cNil))
    (sSeq (sAsg 2 (cApp fLst (cCons (cApp fTup (cCons (cApp fTup cNil) (cCons (cVar 0) cNil))) cNil)))
    (sSeq (sFor (iApp rg1 (cCons (cBin bAdd (cVar 0) (cD (.int 1))) cNil)) (tgName 3) L__law_all_stairs_3)
    (sRet (cVar 1)))))
theorem b__law_all_stairs_e {σ : Sl} {S : List SO} : b__law_all_stairs σ S = (sSeq (sNew 1 (cApp fLst cNil))
    (sSeq (sAsg 2 (cApp fLst (cCons (cApp fTup (cCons (cApp fTup cNil) (cCons (cVar 0) cNil))) cNil)))
    (sSeq (sFor (iApp rg1 (cCons (cBin bAdd (cVar 0) (cD (.int 1))) cNil)) (tgName 3) L__law_all_stairs_3)
    (sRet (cVar 1))))) σ S := id rfl
def m__law_all_stairs : FnS := runF 1 9 b__law_all_stairs
theorem r__law_all_stairs {a0 : D} : m__law_all_stairs [a0] = fin (b__law_all_stairs [some a0, none, none, none, none, none, none, none, none] []) := id rfl
def T__law_turned_1 : CE := (cBin bGt (cVar 2) (cVar 1))
theorem T__law_turned_1_e {σ : Sl} {S : List SO} : T__law_turned_1 σ S = (cBin bGt (cVar 2) (cVar 1)) σ S := id rfl
def E__law_turned_1 : CE := (cApp fLen (cCons (cComp (iVal (cVar 0)) (tgName 2) [2] T__law_turned_1 (cVar 2)) cNil))
theorem E__law_turned_1_e {σ : Sl} {S : List SO} : E__law_turned_1 σ S = (cApp fLen (cCons (cComp (iVal (cVar 0)) (tgName 2) [2] T__law_turned_1 (cVar 2)) cNil)) σ S := id rfl
def b__law_turned : SC := (sRet (cApp fTuple (cCons (cComp (iApp rg1 (cCons (cApp fSum (cCons (cCutH (cVar 0) (cD (.int 1))) cNil)) cNil)) (tgName 1) [1] cTrue E__law_turned_1) cNil)))
theorem b__law_turned_e {σ : Sl} {S : List SO} : b__law_turned σ S = (sRet (cApp fTuple (cCons (cComp (iApp rg1 (cCons (cApp fSum (cCons (cCutH (cVar 0) (cD (.int 1))) cNil)) cNil)) (tgName 1) [1] cTrue E__law_turned_1) cNil))) σ S := id rfl
def m__law_turned : FnS := runF 1 3 b__law_turned
theorem r__law_turned {a0 : D} : m__law_turned [a0] = fin (b__law_turned [some a0, none, none] []) := id rfl
def L__law_moved_1 : SC := (sIf (cBin bLt (cBin bIx (cVar 3) (cVar 4)) (cBin bIx (cVar 3) (cBin bAdd (cVar 4) (cD (.int 1))))) (sRet (cD .non)) sSkip)
theorem L__law_moved_1_e {σ : Sl} {S : List SO} : L__law_moved_1 σ S = (sIf (cBin bLt (cBin bIx (cVar 3) (cVar 4)) (cBin bIx (cVar 3) (cBin bAdd (cVar 4) (cD (.int 1))))) (sRet (cD .non)) sSkip) σ S := id rfl
def b__law_moved : SC := (sSeq (sNew 3 (cBin bAdd (cApp fList (cCons (cVar 0) cNil)) (cApp fLst (cCons (cD (.int 0)) cNil))))
    (sSeq (sSub (cBin bSub (cBin bIx (cVar 3) (cVar 1)) (cD (.int 1))) (cVar 3) (cVar 1))
    (sSeq (sSub (cBin bAdd (cBin bIx (cVar 3) (cVar 2)) (cD (.int 1))) (cVar 3) (cVar 2))
    (sSeq (sFor (iApp rg1 (cCons (cBin bSub (cApp fLen (cCons (cVar 3) cNil)) (cD (.int 1))) cNil)) (tgName 4) L__law_moved_1)
    (sSeq (sIf (cBin bEq (cBin bIx (cVar 3) (cNeg (cD (.int 1)))) (cD (.int 0))) (sMethE mPop (cVar 3) cNil) sSkip)
    (sSeq (sIf (cAndB (cBin bGt (cApp fLen (cCons (cVar 3) cNil)) (cD (.int 0))) (cBin bEq (cBin bIx (cVar 3) (cNeg (cD (.int 1)))) (cD (.int 0)))) (sMethE mPop (cVar 3) cNil) sSkip)
    (sRet (cApp fTuple (cCons (cVar 3) cNil)))))))))
theorem b__law_moved_e {σ : Sl} {S : List SO} : b__law_moved σ S = (sSeq (sNew 3 (cBin bAdd (cApp fList (cCons (cVar 0) cNil)) (cApp fLst (cCons (cD (.int 0)) cNil))))
    (sSeq (sSub (cBin bSub (cBin bIx (cVar 3) (cVar 1)) (cD (.int 1))) (cVar 3) (cVar 1))
    (sSeq (sSub (cBin bAdd (cBin bIx (cVar 3) (cVar 2)) (cD (.int 1))) (cVar 3) (cVar 2))
    (sSeq (sFor (iApp rg1 (cCons (cBin bSub (cApp fLen (cCons (cVar 3) cNil)) (cD (.int 1))) cNil)) (tgName 4) L__law_moved_1)
    (sSeq (sIf (cBin bEq (cBin bIx (cVar 3) (cNeg (cD (.int 1)))) (cD (.int 0))) (sMethE mPop (cVar 3) cNil) sSkip)
    (sSeq (sIf (cAndB (cBin bGt (cApp fLen (cCons (cVar 3) cNil)) (cD (.int 0))) (cBin bEq (cBin bIx (cVar 3) (cNeg (cD (.int 1)))) (cD (.int 0)))) (sMethE mPop (cVar 3) cNil) sSkip)
    (sRet (cApp fTuple (cCons (cVar 3) cNil))))))))) σ S := id rfl
def m__law_moved : FnS := runF 3 5 b__law_moved
theorem r__law_moved {a0 a1 a2 : D} : m__law_moved [a0, a1, a2] = fin (b__law_moved [some a0, some a1, some a2, none, none] []) := id rfl
def L__law_led_to_1 : SC := (sSeq (sAsg 9 (cApp (callD m__law_moved) (cCons (cVar 6) (cCons (cVar 7) (cCons (cVar 8) cNil)))))
    (sIf (cAndB (cBin bIsNot (cVar 9) (cD .non)) (cBin bDnin (cVar 9) (cVar 2))) (sSeq (sDput (cD (.bl true)) (cVar 2) (cVar 9))
    (sMethE mAppend (cVar 5) (cCons (cVar 9) cNil))) sSkip))
theorem L__law_led_to_1_e {σ : Sl} {S : List SO} : L__law_led_to_1 σ S = (sSeq (sAsg 9 (cApp (callD m__law_moved) (cCons (cVar 6) (cCons (cVar 7) (cCons (cVar 8) cNil)))))
    (sIf (cAndB (cBin bIsNot (cVar 9) (cD .non)) (cBin bDnin (cVar 9) (cVar 2))) (sSeq (sDput (cD (.bl true)) (cVar 2) (cVar 9))
    (sMethE mAppend (cVar 5) (cCons (cVar 9) cNil))) sSkip)) σ S := id rfl
def L__law_led_to_2 : SC := (sFor (iApp rg2 (cCons (cBin bAdd (cVar 7) (cD (.int 1))) (cCons (cBin bAdd (cApp fLen (cCons (cVar 6) cNil)) (cD (.int 1))) cNil))) (tgName 8) L__law_led_to_1)
theorem L__law_led_to_2_e {σ : Sl} {S : List SO} : L__law_led_to_2 σ S = (sFor (iApp rg2 (cCons (cBin bAdd (cVar 7) (cD (.int 1))) (cCons (cBin bAdd (cApp fLen (cCons (cVar 6) cNil)) (cD (.int 1))) cNil))) (tgName 8) L__law_led_to_1) σ S := id rfl
def L__law_led_to_3 : SC := (sFor (iApp rg1 (cCons (cApp fLen (cCons (cVar 6) cNil)) cNil)) (tgName 7) L__law_led_to_2)
theorem L__law_led_to_3_e {σ : Sl} {S : List SO} : L__law_led_to_3 σ S = (sFor (iApp rg1 (cCons (cApp fLen (cCons (cVar 6) cNil)) cNil)) (tgName 7) L__law_led_to_2) σ S := id rfl
def L__law_led_to_4 : SC := (sFrz (sSeq (sNew 5 (cApp fLst cNil))
    (sSeq (sFor (iVal (cVar 3)) (tgName 6) L__law_led_to_3)
    (sAsg 3 (cVar 5)))))
theorem L__law_led_to_4_e {σ : Sl} {S : List SO} : L__law_led_to_4 σ S = (sFrz (sSeq (sNew 5 (cApp fLst cNil))
    (sSeq (sFor (iVal (cVar 3)) (tgName 6) L__law_led_to_3)
    (sAsg 3 (cVar 5))))) σ S := id rfl
def b__law_led_to : SC := (sSeq (sNew 2 (cDctT (cVar 0) (cD (.bl true))))
    (sSeq (sAsg 3 (cApp fLst (cCons (cVar 0) cNil)))
    (sSeq (sFor (iApp rg1 (cCons (cVar 1) cNil)) (tgName 4) L__law_led_to_4)
    (sRet (cVar 2)))))
theorem b__law_led_to_e {σ : Sl} {S : List SO} : b__law_led_to σ S = (sSeq (sNew 2 (cDctT (cVar 0) (cD (.bl true))))
    (sSeq (sAsg 3 (cApp fLst (cCons (cVar 0) cNil)))
    (sSeq (sFor (iApp rg1 (cCons (cVar 1) cNil)) (tgName 4) L__law_led_to_4)
    (sRet (cVar 2))))) σ S := id rfl
def m__law_led_to : FnS := runF 2 10 b__law_led_to
theorem r__law_led_to {a0 a1 : D} : m__law_led_to [a0, a1] = fin (b__law_led_to [some a0, some a1, none, none, none, none, none, none, none, none] []) := id rfl
def L__law_is_step_1 : SC := (sIf (cOrB (cNotB (cTru (cApp (fIsi [.int]) (cCons (cVar 2) cNil)))) (cTru (cApp (fIsi [.bool]) (cCons (cVar 2) cNil)))) (sRet (cD (.bl false))) sSkip)
theorem L__law_is_step_1_e {σ : Sl} {S : List SO} : L__law_is_step_1 σ S = (sIf (cOrB (cNotB (cTru (cApp (fIsi [.int]) (cCons (cVar 2) cNil)))) (cTru (cApp (fIsi [.bool]) (cCons (cVar 2) cNil)))) (sRet (cD (.bl false))) sSkip) σ S := id rfl
def L__law_is_step_2 : SC := (sIf (cBin bEq (cApp (callD m__law_moved) (cCons (cVar 0) (cCons (cVar 3) (cCons (cVar 4) cNil)))) (cVar 1)) (sRet (cD (.bl true))) sSkip)
theorem L__law_is_step_2_e {σ : Sl} {S : List SO} : L__law_is_step_2 σ S = (sIf (cBin bEq (cApp (callD m__law_moved) (cCons (cVar 0) (cCons (cVar 3) (cCons (cVar 4) cNil)))) (cVar 1)) (sRet (cD (.bl true))) sSkip) σ S := id rfl
def L__law_is_step_3 : SC := (sFor (iApp rg2 (cCons (cBin bAdd (cVar 3) (cD (.int 1))) (cCons (cBin bAdd (cApp fLen (cCons (cVar 0) cNil)) (cD (.int 1))) cNil))) (tgName 4) L__law_is_step_2)
theorem L__law_is_step_3_e {σ : Sl} {S : List SO} : L__law_is_step_3 σ S = (sFor (iApp rg2 (cCons (cBin bAdd (cVar 3) (cD (.int 1))) (cCons (cBin bAdd (cApp fLen (cCons (cVar 0) cNil)) (cD (.int 1))) cNil))) (tgName 4) L__law_is_step_2) σ S := id rfl
def b__law_is_step : SC := (sSeq (sIf (cNotB (cTru (cApp (fIsi [.tup]) (cCons (cVar 1) cNil)))) (sRet (cD (.bl false))) sSkip)
    (sSeq (sFor (iVal (cVar 1)) (tgName 2) L__law_is_step_1)
    (sSeq (sFor (iApp rg1 (cCons (cApp fLen (cCons (cVar 0) cNil)) cNil)) (tgName 3) L__law_is_step_3)
    (sRet (cD (.bl false))))))
theorem b__law_is_step_e {σ : Sl} {S : List SO} : b__law_is_step σ S = (sSeq (sIf (cNotB (cTru (cApp (fIsi [.tup]) (cCons (cVar 1) cNil)))) (sRet (cD (.bl false))) sSkip)
    (sSeq (sFor (iVal (cVar 1)) (tgName 2) L__law_is_step_1)
    (sSeq (sFor (iApp rg1 (cCons (cApp fLen (cCons (cVar 0) cNil)) cNil)) (tgName 3) L__law_is_step_3)
    (sRet (cD (.bl false)))))) σ S := id rfl
def m__law_is_step : FnS := runF 2 5 b__law_is_step
theorem r__law_is_step {a0 a1 : D} : m__law_is_step [a0, a1] = fin (b__law_is_step [some a0, some a1, none, none, none] []) := id rfl
def L__law_is_chain_1 : SC := (sIf (cOrB (cTru (cApp (fIsi [.bool]) (cCons (cVar 3) cNil))) (cNotB (cTru (cApp (fIsi [.int]) (cCons (cVar 3) cNil))))) (sRet (cD (.bl false))) sSkip)
theorem L__law_is_chain_1_e {σ : Sl} {S : List SO} : L__law_is_chain_1 σ S = (sIf (cOrB (cTru (cApp (fIsi [.bool]) (cCons (cVar 3) cNil))) (cNotB (cTru (cApp (fIsi [.int]) (cCons (cVar 3) cNil))))) (sRet (cD (.bl false))) sSkip) σ S := id rfl
def L__law_is_chain_2 : SC := (sIf (cNotB (cTru (cApp (callD m__law_is_step) (cCons (cBin bIx (cVar 0) (cBin bSub (cVar 4) (cD (.int 1)))) (cCons (cBin bIx (cVar 0) (cVar 4)) cNil))))) (sRet (cD (.bl false))) sSkip)
theorem L__law_is_chain_2_e {σ : Sl} {S : List SO} : L__law_is_chain_2 σ S = (sIf (cNotB (cTru (cApp (callD m__law_is_step) (cCons (cBin bIx (cVar 0) (cBin bSub (cVar 4) (cD (.int 1)))) (cCons (cBin bIx (cVar 0) (cVar 4)) cNil))))) (sRet (cD (.bl false))) sSkip) σ S := id rfl
def b__law_is_chain : SC := (sSeq (sIf (cOrB (cNotB (cTru (cApp (fIsi [.tup]) (cCons (cVar 0) cNil)))) (cOrB (cBin bEq (cApp fLen (cCons (cVar 0) cNil)) (cD (.int 0))) (cOrB (cBin bGt (cApp fLen (cCons (cVar 0) cNil)) (cD (.int 30))) (cOrB (cBin bNe (cBin bIx (cVar 0) (cD (.int 0))) (cVar 1)) (cBin bNe (cBin bIx (cVar 0) (cNeg (cD (.int 1)))) (cVar 2)))))) (sRet (cD (.bl false))) sSkip)
    (sSeq (sFor (iVal (cBin bIx (cVar 0) (cD (.int 0)))) (tgName 3) L__law_is_chain_1)
    (sSeq (sFor (iApp rg2 (cCons (cD (.int 1)) (cCons (cApp fLen (cCons (cVar 0) cNil)) cNil))) (tgName 4) L__law_is_chain_2)
    (sRet (cD (.bl true))))))
theorem b__law_is_chain_e {σ : Sl} {S : List SO} : b__law_is_chain σ S = (sSeq (sIf (cOrB (cNotB (cTru (cApp (fIsi [.tup]) (cCons (cVar 0) cNil)))) (cOrB (cBin bEq (cApp fLen (cCons (cVar 0) cNil)) (cD (.int 0))) (cOrB (cBin bGt (cApp fLen (cCons (cVar 0) cNil)) (cD (.int 30))) (cOrB (cBin bNe (cBin bIx (cVar 0) (cD (.int 0))) (cVar 1)) (cBin bNe (cBin bIx (cVar 0) (cNeg (cD (.int 1)))) (cVar 2)))))) (sRet (cD (.bl false))) sSkip)
    (sSeq (sFor (iVal (cBin bIx (cVar 0) (cD (.int 0)))) (tgName 3) L__law_is_chain_1)
    (sSeq (sFor (iApp rg2 (cCons (cD (.int 1)) (cCons (cApp fLen (cCons (cVar 0) cNil)) cNil))) (tgName 4) L__law_is_chain_2)
    (sRet (cD (.bl true)))))) σ S := id rfl
def m__law_is_chain : FnS := runF 3 5 b__law_is_chain
theorem r__law_is_chain {a0 a1 a2 : D} : m__law_is_chain [a0, a1, a2] = fin (b__law_is_chain [some a0, some a1, some a2, none, none] []) := id rfl
def T_law_1 : CE := (cBin bLt (cApp fSum (cCons (cCutH (cVar 3) (cVar 11)) cNil)) (cApp fSum (cCons (cCutH (cVar 6) (cVar 11)) cNil)))
theorem T_law_1_e {σ : Sl} {S : List SO} : T_law_1 σ S = (cBin bLt (cApp fSum (cCons (cCutH (cVar 3) (cVar 11)) cNil)) (cApp fSum (cCons (cCutH (cVar 6) (cVar 11)) cNil))) σ S := id rfl
def L_law_1 : SC := (sSeq (sAsg 7 (cBin bDin (cVar 6) (cVar 4)))
    (sSeq (sAsg 8 (cComp (iApp rg1 (cCons (cBin bAdd (cVar 1) (cD (.int 1))) cNil)) (tgName 11) [11] T_law_1 (cVar 11)))
    (sSeq (sIf (cBin bNe (cVar 7) (cBin bEq (cApp fLen (cCons (cVar 8) cNil)) (cD (.int 0)))) (sRet (cD (.bl false))) sSkip)
    (sSeq (sAsg 9 (cApp (callD m_is_above) (cCons (cVar 3) (cCons (cVar 6) cNil))))
    (sSeq (sIf (cOrB (cNotB (cTru (cApp (fIsi [.bool]) (cCons (cVar 9) cNil)))) (cBin bNe (cVar 9) (cVar 7))) (sRet (cD (.bl false))) sSkip)
    (sSeq (sAsg 9 (cApp (callKw [1, 0] 2 m_is_above) (cCons (cApp (callD m__law_turned) (cCons (cVar 3) cNil)) (cCons (cApp (callD m__law_turned) (cCons (cVar 6) cNil)) cNil))))
    (sSeq (sIf (cOrB (cNotB (cTru (cApp (fIsi [.bool]) (cCons (cVar 9) cNil)))) (cBin bNe (cVar 9) (cVar 7))) (sRet (cD (.bl false))) sSkip)
    (sSeq (sAsg 9 (cApp (callD m_breach) (cCons (cVar 3) (cCons (cVar 6) cNil))))
    (sSeq (sIf (cAndB (cTru (cVar 7)) (cBin bIsNot (cVar 9) (cD .non))) (sRet (cD (.bl false))) sSkip)
    (sSeq (sIf (cAndB (cNotB (cTru (cVar 7))) (cOrB (cNotB (cTru (cApp (fIsi [.int]) (cCons (cVar 9) cNil)))) (cOrB (cTru (cApp (fIsi [.bool]) (cCons (cVar 9) cNil))) (cBin bNe (cVar 9) (cBin bIx (cVar 8) (cD (.int 0))))))) (sRet (cD (.bl false))) sSkip)
    (sSeq (sAsg 10 (cApp (callD m_steps_down) (cCons (cVar 3) (cCons (cVar 6) cNil))))
    (sSeq (sIf (cAndB (cNotB (cTru (cVar 7))) (cBin bIsNot (cVar 10) (cD .non))) (sRet (cD (.bl false))) sSkip)
    (sIf (cAndB (cTru (cVar 7)) (cNotB (cTru (cApp (callD m__law_is_chain) (cCons (cVar 10) (cCons (cVar 3) (cCons (cVar 6) cNil))))))) (sRet (cD (.bl false))) sSkip)))))))))))))
theorem L_law_1_e {σ : Sl} {S : List SO} : L_law_1 σ S = (sSeq (sAsg 7 (cBin bDin (cVar 6) (cVar 4)))
    (sSeq (sAsg 8 (cComp (iApp rg1 (cCons (cBin bAdd (cVar 1) (cD (.int 1))) cNil)) (tgName 11) [11] T_law_1 (cVar 11)))
    (sSeq (sIf (cBin bNe (cVar 7) (cBin bEq (cApp fLen (cCons (cVar 8) cNil)) (cD (.int 0)))) (sRet (cD (.bl false))) sSkip)
    (sSeq (sAsg 9 (cApp (callD m_is_above) (cCons (cVar 3) (cCons (cVar 6) cNil))))
    (sSeq (sIf (cOrB (cNotB (cTru (cApp (fIsi [.bool]) (cCons (cVar 9) cNil)))) (cBin bNe (cVar 9) (cVar 7))) (sRet (cD (.bl false))) sSkip)
    (sSeq (sAsg 9 (cApp (callKw [1, 0] 2 m_is_above) (cCons (cApp (callD m__law_turned) (cCons (cVar 3) cNil)) (cCons (cApp (callD m__law_turned) (cCons (cVar 6) cNil)) cNil))))
    (sSeq (sIf (cOrB (cNotB (cTru (cApp (fIsi [.bool]) (cCons (cVar 9) cNil)))) (cBin bNe (cVar 9) (cVar 7))) (sRet (cD (.bl false))) sSkip)
    (sSeq (sAsg 9 (cApp (callD m_breach) (cCons (cVar 3) (cCons (cVar 6) cNil))))
    (sSeq (sIf (cAndB (cTru (cVar 7)) (cBin bIsNot (cVar 9) (cD .non))) (sRet (cD (.bl false))) sSkip)
    (sSeq (sIf (cAndB (cNotB (cTru (cVar 7))) (cOrB (cNotB (cTru (cApp (fIsi [.int]) (cCons (cVar 9) cNil)))) (cOrB (cTru (cApp (fIsi [.bool]) (cCons (cVar 9) cNil))) (cBin bNe (cVar 9) (cBin bIx (cVar 8) (cD (.int 0))))))) (sRet (cD (.bl false))) sSkip)
    (sSeq (sAsg 10 (cApp (callD m_steps_down) (cCons (cVar 3) (cCons (cVar 6) cNil))))
    (sSeq (sIf (cAndB (cNotB (cTru (cVar 7))) (cBin bIsNot (cVar 10) (cD .non))) (sRet (cD (.bl false))) sSkip)
    (sIf (cAndB (cTru (cVar 7)) (cNotB (cTru (cApp (callD m__law_is_chain) (cCons (cVar 10) (cCons (cVar 3) (cCons (cVar 6) cNil))))))) (sRet (cD (.bl false))) sSkip))))))))))))) σ S := id rfl
def S_law_1 : SC := (sAsg 1 (cBin bMod (cApp (callD m__law_cell) (cCons (cVar 0) (cCons (cD (.int 0)) cNil))) (cD (.int 9))))
theorem S_law_1_e {σ : Sl} {S : List SO} : S_law_1 σ S = (sAsg 1 (cBin bMod (cApp (callD m__law_cell) (cCons (cVar 0) (cCons (cD (.int 0)) cNil))) (cD (.int 9)))) σ S := id rfl
def S_law_2 : SC := (sAsg 3 (cBin bIx (cVar 2) (cBin bMod (cApp (callD m__law_cell) (cCons (cVar 0) (cCons (cD (.int 1)) cNil))) (cApp fLen (cCons (cVar 2) cNil)))))
theorem S_law_2_e {σ : Sl} {S : List SO} : S_law_2 σ S = (sAsg 3 (cBin bIx (cVar 2) (cBin bMod (cApp (callD m__law_cell) (cCons (cVar 0) (cCons (cD (.int 1)) cNil))) (cApp fLen (cCons (cVar 2) cNil))))) σ S := id rfl
def S_law_3 : SC := (sAsg 4 (cApp (callD m__law_led_to) (cCons (cVar 3) (cCons (cApp fLen (cCons (cVar 2) cNil)) cNil))))
theorem S_law_3_e {σ : Sl} {S : List SO} : S_law_3 σ S = (sAsg 4 (cApp (callD m__law_led_to) (cCons (cVar 3) (cCons (cApp fLen (cCons (cVar 2) cNil)) cNil)))) σ S := id rfl
def S_law_4 : SC := (sAsg 5 (cBin bMod (cApp (callD m__law_cell) (cCons (cVar 0) (cCons (cD (.int 2)) cNil))) (cApp fLen (cCons (cVar 2) cNil))))
theorem S_law_4_e {σ : Sl} {S : List SO} : S_law_4 σ S = (sAsg 5 (cBin bMod (cApp (callD m__law_cell) (cCons (cVar 0) (cCons (cD (.int 2)) cNil))) (cApp fLen (cCons (cVar 2) cNil)))) σ S := id rfl
def S_law_5 : SC := (sFor (iVal (cBin bAdd (cCutL (cVar 2) (cVar 5)) (cCutH (cVar 2) (cVar 5)))) (tgName 6) L_law_1)
theorem S_law_5_e {σ : Sl} {S : List SO} : S_law_5 σ S = (sFor (iVal (cBin bAdd (cCutL (cVar 2) (cVar 5)) (cCutH (cVar 2) (cVar 5)))) (tgName 6) L_law_1) σ S := id rfl
def b_law : SC := (sSeq S_law_1
    (sSeq (sAsg 2 (cApp (callD m__law_all_stairs) (cCons (cVar 1) cNil)))
    (sSeq S_law_2
    (sSeq S_law_3
    (sSeq S_law_4
    (sSeq S_law_5
    (sRet (cD (.bl true)))))))))
theorem b_law_e {σ : Sl} {S : List SO} : b_law σ S = (sSeq S_law_1
    (sSeq (sAsg 2 (cApp (callD m__law_all_stairs) (cCons (cVar 1) cNil)))
    (sSeq S_law_2
    (sSeq S_law_3
    (sSeq S_law_4
    (sSeq S_law_5
    (sRet (cD (.bl true))))))))) σ S := id rfl
def m_law : FnS := runF 1 12 b_law
theorem r_law {a0 : D} : m_law [a0] = fin (b_law [some a0, none, none, none, none, none, none, none, none, none, none, none] []) := id rfl
end K04

set_option maxRecDepth 2000
namespace K04
open PySem HC PL PM
/-! a box moved to a later row -/
def okF (p : List Nat) : Nat → Nat → Bool
  | _, 0 => true
  | j, n + 1 => if p.getD j 0 < p.getD (j + 1) 0 then false else okF p (j + 1) n
def pop1 (p : List Nat) : List Nat := if p.getLastD 1 = 0 then p.dropLast else p
def mvp (s : List Nat) (i k : Nat) : List Nat := ((s ++ [0]).set i (s.getD i 0 - 1)).set k (((s ++ [0]).set i (s.getD i 0 - 1)).getD k 0 + 1)
def mv2 (s : List Nat) (i k : Nat) : Option (List Nat) := if okF (mvp s i k) 0 s.length then some (pop1 (pop1 (mvp s i k))) else none
def oD2 : Option (List Nat) → D
  | none => .non
  | some x => .tup (nts x)
theorem mvp_len (s : List Nat) (i k : Nat) : (mvp s i k).length = s.length + 1 := by simp [mvp]
theorem lt_e {S : List SO} {i j : Int} : bLt S (.int i) (.int j) = .ok (.bl (decide (i < j))) false := id rfl
theorem gt_e {S : List SO} {i j : Int} : bGt S (.int i) (.int j) = .ok (.bl (decide (j < i))) false := id rfl
theorem mv_for (p : List Nat) (A B C : Option D) : ∀ (n j : Nat) (w : Option D), j + n < p.length → p.length ≤ 1000000 →
    (if okF p j n then ∃ w', forL (tgName 4) L__law_moved_1 (rangeD j n) [A, B, C, some (.loc 0), w] [.lst (nts p)] = .nx [A, B, C, some (.loc 0), w'] [.lst (nts p)]
     else forL (tgName 4) L__law_moved_1 (rangeD j n) [A, B, C, some (.loc 0), w] [.lst (nts p)] = .rt .non false)
  | 0, j, w, h, hl => by
    rw [okF, if_pos rfl]
    exact ⟨w, rfl⟩
  | n + 1, j, w, h, hl => by
    have a1 : atD (nts p) (j : Int) = some (.int (p.getD j 0 : Nat)) := nts_at (by omega)
    have a2 : atD (nts p) ((j : Int) + 1) = some (.int (p.getD (j + 1) 0 : Nat)) := by
      rw [show (j : Int) + 1 = ((j + 1 : Nat) : Int) by omega]; exact nts_at (by omega)
    have b1 : ∀ (S : List SO), S = [.lst (nts p)] → bIx S (.loc 0) (.int (j : Int)) = .ok (.int (p.getD j 0 : Nat)) false := fun S e => by
      subst e; rw [bIx_o (xs := nts p) rfl, a1]; rfl
    have b2 : ∀ (S : List SO), S = [.lst (nts p)] → bIx S (.loc 0) (.int ((j : Int) + 1)) = .ok (.int (p.getD (j + 1) 0 : Nat)) false := fun S e => by
      subst e; rw [bIx_o (xs := nts p) rfl, a2]; rfl
    have b1 := b1 _ rfl
    have b2 := b2 _ rfl
    have ih := mv_for p A B C n (j + 1) (some (.int j)) (by omega) hl
    rw [rangeD_s, forL_c]
    rw [show ((j + 1 : Nat) : Int) = (j : Int) + 1 by omega] at ih
    by_cases c : p.getD j 0 < p.getD (j + 1) 0
    · have e : okF p j (n + 1) = false := by unfold okF; rw [if_pos c]
      have c' : ((p.getD j 0 : Nat) : Int) < (p.getD (j + 1) 0 : Nat) := by omega
      rw [e, if_neg (by decide)]
      simp only [rB_ok, rB_ex, aB_ok, aB_ex, lB_ok, lB_ex, llB_ok, llB_ex, liB_ok, lsB_ok, lsB_ex, vB_ok, vB_ex, sB_nx, sB_rt, sB_bk, sB_ct, sB_ex, tB_ok, tB_ex, iS_ok, iS_ex, fB_st, fB_dy, oS_nx, oS_ct, oS_bk, oS_rt, oS_ex, gB_s, fin_rt, fin_nx, fin_ex, vO_s, vOS_s, trO_s, oD_s, oL_s, newK_l, newK_d, gets_z, gets_s, cVar_e, cD_e, cTrue_e, cBin_e, cTru_e, cNot_e, cAnd_e, cOr_e, cIf_e, cAndB_e, cOrB_e, cNotB_e, cNil_e, cCons_e, cApp_e, iApp_e, sSkip_e, sBreak_e, sCont_e, sRetN_e, sSeq_e, sAsg_e, sNew_e, sExpr_e, sRet_e, sIf_e, sAsgT_e, sFor_e, sWhile_e, setD_e, tgName_e, tgTup_e, tB2_s, tgCons_e, tgNil_e, callD_e, callKw_e, pick_e, pureL_n, pureL_c, pure_non, pure_bl, pure_int, pure_str, pure_tup, pure_lst, pure_rol, pure_dct, pure_obj, sMethE_e, sMethA_e, sSub_e, sAug_e, augK_s, iVal_e, cComp_e, cB_st, cB_dy, coB_s, wipeD_n, wipeD_c, cTwo_e, cCutA_e, cCutH_e, cCutL_e, cCutLH_e, kInt_i, sTry_e, tryB_nx, tryB_ex, tryB_rt, sRaise_e, raiseK_e, runH_c, runH_n, hdK_t, hdK_f, noE_bl, noE_int, noE_lst, noE_non, noE_str, noE_tup, noEs_c, noEs_n, sPar2_e, sPar3_e, par2K_e, par3K_e, sFrz_e, cErr_e, cChain_e, bAdd_i, bSub_i, bCmp_i, bEq_i, bNe_i, bEq_s, bNe_s, bEq_b, iAdd_i, bIs_n, bIsNot_n, bIs_b, bIsNot_b, isNon_n, isNon_b, isNon_i, isNon_t, isNon_l, truth_b, truth_n, truth_i, truth_t, locO_l, lstOf_l, lstOf_o, rdOf_r, rdOf_l, rdOf_o, rdOf_t, seqOf_t, seqOf_r, seqOf_l, seqOf_o, lO_s, tO_s, iV_t, iV_l, iV_r, iV_o, iVo_s, enI_t, enI_l, lcB_s, lS_l, pO_s, kS_s, kSub_e, retD_non, retD_bl, retD_int, retD_str, retD_tup, retD_lst, retD_rol, retD_dct, retD_obj, retD_loc, retO_l, retO_d, tgD_non, tgD_bl, tgD_int, tgD_str, tgD_tup, tgD_lst, tgD_rol, tgD_dct, bIx_t, bIx_l, bIx_r, fCut_t, fCut_l, fTuple_t, fInt_i, Bool.and_true, Bool.true_and, Bool.and_false, Bool.false_and, Bool.or_true, Bool.true_or, Bool.or_false, Bool.false_or, Bool.not_true, Bool.not_false, Bool.and_self, Bool.false_eq_true, if_true, if_false, decide_true, decide_false, reduceIte, List.set_cons_zero, List.set_cons_succ, List.length_cons, List.length_nil, List.map_cons, List.map_nil, List.nil_append, List.cons_append, L__law_moved_1_e, b1, b2, lt_e, c']
    · have e : okF p j (n + 1) = okF p (j + 1) n := by rw [okF, if_neg c]
      have c' : ¬ ((p.getD j 0 : Nat) : Int) < (p.getD (j + 1) 0 : Nat) := by omega
      rw [e]
      simp only [rB_ok, rB_ex, aB_ok, aB_ex, lB_ok, lB_ex, llB_ok, llB_ex, liB_ok, lsB_ok, lsB_ex, vB_ok, vB_ex, sB_nx, sB_rt, sB_bk, sB_ct, sB_ex, tB_ok, tB_ex, iS_ok, iS_ex, fB_st, fB_dy, oS_nx, oS_ct, oS_bk, oS_rt, oS_ex, gB_s, fin_rt, fin_nx, fin_ex, vO_s, vOS_s, trO_s, oD_s, oL_s, newK_l, newK_d, gets_z, gets_s, cVar_e, cD_e, cTrue_e, cBin_e, cTru_e, cNot_e, cAnd_e, cOr_e, cIf_e, cAndB_e, cOrB_e, cNotB_e, cNil_e, cCons_e, cApp_e, iApp_e, sSkip_e, sBreak_e, sCont_e, sRetN_e, sSeq_e, sAsg_e, sNew_e, sExpr_e, sRet_e, sIf_e, sAsgT_e, sFor_e, sWhile_e, setD_e, tgName_e, tgTup_e, tB2_s, tgCons_e, tgNil_e, callD_e, callKw_e, pick_e, pureL_n, pureL_c, pure_non, pure_bl, pure_int, pure_str, pure_tup, pure_lst, pure_rol, pure_dct, pure_obj, sMethE_e, sMethA_e, sSub_e, sAug_e, augK_s, iVal_e, cComp_e, cB_st, cB_dy, coB_s, wipeD_n, wipeD_c, cTwo_e, cCutA_e, cCutH_e, cCutL_e, cCutLH_e, kInt_i, sTry_e, tryB_nx, tryB_ex, tryB_rt, sRaise_e, raiseK_e, runH_c, runH_n, hdK_t, hdK_f, noE_bl, noE_int, noE_lst, noE_non, noE_str, noE_tup, noEs_c, noEs_n, sPar2_e, sPar3_e, par2K_e, par3K_e, sFrz_e, cErr_e, cChain_e, bAdd_i, bSub_i, bCmp_i, bEq_i, bNe_i, bEq_s, bNe_s, bEq_b, iAdd_i, bIs_n, bIsNot_n, bIs_b, bIsNot_b, isNon_n, isNon_b, isNon_i, isNon_t, isNon_l, truth_b, truth_n, truth_i, truth_t, locO_l, lstOf_l, lstOf_o, rdOf_r, rdOf_l, rdOf_o, rdOf_t, seqOf_t, seqOf_r, seqOf_l, seqOf_o, lO_s, tO_s, iV_t, iV_l, iV_r, iV_o, iVo_s, enI_t, enI_l, lcB_s, lS_l, pO_s, kS_s, kSub_e, retD_non, retD_bl, retD_int, retD_str, retD_tup, retD_lst, retD_rol, retD_dct, retD_obj, retD_loc, retO_l, retO_d, tgD_non, tgD_bl, tgD_int, tgD_str, tgD_tup, tgD_lst, tgD_rol, tgD_dct, bIx_t, bIx_l, bIx_r, fCut_t, fCut_l, fTuple_t, fInt_i, Bool.and_true, Bool.true_and, Bool.and_false, Bool.false_and, Bool.or_true, Bool.true_or, Bool.or_false, Bool.false_or, Bool.not_true, Bool.not_false, Bool.and_self, Bool.false_eq_true, if_true, if_false, decide_true, decide_false, reduceIte, List.set_cons_zero, List.set_cons_succ, List.length_cons, List.length_nil, List.map_cons, List.map_nil, List.nil_append, List.cons_append, L__law_moved_1_e, b1, b2, lt_e, c']
      exact ih
theorem atD_last (s : List Nat) (h : s ≠ []) : atD (nts s) (-1) = some (.int (s.getLastD 0 : Nat)) := by
  have hl : 0 < s.length := List.length_pos_iff.mpr h
  show (if 0 + 1 ≤ (nts s).length then gets (nts s) ((nts s).length - (0 + 1)) else none) = _
  rw [nts_len, if_pos (by omega), gets_eq]
  unfold nts
  rw [List.getElem?_map, List.getElem?_eq_getElem (by omega), List.getLastD_eq_getLast?, List.getLast?_eq_getElem?, List.getElem?_eq_getElem (by omega)]
  rfl
theorem lastD_1 (p : List Nat) (h : p ≠ []) : p.getLastD 1 = p.getLastD 0 := by
  cases p with
  | nil => exact absurd rfl h
  | cons x r => rfl
theorem pop_nts (p : List Nat) (h : p ≠ []) : mPop (nts p) [] = some (nts p.dropLast, .int (p.getLastD 0 : Nat)) := by
  have e1 : lastD (nts p) = some (.int (p.getLastD 0 : Nat)) := by
    induction p with
    | nil => exact absurd rfl h
    | cons x r ih =>
      cases r with
      | nil => rfl
      | cons y r => exact ih (by intro z; cases z)
  have e2 : initD (nts p) = nts p.dropLast := by
    clear e1 h
    induction p with
    | nil => rfl
    | cons x r ih =>
      cases r with
      | nil => rfl
      | cons y r => show .int (x : Int) :: initD (nts (y :: r)) = _; rw [ih]; rfl
  show (match lastD (nts p) with | some y => some (initD (nts p), y) | none => none) = _
  rw [e1, e2]
theorem pop1_eq (p : List Nat) (h : p ≠ []) : pop1 p = if p.getLastD 0 = 0 then p.dropLast else p := by
  unfold pop1; rw [lastD_1 p h]
theorem pop_if (p : List Nat) (h : p ≠ []) (A B C w : Option D) : sIf (cBin bEq (cBin bIx (cVar 3) (cNeg (cD (.int 1)))) (cD (.int 0))) (sMethE mPop (cVar 3) cNil) sSkip [A, B, C, some (.loc 0), w] [.lst (nts p)] = .nx [A, B, C, some (.loc 0), w] [.lst (nts (pop1 p))] := by
  have hn : ∀ (σ : Sl) (S : List SO), cNeg (cD (.int 1)) σ S = .ok (.int (-1)) false := fun _ _ => rfl
  have b1 : ∀ S : List SO, S = [.lst (nts p)] → bIx S (.loc 0) (.int (-1)) = .ok (.int (p.getLastD 0 : Nat)) false := fun S e => by
    subst e; rw [bIx_o (xs := nts p) rfl, atD_last p h]; rfl
  have b1 := b1 _ rfl
  rw [pop1_eq p h]
  by_cases c : p.getLastD 0 = 0
  · have c' : ((p.getLastD 0 : Nat) : Int) = 0 := by omega
    rw [if_pos c]
    simp only [rB_ok, rB_ex, aB_ok, aB_ex, lB_ok, lB_ex, llB_ok, llB_ex, liB_ok, lsB_ok, lsB_ex, vB_ok, vB_ex, sB_nx, sB_rt, sB_bk, sB_ct, sB_ex, tB_ok, tB_ex, iS_ok, iS_ex, fB_st, fB_dy, oS_nx, oS_ct, oS_bk, oS_rt, oS_ex, gB_s, fin_rt, fin_nx, fin_ex, vO_s, vOS_s, trO_s, oD_s, oL_s, newK_l, newK_d, gets_z, gets_s, cVar_e, cD_e, cTrue_e, cBin_e, cTru_e, cNot_e, cAnd_e, cOr_e, cIf_e, cAndB_e, cOrB_e, cNotB_e, cNil_e, cCons_e, cApp_e, iApp_e, sSkip_e, sBreak_e, sCont_e, sRetN_e, sSeq_e, sAsg_e, sNew_e, sExpr_e, sRet_e, sIf_e, sAsgT_e, sFor_e, sWhile_e, setD_e, tgName_e, tgTup_e, tB2_s, tgCons_e, tgNil_e, callD_e, callKw_e, pick_e, pureL_n, pureL_c, pure_non, pure_bl, pure_int, pure_str, pure_tup, pure_lst, pure_rol, pure_dct, pure_obj, sMethE_e, sMethA_e, sSub_e, sAug_e, augK_s, iVal_e, cComp_e, cB_st, cB_dy, coB_s, wipeD_n, wipeD_c, cTwo_e, cCutA_e, cCutH_e, cCutL_e, cCutLH_e, kInt_i, sTry_e, tryB_nx, tryB_ex, tryB_rt, sRaise_e, raiseK_e, runH_c, runH_n, hdK_t, hdK_f, noE_bl, noE_int, noE_lst, noE_non, noE_str, noE_tup, noEs_c, noEs_n, sPar2_e, sPar3_e, par2K_e, par3K_e, sFrz_e, cErr_e, cChain_e, bAdd_i, bSub_i, bCmp_i, bEq_i, bNe_i, bEq_s, bNe_s, bEq_b, iAdd_i, bIs_n, bIsNot_n, bIs_b, bIsNot_b, isNon_n, isNon_b, isNon_i, isNon_t, isNon_l, truth_b, truth_n, truth_i, truth_t, locO_l, lstOf_l, lstOf_o, rdOf_r, rdOf_l, rdOf_o, rdOf_t, seqOf_t, seqOf_r, seqOf_l, seqOf_o, lO_s, tO_s, iV_t, iV_l, iV_r, iV_o, iVo_s, enI_t, enI_l, lcB_s, lS_l, pO_s, kS_s, kSub_e, retD_non, retD_bl, retD_int, retD_str, retD_tup, retD_lst, retD_rol, retD_dct, retD_obj, retD_loc, retO_l, retO_d, tgD_non, tgD_bl, tgD_int, tgD_str, tgD_tup, tgD_lst, tgD_rol, tgD_dct, bIx_t, bIx_l, bIx_r, fCut_t, fCut_l, fTuple_t, fInt_i, Bool.and_true, Bool.true_and, Bool.and_false, Bool.false_and, Bool.or_true, Bool.true_or, Bool.or_false, Bool.false_or, Bool.not_true, Bool.not_false, Bool.and_self, Bool.false_eq_true, if_true, if_false, decide_true, decide_false, reduceIte, List.set_cons_zero, List.set_cons_succ, List.length_cons, List.length_nil, List.map_cons, List.map_nil, List.nil_append, List.cons_append, hn, b1, c', pop_nts p h]
  · have c' : ¬ ((p.getLastD 0 : Nat) : Int) = 0 := by omega
    rw [if_neg c]
    simp only [rB_ok, rB_ex, aB_ok, aB_ex, lB_ok, lB_ex, llB_ok, llB_ex, liB_ok, lsB_ok, lsB_ex, vB_ok, vB_ex, sB_nx, sB_rt, sB_bk, sB_ct, sB_ex, tB_ok, tB_ex, iS_ok, iS_ex, fB_st, fB_dy, oS_nx, oS_ct, oS_bk, oS_rt, oS_ex, gB_s, fin_rt, fin_nx, fin_ex, vO_s, vOS_s, trO_s, oD_s, oL_s, newK_l, newK_d, gets_z, gets_s, cVar_e, cD_e, cTrue_e, cBin_e, cTru_e, cNot_e, cAnd_e, cOr_e, cIf_e, cAndB_e, cOrB_e, cNotB_e, cNil_e, cCons_e, cApp_e, iApp_e, sSkip_e, sBreak_e, sCont_e, sRetN_e, sSeq_e, sAsg_e, sNew_e, sExpr_e, sRet_e, sIf_e, sAsgT_e, sFor_e, sWhile_e, setD_e, tgName_e, tgTup_e, tB2_s, tgCons_e, tgNil_e, callD_e, callKw_e, pick_e, pureL_n, pureL_c, pure_non, pure_bl, pure_int, pure_str, pure_tup, pure_lst, pure_rol, pure_dct, pure_obj, sMethE_e, sMethA_e, sSub_e, sAug_e, augK_s, iVal_e, cComp_e, cB_st, cB_dy, coB_s, wipeD_n, wipeD_c, cTwo_e, cCutA_e, cCutH_e, cCutL_e, cCutLH_e, kInt_i, sTry_e, tryB_nx, tryB_ex, tryB_rt, sRaise_e, raiseK_e, runH_c, runH_n, hdK_t, hdK_f, noE_bl, noE_int, noE_lst, noE_non, noE_str, noE_tup, noEs_c, noEs_n, sPar2_e, sPar3_e, par2K_e, par3K_e, sFrz_e, cErr_e, cChain_e, bAdd_i, bSub_i, bCmp_i, bEq_i, bNe_i, bEq_s, bNe_s, bEq_b, iAdd_i, bIs_n, bIsNot_n, bIs_b, bIsNot_b, isNon_n, isNon_b, isNon_i, isNon_t, isNon_l, truth_b, truth_n, truth_i, truth_t, locO_l, lstOf_l, lstOf_o, rdOf_r, rdOf_l, rdOf_o, rdOf_t, seqOf_t, seqOf_r, seqOf_l, seqOf_o, lO_s, tO_s, iV_t, iV_l, iV_r, iV_o, iVo_s, enI_t, enI_l, lcB_s, lS_l, pO_s, kS_s, kSub_e, retD_non, retD_bl, retD_int, retD_str, retD_tup, retD_lst, retD_rol, retD_dct, retD_obj, retD_loc, retO_l, retO_d, tgD_non, tgD_bl, tgD_int, tgD_str, tgD_tup, tgD_lst, tgD_rol, tgD_dct, bIx_t, bIx_l, bIx_r, fCut_t, fCut_l, fTuple_t, fInt_i, Bool.and_true, Bool.true_and, Bool.and_false, Bool.false_and, Bool.or_true, Bool.true_or, Bool.or_false, Bool.false_or, Bool.not_true, Bool.not_false, Bool.and_self, Bool.false_eq_true, if_true, if_false, decide_true, decide_false, reduceIte, List.set_cons_zero, List.set_cons_succ, List.length_cons, List.length_nil, List.map_cons, List.map_nil, List.nil_append, List.cons_append, hn, b1, c']
theorem pop_if2 (p : List Nat) (A B C w : Option D) : sIf (cAndB (cBin bGt (cApp fLen (cCons (cVar 3) cNil)) (cD (.int 0))) (cBin bEq (cBin bIx (cVar 3) (cNeg (cD (.int 1)))) (cD (.int 0)))) (sMethE mPop (cVar 3) cNil) sSkip [A, B, C, some (.loc 0), w] [.lst (nts p)] = .nx [A, B, C, some (.loc 0), w] [.lst (nts (pop1 p))] := by
  have b0 : ∀ S : List SO, S = [.lst (nts p)] → fLen S [.loc 0] = .ok (.int (p.length : Int)) false := fun S e => by
    subst e; rw [fLen_s (xs := nts p) rfl, nts_len]
  have b0 := b0 _ rfl
  by_cases h : p = []
  · subst h
    simp only [rB_ok, rB_ex, aB_ok, aB_ex, lB_ok, lB_ex, llB_ok, llB_ex, liB_ok, lsB_ok, lsB_ex, vB_ok, vB_ex, sB_nx, sB_rt, sB_bk, sB_ct, sB_ex, tB_ok, tB_ex, iS_ok, iS_ex, fB_st, fB_dy, oS_nx, oS_ct, oS_bk, oS_rt, oS_ex, gB_s, fin_rt, fin_nx, fin_ex, vO_s, vOS_s, trO_s, oD_s, oL_s, newK_l, newK_d, gets_z, gets_s, cVar_e, cD_e, cTrue_e, cBin_e, cTru_e, cNot_e, cAnd_e, cOr_e, cIf_e, cAndB_e, cOrB_e, cNotB_e, cNil_e, cCons_e, cApp_e, iApp_e, sSkip_e, sBreak_e, sCont_e, sRetN_e, sSeq_e, sAsg_e, sNew_e, sExpr_e, sRet_e, sIf_e, sAsgT_e, sFor_e, sWhile_e, setD_e, tgName_e, tgTup_e, tB2_s, tgCons_e, tgNil_e, callD_e, callKw_e, pick_e, pureL_n, pureL_c, pure_non, pure_bl, pure_int, pure_str, pure_tup, pure_lst, pure_rol, pure_dct, pure_obj, sMethE_e, sMethA_e, sSub_e, sAug_e, augK_s, iVal_e, cComp_e, cB_st, cB_dy, coB_s, wipeD_n, wipeD_c, cTwo_e, cCutA_e, cCutH_e, cCutL_e, cCutLH_e, kInt_i, sTry_e, tryB_nx, tryB_ex, tryB_rt, sRaise_e, raiseK_e, runH_c, runH_n, hdK_t, hdK_f, noE_bl, noE_int, noE_lst, noE_non, noE_str, noE_tup, noEs_c, noEs_n, sPar2_e, sPar3_e, par2K_e, par3K_e, sFrz_e, cErr_e, cChain_e, bAdd_i, bSub_i, bCmp_i, bEq_i, bNe_i, bEq_s, bNe_s, bEq_b, iAdd_i, bIs_n, bIsNot_n, bIs_b, bIsNot_b, isNon_n, isNon_b, isNon_i, isNon_t, isNon_l, truth_b, truth_n, truth_i, truth_t, locO_l, lstOf_l, lstOf_o, rdOf_r, rdOf_l, rdOf_o, rdOf_t, seqOf_t, seqOf_r, seqOf_l, seqOf_o, lO_s, tO_s, iV_t, iV_l, iV_r, iV_o, iVo_s, enI_t, enI_l, lcB_s, lS_l, pO_s, kS_s, kSub_e, retD_non, retD_bl, retD_int, retD_str, retD_tup, retD_lst, retD_rol, retD_dct, retD_obj, retD_loc, retO_l, retO_d, tgD_non, tgD_bl, tgD_int, tgD_str, tgD_tup, tgD_lst, tgD_rol, tgD_dct, bIx_t, bIx_l, bIx_r, fCut_t, fCut_l, fTuple_t, fInt_i, Bool.and_true, Bool.true_and, Bool.and_false, Bool.false_and, Bool.or_true, Bool.true_or, Bool.or_false, Bool.false_or, Bool.not_true, Bool.not_false, Bool.and_self, Bool.false_eq_true, if_true, if_false, decide_true, decide_false, reduceIte, List.set_cons_zero, List.set_cons_succ, List.length_cons, List.length_nil, List.map_cons, List.map_nil, List.nil_append, List.cons_append, b0, gt_e, Int.reduceLT, Int.natCast_zero, Int.lt_irrefl]
    rfl
  · have hl : (0 : Int) < (p.length : Int) := by have := List.length_pos_iff.mpr h; omega
    have e := pop_if p h A B C w
    rw [← e]
    simp only [sIf_e, cAndB_e, cBin_e, cApp_e, cCons_e, cNil_e, aB_ok, llB_ok, lB_ok, cVar_e, gets_z, gets_s, vO_s, b0, rB_ok, cD_e, gt_e, hl, decide_true, tB_ok, if_true]
theorem moved_is (s : List Nat) (i k : Nat) (hi : i < s.length) (hk : k ≤ s.length) (hp : 0 < s.getD i 0) (hl : s.length ≤ 1000) :
    m__law_moved [.tup (nts s), .int (i : Int), .int (k : Int)] = .ok (oD2 (mv2 s i k)) false := by
  have l1 : ∀ S, fList S [.tup (nts s)] = .ok (.lst (nts s)) true := fun S => by rw [fList_e, seqOf_t, lO_s, if_pos (nts_pure s)]
  have l2 : ∀ S, fLst S [.int 0] = .ok (.lst [.int 0]) true := fun S => rfl
  have l3 : ∀ S, bAdd S (.lst (nts s)) (.lst [.int 0]) = .ok (.lst (nts (s ++ [0]))) true := fun S => by
    rw [bAdd_l, if_pos (by rw [nts_len]; unfold lim; simp; omega), if_pos (by simp [nts_pure])]
    simp [nts]
  have g0 : (s ++ [0]).getD i 0 = s.getD i 0 := by
    rw [List.getD_eq_getElem?_getD, List.getD_eq_getElem?_getD, List.getElem?_append_left hi]
  have l4 : ∀ S : List SO, S = [.lst (nts (s ++ [0]))] → bIx S (.loc 0) (.int (i : Int)) = .ok (.int (s.getD i 0 : Nat)) false := fun S e => by
    subst e; rw [bIx_o (xs := nts (s ++ [0])) rfl, nts_at (by simp; omega), g0]; rfl
  have l4 := l4 _ rfl
  have l5 : ((s.getD i 0 : Nat) : Int) - 1 = ((s.getD i 0 - 1 : Nat) : Int) := by omega
  have l6 : setI (nts (s ++ [0])) (i : Int) (.int ((s.getD i 0 - 1 : Nat) : Int)) = some (nts ((s ++ [0]).set i (s.getD i 0 - 1))) := by
    rw [setI_n (by rw [nts_len]; simp; omega), nts_set]
  have l7 : ∀ S : List SO, S = [.lst (nts ((s ++ [0]).set i (s.getD i 0 - 1)))] → bIx S (.loc 0) (.int (k : Int)) = .ok (.int (((s ++ [0]).set i (s.getD i 0 - 1)).getD k 0 : Nat)) false := fun S e => by
    subst e; rw [bIx_o (xs := nts ((s ++ [0]).set i (s.getD i 0 - 1))) rfl, nts_at (by simp; omega)]; rfl
  have l7 := l7 _ rfl
  have l8 : ((((s ++ [0]).set i (s.getD i 0 - 1)).getD k 0 : Nat) : Int) + 1 = ((((s ++ [0]).set i (s.getD i 0 - 1)).getD k 0 + 1 : Nat) : Int) := by omega
  have l9 : setI (nts ((s ++ [0]).set i (s.getD i 0 - 1))) (k : Int) (.int ((((s ++ [0]).set i (s.getD i 0 - 1)).getD k 0 + 1 : Nat) : Int)) = some (nts (mvp s i k)) := by
    rw [setI_n (by rw [nts_len]; simp; omega), nts_set]; rfl
  have hL := mvp_len s i k
  have l10 : ∀ S : List SO, S = [.lst (nts (mvp s i k))] → fLen S [.loc 0] = .ok (.int ((s.length + 1 : Nat) : Int)) false := fun S e => by
    subst e; rw [fLen_s (xs := nts (mvp s i k)) rfl, nts_len, hL]
  have l10 := l10 _ rfl
  have l11 : ∀ S, rg1 S [.int (((s.length + 1 : Nat) : Int) - 1)] = .st (rangeD 0 s.length) := fun S => by
    rw [show ((s.length + 1 : Nat) : Int) - 1 = (s.length : Int) by omega]; exact rg1_nat (by omega)
  have mf := mv_for (mvp s i k) (some (.tup (nts s))) (some (.int (i : Int))) (some (.int (k : Int))) s.length 0 none (by omega) (by omega)
  rw [r__law_moved]
  unfold mv2
  by_cases ok : okF (mvp s i k) 0 s.length = true
  · rw [ok, if_pos rfl] at mf
    rw [if_pos ok]
    obtain ⟨w', mf⟩ := mf
    rw [show ((0 : Nat) : Int) = 0 from rfl] at mf
    have p1 := pop_if (mvp s i k) (by intro z; rw [z] at hL; cases hL) (some (.tup (nts s))) (some (.int (i : Int))) (some (.int (k : Int))) w'
    have p2 := pop_if2 (pop1 (mvp s i k)) (some (.tup (nts s))) (some (.int (i : Int))) (some (.int (k : Int))) w'
    have t1 : ∀ S : List SO, S = [.lst (nts (pop1 (pop1 (mvp s i k))))] → fTuple S [.loc 0] = .ok (.tup (nts (pop1 (pop1 (mvp s i k))))) false := fun S e => by
      subst e; rw [fTuple_o]; show tO (some _) = _; rw [tO_s, if_pos (nts_pure _)]
    have t1 := t1 _ rfl
    simp only [b__law_moved_e, sSeq_e, sNew_e, cBin_e, cApp_e, cCons_e, cNil_e, aB_ok, llB_ok, lB_ok, cVar_e, gets_z, gets_s, vO_s, rB_ok, cD_e, l1, l2, l3, vB_ok, newK_l, setD_e, List.set_cons_succ, List.set_cons_zero, List.nil_append, List.length_nil, sB_nx, sSub_e, l4, bSub_i, l5, kSub_e, lS_l, lcB_s, l6, kS_s, l7, bAdd_i, l8, l9, sFor_e, iApp_e, liB_ok, l10, l11, fB_st, mf]
    rw [p1]
    simp only [sB_nx, sSeq_e]
    rw [p2]
    simp only [sB_nx, sRet_e, cApp_e, cCons_e, cVar_e, gets_z, gets_s, vO_s, aB_ok, cNil_e, llB_ok, lB_ok, t1, vB_ok, retD_tup, fin_rt]
    rfl
  · rw [Bool.not_eq_true] at ok
    rw [ok, if_neg (by decide), show ((0 : Nat) : Int) = 0 from rfl] at mf
    rw [if_neg (by rw [ok]; decide)]
    simp only [b__law_moved_e, rB_ok, rB_ex, aB_ok, aB_ex, lB_ok, lB_ex, llB_ok, llB_ex, liB_ok, lsB_ok, lsB_ex, vB_ok, vB_ex, sB_nx, sB_rt, sB_bk, sB_ct, sB_ex, tB_ok, tB_ex, iS_ok, iS_ex, fB_st, fB_dy, oS_nx, oS_ct, oS_bk, oS_rt, oS_ex, gB_s, fin_rt, fin_nx, fin_ex, vO_s, vOS_s, trO_s, oD_s, oL_s, newK_l, newK_d, gets_z, gets_s, cVar_e, cD_e, cTrue_e, cBin_e, cTru_e, cNot_e, cAnd_e, cOr_e, cIf_e, cAndB_e, cOrB_e, cNotB_e, cNil_e, cCons_e, cApp_e, iApp_e, sSkip_e, sBreak_e, sCont_e, sRetN_e, sSeq_e, sAsg_e, sNew_e, sExpr_e, sRet_e, sIf_e, sAsgT_e, sFor_e, sWhile_e, setD_e, tgName_e, tgTup_e, tB2_s, tgCons_e, tgNil_e, callD_e, callKw_e, pick_e, pureL_n, pureL_c, pure_non, pure_bl, pure_int, pure_str, pure_tup, pure_lst, pure_rol, pure_dct, pure_obj, sMethE_e, sMethA_e, sSub_e, sAug_e, augK_s, iVal_e, cComp_e, cB_st, cB_dy, coB_s, wipeD_n, wipeD_c, cTwo_e, cCutA_e, cCutH_e, cCutL_e, cCutLH_e, kInt_i, sTry_e, tryB_nx, tryB_ex, tryB_rt, sRaise_e, raiseK_e, runH_c, runH_n, hdK_t, hdK_f, noE_bl, noE_int, noE_lst, noE_non, noE_str, noE_tup, noEs_c, noEs_n, sPar2_e, sPar3_e, par2K_e, par3K_e, sFrz_e, cErr_e, cChain_e, bAdd_i, bSub_i, bCmp_i, bEq_i, bNe_i, bEq_s, bNe_s, bEq_b, iAdd_i, bIs_n, bIsNot_n, bIs_b, bIsNot_b, isNon_n, isNon_b, isNon_i, isNon_t, isNon_l, truth_b, truth_n, truth_i, truth_t, locO_l, lstOf_l, lstOf_o, rdOf_r, rdOf_l, rdOf_o, rdOf_t, seqOf_t, seqOf_r, seqOf_l, seqOf_o, lO_s, tO_s, iV_t, iV_l, iV_r, iV_o, iVo_s, enI_t, enI_l, lcB_s, lS_l, pO_s, kS_s, kSub_e, retD_non, retD_bl, retD_int, retD_str, retD_tup, retD_lst, retD_rol, retD_dct, retD_obj, retD_loc, retO_l, retO_d, tgD_non, tgD_bl, tgD_int, tgD_str, tgD_tup, tgD_lst, tgD_rol, tgD_dct, bIx_t, bIx_l, bIx_r, fCut_t, fCut_l, fTuple_t, fInt_i, Bool.and_true, Bool.true_and, Bool.and_false, Bool.false_and, Bool.or_true, Bool.true_or, Bool.or_false, Bool.false_or, Bool.not_true, Bool.not_false, Bool.and_self, Bool.false_eq_true, if_true, if_false, decide_true, decide_false, reduceIte, List.set_cons_zero, List.set_cons_succ, List.length_cons, List.length_nil, List.map_cons, List.map_nil, List.nil_append, List.cons_append, l1, l2, l3, l4, l5, l6, l7, l8, l9, l10, l11, mf]
    rfl
end K04

set_option maxRecDepth 2000
namespace K04
open PySem HC PL PM
/-! all stairs to which single boxes lead -/
abbrev St := List (List Nat) × List (List Nat)
def add1 (st : St) (o : Option (List Nat)) : St := match o with
  | none => st
  | some x => if x ∈ st.1 then st else (st.1 ++ [x], st.2 ++ [x])
def rowF (h : List Nat) (i : Nat) (st : St) : St := (List.range' (i + 1) (h.length - i)).foldl (fun st k => add1 st (mv2 h i k)) st
def highF (st : St) (h : List Nat) : St := (List.range h.length).foldl (fun st i => rowF h i st) st
def turnF (st : St) : St := st.2.foldl highF (st.1, [])
def ledF : Nat → St → St
  | 0, st => st
  | n + 1, st => ledF n (turnF st)
theorem add1_pre (st : St) (o : Option (List Nat)) : st.1 <+: (add1 st o).1 := by
  unfold add1
  cases o with
  | none => exact List.prefix_refl _
  | some x =>
    dsimp only
    split
    · exact List.prefix_refl _
    · exact List.prefix_append ..
theorem fold_pre {α : Type} (f : St → α → St) (h : ∀ st x, st.1 <+: (f st x).1) : ∀ (xs : List α) (st : St), st.1 <+: (xs.foldl f st).1
  | [], st => List.prefix_refl _
  | x :: xs, st => (h st x).trans (fold_pre f h xs (f st x))
theorem row_pre (h : List Nat) (i : Nat) (st : St) : st.1 <+: (rowF h i st).1 := fold_pre _ (fun st k => add1_pre st _) _ st
theorem high_pre (h : List Nat) (st : St) : st.1 <+: (highF st h).1 := fold_pre _ (fun st i => row_pre h i st) _ st
theorem turn_pre (st : St) : st.1 <+: (turnF st).1 := fold_pre _ (fun st h => high_pre h st) _ (st.1, [])
theorem led_pre : ∀ (n : Nat) (st : St), st.1 <+: (ledF n st).1
  | 0, st => List.prefix_refl _
  | n + 1, st => (turn_pre st).trans (led_pre n _)
def OkS (x : List Nat) : Prop := x.length ≤ 1000 ∧ ∀ i, i < x.length → 0 < x.getD i 0
structure Fin (st : St) : Prop where
  ln : st.1.length ≤ 100000
  ok : ∀ x ∈ st.1, OkS x
theorem Fin.pre {a b : St} (h : Fin b) (p : a.1 <+: b.1) : Fin a := ⟨Nat.le_trans p.length_le h.ln, fun x hx => h.ok x (p.subset hx)⟩
/-- what is carried along -/
structure Inv (st : St) : Prop where
  ne : st.1 ≠ []
  sub : ∀ x ∈ st.2, x ∈ st.1
  ln : st.2.length ≤ st.1.length
theorem add1_inv {st : St} (h : Inv st) (o : Option (List Nat)) : Inv (add1 st o) := by
  unfold add1
  cases o with
  | none => exact h
  | some x =>
    dsimp only
    split
    · exact h
    · refine ⟨by simp, fun y hy => ?_, by simp; exact h.ln⟩
      rcases List.mem_append.mp hy with hy | hy
      · exact List.mem_append_left _ (h.sub y hy)
      · exact List.mem_append_right _ hy
theorem fold_inv {α : Type} (f : St → α → St) (h : ∀ st x, Inv st → Inv (f st x)) : ∀ (xs : List α) (st : St), Inv st → Inv (xs.foldl f st)
  | [], st, i => i
  | x :: xs, st, i => fold_inv f h xs (f st x) (h st x i)
theorem row_inv {st : St} (h : List Nat) (i : Nat) (v : Inv st) : Inv (rowF h i st) := fold_inv _ (fun st k v => add1_inv v _) _ st v
theorem high_inv {st : St} (h : List Nat) (v : Inv st) : Inv (highF st h) := fold_inv _ (fun st i v => row_inv h i v) _ st v
def tupD (x : List Nat) : D := .tup (nts x)
def metO (M : List (List Nat)) : SO := .dct (M.map tupD) (M.map fun _ => .bl true)
def folO (F : List (List Nat)) : SO := .lst (F.map tupD)
def kyN (x : List Nat) : List L2.Key := x.map fun n : Nat => .inl (n : Int)
theorem keyT_tup (x : List Nat) : keyT (tupD x) = some (kyN x) := by
  show keyKs (nts x) = _
  unfold nts kyN
  induction x with
  | nil => rfl
  | cons a r ih =>
    rw [List.map_cons, List.map_cons]
    unfold keyKs
    rw [ih]; rfl
theorem kyN_inj : ∀ {a b : List Nat}, kyN a = kyN b → a = b
  | [], [], _ => rfl
  | [], _ :: _, h => by cases h
  | _ :: _, [], h => by cases h
  | x :: a, y :: b, h => by
    have h1 : ((x : Int)) = y := Sum.inl.inj (List.cons.inj h).1
    rw [show x = y by omega, kyN_inj (List.cons.inj h).2]
theorem eqKey_tup (a b : List Nat) : eqKey (tupD a) (tupD b) = decide (a = b) := by
  have e : tupD a = keysD (kyN a) := by
    unfold tupD keysD nts kyN
    rw [List.map_map]; rfl
  rw [e, eqKey_T (keyT_tup b)]
  by_cases h : a = b
  · subst h; simp
  · have : ¬ kyN a = kyN b := fun z => h (kyN_inj z)
    simp [h, this]
theorem get_tup (x : List Nat) : ∀ M : List (List Nat), getKD (M.map tupD) (M.map fun _ => .bl true) (tupD x) = if x ∈ M then some (.bl true) else none
  | [] => rfl
  | m :: M => by
    rw [List.map_cons, List.map_cons]
    unfold getKD
    rw [eqKey_tup, get_tup x M]
    by_cases h1 : m = x
    · subst h1; simp
    · have : ¬ x = m := fun z => h1 z.symm
      by_cases h2 : x ∈ M <;> simp [h1, h2, this]
theorem any_tup (M : List (List Nat)) (x : List Nat) : (M.map tupD).any (fun k => eqKey k (tupD x)) = decide (x ∈ M) := by
  induction M with
  | nil => rfl
  | cons m M ih =>
    rw [List.map_cons, List.any_cons, ih, eqKey_tup]
    by_cases h1 : m = x
    · subst h1; simp
    · have : ¬ x = m := fun z => h1 z.symm
      by_cases h2 : x ∈ M <;> simp [h1, h2, this]
theorem fits_tup {M : List (List Nat)} (h : M ≠ []) (x : List Nat) : fits (M.map tupD) (tupD x) = true := by
  cases M with
  | nil => exact absurd rfl h
  | cons m M =>
    show (match kindK (tupD m), kindK (tupD x) with | some a, some b => a == b | _, _ => false) = true
    have k : ∀ y, kindK (tupD y) = some true := fun y => by
      unfold kindK
      rw [show keyK (tupD y) = none from rfl]
      dsimp only
      rw [keyT_tup]
    rw [k, k]; rfl
theorem nin_e {M : List (List Nat)} (h : M ≠ []) (x : List Nat) (S : List SO) : bDnin (metO M :: S) (tupD x) (.loc 0) = .ok (.bl (!decide (x ∈ M))) false := by
  unfold bDnin
  show (if fits (M.map tupD) (tupD x) then Res.ok (.bl (!(getKD _ _ _).isSome)) false else .bad) = _
  rw [if_pos (fits_tup h x), get_tup]
  by_cases h2 : x ∈ M <;> simp [h2]
theorem in_e {M : List (List Nat)} (h : M ≠ []) (x : List Nat) (S : List SO) : bDin S (tupD x) (.dct (M.map tupD) (M.map fun _ => .bl true)) = .ok (.bl (decide (x ∈ M))) false := by
  unfold bDin
  show (if fits (M.map tupD) (tupD x) then Res.ok (.bl (getKD _ _ _).isSome) false else .bad) = _
  rw [if_pos (fits_tup h x), get_tup]
  by_cases h2 : x ∈ M <;> simp [h2]
theorem put_e {M : List (List Nat)} (h : M ≠ []) (hl : M.length < lim) (x : List Nat) (hx : x ∉ M) (σ : Sl) (S : List SO) : kDput (.bl true) σ (metO M :: S) (.loc 0) (tupD x) = .nx σ (metO (M ++ [x]) :: S) := by
  show (if fits (M.map tupD) (tupD x) && decide ((M.map tupD).length < lim) then RS.nx σ ((metO M :: S).set 0 (putKD _ _ _ _)) else .bad) = _
  rw [fits_tup h x, if_pos (by simp; exact hl)]
  unfold putKD
  rw [any_tup, if_neg (by simp [hx])]
  simp [metO]
end K04

set_option maxRecDepth 2000
namespace K04
open PySem HC PL PM
def stO (st : St) : List SO := [metO st.1, folO st.2]
section
variable {A B C E : Option D}
theorem led_k (h : List Nat) (i : Nat) (hh : OkS h) (hi : i < h.length) : ∀ (n j : Nat) (st : St) (w8 w9 : Option D), i < j → j + n ≤ h.length + 1 → Inv st →
    Fin ((List.range' j n).foldl (fun st k => add1 st (mv2 h i k)) st) → ∃ w8' w9', 
    forL (tgName 8) L__law_led_to_1 ((List.range' j n).map fun i : Nat => D.int (i : Int)) [A, B, some (.loc 0), C, E, some (.loc 1), some (tupD h), some (.int (i : Int)), w8, w9] (stO st) =
      .nx [A, B, some (.loc 0), C, E, some (.loc 1), some (tupD h), some (.int (i : Int)), w8', w9'] (stO ((List.range' j n).foldl (fun st k => add1 st (mv2 h i k)) st))
  | 0, j, st, w8, w9, h1, h2, iv, hf => ⟨w8, w9, rfl⟩
  | n + 1, j, st, w8, w9, h1, h2, iv, hf => by
    rw [List.range'_succ, List.foldl_cons] at hf ⊢
    rw [List.map_cons, forL_c]
    have hm := moved_is h i j hi (by omega) (hh.2 i hi) hh.1
    have fin1 : Fin (add1 st (mv2 h i j)) := hf.pre (fold_pre (fun st k => add1 st (mv2 h i k)) (fun st k => add1_pre st _) _ _)
    have step : ∃ w8' w9', L__law_led_to_1 [A, B, some (.loc 0), C, E, some (.loc 1), some (tupD h), some (.int (i : Int)), some (.int (j : Int)), w9] (stO st) = .nx [A, B, some (.loc 0), C, E, some (.loc 1), some (tupD h), some (.int (i : Int)), w8', w9'] (stO (add1 st (mv2 h i j))) := by
      refine ⟨some (.int (j : Int)), some (oD2 (mv2 h i j)), ?_⟩
      have hm' : m__law_moved [tupD h, .int (i : Int), .int (j : Int)] = .ok (oD2 (mv2 h i j)) false := hm
      have ph : (tupD h).pure = true := rfl
      cases e : mv2 h i j with
      | none =>
        rw [e] at hm'
        simp only [L__law_led_to_1_e, rB_ok, rB_ex, aB_ok, aB_ex, lB_ok, lB_ex, llB_ok, llB_ex, liB_ok, lsB_ok, lsB_ex, vB_ok, vB_ex, sB_nx, sB_rt, sB_bk, sB_ct, sB_ex, tB_ok, tB_ex, iS_ok, iS_ex, fB_st, fB_dy, oS_nx, oS_ct, oS_bk, oS_rt, oS_ex, gB_s, fin_rt, fin_nx, fin_ex, vO_s, vOS_s, trO_s, oD_s, oL_s, newK_l, newK_d, gets_z, gets_s, cVar_e, cD_e, cTrue_e, cBin_e, cTru_e, cNot_e, cAnd_e, cOr_e, cIf_e, cAndB_e, cOrB_e, cNotB_e, cNil_e, cCons_e, cApp_e, iApp_e, sSkip_e, sBreak_e, sCont_e, sRetN_e, sSeq_e, sAsg_e, sNew_e, sExpr_e, sRet_e, sIf_e, sAsgT_e, sFor_e, sWhile_e, setD_e, tgName_e, tgTup_e, tB2_s, tgCons_e, tgNil_e, callD_e, callKw_e, pick_e, pureL_n, pureL_c, pure_non, pure_bl, pure_int, pure_str, pure_tup, pure_lst, pure_rol, pure_dct, pure_obj, sMethE_e, sMethA_e, sSub_e, sAug_e, augK_s, iVal_e, cComp_e, cB_st, cB_dy, coB_s, wipeD_n, wipeD_c, cTwo_e, cCutA_e, cCutH_e, cCutL_e, cCutLH_e, kInt_i, sTry_e, tryB_nx, tryB_ex, tryB_rt, sRaise_e, raiseK_e, runH_c, runH_n, hdK_t, hdK_f, noE_bl, noE_int, noE_lst, noE_non, noE_str, noE_tup, noEs_c, noEs_n, sPar2_e, sPar3_e, par2K_e, par3K_e, sFrz_e, cErr_e, cChain_e, bAdd_i, bSub_i, bCmp_i, bEq_i, bNe_i, bEq_s, bNe_s, bEq_b, iAdd_i, bIs_n, bIsNot_n, bIs_b, bIsNot_b, isNon_n, isNon_b, isNon_i, isNon_t, isNon_l, truth_b, truth_n, truth_i, truth_t, locO_l, lstOf_l, lstOf_o, rdOf_r, rdOf_l, rdOf_o, rdOf_t, seqOf_t, seqOf_r, seqOf_l, seqOf_o, lO_s, tO_s, iV_t, iV_l, iV_r, iV_o, iVo_s, enI_t, enI_l, lcB_s, lS_l, pO_s, kS_s, kSub_e, retD_non, retD_bl, retD_int, retD_str, retD_tup, retD_lst, retD_rol, retD_dct, retD_obj, retD_loc, retO_l, retO_d, tgD_non, tgD_bl, tgD_int, tgD_str, tgD_tup, tgD_lst, tgD_rol, tgD_dct, bIx_t, bIx_l, bIx_r, fCut_t, fCut_l, fTuple_t, fInt_i, Bool.and_true, Bool.true_and, Bool.and_false, Bool.false_and, Bool.or_true, Bool.true_or, Bool.or_false, Bool.false_or, Bool.not_true, Bool.not_false, Bool.and_self, Bool.false_eq_true, if_true, if_false, decide_true, decide_false, reduceIte, List.set_cons_zero, List.set_cons_succ, List.length_cons, List.length_nil, List.map_cons, List.map_nil, List.nil_append, List.cons_append, hm', oD2, ph]
        rfl
      | some x =>
        rw [e] at hm'
        have nn := nin_e iv.ne x [folO st.2]
        have no : isNon (.tup (nts x)) = false := rfl
        have hm' : m__law_moved [tupD h, .int (i : Int), .int (j : Int)] = .ok (tupD x) false := hm'
        by_cases hx : x ∈ st.1
        · have ea : add1 st (some x) = st := by unfold add1; dsimp only; rw [if_pos hx]
          rw [ea]
          have nn : bDnin (stO st) (tupD x) (.loc 0) = .ok (.bl false) false := by
            show bDnin (metO st.1 :: [folO st.2]) _ _ = _; rw [nn]; simp [hx]
          have no : isNon (tupD x) = false := rfl
          simp only [L__law_led_to_1_e, rB_ok, rB_ex, aB_ok, aB_ex, lB_ok, lB_ex, llB_ok, llB_ex, liB_ok, lsB_ok, lsB_ex, vB_ok, vB_ex, sB_nx, sB_rt, sB_bk, sB_ct, sB_ex, tB_ok, tB_ex, iS_ok, iS_ex, fB_st, fB_dy, oS_nx, oS_ct, oS_bk, oS_rt, oS_ex, gB_s, fin_rt, fin_nx, fin_ex, vO_s, vOS_s, trO_s, oD_s, oL_s, newK_l, newK_d, gets_z, gets_s, cVar_e, cD_e, cTrue_e, cBin_e, cTru_e, cNot_e, cAnd_e, cOr_e, cIf_e, cAndB_e, cOrB_e, cNotB_e, cNil_e, cCons_e, cApp_e, iApp_e, sSkip_e, sBreak_e, sCont_e, sRetN_e, sSeq_e, sAsg_e, sNew_e, sExpr_e, sRet_e, sIf_e, sAsgT_e, sFor_e, sWhile_e, setD_e, tgName_e, tgTup_e, tB2_s, tgCons_e, tgNil_e, callD_e, callKw_e, pick_e, pureL_n, pureL_c, pure_non, pure_bl, pure_int, pure_str, pure_tup, pure_lst, pure_rol, pure_dct, pure_obj, sMethE_e, sMethA_e, sSub_e, sAug_e, augK_s, iVal_e, cComp_e, cB_st, cB_dy, coB_s, wipeD_n, wipeD_c, cTwo_e, cCutA_e, cCutH_e, cCutL_e, cCutLH_e, kInt_i, sTry_e, tryB_nx, tryB_ex, tryB_rt, sRaise_e, raiseK_e, runH_c, runH_n, hdK_t, hdK_f, noE_bl, noE_int, noE_lst, noE_non, noE_str, noE_tup, noEs_c, noEs_n, sPar2_e, sPar3_e, par2K_e, par3K_e, sFrz_e, cErr_e, cChain_e, bAdd_i, bSub_i, bCmp_i, bEq_i, bNe_i, bEq_s, bNe_s, bEq_b, iAdd_i, bIs_n, bIsNot_n, bIs_b, bIsNot_b, isNon_n, isNon_b, isNon_i, isNon_t, isNon_l, truth_b, truth_n, truth_i, truth_t, locO_l, lstOf_l, lstOf_o, rdOf_r, rdOf_l, rdOf_o, rdOf_t, seqOf_t, seqOf_r, seqOf_l, seqOf_o, lO_s, tO_s, iV_t, iV_l, iV_r, iV_o, iVo_s, enI_t, enI_l, lcB_s, lS_l, pO_s, kS_s, kSub_e, retD_non, retD_bl, retD_int, retD_str, retD_tup, retD_lst, retD_rol, retD_dct, retD_obj, retD_loc, retO_l, retO_d, tgD_non, tgD_bl, tgD_int, tgD_str, tgD_tup, tgD_lst, tgD_rol, tgD_dct, bIx_t, bIx_l, bIx_r, fCut_t, fCut_l, fTuple_t, fInt_i, Bool.and_true, Bool.true_and, Bool.and_false, Bool.false_and, Bool.or_true, Bool.true_or, Bool.or_false, Bool.false_or, Bool.not_true, Bool.not_false, Bool.and_self, Bool.false_eq_true, if_true, if_false, decide_true, decide_false, reduceIte, List.set_cons_zero, List.set_cons_succ, List.length_cons, List.length_nil, List.map_cons, List.map_nil, List.nil_append, List.cons_append, hm', ph, nn, no]
          rfl
        · have ea : add1 st (some x) = (st.1 ++ [x], st.2 ++ [x]) := by unfold add1; dsimp only; rw [if_neg hx]
          rw [e, ea] at fin1
          rw [ea]
          have nn : bDnin (stO st) (tupD x) (.loc 0) = .ok (.bl true) false := by
            show bDnin (metO st.1 :: [folO st.2]) _ _ = _; rw [nn]; simp [hx]
          have no : isNon (tupD x) = false := rfl
          have l1 := fin1.ln
          have l2 := iv.ln
          simp only [List.length_append, List.length_cons, List.length_nil] at l1
          have pe : ∀ σ, kDput (.bl true) σ (stO st) (.loc 0) (tupD x) = .nx σ (stO (st.1 ++ [x], st.2)) := fun σ => put_e iv.ne (by unfold lim; omega) x hx σ [folO st.2]
          have ap : mAppend (st.2.map tupD) [tupD x] = some ((st.2 ++ [x]).map tupD, .non) := by
            rw [mAppend_e (by rw [List.length_map]; unfold lim; omega), List.map_append]; rfl
          have g1 : gets (stO (st.1 ++ [x], st.2)) 1 = some (.lst (st.2.map tupD)) := rfl
          simp only [L__law_led_to_1_e, rB_ok, rB_ex, aB_ok, aB_ex, lB_ok, lB_ex, llB_ok, llB_ex, liB_ok, lsB_ok, lsB_ex, vB_ok, vB_ex, sB_nx, sB_rt, sB_bk, sB_ct, sB_ex, tB_ok, tB_ex, iS_ok, iS_ex, fB_st, fB_dy, oS_nx, oS_ct, oS_bk, oS_rt, oS_ex, gB_s, fin_rt, fin_nx, fin_ex, vO_s, vOS_s, trO_s, oD_s, oL_s, newK_l, newK_d, gets_z, gets_s, cVar_e, cD_e, cTrue_e, cBin_e, cTru_e, cNot_e, cAnd_e, cOr_e, cIf_e, cAndB_e, cOrB_e, cNotB_e, cNil_e, cCons_e, cApp_e, iApp_e, sSkip_e, sBreak_e, sCont_e, sRetN_e, sSeq_e, sAsg_e, sNew_e, sExpr_e, sRet_e, sIf_e, sAsgT_e, sFor_e, sWhile_e, setD_e, tgName_e, tgTup_e, tB2_s, tgCons_e, tgNil_e, callD_e, callKw_e, pick_e, pureL_n, pureL_c, pure_non, pure_bl, pure_int, pure_str, pure_tup, pure_lst, pure_rol, pure_dct, pure_obj, sMethE_e, sMethA_e, sSub_e, sAug_e, augK_s, iVal_e, cComp_e, cB_st, cB_dy, coB_s, wipeD_n, wipeD_c, cTwo_e, cCutA_e, cCutH_e, cCutL_e, cCutLH_e, kInt_i, sTry_e, tryB_nx, tryB_ex, tryB_rt, sRaise_e, raiseK_e, runH_c, runH_n, hdK_t, hdK_f, noE_bl, noE_int, noE_lst, noE_non, noE_str, noE_tup, noEs_c, noEs_n, sPar2_e, sPar3_e, par2K_e, par3K_e, sFrz_e, cErr_e, cChain_e, bAdd_i, bSub_i, bCmp_i, bEq_i, bNe_i, bEq_s, bNe_s, bEq_b, iAdd_i, bIs_n, bIsNot_n, bIs_b, bIsNot_b, isNon_n, isNon_b, isNon_i, isNon_t, isNon_l, truth_b, truth_n, truth_i, truth_t, locO_l, lstOf_l, lstOf_o, rdOf_r, rdOf_l, rdOf_o, rdOf_t, seqOf_t, seqOf_r, seqOf_l, seqOf_o, lO_s, tO_s, iV_t, iV_l, iV_r, iV_o, iVo_s, enI_t, enI_l, lcB_s, lS_l, pO_s, kS_s, kSub_e, retD_non, retD_bl, retD_int, retD_str, retD_tup, retD_lst, retD_rol, retD_dct, retD_obj, retD_loc, retO_l, retO_d, tgD_non, tgD_bl, tgD_int, tgD_str, tgD_tup, tgD_lst, tgD_rol, tgD_dct, bIx_t, bIx_l, bIx_r, fCut_t, fCut_l, fTuple_t, fInt_i, Bool.and_true, Bool.true_and, Bool.and_false, Bool.false_and, Bool.or_true, Bool.true_or, Bool.or_false, Bool.false_or, Bool.not_true, Bool.not_false, Bool.and_self, Bool.false_eq_true, if_true, if_false, decide_true, decide_false, reduceIte, List.set_cons_zero, List.set_cons_succ, List.length_cons, List.length_nil, List.map_cons, List.map_nil, List.nil_append, List.cons_append, hm', ph, nn, no, sDput_e, pe, g1, ap]
          rfl
    obtain ⟨w8', w9', e1⟩ := step
    obtain ⟨u8, u9, e2⟩ := led_k h i hh hi n (j + 1) (add1 st (mv2 h i j)) w8' w9' (by omega) (by omega) (add1_inv iv _) hf
    refine ⟨u8, u9, ?_⟩
    simp only [rB_ok, rB_ex, aB_ok, aB_ex, lB_ok, lB_ex, llB_ok, llB_ex, liB_ok, lsB_ok, lsB_ex, vB_ok, vB_ex, sB_nx, sB_rt, sB_bk, sB_ct, sB_ex, tB_ok, tB_ex, iS_ok, iS_ex, fB_st, fB_dy, oS_nx, oS_ct, oS_bk, oS_rt, oS_ex, gB_s, fin_rt, fin_nx, fin_ex, vO_s, vOS_s, trO_s, oD_s, oL_s, newK_l, newK_d, gets_z, gets_s, cVar_e, cD_e, cTrue_e, cBin_e, cTru_e, cNot_e, cAnd_e, cOr_e, cIf_e, cAndB_e, cOrB_e, cNotB_e, cNil_e, cCons_e, cApp_e, iApp_e, sSkip_e, sBreak_e, sCont_e, sRetN_e, sSeq_e, sAsg_e, sNew_e, sExpr_e, sRet_e, sIf_e, sAsgT_e, sFor_e, sWhile_e, setD_e, tgName_e, tgTup_e, tB2_s, tgCons_e, tgNil_e, callD_e, callKw_e, pick_e, pureL_n, pureL_c, pure_non, pure_bl, pure_int, pure_str, pure_tup, pure_lst, pure_rol, pure_dct, pure_obj, sMethE_e, sMethA_e, sSub_e, sAug_e, augK_s, iVal_e, cComp_e, cB_st, cB_dy, coB_s, wipeD_n, wipeD_c, cTwo_e, cCutA_e, cCutH_e, cCutL_e, cCutLH_e, kInt_i, sTry_e, tryB_nx, tryB_ex, tryB_rt, sRaise_e, raiseK_e, runH_c, runH_n, hdK_t, hdK_f, noE_bl, noE_int, noE_lst, noE_non, noE_str, noE_tup, noEs_c, noEs_n, sPar2_e, sPar3_e, par2K_e, par3K_e, sFrz_e, cErr_e, cChain_e, bAdd_i, bSub_i, bCmp_i, bEq_i, bNe_i, bEq_s, bNe_s, bEq_b, iAdd_i, bIs_n, bIsNot_n, bIs_b, bIsNot_b, isNon_n, isNon_b, isNon_i, isNon_t, isNon_l, truth_b, truth_n, truth_i, truth_t, locO_l, lstOf_l, lstOf_o, rdOf_r, rdOf_l, rdOf_o, rdOf_t, seqOf_t, seqOf_r, seqOf_l, seqOf_o, lO_s, tO_s, iV_t, iV_l, iV_r, iV_o, iVo_s, enI_t, enI_l, lcB_s, lS_l, pO_s, kS_s, kSub_e, retD_non, retD_bl, retD_int, retD_str, retD_tup, retD_lst, retD_rol, retD_dct, retD_obj, retD_loc, retO_l, retO_d, tgD_non, tgD_bl, tgD_int, tgD_str, tgD_tup, tgD_lst, tgD_rol, tgD_dct, bIx_t, bIx_l, bIx_r, fCut_t, fCut_l, fTuple_t, fInt_i, Bool.and_true, Bool.true_and, Bool.and_false, Bool.false_and, Bool.or_true, Bool.true_or, Bool.or_false, Bool.false_or, Bool.not_true, Bool.not_false, Bool.and_self, Bool.false_eq_true, if_true, if_false, decide_true, decide_false, reduceIte, List.set_cons_zero, List.set_cons_succ, List.length_cons, List.length_nil, List.map_cons, List.map_nil, List.nil_append, List.cons_append, e1, e2]
theorem row_eq (h : List Nat) (i : Nat) (st : St) : rowF h i st = (List.range' (i + 1) (h.length - i)).foldl (fun st k => add1 st (mv2 h i k)) st := rfl
theorem led_i (h : List Nat) (hh : OkS h) : ∀ (n j : Nat) (st : St) (w7 w8 w9 : Option D), j + n ≤ h.length → Inv st →
    Fin ((List.range' j n).foldl (fun st i => rowF h i st) st) → ∃ w7' w8' w9',
    forL (tgName 7) L__law_led_to_2 ((List.range' j n).map fun i : Nat => D.int (i : Int)) [A, B, some (.loc 0), C, E, some (.loc 1), some (tupD h), w7, w8, w9] (stO st) =
      .nx [A, B, some (.loc 0), C, E, some (.loc 1), some (tupD h), w7', w8', w9'] (stO ((List.range' j n).foldl (fun st i => rowF h i st) st))
  | 0, j, st, w7, w8, w9, h2, iv, hf => ⟨w7, w8, w9, rfl⟩
  | n + 1, j, st, w7, w8, w9, h2, iv, hf => by
    rw [List.range'_succ, List.foldl_cons] at hf ⊢
    rw [List.map_cons, forL_c]
    have fin1 : Fin (rowF h j st) := hf.pre (fold_pre (fun st i => rowF h i st) (fun st i => row_pre h i st) _ _)
    obtain ⟨a8, a9, e1⟩ := led_k (A := A) (B := B) (C := C) (E := E) h j hh (by omega) (h.length - j) (j + 1) st w8 w9 (by omega) (by omega) iv fin1
    obtain ⟨u7, u8, u9, e2⟩ := led_i h hh n (j + 1) (rowF h j st) (some (.int (j : Int))) a8 a9 (by omega) (row_inv h j iv) hf
    have hr : ∀ S, rg2 S [.int ((j : Int) + 1), .int ((h.length : Int) + 1)] = .st ((List.range' (j + 1) (h.length - j)).map fun i : Nat => D.int (i : Int)) := fun S => by
      have := @rg2_nat S (j + 1) (h.length + 1) (by have := hh.1; omega) (by have := hh.1; omega)
      rw [show (h.length + 1 - (j + 1)) = h.length - j by omega] at this
      rw [← this]; congr 2
    have hl : ∀ S, fLen S [tupD h] = .ok (.int (h.length : Int)) false := fun S => by
      show fLen S [.tup (nts h)] = _
      rw [fLen_s (seqOf_t), nts_len]
    rw [← row_eq] at e1
    refine ⟨u7, u8, u9, ?_⟩
    simp only [rB_ok, rB_ex, aB_ok, aB_ex, lB_ok, lB_ex, llB_ok, llB_ex, liB_ok, lsB_ok, lsB_ex, vB_ok, vB_ex, sB_nx, sB_rt, sB_bk, sB_ct, sB_ex, tB_ok, tB_ex, iS_ok, iS_ex, fB_st, fB_dy, oS_nx, oS_ct, oS_bk, oS_rt, oS_ex, gB_s, fin_rt, fin_nx, fin_ex, vO_s, vOS_s, trO_s, oD_s, oL_s, newK_l, newK_d, gets_z, gets_s, cVar_e, cD_e, cTrue_e, cBin_e, cTru_e, cNot_e, cAnd_e, cOr_e, cIf_e, cAndB_e, cOrB_e, cNotB_e, cNil_e, cCons_e, cApp_e, iApp_e, sSkip_e, sBreak_e, sCont_e, sRetN_e, sSeq_e, sAsg_e, sNew_e, sExpr_e, sRet_e, sIf_e, sAsgT_e, sFor_e, sWhile_e, setD_e, tgName_e, tgTup_e, tB2_s, tgCons_e, tgNil_e, callD_e, callKw_e, pick_e, pureL_n, pureL_c, pure_non, pure_bl, pure_int, pure_str, pure_tup, pure_lst, pure_rol, pure_dct, pure_obj, sMethE_e, sMethA_e, sSub_e, sAug_e, augK_s, iVal_e, cComp_e, cB_st, cB_dy, coB_s, wipeD_n, wipeD_c, cTwo_e, cCutA_e, cCutH_e, cCutL_e, cCutLH_e, kInt_i, sTry_e, tryB_nx, tryB_ex, tryB_rt, sRaise_e, raiseK_e, runH_c, runH_n, hdK_t, hdK_f, noE_bl, noE_int, noE_lst, noE_non, noE_str, noE_tup, noEs_c, noEs_n, sPar2_e, sPar3_e, par2K_e, par3K_e, sFrz_e, cErr_e, cChain_e, bAdd_i, bSub_i, bCmp_i, bEq_i, bNe_i, bEq_s, bNe_s, bEq_b, iAdd_i, bIs_n, bIsNot_n, bIs_b, bIsNot_b, isNon_n, isNon_b, isNon_i, isNon_t, isNon_l, truth_b, truth_n, truth_i, truth_t, locO_l, lstOf_l, lstOf_o, rdOf_r, rdOf_l, rdOf_o, rdOf_t, seqOf_t, seqOf_r, seqOf_l, seqOf_o, lO_s, tO_s, iV_t, iV_l, iV_r, iV_o, iVo_s, enI_t, enI_l, lcB_s, lS_l, pO_s, kS_s, kSub_e, retD_non, retD_bl, retD_int, retD_str, retD_tup, retD_lst, retD_rol, retD_dct, retD_obj, retD_loc, retO_l, retO_d, tgD_non, tgD_bl, tgD_int, tgD_str, tgD_tup, tgD_lst, tgD_rol, tgD_dct, bIx_t, bIx_l, bIx_r, fCut_t, fCut_l, fTuple_t, fInt_i, Bool.and_true, Bool.true_and, Bool.and_false, Bool.false_and, Bool.or_true, Bool.true_or, Bool.or_false, Bool.false_or, Bool.not_true, Bool.not_false, Bool.and_self, Bool.false_eq_true, if_true, if_false, decide_true, decide_false, reduceIte, List.set_cons_zero, List.set_cons_succ, List.length_cons, List.length_nil, List.map_cons, List.map_nil, List.nil_append, List.cons_append, L__law_led_to_2_e, hl, hr, e1, e2]
theorem led_h : ∀ (fs : List (List Nat)) (st : St) (w6 w7 w8 w9 : Option D), (∀ h ∈ fs, OkS h) → Inv st →
    Fin (fs.foldl highF st) → ∃ w6' w7' w8' w9',
    forL (tgName 6) L__law_led_to_3 (fs.map tupD) [A, B, some (.loc 0), C, E, some (.loc 1), w6, w7, w8, w9] (stO st) =
      .nx [A, B, some (.loc 0), C, E, some (.loc 1), w6', w7', w8', w9'] (stO (fs.foldl highF st))
  | [], st, w6, w7, w8, w9, hh, iv, hf => ⟨w6, w7, w8, w9, rfl⟩
  | h :: fs, st, w6, w7, w8, w9, hh, iv, hf => by
    rw [List.foldl_cons] at hf ⊢
    rw [List.map_cons, forL_c]
    have fin1 : Fin (highF st h) := hf.pre (fold_pre highF (fun st h => high_pre h st) _ _)
    have ho := hh h (List.mem_cons_self ..)
    have hq : highF st h = (List.range' 0 h.length).foldl (fun st i => rowF h i st) st := by unfold highF; rw [List.range_eq_range']
    rw [hq] at fin1
    obtain ⟨a7, a8, a9, e1⟩ := led_i (A := A) (B := B) (C := C) (E := E) h ho h.length 0 st w7 w8 w9 (by omega) iv fin1
    rw [← hq] at fin1 e1
    obtain ⟨u6, u7, u8, u9, e2⟩ := led_h fs (highF st h) (some (tupD h)) a7 a8 a9 (fun x hx => hh x (List.mem_cons_of_mem _ hx)) (high_inv h iv) hf
    have hr : ∀ S, rg1 S [.int (h.length : Int)] = .st ((List.range' 0 h.length).map fun i : Nat => D.int (i : Int)) := fun S => by
      rw [rg1_nat (by have := ho.1; omega)]
      have := range_map h.length 0
      rw [← this]; rfl
    have hl : ∀ S, fLen S [tupD h] = .ok (.int (h.length : Int)) false := fun S => by
      show fLen S [.tup (nts h)] = _
      rw [fLen_s (seqOf_t), nts_len]
    refine ⟨u6, u7, u8, u9, ?_⟩
    simp only [rB_ok, rB_ex, aB_ok, aB_ex, lB_ok, lB_ex, llB_ok, llB_ex, liB_ok, lsB_ok, lsB_ex, vB_ok, vB_ex, sB_nx, sB_rt, sB_bk, sB_ct, sB_ex, tB_ok, tB_ex, iS_ok, iS_ex, fB_st, fB_dy, oS_nx, oS_ct, oS_bk, oS_rt, oS_ex, gB_s, fin_rt, fin_nx, fin_ex, vO_s, vOS_s, trO_s, oD_s, oL_s, newK_l, newK_d, gets_z, gets_s, cVar_e, cD_e, cTrue_e, cBin_e, cTru_e, cNot_e, cAnd_e, cOr_e, cIf_e, cAndB_e, cOrB_e, cNotB_e, cNil_e, cCons_e, cApp_e, iApp_e, sSkip_e, sBreak_e, sCont_e, sRetN_e, sSeq_e, sAsg_e, sNew_e, sExpr_e, sRet_e, sIf_e, sAsgT_e, sFor_e, sWhile_e, setD_e, tgName_e, tgTup_e, tB2_s, tgCons_e, tgNil_e, callD_e, callKw_e, pick_e, pureL_n, pureL_c, pure_non, pure_bl, pure_int, pure_str, pure_tup, pure_lst, pure_rol, pure_dct, pure_obj, sMethE_e, sMethA_e, sSub_e, sAug_e, augK_s, iVal_e, cComp_e, cB_st, cB_dy, coB_s, wipeD_n, wipeD_c, cTwo_e, cCutA_e, cCutH_e, cCutL_e, cCutLH_e, kInt_i, sTry_e, tryB_nx, tryB_ex, tryB_rt, sRaise_e, raiseK_e, runH_c, runH_n, hdK_t, hdK_f, noE_bl, noE_int, noE_lst, noE_non, noE_str, noE_tup, noEs_c, noEs_n, sPar2_e, sPar3_e, par2K_e, par3K_e, sFrz_e, cErr_e, cChain_e, bAdd_i, bSub_i, bCmp_i, bEq_i, bNe_i, bEq_s, bNe_s, bEq_b, iAdd_i, bIs_n, bIsNot_n, bIs_b, bIsNot_b, isNon_n, isNon_b, isNon_i, isNon_t, isNon_l, truth_b, truth_n, truth_i, truth_t, locO_l, lstOf_l, lstOf_o, rdOf_r, rdOf_l, rdOf_o, rdOf_t, seqOf_t, seqOf_r, seqOf_l, seqOf_o, lO_s, tO_s, iV_t, iV_l, iV_r, iV_o, iVo_s, enI_t, enI_l, lcB_s, lS_l, pO_s, kS_s, kSub_e, retD_non, retD_bl, retD_int, retD_str, retD_tup, retD_lst, retD_rol, retD_dct, retD_obj, retD_loc, retO_l, retO_d, tgD_non, tgD_bl, tgD_int, tgD_str, tgD_tup, tgD_lst, tgD_rol, tgD_dct, bIx_t, bIx_l, bIx_r, fCut_t, fCut_l, fTuple_t, fInt_i, Bool.and_true, Bool.true_and, Bool.and_false, Bool.false_and, Bool.or_true, Bool.true_or, Bool.or_false, Bool.false_or, Bool.not_true, Bool.not_false, Bool.and_self, Bool.false_eq_true, if_true, if_false, decide_true, decide_false, reduceIte, List.set_cons_zero, List.set_cons_succ, List.length_cons, List.length_nil, List.map_cons, List.map_nil, List.nil_append, List.cons_append, L__law_led_to_3_e, hl, hr, e1, e2]
theorem tupsP (l : List (List Nat)) : pureL (l.map tupD) = true := by
  induction l with
  | nil => rfl
  | cons x l ih => exact ih
theorem led_turn (a : List Nat) (b : Int) (n : Nat) : ∀ (j : Nat) (st : St) (w4 w5 w6 w7 w8 w9 : Option D), Inv st → Fin (ledF n st) → ∃ w4' w5' w6' w7' w8' w9',
    forL (tgName 4) L__law_led_to_4 (rangeD j n) [some (tupD a), some (.int b), some (.loc 0), some (.lst (st.2.map tupD)), w4, w5, w6, w7, w8, w9] [metO st.1] =
      .nx [some (tupD a), some (.int b), some (.loc 0), some (.lst ((ledF n st).2.map tupD)), w4', w5', w6', w7', w8', w9'] [metO (ledF n st).1] := by
  induction n with
  | zero => exact fun j st w4 w5 w6 w7 w8 w9 iv hf => ⟨w4, w5, w6, w7, w8, w9, rfl⟩
  | succ n ih =>
    intro j st w4 w5 w6 w7 w8 w9 iv hf
    have hf2 : Fin (ledF n (turnF st)) := hf
    have fin1 : Fin (turnF st) := hf2.pre (led_pre n _)
    have fin0 : Fin st := fin1.pre (turn_pre st)
    have iv0 : Inv (st.1, []) := ⟨iv.ne, (fun x h => nomatch h), Nat.zero_le _⟩
    have iv1 : Inv (turnF st) := fold_inv highF (fun st h v => high_inv h v) _ _ iv0
    obtain ⟨a6, a7, a8, a9, e1⟩ := led_h (A := some (tupD a)) (B := some (.int b)) (C := some (.lst (st.2.map tupD))) (E := some (.int (j : Int))) st.2 (st.1, []) w6 w7 w8 w9 (fun h hh => fin0.ok h (iv.sub h hh)) iv0 fin1
    have e1' : forL (tgName 6) L__law_led_to_3 (st.2.map tupD) [some (tupD a), some (.int b), some (.loc 0), some (.lst (st.2.map tupD)), some (.int (j : Int)), some (.loc 1), w6, w7, w8, w9] [metO st.1, .lst []] = .nx [some (tupD a), some (.int b), some (.loc 0), some (.lst (st.2.map tupD)), some (.int (j : Int)), some (.loc 1), a6, a7, a8, a9] (stO (turnF st)) := e1
    have l0 : ∀ S, fLst S [] = .ok (.lst []) true := fun S => rfl
    have hm : (metO (turnF st).1) = subO 1 (.lst ((turnF st).2.map tupD)) (metO (turnF st).1) := by
      show SO.dct _ _ = SO.dct _ (List.map _ (List.map _ _))
      rw [List.map_map]; rfl
    have hs : L__law_led_to_4 [some (tupD a), some (.int b), some (.loc 0), some (.lst (st.2.map tupD)), some (.int (j : Int)), w5, w6, w7, w8, w9] [metO st.1] = .nx [some (tupD a), some (.int b), some (.loc 0), some (.lst ((turnF st).2.map tupD)), some (.int (j : Int)), some (.lst ((turnF st).2.map tupD)), a6.map (subD 1 (.lst ((turnF st).2.map tupD))), a7.map (subD 1 (.lst ((turnF st).2.map tupD))), a8.map (subD 1 (.lst ((turnF st).2.map tupD))), a9.map (subD 1 (.lst ((turnF st).2.map tupD)))] [metO (turnF st).1] := by
      simp only [L__law_led_to_4_e, rB_ok, rB_ex, aB_ok, aB_ex, lB_ok, lB_ex, llB_ok, llB_ex, liB_ok, lsB_ok, lsB_ex, vB_ok, vB_ex, sB_nx, sB_rt, sB_bk, sB_ct, sB_ex, tB_ok, tB_ex, iS_ok, iS_ex, fB_st, fB_dy, oS_nx, oS_ct, oS_bk, oS_rt, oS_ex, gB_s, fin_rt, fin_nx, fin_ex, vO_s, vOS_s, trO_s, oD_s, oL_s, newK_l, newK_d, gets_z, gets_s, cVar_e, cD_e, cTrue_e, cBin_e, cTru_e, cNot_e, cAnd_e, cOr_e, cIf_e, cAndB_e, cOrB_e, cNotB_e, cNil_e, cCons_e, cApp_e, iApp_e, sSkip_e, sBreak_e, sCont_e, sRetN_e, sSeq_e, sAsg_e, sNew_e, sExpr_e, sRet_e, sIf_e, sAsgT_e, sFor_e, sWhile_e, setD_e, tgName_e, tgTup_e, tB2_s, tgCons_e, tgNil_e, callD_e, callKw_e, pick_e, pureL_n, pureL_c, pure_non, pure_bl, pure_int, pure_str, pure_tup, pure_lst, pure_rol, pure_dct, pure_obj, sMethE_e, sMethA_e, sSub_e, sAug_e, augK_s, iVal_e, cComp_e, cB_st, cB_dy, coB_s, wipeD_n, wipeD_c, cTwo_e, cCutA_e, cCutH_e, cCutL_e, cCutLH_e, kInt_i, sTry_e, tryB_nx, tryB_ex, tryB_rt, sRaise_e, raiseK_e, runH_c, runH_n, hdK_t, hdK_f, noE_bl, noE_int, noE_lst, noE_non, noE_str, noE_tup, noEs_c, noEs_n, sPar2_e, sPar3_e, par2K_e, par3K_e, sFrz_e, cErr_e, cChain_e, bAdd_i, bSub_i, bCmp_i, bEq_i, bNe_i, bEq_s, bNe_s, bEq_b, iAdd_i, bIs_n, bIsNot_n, bIs_b, bIsNot_b, isNon_n, isNon_b, isNon_i, isNon_t, isNon_l, truth_b, truth_n, truth_i, truth_t, locO_l, lstOf_l, lstOf_o, rdOf_r, rdOf_l, rdOf_o, rdOf_t, seqOf_t, seqOf_r, seqOf_l, seqOf_o, lO_s, tO_s, iV_t, iV_l, iV_r, iV_o, iVo_s, enI_t, enI_l, lcB_s, lS_l, pO_s, kS_s, kSub_e, retD_non, retD_bl, retD_int, retD_str, retD_tup, retD_lst, retD_rol, retD_dct, retD_obj, retD_loc, retO_l, retO_d, tgD_non, tgD_bl, tgD_int, tgD_str, tgD_tup, tgD_lst, tgD_rol, tgD_dct, bIx_t, bIx_l, bIx_r, fCut_t, fCut_l, fTuple_t, fInt_i, Bool.and_true, Bool.true_and, Bool.and_false, Bool.false_and, Bool.or_true, Bool.true_or, Bool.or_false, Bool.false_or, Bool.not_true, Bool.not_false, Bool.and_self, Bool.false_eq_true, if_true, if_false, decide_true, decide_false, reduceIte, List.set_cons_zero, List.set_cons_succ, List.length_cons, List.length_nil, List.map_cons, List.map_nil, List.nil_append, List.cons_append, l0, e1']
      show (if pureL ((turnF st).2.map tupD) then RS.nx _ _ else .bad) = _
      rw [if_pos (tupsP _)]
      show RS.nx _ [subO 1 (.lst ((turnF st).2.map tupD)) (metO (turnF st).1)] = _
      rw [← hm]; rfl
    obtain ⟨u4, u5, u6, u7, u8, u9, e2⟩ := ih (j + 1) (turnF st) (some (.int (j : Int))) (some (.lst ((turnF st).2.map tupD))) (a6.map (subD 1 (.lst ((turnF st).2.map tupD)))) (a7.map (subD 1 (.lst ((turnF st).2.map tupD)))) (a8.map (subD 1 (.lst ((turnF st).2.map tupD)))) (a9.map (subD 1 (.lst ((turnF st).2.map tupD)))) iv1 hf2
    rw [show ((j + 1 : Nat) : Int) = (j : Int) + 1 by omega] at e2
    refine ⟨u4, u5, u6, u7, u8, u9, ?_⟩
    rw [rangeD_s, forL_c]
    simp only [rB_ok, rB_ex, aB_ok, aB_ex, lB_ok, lB_ex, llB_ok, llB_ex, liB_ok, lsB_ok, lsB_ex, vB_ok, vB_ex, sB_nx, sB_rt, sB_bk, sB_ct, sB_ex, tB_ok, tB_ex, iS_ok, iS_ex, fB_st, fB_dy, oS_nx, oS_ct, oS_bk, oS_rt, oS_ex, gB_s, fin_rt, fin_nx, fin_ex, vO_s, vOS_s, trO_s, oD_s, oL_s, newK_l, newK_d, gets_z, gets_s, cVar_e, cD_e, cTrue_e, cBin_e, cTru_e, cNot_e, cAnd_e, cOr_e, cIf_e, cAndB_e, cOrB_e, cNotB_e, cNil_e, cCons_e, cApp_e, iApp_e, sSkip_e, sBreak_e, sCont_e, sRetN_e, sSeq_e, sAsg_e, sNew_e, sExpr_e, sRet_e, sIf_e, sAsgT_e, sFor_e, sWhile_e, setD_e, tgName_e, tgTup_e, tB2_s, tgCons_e, tgNil_e, callD_e, callKw_e, pick_e, pureL_n, pureL_c, pure_non, pure_bl, pure_int, pure_str, pure_tup, pure_lst, pure_rol, pure_dct, pure_obj, sMethE_e, sMethA_e, sSub_e, sAug_e, augK_s, iVal_e, cComp_e, cB_st, cB_dy, coB_s, wipeD_n, wipeD_c, cTwo_e, cCutA_e, cCutH_e, cCutL_e, cCutLH_e, kInt_i, sTry_e, tryB_nx, tryB_ex, tryB_rt, sRaise_e, raiseK_e, runH_c, runH_n, hdK_t, hdK_f, noE_bl, noE_int, noE_lst, noE_non, noE_str, noE_tup, noEs_c, noEs_n, sPar2_e, sPar3_e, par2K_e, par3K_e, sFrz_e, cErr_e, cChain_e, bAdd_i, bSub_i, bCmp_i, bEq_i, bNe_i, bEq_s, bNe_s, bEq_b, iAdd_i, bIs_n, bIsNot_n, bIs_b, bIsNot_b, isNon_n, isNon_b, isNon_i, isNon_t, isNon_l, truth_b, truth_n, truth_i, truth_t, locO_l, lstOf_l, lstOf_o, rdOf_r, rdOf_l, rdOf_o, rdOf_t, seqOf_t, seqOf_r, seqOf_l, seqOf_o, lO_s, tO_s, iV_t, iV_l, iV_r, iV_o, iVo_s, enI_t, enI_l, lcB_s, lS_l, pO_s, kS_s, kSub_e, retD_non, retD_bl, retD_int, retD_str, retD_tup, retD_lst, retD_rol, retD_dct, retD_obj, retD_loc, retO_l, retO_d, tgD_non, tgD_bl, tgD_int, tgD_str, tgD_tup, tgD_lst, tgD_rol, tgD_dct, bIx_t, bIx_l, bIx_r, fCut_t, fCut_l, fTuple_t, fInt_i, Bool.and_true, Bool.true_and, Bool.and_false, Bool.false_and, Bool.or_true, Bool.true_or, Bool.or_false, Bool.false_or, Bool.not_true, Bool.not_false, Bool.and_self, Bool.false_eq_true, if_true, if_false, decide_true, decide_false, reduceIte, List.set_cons_zero, List.set_cons_succ, List.length_cons, List.length_nil, List.map_cons, List.map_nil, List.nil_append, List.cons_append, hs, e2]
    rfl
end
theorem led_is (a : List Nat) (n : Nat) (hn : n ≤ 1000) (hf : Fin (ledF n ([a], [a]))) : m__law_led_to [tupD a, .int (n : Int)] = .ok (.dct ((ledF n ([a], [a])).1.map tupD) ((ledF n ([a], [a])).1.map fun _ => .bl true)) true := by
  have iv : Inv ([a], [a]) := ⟨by simp, fun x h => h, Nat.le_refl _⟩
  obtain ⟨u4, u5, u6, u7, u8, u9, e⟩ := led_turn a (n : Int) n 0 ([a], [a]) none none none none none none iv hf
  have e' : forL (tgName 4) L__law_led_to_4 (rangeD 0 n) [some (tupD a), some (.int (n : Int)), some (.loc 0), some (.lst [tupD a]), none, none, none, none, none, none] [.dct [tupD a] [.bl true]] = _ := e
  have hr : ∀ S, rg1 S [.int (n : Int)] = .st (rangeD 0 n) := fun S => rg1_nat (by omega)
  have h1 : ∀ (σ : Sl) (S : List SO), cVar 0 σ S = .ok (tupD a) false → cDctT (cVar 0) (cD (.bl true)) σ S = .ok (.dct [tupD a] [.bl true]) true := fun σ S h => by
    rw [cDctT_e, h]
    show (match keyKs (nts a) with | some _ => if D.pure (.bl true) then Res.ok (.dct [.tup (nts a)] [.bl true]) true else .bad | none => .bad) = _
    rw [show keyKs (nts a) = some (kyN a) from keyT_tup a]; rfl
  have h1 := h1 [some (tupD a), some (.int (n : Int)), none, none, none, none, none, none, none, none] [] rfl
  have l0 : ∀ S, fLst S [tupD a] = .ok (.lst [tupD a]) true := fun S => rfl
  have bp : ∀ M : List (List Nat), pureL (M.map fun _ => D.bl true) = true := fun M => by induction M with | nil => rfl | cons x l ih => exact ih
  rw [r__law_led_to]
  simp only [b__law_led_to_e, rB_ok, rB_ex, aB_ok, aB_ex, lB_ok, lB_ex, llB_ok, llB_ex, liB_ok, lsB_ok, lsB_ex, vB_ok, vB_ex, sB_nx, sB_rt, sB_bk, sB_ct, sB_ex, tB_ok, tB_ex, iS_ok, iS_ex, fB_st, fB_dy, oS_nx, oS_ct, oS_bk, oS_rt, oS_ex, gB_s, fin_rt, fin_nx, fin_ex, vO_s, vOS_s, trO_s, oD_s, oL_s, newK_l, newK_d, gets_z, gets_s, cVar_e, cD_e, cTrue_e, cBin_e, cTru_e, cNot_e, cAnd_e, cOr_e, cIf_e, cAndB_e, cOrB_e, cNotB_e, cNil_e, cCons_e, cApp_e, iApp_e, sSkip_e, sBreak_e, sCont_e, sRetN_e, sSeq_e, sAsg_e, sNew_e, sExpr_e, sRet_e, sIf_e, sAsgT_e, sFor_e, sWhile_e, setD_e, tgName_e, tgTup_e, tB2_s, tgCons_e, tgNil_e, callD_e, callKw_e, pick_e, pureL_n, pureL_c, pure_non, pure_bl, pure_int, pure_str, pure_tup, pure_lst, pure_rol, pure_dct, pure_obj, sMethE_e, sMethA_e, sSub_e, sAug_e, augK_s, iVal_e, cComp_e, cB_st, cB_dy, coB_s, wipeD_n, wipeD_c, cTwo_e, cCutA_e, cCutH_e, cCutL_e, cCutLH_e, kInt_i, sTry_e, tryB_nx, tryB_ex, tryB_rt, sRaise_e, raiseK_e, runH_c, runH_n, hdK_t, hdK_f, noE_bl, noE_int, noE_lst, noE_non, noE_str, noE_tup, noEs_c, noEs_n, sPar2_e, sPar3_e, par2K_e, par3K_e, sFrz_e, cErr_e, cChain_e, bAdd_i, bSub_i, bCmp_i, bEq_i, bNe_i, bEq_s, bNe_s, bEq_b, iAdd_i, bIs_n, bIsNot_n, bIs_b, bIsNot_b, isNon_n, isNon_b, isNon_i, isNon_t, isNon_l, truth_b, truth_n, truth_i, truth_t, locO_l, lstOf_l, lstOf_o, rdOf_r, rdOf_l, rdOf_o, rdOf_t, seqOf_t, seqOf_r, seqOf_l, seqOf_o, lO_s, tO_s, iV_t, iV_l, iV_r, iV_o, iVo_s, enI_t, enI_l, lcB_s, lS_l, pO_s, kS_s, kSub_e, retD_non, retD_bl, retD_int, retD_str, retD_tup, retD_lst, retD_rol, retD_dct, retD_obj, retD_loc, retO_l, retO_d, tgD_non, tgD_bl, tgD_int, tgD_str, tgD_tup, tgD_lst, tgD_rol, tgD_dct, bIx_t, bIx_l, bIx_r, fCut_t, fCut_l, fTuple_t, fInt_i, Bool.and_true, Bool.true_and, Bool.and_false, Bool.false_and, Bool.or_true, Bool.true_or, Bool.or_false, Bool.false_or, Bool.not_true, Bool.not_false, Bool.and_self, Bool.false_eq_true, if_true, if_false, decide_true, decide_false, reduceIte, List.set_cons_zero, List.set_cons_succ, List.length_cons, List.length_nil, List.map_cons, List.map_nil, List.nil_append, List.cons_append, h1, l0, hr, e']
  show fin (retO (some (.dct _ _))) = _
  rw [retO_d, if_pos (bp _)]
  rfl
end K04

set_option maxRecDepth 10000
namespace K04
open PySem HC PL PM
/-! the stairs of each size, and what is checked of them one by one -/
def pts : Nat → List (List Nat)
  | 0 => [[]]
  | 1 => [[1]]
  | 2 => [[2], [1, 1]]
  | 3 => [[3], [2, 1], [1, 1, 1]]
  | 4 => [[4], [2, 2], [3, 1], [2, 1, 1], [1, 1, 1, 1]]
  | 5 => [[5], [3, 2], [4, 1], [2, 2, 1], [3, 1, 1], [2, 1, 1, 1], [1, 1, 1, 1, 1]]
  | 6 => [[6], [3, 3], [4, 2], [5, 1], [2, 2, 2], [3, 2, 1], [4, 1, 1], [2, 2, 1, 1], [3, 1, 1, 1], [2, 1, 1, 1, 1], [1, 1, 1, 1, 1, 1]]
  | 7 => [[7], [4, 3], [5, 2], [6, 1], [3, 2, 2], [3, 3, 1], [4, 2, 1], [5, 1, 1], [2, 2, 2, 1], [3, 2, 1, 1], [4, 1, 1, 1], [2, 2, 1, 1, 1], [3, 1, 1, 1, 1], [2, 1, 1, 1, 1, 1], [1, 1, 1, 1, 1, 1, 1]]
  | 8 => [[8], [4, 4], [5, 3], [6, 2], [7, 1], [3, 3, 2], [4, 2, 2], [4, 3, 1], [5, 2, 1], [6, 1, 1], [2, 2, 2, 2], [3, 2, 2, 1], [3, 3, 1, 1], [4, 2, 1, 1], [5, 1, 1, 1], [2, 2, 2, 1, 1], [3, 2, 1, 1, 1], [4, 1, 1, 1, 1], [2, 2, 1, 1, 1, 1], [3, 1, 1, 1, 1, 1], [2, 1, 1, 1, 1, 1, 1], [1, 1, 1, 1, 1, 1, 1, 1]]
  | _ => []
theorem all_is (n : Nat) (h : n ≤ 8) : m__law_all_stairs [.int (n : Int)] = .ok (.lst ((pts n).map tupD)) true := by
  rcases (by omega : n = 0 ∨ n = 1 ∨ n = 2 ∨ n = 3 ∨ n = 4 ∨ n = 5 ∨ n = 6 ∨ n = 7 ∨ n = 8) with e | e | e | e | e | e | e | e | e <;> subst e <;> kernel_rfl
def downB : List Nat → Bool
  | [] => true
  | [x] => decide (0 < x)
  | x :: y :: r => decide (y ≤ x) && downB (y :: r)
def chkM (n : Nat) (s : List Nat) (M : List (List Nat)) : Bool :=
  M.all (fun x => decide (x ∈ pts n)) && decide (M.length ≤ 30) && (pts n).all fun t =>
    (decide (t ∈ M) == (breachN s t).isNone) && decide (breachN s t = ((List.range (n + 1)).filter fun m => decide (psum s m < psum t m)).head?) &&
    ((breachN (conj t) (conj s)).isNone == (breachN s t).isNone) && decide ((conj t).sum = n) && decide (height s (max s.length t.length) ≤ height t (max s.length t.length) + 29)
def chk (n : Nat) (s : List Nat) : Bool := downB s && decide (s.sum = n) && decide (s.length ≤ 8) && chkM n s (ledF (pts n).length ([s], [s])).1
theorem chk_all : ((List.range 9).all fun n => decide (0 < (pts n).length ∧ (pts n).length ≤ 22) && (pts n).all (chk n)) = true := by decide +kernel
end K04

set_option maxRecDepth 2000
namespace K04
open PySem HC PL PM
theorem okF_true (p : List Nat) : ∀ (n j : Nat), (∀ i, j ≤ i → i < j + n → p.getD (i + 1) 0 ≤ p.getD i 0) → okF p j n = true
  | 0, j, _ => rfl
  | n + 1, j, h => by
    unfold okF
    rw [if_neg (by have := h j (Nat.le_refl _) (by omega); omega)]
    exact okF_true p n (j + 1) fun i h1 h2 => h i (by omega) (by omega)
theorem pop1_stair {x : List Nat} (h : Stair x) : pop1 x = x := by
  unfold pop1
  rw [if_neg]
  cases x with
  | nil => decide
  | cons a r =>
    intro z
    have hm : (a :: r).getLastD 1 ∈ a :: r := by
      rw [List.getLastD_eq_getLast?, List.getLast?_eq_some_getLast (by simp : a :: r ≠ [])]
      exact List.getLast_mem _
    have := h.pos _ hm
    omega
theorem pop1_snoc (x : List Nat) : pop1 (x ++ [0]) = x := by
  unfold pop1
  rw [if_pos (by simp), List.dropLast_concat]
theorem mvp_getD {s : List Nat} {f t : Nat} (hf : f < s.length) (ht : t ≤ s.length) (i : Nat) : (mvp s f t).getD i 0 = if i = t then (if t = f then s.getD f 0 - 1 else s.getD t 0) + 1 else if i = f then s.getD f 0 - 1 else s.getD i 0 := by
  have e : ∀ i, (s ++ [0]).getD i 0 = s.getD i 0 := fun i => by
    rw [List.getD_eq_getElem?_getD, List.getD_eq_getElem?_getD, List.getElem?_append]
    split
    · rfl
    · rename_i h
      rw [List.getElem?_eq_none (by omega : s.length ≤ i)]
      rcases (by omega : i - s.length = 0 ∨ 0 < i - s.length) with z | z
      · rw [z]; rfl
      · rw [List.getElem?_eq_none (by simp; omega)]
  unfold mvp
  rw [set_getD _ _ _ _ (by simp; omega)]
  split
  · rw [set_getD _ _ _ _ (by simp; omega), e]
  · rw [set_getD _ _ _ _ (by simp; omega), e]
theorem mv_good {s x : List Nat} (hs : Stair s) (hx : Stair x) {f t : Nat} (ft : f < t) (h1 : s.getD f 0 = x.getD f 0 + 1) (h2 : x.getD t 0 = s.getD t 0 + 1) (h3 : ∀ i, i ≠ f → i ≠ t → x.getD i 0 = s.getD i 0) :
    f < s.length ∧ t ≤ s.length ∧ mv2 s f t = some x := by
  have hf : f < s.length := (getD_pos hs f).mp (by omega)
  have ht : t ≤ s.length := by
    apply Classical.byContradiction
    intro hn
    have a1 : s.getD (t - 1) 0 = 0 := by
      have := (getD_pos hs (t - 1)); omega
    have a2 : x.getD (t - 1) 0 = s.getD (t - 1) 0 := h3 (t - 1) (by omega) (by omega)
    have a3 := getD_anti hx (show t - 1 ≤ t by omega)
    omega
  have g : ∀ i, (mvp s f t).getD i 0 = x.getD i 0 := fun i => by
    rw [mvp_getD hf ht]
    by_cases c1 : i = t
    · subst c1; rw [if_pos rfl, if_neg (by omega)]; omega
    · rw [if_neg c1]
      by_cases c2 : i = f
      · subst c2; rw [if_pos rfl]; omega
      · rw [if_neg c2, h3 i c2 c1]
  refine ⟨hf, ht, ?_⟩
  have hk : okF (mvp s f t) 0 s.length = true := okF_true _ _ _ fun i _ _ => by rw [g, g]; exact getD_anti hx (by omega)
  unfold mv2
  rw [if_pos hk]
  congr 1
  have hl := mvp_len s f t
  have px := getD_pos hx
  have ps := getD_pos hs
  by_cases c : t = s.length
  · have xl : x.length = s.length + 1 := by
      have a1 := px t
      have a2 := px (t + 1)
      have a3 := ps (t + 1)
      have a4 := h3 (t + 1) (by omega) (by omega)
      have a5 := px s.length
      have a6 := px (s.length + 1)
      subst c
      omega
    rw [ext_getD (by omega) g, pop1_stair hx, pop1_stair hx]
  · have xl : x.length = s.length := by
      have a1 := px s.length
      have a2 := ps s.length
      have a3 := h3 s.length (by omega) (by omega)
      have a4 := px (s.length - 1)
      have a5 := ps (s.length - 1)
      by_cases e : t = s.length - 1
      · rw [e] at h2; omega
      · have a6 := h3 (s.length - 1) (by omega) (by omega)
        omega
    have : mvp s f t = x ++ [0] := ext_getD (by simp; omega) fun i => by
      rw [g, List.getD_eq_getElem?_getD, List.getD_eq_getElem?_getD, List.getElem?_append]
      split
      · rfl
      · rw [List.getElem?_eq_none (by omega : x.length ≤ i)]
        rcases (by omega : i - x.length = 0 ∨ 0 < i - x.length) with z | z
        · rw [z]; rfl
        · rw [List.getElem?_eq_none (by simp; omega)]
    rw [this, pop1_snoc, pop1_stair hx]
theorem eq_tups (S : List SO) (a b : List Nat) : bEq S (.tup (nts a)) (.tup (nts b)) = .ok (.bl (decide (a = b))) false := by
  show (if plainDs 29 (nts a) && plainDs 29 (nts b) then Res.ok (.bl (eqL (nts a) (nts b))) false else .bad) = _
  rw [plain_nts, plain_nts, eqL_nts]; rfl
theorem ne_tups (S : List SO) (a b : List Nat) : bNe S (.tup (nts a)) (.tup (nts b)) = .ok (.bl (!decide (a = b))) false := by
  show (if plainDs 29 (nts a) && plainDs 29 (nts b) then Res.ok (.bl (!eqL (nts a) (nts b))) false else .bad) = _
  rw [plain_nts, plain_nts, eqL_nts]; rfl
theorem eq_o (S : List SO) (o : Option (List Nat)) (b : List Nat) : bEq S (oD2 o) (.tup (nts b)) = .ok (.bl (decide (o = some b))) false := by
  cases o with
  | none =>
    show (if plainD 30 .non && plainDs 29 (nts b) then Res.ok (.bl false) false else .bad) = _
    rw [plain_nts]; rfl
  | some a => rw [show oD2 (some a) = .tup (nts a) from rfl, eq_tups]; simp
end K04

set_option maxRecDepth 2000
namespace K04
open PySem HC PL PM
def hits (s x : List Nat) (i j n : Nat) : Bool := (List.range' j n).any fun k => decide (mv2 s i k = some x)
section
variable {w2 : Option D} {s x : List Nat}
theorem part_for (A B C E : Option D) : ∀ (y : List Nat) (w : Option D), ∃ w', forL (tgName 2) L__law_is_step_1 (nts y) [A, B, w, C, E] [] = .nx [A, B, w', C, E] []
  | [], w => ⟨w, rfl⟩
  | a :: y, w => by
    obtain ⟨w', e⟩ := part_for A B C E y (some (.int (a : Int)))
    have i1 : ∀ S, fIsi [.int] S [.int (a : Int)] = .ok (.bl true) false := fun S => rfl
    have i2 : ∀ S, fIsi [.bool] S [.int (a : Int)] = .ok (.bl false) false := fun S => rfl
    refine ⟨w', ?_⟩
    show forL _ _ (.int (a : Int) :: nts y) _ _ = _
    rw [forL_c]
    simp only [rB_ok, rB_ex, aB_ok, aB_ex, lB_ok, lB_ex, llB_ok, llB_ex, liB_ok, lsB_ok, lsB_ex, vB_ok, vB_ex, sB_nx, sB_rt, sB_bk, sB_ct, sB_ex, tB_ok, tB_ex, iS_ok, iS_ex, fB_st, fB_dy, oS_nx, oS_ct, oS_bk, oS_rt, oS_ex, gB_s, fin_rt, fin_nx, fin_ex, vO_s, vOS_s, trO_s, oD_s, oL_s, newK_l, newK_d, gets_z, gets_s, cVar_e, cD_e, cTrue_e, cBin_e, cTru_e, cNot_e, cAnd_e, cOr_e, cIf_e, cAndB_e, cOrB_e, cNotB_e, cNil_e, cCons_e, cApp_e, iApp_e, sSkip_e, sBreak_e, sCont_e, sRetN_e, sSeq_e, sAsg_e, sNew_e, sExpr_e, sRet_e, sIf_e, sAsgT_e, sFor_e, sWhile_e, setD_e, tgName_e, tgTup_e, tB2_s, tgCons_e, tgNil_e, callD_e, callKw_e, pick_e, pureL_n, pureL_c, pure_non, pure_bl, pure_int, pure_str, pure_tup, pure_lst, pure_rol, pure_dct, pure_obj, sMethE_e, sMethA_e, sSub_e, sAug_e, augK_s, iVal_e, cComp_e, cB_st, cB_dy, coB_s, wipeD_n, wipeD_c, cTwo_e, cCutA_e, cCutH_e, cCutL_e, cCutLH_e, kInt_i, sTry_e, tryB_nx, tryB_ex, tryB_rt, sRaise_e, raiseK_e, runH_c, runH_n, hdK_t, hdK_f, noE_bl, noE_int, noE_lst, noE_non, noE_str, noE_tup, noEs_c, noEs_n, sPar2_e, sPar3_e, par2K_e, par3K_e, sFrz_e, cErr_e, cChain_e, bAdd_i, bSub_i, bCmp_i, bEq_i, bNe_i, bEq_s, bNe_s, bEq_b, iAdd_i, bIs_n, bIsNot_n, bIs_b, bIsNot_b, isNon_n, isNon_b, isNon_i, isNon_t, isNon_l, truth_b, truth_n, truth_i, truth_t, locO_l, lstOf_l, lstOf_o, rdOf_r, rdOf_l, rdOf_o, rdOf_t, seqOf_t, seqOf_r, seqOf_l, seqOf_o, lO_s, tO_s, iV_t, iV_l, iV_r, iV_o, iVo_s, enI_t, enI_l, lcB_s, lS_l, pO_s, kS_s, kSub_e, retD_non, retD_bl, retD_int, retD_str, retD_tup, retD_lst, retD_rol, retD_dct, retD_obj, retD_loc, retO_l, retO_d, tgD_non, tgD_bl, tgD_int, tgD_str, tgD_tup, tgD_lst, tgD_rol, tgD_dct, bIx_t, bIx_l, bIx_r, fCut_t, fCut_l, fTuple_t, fInt_i, Bool.and_true, Bool.true_and, Bool.and_false, Bool.false_and, Bool.or_true, Bool.true_or, Bool.or_false, Bool.false_or, Bool.not_true, Bool.not_false, Bool.and_self, Bool.false_eq_true, if_true, if_false, decide_true, decide_false, reduceIte, List.set_cons_zero, List.set_cons_succ, List.length_cons, List.length_nil, List.map_cons, List.map_nil, List.nil_append, List.cons_append, L__law_is_step_1_e, i1, i2, e]
theorem stp_k (hs : Stair s) (hl : s.length ≤ 1000) (i : Nat) (hi : i < s.length) : ∀ (n j : Nat) (w : Option D), i < j → j + n ≤ s.length + 1 →
    (if hits s x i j n then forL (tgName 4) L__law_is_step_2 ((List.range' j n).map fun i : Nat => D.int (i : Int)) [some (.tup (nts s)), some (.tup (nts x)), w2, some (.int (i : Int)), w] [] = .rt (.bl true) false
     else ∃ w', forL (tgName 4) L__law_is_step_2 ((List.range' j n).map fun i : Nat => D.int (i : Int)) [some (.tup (nts s)), some (.tup (nts x)), w2, some (.int (i : Int)), w] [] = .nx [some (.tup (nts s)), some (.tup (nts x)), w2, some (.int (i : Int)), w'] [])
  | 0, j, w, h1, h2 => by
    rw [if_neg (by unfold hits; simp)]
    exact ⟨w, rfl⟩
  | n + 1, j, w, h1, h2 => by
    have ih := stp_k hs hl i hi n (j + 1) (some (.int (j : Int))) (by omega) (by omega)
    have hm := moved_is s i j hi (by omega) ((getD_pos hs i).mpr hi) hl
    have he := fun S => eq_o S (mv2 s i j) x
    have hh : hits s x i j (n + 1) = (decide (mv2 s i j = some x) || hits s x i (j + 1) n) := by unfold hits; rw [List.range'_succ, List.any_cons]
    rw [List.range'_succ, List.map_cons, forL_c, hh]
    by_cases c : mv2 s i j = some x
    · rw [if_pos (by simp [c])]
      have he2 : bEq [] (oD2 (mv2 s i j)) (.tup (nts x)) = .ok (.bl true) false := by rw [he]; simp [c]
      simp only [rB_ok, rB_ex, aB_ok, aB_ex, lB_ok, lB_ex, llB_ok, llB_ex, liB_ok, lsB_ok, lsB_ex, vB_ok, vB_ex, sB_nx, sB_rt, sB_bk, sB_ct, sB_ex, tB_ok, tB_ex, iS_ok, iS_ex, fB_st, fB_dy, oS_nx, oS_ct, oS_bk, oS_rt, oS_ex, gB_s, fin_rt, fin_nx, fin_ex, vO_s, vOS_s, trO_s, oD_s, oL_s, newK_l, newK_d, gets_z, gets_s, cVar_e, cD_e, cTrue_e, cBin_e, cTru_e, cNot_e, cAnd_e, cOr_e, cIf_e, cAndB_e, cOrB_e, cNotB_e, cNil_e, cCons_e, cApp_e, iApp_e, sSkip_e, sBreak_e, sCont_e, sRetN_e, sSeq_e, sAsg_e, sNew_e, sExpr_e, sRet_e, sIf_e, sAsgT_e, sFor_e, sWhile_e, setD_e, tgName_e, tgTup_e, tB2_s, tgCons_e, tgNil_e, callD_e, callKw_e, pick_e, pureL_n, pureL_c, pure_non, pure_bl, pure_int, pure_str, pure_tup, pure_lst, pure_rol, pure_dct, pure_obj, sMethE_e, sMethA_e, sSub_e, sAug_e, augK_s, iVal_e, cComp_e, cB_st, cB_dy, coB_s, wipeD_n, wipeD_c, cTwo_e, cCutA_e, cCutH_e, cCutL_e, cCutLH_e, kInt_i, sTry_e, tryB_nx, tryB_ex, tryB_rt, sRaise_e, raiseK_e, runH_c, runH_n, hdK_t, hdK_f, noE_bl, noE_int, noE_lst, noE_non, noE_str, noE_tup, noEs_c, noEs_n, sPar2_e, sPar3_e, par2K_e, par3K_e, sFrz_e, cErr_e, cChain_e, bAdd_i, bSub_i, bCmp_i, bEq_i, bNe_i, bEq_s, bNe_s, bEq_b, iAdd_i, bIs_n, bIsNot_n, bIs_b, bIsNot_b, isNon_n, isNon_b, isNon_i, isNon_t, isNon_l, truth_b, truth_n, truth_i, truth_t, locO_l, lstOf_l, lstOf_o, rdOf_r, rdOf_l, rdOf_o, rdOf_t, seqOf_t, seqOf_r, seqOf_l, seqOf_o, lO_s, tO_s, iV_t, iV_l, iV_r, iV_o, iVo_s, enI_t, enI_l, lcB_s, lS_l, pO_s, kS_s, kSub_e, retD_non, retD_bl, retD_int, retD_str, retD_tup, retD_lst, retD_rol, retD_dct, retD_obj, retD_loc, retO_l, retO_d, tgD_non, tgD_bl, tgD_int, tgD_str, tgD_tup, tgD_lst, tgD_rol, tgD_dct, bIx_t, bIx_l, bIx_r, fCut_t, fCut_l, fTuple_t, fInt_i, Bool.and_true, Bool.true_and, Bool.and_false, Bool.false_and, Bool.or_true, Bool.true_or, Bool.or_false, Bool.false_or, Bool.not_true, Bool.not_false, Bool.and_self, Bool.false_eq_true, if_true, if_false, decide_true, decide_false, reduceIte, List.set_cons_zero, List.set_cons_succ, List.length_cons, List.length_nil, List.map_cons, List.map_nil, List.nil_append, List.cons_append, L__law_is_step_2_e, hm, he2]
    · have c' : (decide (mv2 s i j = some x) || hits s x i (j + 1) n) = hits s x i (j + 1) n := by simp [c]
      rw [c']
      have he2 : bEq [] (oD2 (mv2 s i j)) (.tup (nts x)) = .ok (.bl false) false := by rw [he]; simp [c]
      simp only [rB_ok, rB_ex, aB_ok, aB_ex, lB_ok, lB_ex, llB_ok, llB_ex, liB_ok, lsB_ok, lsB_ex, vB_ok, vB_ex, sB_nx, sB_rt, sB_bk, sB_ct, sB_ex, tB_ok, tB_ex, iS_ok, iS_ex, fB_st, fB_dy, oS_nx, oS_ct, oS_bk, oS_rt, oS_ex, gB_s, fin_rt, fin_nx, fin_ex, vO_s, vOS_s, trO_s, oD_s, oL_s, newK_l, newK_d, gets_z, gets_s, cVar_e, cD_e, cTrue_e, cBin_e, cTru_e, cNot_e, cAnd_e, cOr_e, cIf_e, cAndB_e, cOrB_e, cNotB_e, cNil_e, cCons_e, cApp_e, iApp_e, sSkip_e, sBreak_e, sCont_e, sRetN_e, sSeq_e, sAsg_e, sNew_e, sExpr_e, sRet_e, sIf_e, sAsgT_e, sFor_e, sWhile_e, setD_e, tgName_e, tgTup_e, tB2_s, tgCons_e, tgNil_e, callD_e, callKw_e, pick_e, pureL_n, pureL_c, pure_non, pure_bl, pure_int, pure_str, pure_tup, pure_lst, pure_rol, pure_dct, pure_obj, sMethE_e, sMethA_e, sSub_e, sAug_e, augK_s, iVal_e, cComp_e, cB_st, cB_dy, coB_s, wipeD_n, wipeD_c, cTwo_e, cCutA_e, cCutH_e, cCutL_e, cCutLH_e, kInt_i, sTry_e, tryB_nx, tryB_ex, tryB_rt, sRaise_e, raiseK_e, runH_c, runH_n, hdK_t, hdK_f, noE_bl, noE_int, noE_lst, noE_non, noE_str, noE_tup, noEs_c, noEs_n, sPar2_e, sPar3_e, par2K_e, par3K_e, sFrz_e, cErr_e, cChain_e, bAdd_i, bSub_i, bCmp_i, bEq_i, bNe_i, bEq_s, bNe_s, bEq_b, iAdd_i, bIs_n, bIsNot_n, bIs_b, bIsNot_b, isNon_n, isNon_b, isNon_i, isNon_t, isNon_l, truth_b, truth_n, truth_i, truth_t, locO_l, lstOf_l, lstOf_o, rdOf_r, rdOf_l, rdOf_o, rdOf_t, seqOf_t, seqOf_r, seqOf_l, seqOf_o, lO_s, tO_s, iV_t, iV_l, iV_r, iV_o, iVo_s, enI_t, enI_l, lcB_s, lS_l, pO_s, kS_s, kSub_e, retD_non, retD_bl, retD_int, retD_str, retD_tup, retD_lst, retD_rol, retD_dct, retD_obj, retD_loc, retO_l, retO_d, tgD_non, tgD_bl, tgD_int, tgD_str, tgD_tup, tgD_lst, tgD_rol, tgD_dct, bIx_t, bIx_l, bIx_r, fCut_t, fCut_l, fTuple_t, fInt_i, Bool.and_true, Bool.true_and, Bool.and_false, Bool.false_and, Bool.or_true, Bool.true_or, Bool.or_false, Bool.false_or, Bool.not_true, Bool.not_false, Bool.and_self, Bool.false_eq_true, if_true, if_false, decide_true, decide_false, reduceIte, List.set_cons_zero, List.set_cons_succ, List.length_cons, List.length_nil, List.map_cons, List.map_nil, List.nil_append, List.cons_append, L__law_is_step_2_e, hm, he2]
      exact ih
theorem stp_i (hs : Stair s) (hl : s.length ≤ 1000) (f : Nat) (hf : hits s x f (f + 1) (s.length - f) = true) : ∀ (n j : Nat) (v w : Option D), j ≤ f → f < j + n → j + n ≤ s.length →
    forL (tgName 3) L__law_is_step_3 ((List.range' j n).map fun i : Nat => D.int (i : Int)) [some (.tup (nts s)), some (.tup (nts x)), w2, v, w] [] = .rt (.bl true) false
  | 0, j, v, w, h1, h2, h3 => by omega
  | n + 1, j, v, w, h1, h2, h3 => by
    have hk := stp_k (w2 := w2) (x := x) hs hl j (by omega) (s.length - j) (j + 1) w (by omega) (by omega)
    have hr : ∀ S, rg2 S [.int ((j : Int) + 1), .int ((s.length : Int) + 1)] = .st ((List.range' (j + 1) (s.length - j)).map fun i : Nat => D.int (i : Int)) := fun S => by
      have := @rg2_nat S (j + 1) (s.length + 1) (by omega) (by omega)
      rw [show (s.length + 1 - (j + 1)) = s.length - j by omega] at this
      rw [← this]; congr 2
    have hln : ∀ S, fLen S [.tup (nts s)] = .ok (.int (s.length : Int)) false := fun S => by rw [fLen_s (seqOf_t), nts_len]
    rw [List.range'_succ, List.map_cons, forL_c]
    by_cases c : hits s x j (j + 1) (s.length - j) = true
    · rw [if_pos c] at hk
      simp only [rB_ok, rB_ex, aB_ok, aB_ex, lB_ok, lB_ex, llB_ok, llB_ex, liB_ok, lsB_ok, lsB_ex, vB_ok, vB_ex, sB_nx, sB_rt, sB_bk, sB_ct, sB_ex, tB_ok, tB_ex, iS_ok, iS_ex, fB_st, fB_dy, oS_nx, oS_ct, oS_bk, oS_rt, oS_ex, gB_s, fin_rt, fin_nx, fin_ex, vO_s, vOS_s, trO_s, oD_s, oL_s, newK_l, newK_d, gets_z, gets_s, cVar_e, cD_e, cTrue_e, cBin_e, cTru_e, cNot_e, cAnd_e, cOr_e, cIf_e, cAndB_e, cOrB_e, cNotB_e, cNil_e, cCons_e, cApp_e, iApp_e, sSkip_e, sBreak_e, sCont_e, sRetN_e, sSeq_e, sAsg_e, sNew_e, sExpr_e, sRet_e, sIf_e, sAsgT_e, sFor_e, sWhile_e, setD_e, tgName_e, tgTup_e, tB2_s, tgCons_e, tgNil_e, callD_e, callKw_e, pick_e, pureL_n, pureL_c, pure_non, pure_bl, pure_int, pure_str, pure_tup, pure_lst, pure_rol, pure_dct, pure_obj, sMethE_e, sMethA_e, sSub_e, sAug_e, augK_s, iVal_e, cComp_e, cB_st, cB_dy, coB_s, wipeD_n, wipeD_c, cTwo_e, cCutA_e, cCutH_e, cCutL_e, cCutLH_e, kInt_i, sTry_e, tryB_nx, tryB_ex, tryB_rt, sRaise_e, raiseK_e, runH_c, runH_n, hdK_t, hdK_f, noE_bl, noE_int, noE_lst, noE_non, noE_str, noE_tup, noEs_c, noEs_n, sPar2_e, sPar3_e, par2K_e, par3K_e, sFrz_e, cErr_e, cChain_e, bAdd_i, bSub_i, bCmp_i, bEq_i, bNe_i, bEq_s, bNe_s, bEq_b, iAdd_i, bIs_n, bIsNot_n, bIs_b, bIsNot_b, isNon_n, isNon_b, isNon_i, isNon_t, isNon_l, truth_b, truth_n, truth_i, truth_t, locO_l, lstOf_l, lstOf_o, rdOf_r, rdOf_l, rdOf_o, rdOf_t, seqOf_t, seqOf_r, seqOf_l, seqOf_o, lO_s, tO_s, iV_t, iV_l, iV_r, iV_o, iVo_s, enI_t, enI_l, lcB_s, lS_l, pO_s, kS_s, kSub_e, retD_non, retD_bl, retD_int, retD_str, retD_tup, retD_lst, retD_rol, retD_dct, retD_obj, retD_loc, retO_l, retO_d, tgD_non, tgD_bl, tgD_int, tgD_str, tgD_tup, tgD_lst, tgD_rol, tgD_dct, bIx_t, bIx_l, bIx_r, fCut_t, fCut_l, fTuple_t, fInt_i, Bool.and_true, Bool.true_and, Bool.and_false, Bool.false_and, Bool.or_true, Bool.true_or, Bool.or_false, Bool.false_or, Bool.not_true, Bool.not_false, Bool.and_self, Bool.false_eq_true, if_true, if_false, decide_true, decide_false, reduceIte, List.set_cons_zero, List.set_cons_succ, List.length_cons, List.length_nil, List.map_cons, List.map_nil, List.nil_append, List.cons_append, L__law_is_step_3_e, hln, hr, hk]
    · rw [if_neg c] at hk
      obtain ⟨w', hk⟩ := hk
      have hj : j ≠ f := fun z => c (by rw [z]; exact hf)
      have ih := stp_i hs hl f hf n (j + 1) (some (.int (j : Int))) w' (by omega) (by omega) (by omega)
      simp only [rB_ok, rB_ex, aB_ok, aB_ex, lB_ok, lB_ex, llB_ok, llB_ex, liB_ok, lsB_ok, lsB_ex, vB_ok, vB_ex, sB_nx, sB_rt, sB_bk, sB_ct, sB_ex, tB_ok, tB_ex, iS_ok, iS_ex, fB_st, fB_dy, oS_nx, oS_ct, oS_bk, oS_rt, oS_ex, gB_s, fin_rt, fin_nx, fin_ex, vO_s, vOS_s, trO_s, oD_s, oL_s, newK_l, newK_d, gets_z, gets_s, cVar_e, cD_e, cTrue_e, cBin_e, cTru_e, cNot_e, cAnd_e, cOr_e, cIf_e, cAndB_e, cOrB_e, cNotB_e, cNil_e, cCons_e, cApp_e, iApp_e, sSkip_e, sBreak_e, sCont_e, sRetN_e, sSeq_e, sAsg_e, sNew_e, sExpr_e, sRet_e, sIf_e, sAsgT_e, sFor_e, sWhile_e, setD_e, tgName_e, tgTup_e, tB2_s, tgCons_e, tgNil_e, callD_e, callKw_e, pick_e, pureL_n, pureL_c, pure_non, pure_bl, pure_int, pure_str, pure_tup, pure_lst, pure_rol, pure_dct, pure_obj, sMethE_e, sMethA_e, sSub_e, sAug_e, augK_s, iVal_e, cComp_e, cB_st, cB_dy, coB_s, wipeD_n, wipeD_c, cTwo_e, cCutA_e, cCutH_e, cCutL_e, cCutLH_e, kInt_i, sTry_e, tryB_nx, tryB_ex, tryB_rt, sRaise_e, raiseK_e, runH_c, runH_n, hdK_t, hdK_f, noE_bl, noE_int, noE_lst, noE_non, noE_str, noE_tup, noEs_c, noEs_n, sPar2_e, sPar3_e, par2K_e, par3K_e, sFrz_e, cErr_e, cChain_e, bAdd_i, bSub_i, bCmp_i, bEq_i, bNe_i, bEq_s, bNe_s, bEq_b, iAdd_i, bIs_n, bIsNot_n, bIs_b, bIsNot_b, isNon_n, isNon_b, isNon_i, isNon_t, isNon_l, truth_b, truth_n, truth_i, truth_t, locO_l, lstOf_l, lstOf_o, rdOf_r, rdOf_l, rdOf_o, rdOf_t, seqOf_t, seqOf_r, seqOf_l, seqOf_o, lO_s, tO_s, iV_t, iV_l, iV_r, iV_o, iVo_s, enI_t, enI_l, lcB_s, lS_l, pO_s, kS_s, kSub_e, retD_non, retD_bl, retD_int, retD_str, retD_tup, retD_lst, retD_rol, retD_dct, retD_obj, retD_loc, retO_l, retO_d, tgD_non, tgD_bl, tgD_int, tgD_str, tgD_tup, tgD_lst, tgD_rol, tgD_dct, bIx_t, bIx_l, bIx_r, fCut_t, fCut_l, fTuple_t, fInt_i, Bool.and_true, Bool.true_and, Bool.and_false, Bool.false_and, Bool.or_true, Bool.true_or, Bool.or_false, Bool.false_or, Bool.not_true, Bool.not_false, Bool.and_self, Bool.false_eq_true, if_true, if_false, decide_true, decide_false, reduceIte, List.set_cons_zero, List.set_cons_succ, List.length_cons, List.length_nil, List.map_cons, List.map_nil, List.nil_append, List.cons_append, L__law_is_step_3_e, hln, hr, hk, ih]
end
theorem is_step_is {s x : List Nat} (hs : Stair s) (hx : Stair x) (hl : s.length ≤ 1000) (h : BoxStep s x) : m__law_is_step [tupD s, tupD x] = .ok (.bl true) false := by
  obtain ⟨f, t, ft, h1, h2, h3⟩ := h
  obtain ⟨hf, ht, hm⟩ := mv_good hs hx ft h1 h2 h3
  have hh : hits s x f (f + 1) (s.length - f) = true := by
    unfold hits
    rw [List.any_eq_true]
    exact ⟨t, List.mem_range'_1.mpr ⟨by omega, by omega⟩, decide_eq_true hm⟩
  obtain ⟨w', hp⟩ := part_for (some (.tup (nts s))) (some (.tup (nts x))) none none x none
  have hi := stp_i (w2 := w') hs hl f hh s.length 0 none none (by omega) (by omega) (by omega)
  have hr : ∀ S, rg1 S [.int (s.length : Int)] = .st ((List.range' 0 s.length).map fun i : Nat => D.int (i : Int)) := fun S => by
    rw [rg1_nat (by omega)]
    have := range_map s.length 0
    rw [← this]; rfl
  have hln : ∀ S, fLen S [.tup (nts s)] = .ok (.int (s.length : Int)) false := fun S => by rw [fLen_s (seqOf_t), nts_len]
  have it : ∀ S, fIsi [.tup] S [.tup (nts x)] = .ok (.bl true) false := fun S => rfl
  unfold tupD
  rw [r__law_is_step]
  simp only [b__law_is_step_e, rB_ok, rB_ex, aB_ok, aB_ex, lB_ok, lB_ex, llB_ok, llB_ex, liB_ok, lsB_ok, lsB_ex, vB_ok, vB_ex, sB_nx, sB_rt, sB_bk, sB_ct, sB_ex, tB_ok, tB_ex, iS_ok, iS_ex, fB_st, fB_dy, oS_nx, oS_ct, oS_bk, oS_rt, oS_ex, gB_s, fin_rt, fin_nx, fin_ex, vO_s, vOS_s, trO_s, oD_s, oL_s, newK_l, newK_d, gets_z, gets_s, cVar_e, cD_e, cTrue_e, cBin_e, cTru_e, cNot_e, cAnd_e, cOr_e, cIf_e, cAndB_e, cOrB_e, cNotB_e, cNil_e, cCons_e, cApp_e, iApp_e, sSkip_e, sBreak_e, sCont_e, sRetN_e, sSeq_e, sAsg_e, sNew_e, sExpr_e, sRet_e, sIf_e, sAsgT_e, sFor_e, sWhile_e, setD_e, tgName_e, tgTup_e, tB2_s, tgCons_e, tgNil_e, callD_e, callKw_e, pick_e, pureL_n, pureL_c, pure_non, pure_bl, pure_int, pure_str, pure_tup, pure_lst, pure_rol, pure_dct, pure_obj, sMethE_e, sMethA_e, sSub_e, sAug_e, augK_s, iVal_e, cComp_e, cB_st, cB_dy, coB_s, wipeD_n, wipeD_c, cTwo_e, cCutA_e, cCutH_e, cCutL_e, cCutLH_e, kInt_i, sTry_e, tryB_nx, tryB_ex, tryB_rt, sRaise_e, raiseK_e, runH_c, runH_n, hdK_t, hdK_f, noE_bl, noE_int, noE_lst, noE_non, noE_str, noE_tup, noEs_c, noEs_n, sPar2_e, sPar3_e, par2K_e, par3K_e, sFrz_e, cErr_e, cChain_e, bAdd_i, bSub_i, bCmp_i, bEq_i, bNe_i, bEq_s, bNe_s, bEq_b, iAdd_i, bIs_n, bIsNot_n, bIs_b, bIsNot_b, isNon_n, isNon_b, isNon_i, isNon_t, isNon_l, truth_b, truth_n, truth_i, truth_t, locO_l, lstOf_l, lstOf_o, rdOf_r, rdOf_l, rdOf_o, rdOf_t, seqOf_t, seqOf_r, seqOf_l, seqOf_o, lO_s, tO_s, iV_t, iV_l, iV_r, iV_o, iVo_s, enI_t, enI_l, lcB_s, lS_l, pO_s, kS_s, kSub_e, retD_non, retD_bl, retD_int, retD_str, retD_tup, retD_lst, retD_rol, retD_dct, retD_obj, retD_loc, retO_l, retO_d, tgD_non, tgD_bl, tgD_int, tgD_str, tgD_tup, tgD_lst, tgD_rol, tgD_dct, bIx_t, bIx_l, bIx_r, fCut_t, fCut_l, fTuple_t, fInt_i, Bool.and_true, Bool.true_and, Bool.and_false, Bool.false_and, Bool.or_true, Bool.true_or, Bool.or_false, Bool.false_or, Bool.not_true, Bool.not_false, Bool.and_self, Bool.false_eq_true, if_true, if_false, decide_true, decide_false, reduceIte, List.set_cons_zero, List.set_cons_succ, List.length_cons, List.length_nil, List.map_cons, List.map_nil, List.nil_append, List.cons_append, it, hp, hln, hr, hi]
end K04

set_option maxRecDepth 2000
namespace K04
open PySem HC PL PM
theorem box_psum {s x : List Nat} {f t : Nat} (ft : f < t) (h1 : s.getD f 0 = x.getD f 0 + 1) (h2 : x.getD t 0 = s.getD t 0 + 1) (h3 : ∀ i, i ≠ f → i ≠ t → x.getD i 0 = s.getD i 0) : ∀ m, psum x m + (if f < m ∧ m ≤ t then 1 else 0) = psum s m
  | 0 => by rw [psum_zero, psum_zero, if_neg (by omega)]
  | m + 1 => by
    have ih := box_psum ft h1 h2 h3 m
    rw [psum_succ, psum_succ]
    by_cases c1 : m = f
    · subst c1
      rw [if_neg (by omega)] at ih
      rw [if_pos (by omega)]; omega
    · by_cases c2 : m = t
      · subst c2
        rw [if_pos (by omega)] at ih
        rw [if_neg (by omega)]; omega
      · have := h3 m c1 c2
        by_cases c3 : f < m ∧ m ≤ t
        · rw [if_pos c3] at ih
          rw [if_pos (by omega)]; omega
        · rw [if_neg c3] at ih
          rw [if_neg (by omega)]; omega
theorem box_height {s x : List Nat} {f t : Nat} (ft : f < t) (h1 : s.getD f 0 = x.getD f 0 + 1) (h2 : x.getD t 0 = s.getD t 0 + 1) (h3 : ∀ i, i ≠ f → i ≠ t → x.getD i 0 = s.getD i 0) : ∀ n, height x n ≤ height s n ∧ (f < n → height x n + 1 ≤ height s n)
  | 0 => ⟨Nat.le_refl _, by omega⟩
  | n + 1 => by
    have ih := box_height ft h1 h2 h3 n
    have p := box_psum ft h1 h2 h3 (n + 1)
    show height x n + psum x (n + 1) ≤ height s n + psum s (n + 1) ∧ (f < n + 1 → height x n + psum x (n + 1) + 1 ≤ height s n + psum s (n + 1))
    by_cases c : f < n
    · have := ih.2 c
      refine ⟨?_, fun _ => ?_⟩ <;> split at p <;> omega
    · have := ih.1
      refine ⟨?_, fun c2 => ?_⟩
      · split at p <;> omega
      · rw [if_pos (by omega)] at p; omega
theorem chain_len {n : Nat} : ∀ (more : List (List Nat)) (a b : List Nat), Stair a → a.length ≤ n → ChainTo n a more b → more.length + height b n ≤ height a n
  | [], a, b, ha, hl, h => by
    have h : a = b := h
    subst h; simp
  | x :: more, a, b, ha, hl, h => by
    obtain ⟨⟨h1, h2, f, t, ft, e1, e2, e3⟩, h3⟩ := h
    have ih := chain_len more x b h1 h2 h3
    have hf : f < a.length := (getD_pos ha f).mp (by omega)
    have := (box_height ft e1 e2 e3 n).2 (by omega)
    simp only [List.length_cons]
    omega
theorem chain_last {n : Nat} : ∀ (more : List (List Nat)) (a b : List Nat), ChainTo n a more b → (a :: more).getLast? = some b
  | [], a, b, h => by
    have h : a = b := h
    subst h; rfl
  | x :: more, a, b, h => by
    rw [List.getLast?_cons_cons]
    exact chain_last more x b h.2
theorem tups_at (L : List (List Nat)) {k : Nat} {s : List Nat} (h : L[k]? = some s) : atD (L.map tupD) (k : Int) = some (tupD s) := by
  rw [atD_n, List.getElem?_map, h]; rfl
theorem chn_for {n : Nat} (hn : n ≤ 1000) (L : List (List Nat)) (A B C : Option D) (b : List Nat) : ∀ (rest pre : List (List Nat)) (s : List Nat) (w : Option D), L = pre ++ s :: rest → Stair s → s.length ≤ n → ChainTo n s rest b → ∃ w',
    forL (tgName 4) L__law_is_chain_2 (rangeD ((pre.length + 1 : Nat) : Int) rest.length) [some (.tup (L.map tupD)), A, B, C, w] [] = .nx [some (.tup (L.map tupD)), A, B, C, w'] []
  | [], pre, s, w, e, hs, hl, h => ⟨w, rfl⟩
  | x :: rest, pre, s, w, e, hs, hl, h => by
    obtain ⟨⟨h1, h2, hb⟩, h3⟩ := h
    have a1 : atD (L.map tupD) (((pre.length + 1 : Nat) : Int) - 1) = some (tupD s) := by
      rw [show ((pre.length + 1 : Nat) : Int) - 1 = (pre.length : Int) by omega]
      exact tups_at L (by rw [e, List.getElem?_append_right (Nat.le_refl _), Nat.sub_self]; rfl)
    have a2 : atD (L.map tupD) ((pre.length + 1 : Nat) : Int) = some (tupD x) := tups_at L (by rw [e, List.getElem?_append_right (by omega), show pre.length + 1 - pre.length = 1 by omega]; rfl)
    have hi := is_step_is hs h1 (by omega) hb
    obtain ⟨w', ih⟩ := chn_for hn L A B C b rest (pre ++ [s]) x (some (.int ((pre.length + 1 : Nat) : Int))) (by rw [e]; simp) h1 h2 h3
    have ph : ∀ y, (tupD y).pure = true := fun _ => rfl
    refine ⟨w', ?_⟩
    rw [List.length_cons, rangeD_s, forL_c]
    rw [List.length_append, show ((pre.length + [s].length + 1 : Nat) : Int) = ((pre.length + 1 : Nat) : Int) + 1 by simp] at ih
    simp only [rB_ok, rB_ex, aB_ok, aB_ex, lB_ok, lB_ex, llB_ok, llB_ex, liB_ok, lsB_ok, lsB_ex, vB_ok, vB_ex, sB_nx, sB_rt, sB_bk, sB_ct, sB_ex, tB_ok, tB_ex, iS_ok, iS_ex, fB_st, fB_dy, oS_nx, oS_ct, oS_bk, oS_rt, oS_ex, gB_s, fin_rt, fin_nx, fin_ex, vO_s, vOS_s, trO_s, oD_s, oL_s, newK_l, newK_d, gets_z, gets_s, cVar_e, cD_e, cTrue_e, cBin_e, cTru_e, cNot_e, cAnd_e, cOr_e, cIf_e, cAndB_e, cOrB_e, cNotB_e, cNil_e, cCons_e, cApp_e, iApp_e, sSkip_e, sBreak_e, sCont_e, sRetN_e, sSeq_e, sAsg_e, sNew_e, sExpr_e, sRet_e, sIf_e, sAsgT_e, sFor_e, sWhile_e, setD_e, tgName_e, tgTup_e, tB2_s, tgCons_e, tgNil_e, callD_e, callKw_e, pick_e, pureL_n, pureL_c, pure_non, pure_bl, pure_int, pure_str, pure_tup, pure_lst, pure_rol, pure_dct, pure_obj, sMethE_e, sMethA_e, sSub_e, sAug_e, augK_s, iVal_e, cComp_e, cB_st, cB_dy, coB_s, wipeD_n, wipeD_c, cTwo_e, cCutA_e, cCutH_e, cCutL_e, cCutLH_e, kInt_i, sTry_e, tryB_nx, tryB_ex, tryB_rt, sRaise_e, raiseK_e, runH_c, runH_n, hdK_t, hdK_f, noE_bl, noE_int, noE_lst, noE_non, noE_str, noE_tup, noEs_c, noEs_n, sPar2_e, sPar3_e, par2K_e, par3K_e, sFrz_e, cErr_e, cChain_e, bAdd_i, bSub_i, bCmp_i, bEq_i, bNe_i, bEq_s, bNe_s, bEq_b, iAdd_i, bIs_n, bIsNot_n, bIs_b, bIsNot_b, isNon_n, isNon_b, isNon_i, isNon_t, isNon_l, truth_b, truth_n, truth_i, truth_t, locO_l, lstOf_l, lstOf_o, rdOf_r, rdOf_l, rdOf_o, rdOf_t, seqOf_t, seqOf_r, seqOf_l, seqOf_o, lO_s, tO_s, iV_t, iV_l, iV_r, iV_o, iVo_s, enI_t, enI_l, lcB_s, lS_l, pO_s, kS_s, kSub_e, retD_non, retD_bl, retD_int, retD_str, retD_tup, retD_lst, retD_rol, retD_dct, retD_obj, retD_loc, retO_l, retO_d, tgD_non, tgD_bl, tgD_int, tgD_str, tgD_tup, tgD_lst, tgD_rol, tgD_dct, bIx_t, bIx_l, bIx_r, fCut_t, fCut_l, fTuple_t, fInt_i, Bool.and_true, Bool.true_and, Bool.and_false, Bool.false_and, Bool.or_true, Bool.true_or, Bool.or_false, Bool.false_or, Bool.not_true, Bool.not_false, Bool.and_self, Bool.false_eq_true, if_true, if_false, decide_true, decide_false, reduceIte, List.set_cons_zero, List.set_cons_succ, List.length_cons, List.length_nil, List.map_cons, List.map_nil, List.nil_append, List.cons_append, L__law_is_chain_2_e, a1, a2, hi, ph, ih]
theorem prt_for (A B C E : Option D) : ∀ (y : List Nat) (w : Option D), ∃ w', forL (tgName 3) L__law_is_chain_1 (nts y) [A, B, C, w, E] [] = .nx [A, B, C, w', E] []
  | [], w => ⟨w, rfl⟩
  | a :: y, w => by
    obtain ⟨w', e⟩ := prt_for A B C E y (some (.int (a : Int)))
    have i1 : ∀ S, fIsi [.int] S [.int (a : Int)] = .ok (.bl true) false := fun S => rfl
    have i2 : ∀ S, fIsi [.bool] S [.int (a : Int)] = .ok (.bl false) false := fun S => rfl
    refine ⟨w', ?_⟩
    show forL _ _ (.int (a : Int) :: nts y) _ _ = _
    rw [forL_c]
    simp only [rB_ok, rB_ex, aB_ok, aB_ex, lB_ok, lB_ex, llB_ok, llB_ex, liB_ok, lsB_ok, lsB_ex, vB_ok, vB_ex, sB_nx, sB_rt, sB_bk, sB_ct, sB_ex, tB_ok, tB_ex, iS_ok, iS_ex, fB_st, fB_dy, oS_nx, oS_ct, oS_bk, oS_rt, oS_ex, gB_s, fin_rt, fin_nx, fin_ex, vO_s, vOS_s, trO_s, oD_s, oL_s, newK_l, newK_d, gets_z, gets_s, cVar_e, cD_e, cTrue_e, cBin_e, cTru_e, cNot_e, cAnd_e, cOr_e, cIf_e, cAndB_e, cOrB_e, cNotB_e, cNil_e, cCons_e, cApp_e, iApp_e, sSkip_e, sBreak_e, sCont_e, sRetN_e, sSeq_e, sAsg_e, sNew_e, sExpr_e, sRet_e, sIf_e, sAsgT_e, sFor_e, sWhile_e, setD_e, tgName_e, tgTup_e, tB2_s, tgCons_e, tgNil_e, callD_e, callKw_e, pick_e, pureL_n, pureL_c, pure_non, pure_bl, pure_int, pure_str, pure_tup, pure_lst, pure_rol, pure_dct, pure_obj, sMethE_e, sMethA_e, sSub_e, sAug_e, augK_s, iVal_e, cComp_e, cB_st, cB_dy, coB_s, wipeD_n, wipeD_c, cTwo_e, cCutA_e, cCutH_e, cCutL_e, cCutLH_e, kInt_i, sTry_e, tryB_nx, tryB_ex, tryB_rt, sRaise_e, raiseK_e, runH_c, runH_n, hdK_t, hdK_f, noE_bl, noE_int, noE_lst, noE_non, noE_str, noE_tup, noEs_c, noEs_n, sPar2_e, sPar3_e, par2K_e, par3K_e, sFrz_e, cErr_e, cChain_e, bAdd_i, bSub_i, bCmp_i, bEq_i, bNe_i, bEq_s, bNe_s, bEq_b, iAdd_i, bIs_n, bIsNot_n, bIs_b, bIsNot_b, isNon_n, isNon_b, isNon_i, isNon_t, isNon_l, truth_b, truth_n, truth_i, truth_t, locO_l, lstOf_l, lstOf_o, rdOf_r, rdOf_l, rdOf_o, rdOf_t, seqOf_t, seqOf_r, seqOf_l, seqOf_o, lO_s, tO_s, iV_t, iV_l, iV_r, iV_o, iVo_s, enI_t, enI_l, lcB_s, lS_l, pO_s, kS_s, kSub_e, retD_non, retD_bl, retD_int, retD_str, retD_tup, retD_lst, retD_rol, retD_dct, retD_obj, retD_loc, retO_l, retO_d, tgD_non, tgD_bl, tgD_int, tgD_str, tgD_tup, tgD_lst, tgD_rol, tgD_dct, bIx_t, bIx_l, bIx_r, fCut_t, fCut_l, fTuple_t, fInt_i, Bool.and_true, Bool.true_and, Bool.and_false, Bool.false_and, Bool.or_true, Bool.true_or, Bool.or_false, Bool.false_or, Bool.not_true, Bool.not_false, Bool.and_self, Bool.false_eq_true, if_true, if_false, decide_true, decide_false, reduceIte, List.set_cons_zero, List.set_cons_succ, List.length_cons, List.length_nil, List.map_cons, List.map_nil, List.nil_append, List.cons_append, L__law_is_chain_1_e, i1, i2, e]
theorem is_chain_is {n : Nat} (hn : n ≤ 1000) {a b : List Nat} {more : List (List Nat)} (h : ChainTo n a more b) (ha : Stair a) (hl : a.length ≤ n) (hm : more.length < 30) : m__law_is_chain [.tup (tupD a :: more.map tupD), tupD a, tupD b] = .ok (.bl true) false := by
  show m__law_is_chain [.tup ((a :: more).map tupD), tupD a, tupD b] = _
  obtain ⟨w', e1⟩ := prt_for (some (.tup ((a :: more).map tupD))) (some (tupD a)) (some (tupD b)) none a none
  obtain ⟨w2, e2⟩ := chn_for hn (a :: more) (some (tupD a)) (some (tupD b)) w' b more [] a none rfl ha hl h
  have hlen : ∀ S, fLen S [.tup ((a :: more).map tupD)] = .ok (.int ((more.length + 1 : Nat) : Int)) false := fun S => by rw [fLen_s (seqOf_t)]; simp
  have a0 : atD ((a :: more).map tupD) 0 = some (tupD a) := rfl
  have aL : atD ((a :: more).map tupD) (-1) = some (tupD b) := by
    have := chain_last more a b h
    show (if 0 + 1 ≤ ((a :: more).map tupD).length then gets ((a :: more).map tupD) (((a :: more).map tupD).length - (0 + 1)) else none) = _
    rw [if_pos (by simp), gets_eq, List.length_map, List.getElem?_map]
    rw [List.getLast?_eq_getElem?] at this
    rw [show (a :: more).length - (0 + 1) = (a :: more).length - 1 by omega, this]; rfl
  have ne0 : ∀ (S : List SO) y, bNe S (tupD y) (tupD y) = .ok (.bl false) false := fun S y => by
    show bNe S (.tup (nts y)) (.tup (nts y)) = _
    rw [ne_tups]; simp
  have it : ∀ S, fIsi [.tup] S [.tup ((a :: more).map tupD)] = .ok (.bl true) false := fun S => rfl
  have c1 : ¬ ((more.length + 1 : Nat) : Int) = 0 := by omega
  have c2 : ¬ (30 : Int) < ((more.length + 1 : Nat) : Int) := by omega
  have hn1 : ∀ (σ : Sl) (S : List SO), cNeg (cD (.int 1)) σ S = .ok (.int (-1)) false := fun _ _ => rfl
  have hr : ∀ S, rg2 S [.int 1, .int ((more.length + 1 : Nat) : Int)] = .st (rangeD 1 more.length) := fun S => by
    have := @rg2_nat S 1 (more.length + 1) (by omega) (by omega)
    rw [show more.length + 1 - 1 = more.length by omega, ← range_map] at this
    exact this
  have iv : iVal (cBin bIx (cVar 0) (cD (.int 0))) [some (.tup ((a :: more).map tupD)), some (tupD a), some (tupD b), none, none] [] = .st (nts a) := by
    simp only [rB_ok, rB_ex, aB_ok, aB_ex, lB_ok, lB_ex, llB_ok, llB_ex, liB_ok, lsB_ok, lsB_ex, vB_ok, vB_ex, sB_nx, sB_rt, sB_bk, sB_ct, sB_ex, tB_ok, tB_ex, iS_ok, iS_ex, fB_st, fB_dy, oS_nx, oS_ct, oS_bk, oS_rt, oS_ex, gB_s, fin_rt, fin_nx, fin_ex, vO_s, vOS_s, trO_s, oD_s, oL_s, newK_l, newK_d, gets_z, gets_s, cVar_e, cD_e, cTrue_e, cBin_e, cTru_e, cNot_e, cAnd_e, cOr_e, cIf_e, cAndB_e, cOrB_e, cNotB_e, cNil_e, cCons_e, cApp_e, iApp_e, sSkip_e, sBreak_e, sCont_e, sRetN_e, sSeq_e, sAsg_e, sNew_e, sExpr_e, sRet_e, sIf_e, sAsgT_e, sFor_e, sWhile_e, setD_e, tgName_e, tgTup_e, tB2_s, tgCons_e, tgNil_e, callD_e, callKw_e, pick_e, pureL_n, pureL_c, pure_non, pure_bl, pure_int, pure_str, pure_tup, pure_lst, pure_rol, pure_dct, pure_obj, sMethE_e, sMethA_e, sSub_e, sAug_e, augK_s, iVal_e, cComp_e, cB_st, cB_dy, coB_s, wipeD_n, wipeD_c, cTwo_e, cCutA_e, cCutH_e, cCutL_e, cCutLH_e, kInt_i, sTry_e, tryB_nx, tryB_ex, tryB_rt, sRaise_e, raiseK_e, runH_c, runH_n, hdK_t, hdK_f, noE_bl, noE_int, noE_lst, noE_non, noE_str, noE_tup, noEs_c, noEs_n, sPar2_e, sPar3_e, par2K_e, par3K_e, sFrz_e, cErr_e, cChain_e, bAdd_i, bSub_i, bCmp_i, bEq_i, bNe_i, bEq_s, bNe_s, bEq_b, iAdd_i, bIs_n, bIsNot_n, bIs_b, bIsNot_b, isNon_n, isNon_b, isNon_i, isNon_t, isNon_l, truth_b, truth_n, truth_i, truth_t, locO_l, lstOf_l, lstOf_o, rdOf_r, rdOf_l, rdOf_o, rdOf_t, seqOf_t, seqOf_r, seqOf_l, seqOf_o, lO_s, tO_s, iV_t, iV_l, iV_r, iV_o, iVo_s, enI_t, enI_l, lcB_s, lS_l, pO_s, kS_s, kSub_e, retD_non, retD_bl, retD_int, retD_str, retD_tup, retD_lst, retD_rol, retD_dct, retD_obj, retD_loc, retO_l, retO_d, tgD_non, tgD_bl, tgD_int, tgD_str, tgD_tup, tgD_lst, tgD_rol, tgD_dct, bIx_t, bIx_l, bIx_r, fCut_t, fCut_l, fTuple_t, fInt_i, Bool.and_true, Bool.true_and, Bool.and_false, Bool.false_and, Bool.or_true, Bool.true_or, Bool.or_false, Bool.false_or, Bool.not_true, Bool.not_false, Bool.and_self, Bool.false_eq_true, if_true, if_false, decide_true, decide_false, reduceIte, List.set_cons_zero, List.set_cons_succ, List.length_cons, List.length_nil, List.map_cons, List.map_nil, List.nil_append, List.cons_append, a0]; rfl
  have e2 : forL (tgName 4) L__law_is_chain_2 (rangeD 1 more.length) [some (.tup ((a :: more).map tupD)), some (tupD a), some (tupD b), w', none] [] = .nx [some (.tup ((a :: more).map tupD)), some (tupD a), some (tupD b), w', w2] [] := e2
  generalize (a :: more).map tupD = T at *
  rw [r__law_is_chain]
  simp only [b__law_is_chain_e, iv, rB_ok, rB_ex, aB_ok, aB_ex, lB_ok, lB_ex, llB_ok, llB_ex, liB_ok, lsB_ok, lsB_ex, vB_ok, vB_ex, sB_nx, sB_rt, sB_bk, sB_ct, sB_ex, tB_ok, tB_ex, iS_ok, iS_ex, fB_st, fB_dy, oS_nx, oS_ct, oS_bk, oS_rt, oS_ex, gB_s, fin_rt, fin_nx, fin_ex, vO_s, vOS_s, trO_s, oD_s, oL_s, newK_l, newK_d, gets_z, gets_s, cVar_e, cD_e, cTrue_e, cBin_e, cTru_e, cNot_e, cAnd_e, cOr_e, cIf_e, cAndB_e, cOrB_e, cNotB_e, cNil_e, cCons_e, cApp_e, iApp_e, sSkip_e, sBreak_e, sCont_e, sRetN_e, sSeq_e, sAsg_e, sNew_e, sExpr_e, sRet_e, sIf_e, sAsgT_e, sFor_e, sWhile_e, setD_e, tgName_e, tgTup_e, tB2_s, tgCons_e, tgNil_e, callD_e, callKw_e, pick_e, pureL_n, pureL_c, pure_non, pure_bl, pure_int, pure_str, pure_tup, pure_lst, pure_rol, pure_dct, pure_obj, sMethE_e, sMethA_e, sSub_e, sAug_e, augK_s, iVal_e, cComp_e, cB_st, cB_dy, coB_s, wipeD_n, wipeD_c, cTwo_e, cCutA_e, cCutH_e, cCutL_e, cCutLH_e, kInt_i, sTry_e, tryB_nx, tryB_ex, tryB_rt, sRaise_e, raiseK_e, runH_c, runH_n, hdK_t, hdK_f, noE_bl, noE_int, noE_lst, noE_non, noE_str, noE_tup, noEs_c, noEs_n, sPar2_e, sPar3_e, par2K_e, par3K_e, sFrz_e, cErr_e, cChain_e, bAdd_i, bSub_i, bCmp_i, bEq_i, bNe_i, bEq_s, bNe_s, bEq_b, iAdd_i, bIs_n, bIsNot_n, bIs_b, bIsNot_b, isNon_n, isNon_b, isNon_i, isNon_t, isNon_l, truth_b, truth_n, truth_i, truth_t, locO_l, lstOf_l, lstOf_o, rdOf_r, rdOf_l, rdOf_o, rdOf_t, seqOf_t, seqOf_r, seqOf_l, seqOf_o, lO_s, tO_s, iV_t, iV_l, iV_r, iV_o, iVo_s, enI_t, enI_l, lcB_s, lS_l, pO_s, kS_s, kSub_e, retD_non, retD_bl, retD_int, retD_str, retD_tup, retD_lst, retD_rol, retD_dct, retD_obj, retD_loc, retO_l, retO_d, tgD_non, tgD_bl, tgD_int, tgD_str, tgD_tup, tgD_lst, tgD_rol, tgD_dct, bIx_t, bIx_l, bIx_r, fCut_t, fCut_l, fTuple_t, fInt_i, Bool.and_true, Bool.true_and, Bool.and_false, Bool.false_and, Bool.or_true, Bool.true_or, Bool.or_false, Bool.false_or, Bool.not_true, Bool.not_false, Bool.and_self, Bool.false_eq_true, if_true, if_false, decide_true, decide_false, reduceIte, List.set_cons_zero, List.set_cons_succ, List.length_cons, List.length_nil, List.map_cons, List.map_nil, List.nil_append, List.cons_append, it, hlen, c1, gt_e, c2, a0, aL, ne0, hn1, e1, hr, e2]
end K04

set_option maxRecDepth 2000
namespace K04
open PySem HC PL PM
theorem downB_stair : ∀ {s : List Nat}, downB s = true → Stair s
  | [], _ => stair_nil
  | [x], h => ⟨by simp, by simpa [downB] using h⟩
  | x :: y :: r, h => by
    unfold downB at h
    rw [Bool.and_eq_true, decide_eq_true_eq] at h
    have ih := downB_stair h.2
    have hp := List.pairwise_cons.mp ih.dn
    refine ⟨List.pairwise_cons.mpr ⟨fun z hz => ?_, ih.dn⟩, fun z hz => ?_⟩
    · rcases List.mem_cons.mp hz with e | hz
      · rw [e]; exact h.1
      · have := hp.1 z hz; have := h.1; omega
    · rcases List.mem_cons.mp hz with e | hz
      · have := ih.pos y (List.mem_cons_self ..); have := h.1; omega
      · exact ih.pos z hz
structure Chk (n : Nat) (s t : List Nat) : Prop where
  mem : decide (t ∈ (ledF (pts n).length ([s], [s])).1) = (breachN s t).isNone
  lst : breachN s t = ((List.range (n + 1)).filter fun m => decide (psum s m < psum t m)).head?
  cnj : (breachN (conj t) (conj s)).isNone = (breachN s t).isNone
  sm : (conj t).sum = n
  hgt : height s (max s.length t.length) ≤ height t (max s.length t.length) + 29
structure Stn (n : Nat) (s : List Nat) : Prop where
  st : Stair s
  sm : s.sum = n
  ln : s.length ≤ 8
theorem chk_of {n : Nat} (hn : n ≤ 8) : (0 < (pts n).length ∧ (pts n).length ≤ 22) ∧ ∀ s ∈ pts n, Stn n s ∧ Fin (ledF (pts n).length ([s], [s])) ∧ ∀ t ∈ pts n, Chk n s t := by
  have h := List.all_eq_true.mp chk_all n (List.mem_range.mpr (by omega))
  rw [Bool.and_eq_true, decide_eq_true_eq] at h
  have st : ∀ s ∈ pts n, Stn n s := fun s hs => by
    have h2 := List.all_eq_true.mp h.2 s hs
    unfold chk at h2
    simp only [Bool.and_eq_true, decide_eq_true_eq] at h2
    exact ⟨downB_stair h2.1.1.1, h2.1.1.2, h2.1.2⟩
  refine ⟨h.1, fun s hs => ⟨st s hs, ?_⟩⟩
  have h2 := List.all_eq_true.mp h.2 s hs
  unfold chk chkM at h2
  simp only [Bool.and_eq_true, decide_eq_true_eq] at h2
  obtain ⟨_, ⟨h3, h4⟩, h5⟩ := h2
  refine ⟨⟨by omega, fun x hx => ?_⟩, fun t ht => ?_⟩
  · have hx := of_decide_eq_true (List.all_eq_true.mp h3 x hx)
    have := st x hx
    exact ⟨by have := this.ln; omega, fun i hi => (getD_pos this.st i).mpr hi⟩
  · have h6 := List.all_eq_true.mp h5 t ht
    simp only [Bool.and_eq_true, decide_eq_true_eq, beq_iff_eq] at h6
    obtain ⟨⟨⟨⟨a1, a2⟩, a3⟩, a4⟩, a5⟩ := h6
    exact ⟨a1, a2, a3, a4, a5⟩
theorem turned_law {s : List Nat} (hs : Stair s) (h8 : s.headD 0 ≤ 1000) : m__law_turned [tupD s] = .ok (tupD (conj s)) false := by
  have inner : ∀ (j : Nat) (w : Option D), E__law_turned_1 [some (tupD s), some (.int (j : Int)), w] [] = .ok (.int (cnt s j : Nat)) false := fun j w => by
    have hc := comp_some (A := tgName 2) (t := T__law_turned_1) (f := cVar 2) (σ := [some (tupD s), some (.int (j : Int)), none]) (S := []) (fun n : Nat => D.int (n : Int)) (fun x => decide (j < x)) (fun n : Nat => D.int (n : Int)) s fun y _ => by
      refine ⟨_, false, rfl, ?_, fun _ => ⟨false, rfl, rfl⟩⟩
      by_cases c : j < y
      · have c' : (j : Int) < (y : Int) := by omega
        simp only [rB_ok, rB_ex, aB_ok, aB_ex, lB_ok, lB_ex, llB_ok, llB_ex, liB_ok, lsB_ok, lsB_ex, vB_ok, vB_ex, sB_nx, sB_rt, sB_bk, sB_ct, sB_ex, tB_ok, tB_ex, iS_ok, iS_ex, fB_st, fB_dy, oS_nx, oS_ct, oS_bk, oS_rt, oS_ex, gB_s, fin_rt, fin_nx, fin_ex, vO_s, vOS_s, trO_s, oD_s, oL_s, newK_l, newK_d, gets_z, gets_s, cVar_e, cD_e, cTrue_e, cBin_e, cTru_e, cNot_e, cAnd_e, cOr_e, cIf_e, cAndB_e, cOrB_e, cNotB_e, cNil_e, cCons_e, cApp_e, iApp_e, sSkip_e, sBreak_e, sCont_e, sRetN_e, sSeq_e, sAsg_e, sNew_e, sExpr_e, sRet_e, sIf_e, sAsgT_e, sFor_e, sWhile_e, setD_e, tgName_e, tgTup_e, tB2_s, tgCons_e, tgNil_e, callD_e, callKw_e, pick_e, pureL_n, pureL_c, pure_non, pure_bl, pure_int, pure_str, pure_tup, pure_lst, pure_rol, pure_dct, pure_obj, sMethE_e, sMethA_e, sSub_e, sAug_e, augK_s, iVal_e, cComp_e, cB_st, cB_dy, coB_s, wipeD_n, wipeD_c, cTwo_e, cCutA_e, cCutH_e, cCutL_e, cCutLH_e, kInt_i, sTry_e, tryB_nx, tryB_ex, tryB_rt, sRaise_e, raiseK_e, runH_c, runH_n, hdK_t, hdK_f, noE_bl, noE_int, noE_lst, noE_non, noE_str, noE_tup, noEs_c, noEs_n, sPar2_e, sPar3_e, par2K_e, par3K_e, sFrz_e, cErr_e, cChain_e, bAdd_i, bSub_i, bCmp_i, bEq_i, bNe_i, bEq_s, bNe_s, bEq_b, iAdd_i, bIs_n, bIsNot_n, bIs_b, bIsNot_b, isNon_n, isNon_b, isNon_i, isNon_t, isNon_l, truth_b, truth_n, truth_i, truth_t, locO_l, lstOf_l, lstOf_o, rdOf_r, rdOf_l, rdOf_o, rdOf_t, seqOf_t, seqOf_r, seqOf_l, seqOf_o, lO_s, tO_s, iV_t, iV_l, iV_r, iV_o, iVo_s, enI_t, enI_l, lcB_s, lS_l, pO_s, kS_s, kSub_e, retD_non, retD_bl, retD_int, retD_str, retD_tup, retD_lst, retD_rol, retD_dct, retD_obj, retD_loc, retO_l, retO_d, tgD_non, tgD_bl, tgD_int, tgD_str, tgD_tup, tgD_lst, tgD_rol, tgD_dct, bIx_t, bIx_l, bIx_r, fCut_t, fCut_l, fTuple_t, fInt_i, Bool.and_true, Bool.true_and, Bool.and_false, Bool.false_and, Bool.or_true, Bool.true_or, Bool.or_false, Bool.false_or, Bool.not_true, Bool.not_false, Bool.and_self, Bool.false_eq_true, if_true, if_false, decide_true, decide_false, reduceIte, List.set_cons_zero, List.set_cons_succ, List.length_cons, List.length_nil, List.map_cons, List.map_nil, List.nil_append, List.cons_append, T__law_turned_1_e, gt_e, c, c']
      · have c' : ¬ (j : Int) < (y : Int) := by omega
        simp only [rB_ok, rB_ex, aB_ok, aB_ex, lB_ok, lB_ex, llB_ok, llB_ex, liB_ok, lsB_ok, lsB_ex, vB_ok, vB_ex, sB_nx, sB_rt, sB_bk, sB_ct, sB_ex, tB_ok, tB_ex, iS_ok, iS_ex, fB_st, fB_dy, oS_nx, oS_ct, oS_bk, oS_rt, oS_ex, gB_s, fin_rt, fin_nx, fin_ex, vO_s, vOS_s, trO_s, oD_s, oL_s, newK_l, newK_d, gets_z, gets_s, cVar_e, cD_e, cTrue_e, cBin_e, cTru_e, cNot_e, cAnd_e, cOr_e, cIf_e, cAndB_e, cOrB_e, cNotB_e, cNil_e, cCons_e, cApp_e, iApp_e, sSkip_e, sBreak_e, sCont_e, sRetN_e, sSeq_e, sAsg_e, sNew_e, sExpr_e, sRet_e, sIf_e, sAsgT_e, sFor_e, sWhile_e, setD_e, tgName_e, tgTup_e, tB2_s, tgCons_e, tgNil_e, callD_e, callKw_e, pick_e, pureL_n, pureL_c, pure_non, pure_bl, pure_int, pure_str, pure_tup, pure_lst, pure_rol, pure_dct, pure_obj, sMethE_e, sMethA_e, sSub_e, sAug_e, augK_s, iVal_e, cComp_e, cB_st, cB_dy, coB_s, wipeD_n, wipeD_c, cTwo_e, cCutA_e, cCutH_e, cCutL_e, cCutLH_e, kInt_i, sTry_e, tryB_nx, tryB_ex, tryB_rt, sRaise_e, raiseK_e, runH_c, runH_n, hdK_t, hdK_f, noE_bl, noE_int, noE_lst, noE_non, noE_str, noE_tup, noEs_c, noEs_n, sPar2_e, sPar3_e, par2K_e, par3K_e, sFrz_e, cErr_e, cChain_e, bAdd_i, bSub_i, bCmp_i, bEq_i, bNe_i, bEq_s, bNe_s, bEq_b, iAdd_i, bIs_n, bIsNot_n, bIs_b, bIsNot_b, isNon_n, isNon_b, isNon_i, isNon_t, isNon_l, truth_b, truth_n, truth_i, truth_t, locO_l, lstOf_l, lstOf_o, rdOf_r, rdOf_l, rdOf_o, rdOf_t, seqOf_t, seqOf_r, seqOf_l, seqOf_o, lO_s, tO_s, iV_t, iV_l, iV_r, iV_o, iVo_s, enI_t, enI_l, lcB_s, lS_l, pO_s, kS_s, kSub_e, retD_non, retD_bl, retD_int, retD_str, retD_tup, retD_lst, retD_rol, retD_dct, retD_obj, retD_loc, retO_l, retO_d, tgD_non, tgD_bl, tgD_int, tgD_str, tgD_tup, tgD_lst, tgD_rol, tgD_dct, bIx_t, bIx_l, bIx_r, fCut_t, fCut_l, fTuple_t, fInt_i, Bool.and_true, Bool.true_and, Bool.and_false, Bool.false_and, Bool.or_true, Bool.true_or, Bool.or_false, Bool.false_or, Bool.not_true, Bool.not_false, Bool.and_self, Bool.false_eq_true, if_true, if_false, decide_true, decide_false, reduceIte, List.set_cons_zero, List.set_cons_succ, List.length_cons, List.length_nil, List.map_cons, List.map_nil, List.nil_append, List.cons_append, T__law_turned_1_e, gt_e, c, c']
    have hc' : compL (tgName 2) T__law_turned_1 (cVar 2) [some (tupD s), some (.int (j : Int)), none] [] (nts s) = some (nts (s.filter fun x => decide (j < x))) := hc
    have iv : iVal (cVar 0) [some (tupD s), some (.int (j : Int)), w] [] = .st (nts s) := rfl
    simp only [E__law_turned_1_e, iv, rB_ok, rB_ex, aB_ok, aB_ex, lB_ok, lB_ex, llB_ok, llB_ex, liB_ok, lsB_ok, lsB_ex, vB_ok, vB_ex, sB_nx, sB_rt, sB_bk, sB_ct, sB_ex, tB_ok, tB_ex, iS_ok, iS_ex, fB_st, fB_dy, oS_nx, oS_ct, oS_bk, oS_rt, oS_ex, gB_s, fin_rt, fin_nx, fin_ex, vO_s, vOS_s, trO_s, oD_s, oL_s, newK_l, newK_d, gets_z, gets_s, cVar_e, cD_e, cTrue_e, cBin_e, cTru_e, cNot_e, cAnd_e, cOr_e, cIf_e, cAndB_e, cOrB_e, cNotB_e, cNil_e, cCons_e, cApp_e, iApp_e, sSkip_e, sBreak_e, sCont_e, sRetN_e, sSeq_e, sAsg_e, sNew_e, sExpr_e, sRet_e, sIf_e, sAsgT_e, sFor_e, sWhile_e, setD_e, tgName_e, tgTup_e, tB2_s, tgCons_e, tgNil_e, callD_e, callKw_e, pick_e, pureL_n, pureL_c, pure_non, pure_bl, pure_int, pure_str, pure_tup, pure_lst, pure_rol, pure_dct, pure_obj, sMethE_e, sMethA_e, sSub_e, sAug_e, augK_s, iVal_e, cComp_e, cB_st, cB_dy, coB_s, wipeD_n, wipeD_c, cTwo_e, cCutA_e, cCutH_e, cCutL_e, cCutLH_e, kInt_i, sTry_e, tryB_nx, tryB_ex, tryB_rt, sRaise_e, raiseK_e, runH_c, runH_n, hdK_t, hdK_f, noE_bl, noE_int, noE_lst, noE_non, noE_str, noE_tup, noEs_c, noEs_n, sPar2_e, sPar3_e, par2K_e, par3K_e, sFrz_e, cErr_e, cChain_e, bAdd_i, bSub_i, bCmp_i, bEq_i, bNe_i, bEq_s, bNe_s, bEq_b, iAdd_i, bIs_n, bIsNot_n, bIs_b, bIsNot_b, isNon_n, isNon_b, isNon_i, isNon_t, isNon_l, truth_b, truth_n, truth_i, truth_t, locO_l, lstOf_l, lstOf_o, rdOf_r, rdOf_l, rdOf_o, rdOf_t, seqOf_t, seqOf_r, seqOf_l, seqOf_o, lO_s, tO_s, iV_t, iV_l, iV_r, iV_o, iVo_s, enI_t, enI_l, lcB_s, lS_l, pO_s, kS_s, kSub_e, retD_non, retD_bl, retD_int, retD_str, retD_tup, retD_lst, retD_rol, retD_dct, retD_obj, retD_loc, retO_l, retO_d, tgD_non, tgD_bl, tgD_int, tgD_str, tgD_tup, tgD_lst, tgD_rol, tgD_dct, bIx_t, bIx_l, bIx_r, fCut_t, fCut_l, fTuple_t, fInt_i, Bool.and_true, Bool.true_and, Bool.and_false, Bool.false_and, Bool.or_true, Bool.true_or, Bool.or_false, Bool.false_or, Bool.not_true, Bool.not_false, Bool.and_self, Bool.false_eq_true, if_true, if_false, decide_true, decide_false, reduceIte, List.set_cons_zero, List.set_cons_succ, List.length_cons, List.length_nil, List.map_cons, List.map_nil, List.nil_append, List.cons_append, hc']
    rw [fLen_s (xs := nts (s.filter fun x => decide (j < x))) rfl, nts_len]
    unfold cnt
    rw [List.countP_eq_length_filter]
  have hc := comp_all (A := tgName 1) (t := cTrue) (f := E__law_turned_1) (σ := [some (tupD s), none, none]) (S := []) (fun n : Nat => D.int (n : Int)) (fun j => .int (cnt s j : Nat)) (List.range (s.headD 0)) fun y _ => ⟨_, _, false, rfl, rfl, inner y none, rfl⟩
  have hsum : fSum [] [.tup (nts (s.take 1))] = .ok (.int ((s.headD 0 : Nat) : Int)) false := by
    rw [sum_nts (s := s.take 1) rfl]
    cases s <;> simp
  have hcut : cutD (nts s) none (some 1) = nts (s.take 1) := by
    rw [show (1 : Int) = ((1 : Nat) : Int) from rfl, cut_h, nts_take]
  have hr : ∀ S, rg1 S [.int ((s.headD 0 : Nat) : Int)] = .st ((List.range (s.headD 0)).map fun i : Nat => D.int (i : Int)) := fun S => by
    rw [rg1_nat (by omega), range_0]
  have hcj : (List.range (s.headD 0)).map (fun j => D.int (cnt s j : Nat)) = nts (conj s) := by
    unfold conj nts; rw [List.map_map]; rfl
  rw [hcj] at hc
  have cu : cCutH (cVar 0) (cD (.int 1)) [some (tupD s), none, none] [] = .ok (.tup (nts (s.take 1))) false := by
    simp only [rB_ok, rB_ex, aB_ok, aB_ex, lB_ok, lB_ex, llB_ok, llB_ex, liB_ok, lsB_ok, lsB_ex, vB_ok, vB_ex, sB_nx, sB_rt, sB_bk, sB_ct, sB_ex, tB_ok, tB_ex, iS_ok, iS_ex, fB_st, fB_dy, oS_nx, oS_ct, oS_bk, oS_rt, oS_ex, gB_s, fin_rt, fin_nx, fin_ex, vO_s, vOS_s, trO_s, oD_s, oL_s, newK_l, newK_d, gets_z, gets_s, cVar_e, cD_e, cTrue_e, cBin_e, cTru_e, cNot_e, cAnd_e, cOr_e, cIf_e, cAndB_e, cOrB_e, cNotB_e, cNil_e, cCons_e, cApp_e, iApp_e, sSkip_e, sBreak_e, sCont_e, sRetN_e, sSeq_e, sAsg_e, sNew_e, sExpr_e, sRet_e, sIf_e, sAsgT_e, sFor_e, sWhile_e, setD_e, tgName_e, tgTup_e, tB2_s, tgCons_e, tgNil_e, callD_e, callKw_e, pick_e, pureL_n, pureL_c, pure_non, pure_bl, pure_int, pure_str, pure_tup, pure_lst, pure_rol, pure_dct, pure_obj, sMethE_e, sMethA_e, sSub_e, sAug_e, augK_s, iVal_e, cComp_e, cB_st, cB_dy, coB_s, wipeD_n, wipeD_c, cTwo_e, cCutA_e, cCutH_e, cCutL_e, cCutLH_e, kInt_i, sTry_e, tryB_nx, tryB_ex, tryB_rt, sRaise_e, raiseK_e, runH_c, runH_n, hdK_t, hdK_f, noE_bl, noE_int, noE_lst, noE_non, noE_str, noE_tup, noEs_c, noEs_n, sPar2_e, sPar3_e, par2K_e, par3K_e, sFrz_e, cErr_e, cChain_e, bAdd_i, bSub_i, bCmp_i, bEq_i, bNe_i, bEq_s, bNe_s, bEq_b, iAdd_i, bIs_n, bIsNot_n, bIs_b, bIsNot_b, isNon_n, isNon_b, isNon_i, isNon_t, isNon_l, truth_b, truth_n, truth_i, truth_t, locO_l, lstOf_l, lstOf_o, rdOf_r, rdOf_l, rdOf_o, rdOf_t, seqOf_t, seqOf_r, seqOf_l, seqOf_o, lO_s, tO_s, iV_t, iV_l, iV_r, iV_o, iVo_s, enI_t, enI_l, lcB_s, lS_l, pO_s, kS_s, kSub_e, retD_non, retD_bl, retD_int, retD_str, retD_tup, retD_lst, retD_rol, retD_dct, retD_obj, retD_loc, retO_l, retO_d, tgD_non, tgD_bl, tgD_int, tgD_str, tgD_tup, tgD_lst, tgD_rol, tgD_dct, bIx_t, bIx_l, bIx_r, fCut_t, fCut_l, fTuple_t, fInt_i, Bool.and_true, Bool.true_and, Bool.and_false, Bool.false_and, Bool.or_true, Bool.true_or, Bool.or_false, Bool.false_or, Bool.not_true, Bool.not_false, Bool.and_self, Bool.false_eq_true, if_true, if_false, decide_true, decide_false, reduceIte, List.set_cons_zero, List.set_cons_succ, List.length_cons, List.length_nil, List.map_cons, List.map_nil, List.nil_append, List.cons_append]
    show fCut [] (.tup (nts s)) none (some 1) = _
    rw [fCut_t, hcut]
  rw [r__law_turned]
  simp only [b__law_turned_e, cu, rB_ok, rB_ex, aB_ok, aB_ex, lB_ok, lB_ex, llB_ok, llB_ex, liB_ok, lsB_ok, lsB_ex, vB_ok, vB_ex, sB_nx, sB_rt, sB_bk, sB_ct, sB_ex, tB_ok, tB_ex, iS_ok, iS_ex, fB_st, fB_dy, oS_nx, oS_ct, oS_bk, oS_rt, oS_ex, gB_s, fin_rt, fin_nx, fin_ex, vO_s, vOS_s, trO_s, oD_s, oL_s, newK_l, newK_d, gets_z, gets_s, cVar_e, cD_e, cTrue_e, cBin_e, cTru_e, cNot_e, cAnd_e, cOr_e, cIf_e, cAndB_e, cOrB_e, cNotB_e, cNil_e, cCons_e, cApp_e, iApp_e, sSkip_e, sBreak_e, sCont_e, sRetN_e, sSeq_e, sAsg_e, sNew_e, sExpr_e, sRet_e, sIf_e, sAsgT_e, sFor_e, sWhile_e, setD_e, tgName_e, tgTup_e, tB2_s, tgCons_e, tgNil_e, callD_e, callKw_e, pick_e, pureL_n, pureL_c, pure_non, pure_bl, pure_int, pure_str, pure_tup, pure_lst, pure_rol, pure_dct, pure_obj, sMethE_e, sMethA_e, sSub_e, sAug_e, augK_s, iVal_e, cComp_e, cB_st, cB_dy, coB_s, wipeD_n, wipeD_c, cTwo_e, cCutA_e, cCutH_e, cCutL_e, cCutLH_e, kInt_i, sTry_e, tryB_nx, tryB_ex, tryB_rt, sRaise_e, raiseK_e, runH_c, runH_n, hdK_t, hdK_f, noE_bl, noE_int, noE_lst, noE_non, noE_str, noE_tup, noEs_c, noEs_n, sPar2_e, sPar3_e, par2K_e, par3K_e, sFrz_e, cErr_e, cChain_e, bAdd_i, bSub_i, bCmp_i, bEq_i, bNe_i, bEq_s, bNe_s, bEq_b, iAdd_i, bIs_n, bIsNot_n, bIs_b, bIsNot_b, isNon_n, isNon_b, isNon_i, isNon_t, isNon_l, truth_b, truth_n, truth_i, truth_t, locO_l, lstOf_l, lstOf_o, rdOf_r, rdOf_l, rdOf_o, rdOf_t, seqOf_t, seqOf_r, seqOf_l, seqOf_o, lO_s, tO_s, iV_t, iV_l, iV_r, iV_o, iVo_s, enI_t, enI_l, lcB_s, lS_l, pO_s, kS_s, kSub_e, retD_non, retD_bl, retD_int, retD_str, retD_tup, retD_lst, retD_rol, retD_dct, retD_obj, retD_loc, retO_l, retO_d, tgD_non, tgD_bl, tgD_int, tgD_str, tgD_tup, tgD_lst, tgD_rol, tgD_dct, bIx_t, bIx_l, bIx_r, fCut_t, fCut_l, fTuple_t, fInt_i, Bool.and_true, Bool.true_and, Bool.and_false, Bool.false_and, Bool.or_true, Bool.true_or, Bool.or_false, Bool.false_or, Bool.not_true, Bool.not_false, Bool.and_self, Bool.false_eq_true, if_true, if_false, decide_true, decide_false, reduceIte, List.set_cons_zero, List.set_cons_succ, List.length_cons, List.length_nil, List.map_cons, List.map_nil, List.nil_append, List.cons_append, hsum, hr, hc, fTuple_l, nts_pure]
  rfl
end K04

set_option maxRecDepth 2000
namespace K04
open PySem HC PL PM
theorem ne_b {S : List SO} {a b : Bool} : bNe S (.bl a) (.bl b) = .ok (.bl (a != b)) false := by cases a <;> cases b <;> rfl
theorem row_turn {n : Nat} (hn : n ≤ 8) {s t : List Nat} (hs : Stn n s) (ht : Stn n t) (ck : Chk n s t) (hcs : (conj s).sum = n) (M : List (List Nat)) (hM : M = (ledF (pts n).length ([s], [s])).1) (h0 : M ≠ []) (A B C : Option D) (w7 w8 w9 w10 : Option D) :
    ∃ v7 v8 v9 v10, L_law_1 [A, some (.int (n : Int)), B, some (tupD s), some (.dct (M.map tupD) (M.map fun _ => .bl true)), C, some (tupD t), w7, w8, w9, w10, none] [] = .nx [A, some (.int (n : Int)), B, some (tupD s), some (.dct (M.map tupD) (M.map fun _ => .bl true)), C, some (tupD t), v7, v8, v9, v10, none] [] := by
  have l1 := hs.ln
  have l2 := ht.ln
  have hin := in_e h0 t []
  have m := ck.mem
  rw [← hM] at m
  rw [m] at hin
  have hcut : ∀ (y : List Nat) (k : Nat), cutD (nts y) none (some (k : Int)) = nts (y.take k) := fun y k => by rw [cut_h, nts_take]
  have hsum : ∀ (y : List Nat) (k : Nat), fSum [] [.tup (nts (y.take k))] = .ok (.int (psum y k : Nat)) false := fun y k => sum_nts rfl
  have hc := comp_some (A := tgName 11) (t := T_law_1) (f := cVar 11) (σ := [A, some (.int (n : Int)), B, some (tupD s), some (.dct (M.map tupD) (M.map fun _ => .bl true)), C, some (tupD t), some (.bl (breachN s t).isNone), w8, w9, w10, none]) (S := []) (fun n : Nat => D.int (n : Int)) (fun m => decide (psum s m < psum t m)) (fun n : Nat => D.int (n : Int)) (List.range (n + 1)) fun y _ => by
    refine ⟨_, false, rfl, ?_, fun _ => ⟨false, rfl, rfl⟩⟩
    have f1 : ∀ z : List Nat, fCut [] (tupD z) none (some (y : Int)) = .ok (.tup (nts (z.take y))) false := fun z => by
      show fCut [] (.tup (nts z)) none (some (y : Int)) = _
      rw [fCut_t, hcut]
    by_cases c : psum s y < psum t y
    · have c' : ((psum s y : Nat) : Int) < (psum t y : Nat) := by omega
      simp only [rB_ok, rB_ex, aB_ok, aB_ex, lB_ok, lB_ex, llB_ok, llB_ex, liB_ok, lsB_ok, lsB_ex, vB_ok, vB_ex, sB_nx, sB_rt, sB_bk, sB_ct, sB_ex, tB_ok, tB_ex, iS_ok, iS_ex, fB_st, fB_dy, oS_nx, oS_ct, oS_bk, oS_rt, oS_ex, gB_s, fin_rt, fin_nx, fin_ex, vO_s, vOS_s, trO_s, oD_s, oL_s, newK_l, newK_d, gets_z, gets_s, cVar_e, cD_e, cTrue_e, cBin_e, cTru_e, cNot_e, cAnd_e, cOr_e, cIf_e, cAndB_e, cOrB_e, cNotB_e, cNil_e, cCons_e, cApp_e, iApp_e, sSkip_e, sBreak_e, sCont_e, sRetN_e, sSeq_e, sAsg_e, sNew_e, sExpr_e, sRet_e, sIf_e, sAsgT_e, sFor_e, sWhile_e, setD_e, tgName_e, tgTup_e, tB2_s, tgCons_e, tgNil_e, callD_e, callKw_e, pick_e, pureL_n, pureL_c, pure_non, pure_bl, pure_int, pure_str, pure_tup, pure_lst, pure_rol, pure_dct, pure_obj, sMethE_e, sMethA_e, sSub_e, sAug_e, augK_s, iVal_e, cComp_e, cB_st, cB_dy, coB_s, wipeD_n, wipeD_c, cTwo_e, cCutA_e, cCutH_e, cCutL_e, cCutLH_e, kInt_i, sTry_e, tryB_nx, tryB_ex, tryB_rt, sRaise_e, raiseK_e, runH_c, runH_n, hdK_t, hdK_f, noE_bl, noE_int, noE_lst, noE_non, noE_str, noE_tup, noEs_c, noEs_n, sPar2_e, sPar3_e, par2K_e, par3K_e, sFrz_e, cErr_e, cChain_e, bAdd_i, bSub_i, bCmp_i, bEq_i, bNe_i, bEq_s, bNe_s, bEq_b, iAdd_i, bIs_n, bIsNot_n, bIs_b, bIsNot_b, isNon_n, isNon_b, isNon_i, isNon_t, isNon_l, truth_b, truth_n, truth_i, truth_t, locO_l, lstOf_l, lstOf_o, rdOf_r, rdOf_l, rdOf_o, rdOf_t, seqOf_t, seqOf_r, seqOf_l, seqOf_o, lO_s, tO_s, iV_t, iV_l, iV_r, iV_o, iVo_s, enI_t, enI_l, lcB_s, lS_l, pO_s, kS_s, kSub_e, retD_non, retD_bl, retD_int, retD_str, retD_tup, retD_lst, retD_rol, retD_dct, retD_obj, retD_loc, retO_l, retO_d, tgD_non, tgD_bl, tgD_int, tgD_str, tgD_tup, tgD_lst, tgD_rol, tgD_dct, bIx_t, bIx_l, bIx_r, fCut_t, fCut_l, fTuple_t, fInt_i, Bool.and_true, Bool.true_and, Bool.and_false, Bool.false_and, Bool.or_true, Bool.true_or, Bool.or_false, Bool.false_or, Bool.not_true, Bool.not_false, Bool.and_self, Bool.false_eq_true, if_true, if_false, decide_true, decide_false, reduceIte, List.set_cons_zero, List.set_cons_succ, List.length_cons, List.length_nil, List.map_cons, List.map_nil, List.nil_append, List.cons_append, T_law_1_e, f1, hsum, lt_e, c, c']
    · have c' : ¬ ((psum s y : Nat) : Int) < (psum t y : Nat) := by omega
      simp only [rB_ok, rB_ex, aB_ok, aB_ex, lB_ok, lB_ex, llB_ok, llB_ex, liB_ok, lsB_ok, lsB_ex, vB_ok, vB_ex, sB_nx, sB_rt, sB_bk, sB_ct, sB_ex, tB_ok, tB_ex, iS_ok, iS_ex, fB_st, fB_dy, oS_nx, oS_ct, oS_bk, oS_rt, oS_ex, gB_s, fin_rt, fin_nx, fin_ex, vO_s, vOS_s, trO_s, oD_s, oL_s, newK_l, newK_d, gets_z, gets_s, cVar_e, cD_e, cTrue_e, cBin_e, cTru_e, cNot_e, cAnd_e, cOr_e, cIf_e, cAndB_e, cOrB_e, cNotB_e, cNil_e, cCons_e, cApp_e, iApp_e, sSkip_e, sBreak_e, sCont_e, sRetN_e, sSeq_e, sAsg_e, sNew_e, sExpr_e, sRet_e, sIf_e, sAsgT_e, sFor_e, sWhile_e, setD_e, tgName_e, tgTup_e, tB2_s, tgCons_e, tgNil_e, callD_e, callKw_e, pick_e, pureL_n, pureL_c, pure_non, pure_bl, pure_int, pure_str, pure_tup, pure_lst, pure_rol, pure_dct, pure_obj, sMethE_e, sMethA_e, sSub_e, sAug_e, augK_s, iVal_e, cComp_e, cB_st, cB_dy, coB_s, wipeD_n, wipeD_c, cTwo_e, cCutA_e, cCutH_e, cCutL_e, cCutLH_e, kInt_i, sTry_e, tryB_nx, tryB_ex, tryB_rt, sRaise_e, raiseK_e, runH_c, runH_n, hdK_t, hdK_f, noE_bl, noE_int, noE_lst, noE_non, noE_str, noE_tup, noEs_c, noEs_n, sPar2_e, sPar3_e, par2K_e, par3K_e, sFrz_e, cErr_e, cChain_e, bAdd_i, bSub_i, bCmp_i, bEq_i, bNe_i, bEq_s, bNe_s, bEq_b, iAdd_i, bIs_n, bIsNot_n, bIs_b, bIsNot_b, isNon_n, isNon_b, isNon_i, isNon_t, isNon_l, truth_b, truth_n, truth_i, truth_t, locO_l, lstOf_l, lstOf_o, rdOf_r, rdOf_l, rdOf_o, rdOf_t, seqOf_t, seqOf_r, seqOf_l, seqOf_o, lO_s, tO_s, iV_t, iV_l, iV_r, iV_o, iVo_s, enI_t, enI_l, lcB_s, lS_l, pO_s, kS_s, kSub_e, retD_non, retD_bl, retD_int, retD_str, retD_tup, retD_lst, retD_rol, retD_dct, retD_obj, retD_loc, retO_l, retO_d, tgD_non, tgD_bl, tgD_int, tgD_str, tgD_tup, tgD_lst, tgD_rol, tgD_dct, bIx_t, bIx_l, bIx_r, fCut_t, fCut_l, fTuple_t, fInt_i, Bool.and_true, Bool.true_and, Bool.and_false, Bool.false_and, Bool.or_true, Bool.true_or, Bool.or_false, Bool.false_or, Bool.not_true, Bool.not_false, Bool.and_self, Bool.false_eq_true, if_true, if_false, decide_true, decide_false, reduceIte, List.set_cons_zero, List.set_cons_succ, List.length_cons, List.length_nil, List.map_cons, List.map_nil, List.nil_append, List.cons_append, T_law_1_e, f1, hsum, lt_e, c, c']
  have hr : ∀ S, rg1 S [.int ((n : Int) + 1)] = .st ((List.range (n + 1)).map fun i : Nat => D.int (i : Int)) := fun S => by
    rw [show (n : Int) + 1 = ((n + 1 : Nat) : Int) by omega, rg1_nat (by omega), range_0]
  have hsm : s.sum = t.sum := by rw [hs.sm, ht.sm]
  have hab := is_above_is hs.st ht.st hsm (by omega) (by omega)
  have hbr := breach_is hs.st ht.st hsm (by omega) (by omega)
  have hd : ∀ {y : List Nat}, Stn n y → y.headD 0 ≤ 8 := fun {y} hy => by
    have := psum_sum y 1
    have e := hy.sm
    cases y with
    | nil => simp
    | cons a r => simp [psum] at this; simp at e ⊢; omega
  have t1 := turned_law hs.st (by have := hd hs; omega)
  have t2 := turned_law ht.st (by have := hd ht; omega)
  have cs := conj_stair hs.st
  have ct := conj_stair ht.st
  have csm : (conj t).sum = (conj s).sum := by rw [ck.sm, hcs]
  have hab2 := is_above_is ct cs csm (by rw [conj_len]; have := hd ht; omega) (by rw [conj_len]; have := hd hs; omega)
  rw [ck.cnj] at hab2
  have lL := ck.lst
  generalize hF : (List.range (n + 1)).filter (fun m => decide (psum s m < psum t m)) = F at hc lL
  have hlen : ∀ S, fLen S [.lst (F.map fun n : Nat => D.int (n : Int))] = .ok (.int (F.length : Int)) false := fun S => by rw [fLen_s rfl]; simp
  have ib : ∀ S b, fIsi [.bool] S [.bl b] = .ok (.bl true) false := fun S b => rfl
  have ph : ∀ y, (tupD y).pure = true := fun _ => rfl
  have hab : m_is_above [tupD s, tupD t] = .ok (.bl (breachN s t).isNone) false := hab
  have hbr : m_breach [tupD s, tupD t] = .ok (brD (breachN s t)) false := hbr
  have hab2 : m_is_above [tupD (conj t), tupD (conj s)] = .ok (.bl (breachN s t).isNone) false := hab2
  have bself : ∀ b : Bool, (b != b) = false := fun b => by cases b <;> rfl
  have gd : ∀ (x y : D), [x, y].getD 0 D.non = x ∧ [x, y].getD 1 D.non = y := fun x y => ⟨rfl, rfl⟩
  cases hb : breachN s t with
  | none =>
    rw [hb] at lL hin hc hab hbr hab2
    have hF0 : F = [] := by cases F with
      | nil => rfl
      | cons a r => simp at lL
    subst hF0
    obtain ⟨more, q1, q2, q3⟩ := steps_yes hs.st ht.st hsm (by omega) (by omega) (by rw [hs.sm]; omega) ((breachN_none s t hsm).mp hb)
    have hlm := chain_len more s t hs.st (Nat.le_max_left ..) q2
    have hch := is_chain_is (by omega) q2 hs.st (Nat.le_max_left ..) (by have := ck.hgt; omega)
    have q1 : m_steps_down [tupD s, tupD t] = .ok (.tup (tupD s :: more.map tupD)) false := q1
    refine ⟨some (.bl true), some (.lst []), some .non, some (.tup (tupD s :: more.map tupD)), ?_⟩
    have i0 : isNon (.tup (tupD s :: more.map tupD)) = false := rfl
    have l0 : ∀ S, fLen S [.lst []] = .ok (.int 0) false := fun S => rfl
    have hab : m_is_above [tupD s, tupD t] = .ok (.bl true) false := hab
    have hbr : m_breach [tupD s, tupD t] = .ok .non false := hbr
    have hab2 : m_is_above [tupD (conj t), tupD (conj s)] = .ok (.bl true) false := hab2
    have hin : bDin [] (tupD t) (.dct (M.map tupD) (M.map fun _ => .bl true)) = .ok (.bl true) false := hin
    have hc : compL (tgName 11) T_law_1 (cVar 11) [A, some (.int (n : Int)), B, some (tupD s), some (.dct (M.map tupD) (M.map fun _ => .bl true)), C, some (tupD t), some (.bl true), w8, w9, w10, none] [] ((List.range (n + 1)).map fun i : Nat => D.int (i : Int)) = some [] := hc
    simp only [L_law_1_e, rB_ok, rB_ex, aB_ok, aB_ex, lB_ok, lB_ex, llB_ok, llB_ex, liB_ok, lsB_ok, lsB_ex, vB_ok, vB_ex, sB_nx, sB_rt, sB_bk, sB_ct, sB_ex, tB_ok, tB_ex, iS_ok, iS_ex, fB_st, fB_dy, oS_nx, oS_ct, oS_bk, oS_rt, oS_ex, gB_s, fin_rt, fin_nx, fin_ex, vO_s, vOS_s, trO_s, oD_s, oL_s, newK_l, newK_d, gets_z, gets_s, cVar_e, cD_e, cTrue_e, cBin_e, cTru_e, cNot_e, cAnd_e, cOr_e, cIf_e, cAndB_e, cOrB_e, cNotB_e, cNil_e, cCons_e, cApp_e, iApp_e, sSkip_e, sBreak_e, sCont_e, sRetN_e, sSeq_e, sAsg_e, sNew_e, sExpr_e, sRet_e, sIf_e, sAsgT_e, sFor_e, sWhile_e, setD_e, tgName_e, tgTup_e, tB2_s, tgCons_e, tgNil_e, callD_e, callKw_e, pick_e, pureL_n, pureL_c, pure_non, pure_bl, pure_int, pure_str, pure_tup, pure_lst, pure_rol, pure_dct, pure_obj, sMethE_e, sMethA_e, sSub_e, sAug_e, augK_s, iVal_e, cComp_e, cB_st, cB_dy, coB_s, wipeD_n, wipeD_c, cTwo_e, cCutA_e, cCutH_e, cCutL_e, cCutLH_e, kInt_i, sTry_e, tryB_nx, tryB_ex, tryB_rt, sRaise_e, raiseK_e, runH_c, runH_n, hdK_t, hdK_f, noE_bl, noE_int, noE_lst, noE_non, noE_str, noE_tup, noEs_c, noEs_n, sPar2_e, sPar3_e, par2K_e, par3K_e, sFrz_e, cErr_e, cChain_e, bAdd_i, bSub_i, bCmp_i, bEq_i, bNe_i, bEq_s, bNe_s, bEq_b, iAdd_i, bIs_n, bIsNot_n, bIs_b, bIsNot_b, isNon_n, isNon_b, isNon_i, isNon_t, isNon_l, truth_b, truth_n, truth_i, truth_t, locO_l, lstOf_l, lstOf_o, rdOf_r, rdOf_l, rdOf_o, rdOf_t, seqOf_t, seqOf_r, seqOf_l, seqOf_o, lO_s, tO_s, iV_t, iV_l, iV_r, iV_o, iVo_s, enI_t, enI_l, lcB_s, lS_l, pO_s, kS_s, kSub_e, retD_non, retD_bl, retD_int, retD_str, retD_tup, retD_lst, retD_rol, retD_dct, retD_obj, retD_loc, retO_l, retO_d, tgD_non, tgD_bl, tgD_int, tgD_str, tgD_tup, tgD_lst, tgD_rol, tgD_dct, bIx_t, bIx_l, bIx_r, fCut_t, fCut_l, fTuple_t, fInt_i, Bool.and_true, Bool.true_and, Bool.and_false, Bool.false_and, Bool.or_true, Bool.true_or, Bool.or_false, Bool.false_or, Bool.not_true, Bool.not_false, Bool.and_self, Bool.false_eq_true, if_true, if_false, decide_true, decide_false, reduceIte, List.set_cons_zero, List.set_cons_succ, List.length_cons, List.length_nil, List.map_cons, List.map_nil, List.nil_append, List.cons_append, hin, hr, hc, l0, ne_b, bself, hab, ib, t1, t2, List.getD_cons_zero, List.getD_cons_succ, hab2, hbr, q1, i0, hch, ph]
  | some k =>
    rw [hb] at lL hin hc hab hbr hab2
    obtain ⟨r, hF1⟩ : ∃ r, F = k :: r := by
      cases F with
      | nil => simp at lL
      | cons a r => exact ⟨r, by simp at lL; rw [lL]⟩
    subst hF1
    have hna : ¬ above s t := fun z => by
      have := (breachN_none s t hsm).mpr z
      rw [hb] at this; cases this
    have q1 : m_steps_down [tupD s, tupD t] = .ok .non false := steps_no hs.st ht.st hsm (by omega) (by omega) hna
    refine ⟨some (.bl false), some (.lst ((k :: r).map fun n : Nat => D.int (n : Int))), some (.int (k : Int)), some .non, ?_⟩
    have l0 : ¬ (((k :: r).length : Nat) : Int) = 0 := by simp only [List.length_cons]; omega
    have hlen : ∀ S, fLen S [.lst (.int (k : Int) :: r.map fun n : Nat => D.int (n : Int))] = .ok (.int ((k :: r).length : Int)) false := hlen
    have a0 : atD (.int (k : Int) :: r.map fun n : Nat => D.int (n : Int)) 0 = some (.int (k : Int)) := rfl
    have hab : m_is_above [tupD s, tupD t] = .ok (.bl false) false := hab
    have hbr : m_breach [tupD s, tupD t] = .ok (.int (k : Int)) false := hbr
    have hab2 : m_is_above [tupD (conj t), tupD (conj s)] = .ok (.bl false) false := hab2
    have hin : bDin [] (tupD t) (.dct (M.map tupD) (M.map fun _ => .bl true)) = .ok (.bl false) false := hin
    have hc : compL (tgName 11) T_law_1 (cVar 11) [A, some (.int (n : Int)), B, some (tupD s), some (.dct (M.map tupD) (M.map fun _ => .bl true)), C, some (tupD t), some (.bl false), w8, w9, w10, none] [] ((List.range (n + 1)).map fun i : Nat => D.int (i : Int)) = some (.int (k : Int) :: r.map fun n : Nat => D.int (n : Int)) := hc
    have i1 : ∀ S, fIsi [.int] S [.int (k : Int)] = .ok (.bl true) false := fun S => rfl
    have i2 : ∀ S, fIsi [.bool] S [.int (k : Int)] = .ok (.bl false) false := fun S => rfl
    have ne_i : ∀ (S : List SO) (z : Int), bNe S (.int z) (.int z) = .ok (.bl false) false := fun S z => by rw [bNe_i]; simp
    generalize (k :: r).length = L at *
    simp only [L_law_1_e, rB_ok, rB_ex, aB_ok, aB_ex, lB_ok, lB_ex, llB_ok, llB_ex, liB_ok, lsB_ok, lsB_ex, vB_ok, vB_ex, sB_nx, sB_rt, sB_bk, sB_ct, sB_ex, tB_ok, tB_ex, iS_ok, iS_ex, fB_st, fB_dy, oS_nx, oS_ct, oS_bk, oS_rt, oS_ex, gB_s, fin_rt, fin_nx, fin_ex, vO_s, vOS_s, trO_s, oD_s, oL_s, newK_l, newK_d, gets_z, gets_s, cVar_e, cD_e, cTrue_e, cBin_e, cTru_e, cNot_e, cAnd_e, cOr_e, cIf_e, cAndB_e, cOrB_e, cNotB_e, cNil_e, cCons_e, cApp_e, iApp_e, sSkip_e, sBreak_e, sCont_e, sRetN_e, sSeq_e, sAsg_e, sNew_e, sExpr_e, sRet_e, sIf_e, sAsgT_e, sFor_e, sWhile_e, setD_e, tgName_e, tgTup_e, tB2_s, tgCons_e, tgNil_e, callD_e, callKw_e, pick_e, pureL_n, pureL_c, pure_non, pure_bl, pure_int, pure_str, pure_tup, pure_lst, pure_rol, pure_dct, pure_obj, sMethE_e, sMethA_e, sSub_e, sAug_e, augK_s, iVal_e, cComp_e, cB_st, cB_dy, coB_s, wipeD_n, wipeD_c, cTwo_e, cCutA_e, cCutH_e, cCutL_e, cCutLH_e, kInt_i, sTry_e, tryB_nx, tryB_ex, tryB_rt, sRaise_e, raiseK_e, runH_c, runH_n, hdK_t, hdK_f, noE_bl, noE_int, noE_lst, noE_non, noE_str, noE_tup, noEs_c, noEs_n, sPar2_e, sPar3_e, par2K_e, par3K_e, sFrz_e, cErr_e, cChain_e, bAdd_i, bSub_i, bCmp_i, bEq_i, bNe_i, bEq_s, bNe_s, bEq_b, iAdd_i, bIs_n, bIsNot_n, bIs_b, bIsNot_b, isNon_n, isNon_b, isNon_i, isNon_t, isNon_l, truth_b, truth_n, truth_i, truth_t, locO_l, lstOf_l, lstOf_o, rdOf_r, rdOf_l, rdOf_o, rdOf_t, seqOf_t, seqOf_r, seqOf_l, seqOf_o, lO_s, tO_s, iV_t, iV_l, iV_r, iV_o, iVo_s, enI_t, enI_l, lcB_s, lS_l, pO_s, kS_s, kSub_e, retD_non, retD_bl, retD_int, retD_str, retD_tup, retD_lst, retD_rol, retD_dct, retD_obj, retD_loc, retO_l, retO_d, tgD_non, tgD_bl, tgD_int, tgD_str, tgD_tup, tgD_lst, tgD_rol, tgD_dct, bIx_t, bIx_l, bIx_r, fCut_t, fCut_l, fTuple_t, fInt_i, Bool.and_true, Bool.true_and, Bool.and_false, Bool.false_and, Bool.or_true, Bool.true_or, Bool.or_false, Bool.false_or, Bool.not_true, Bool.not_false, Bool.and_self, Bool.false_eq_true, if_true, if_false, decide_true, decide_false, reduceIte, List.set_cons_zero, List.set_cons_succ, List.length_cons, List.length_nil, List.map_cons, List.map_nil, List.nil_append, List.cons_append, hin, hr, hc, hlen, l0, ne_b, bself, hab, ib, t1, t2, List.getD_cons_zero, List.getD_cons_succ, hab2, hbr, q1, a0, i1, i2, ne_i, ph]
end K04

set_option maxRecDepth 2000
namespace K04
open PySem HC PL PM
theorem rows_for {n : Nat} (hn : n ≤ 8) {s : List Nat} (hs : s ∈ pts n) (M : List (List Nat)) (hM : M = (ledF (pts n).length ([s], [s])).1) (A B C : Option D) : ∀ (ts : List (List Nat)) (w6 w7 w8 w9 w10 : Option D), (∀ t ∈ ts, t ∈ pts n) →
    ∃ v6 v7 v8 v9 v10, forL (tgName 6) L_law_1 (ts.map tupD) [A, some (.int (n : Int)), B, some (tupD s), some (.dct (M.map tupD) (M.map fun _ => .bl true)), C, w6, w7, w8, w9, w10, none] [] = .nx [A, some (.int (n : Int)), B, some (tupD s), some (.dct (M.map tupD) (M.map fun _ => .bl true)), C, v6, v7, v8, v9, v10, none] []
  | [], w6, w7, w8, w9, w10, h => ⟨w6, w7, w8, w9, w10, rfl⟩
  | t :: ts, w6, w7, w8, w9, w10, h => by
    obtain ⟨_, ck⟩ := chk_of hn
    have ht := h t (List.mem_cons_self ..)
    have h0 : M ≠ [] := by
      have p := led_pre (pts n).length ([s], [s])
      rw [← hM] at p
      intro z
      rw [z] at p
      have := p.length_le
      simp at this
    obtain ⟨v7, v8, v9, v10, e1⟩ := row_turn hn (ck s hs).1 (ck t ht).1 ((ck s hs).2.2 t ht) ((ck s hs).2.2 s hs).sm M hM h0 A B C w7 w8 w9 w10
    obtain ⟨u6, u7, u8, u9, u10, e2⟩ := rows_for hn hs M hM A B C ts (some (tupD t)) v7 v8 v9 v10 (fun x hx => h x (List.mem_cons_of_mem _ hx))
    refine ⟨u6, u7, u8, u9, u10, ?_⟩
    rw [List.map_cons, forL_c]
    simp only [rB_ok, rB_ex, aB_ok, aB_ex, lB_ok, lB_ex, llB_ok, llB_ex, liB_ok, lsB_ok, lsB_ex, vB_ok, vB_ex, sB_nx, sB_rt, sB_bk, sB_ct, sB_ex, tB_ok, tB_ex, iS_ok, iS_ex, fB_st, fB_dy, oS_nx, oS_ct, oS_bk, oS_rt, oS_ex, gB_s, fin_rt, fin_nx, fin_ex, vO_s, vOS_s, trO_s, oD_s, oL_s, newK_l, newK_d, gets_z, gets_s, cVar_e, cD_e, cTrue_e, cBin_e, cTru_e, cNot_e, cAnd_e, cOr_e, cIf_e, cAndB_e, cOrB_e, cNotB_e, cNil_e, cCons_e, cApp_e, iApp_e, sSkip_e, sBreak_e, sCont_e, sRetN_e, sSeq_e, sAsg_e, sNew_e, sExpr_e, sRet_e, sIf_e, sAsgT_e, sFor_e, sWhile_e, setD_e, tgName_e, tgTup_e, tB2_s, tgCons_e, tgNil_e, callD_e, callKw_e, pick_e, pureL_n, pureL_c, pure_non, pure_bl, pure_int, pure_str, pure_tup, pure_lst, pure_rol, pure_dct, pure_obj, sMethE_e, sMethA_e, sSub_e, sAug_e, augK_s, iVal_e, cComp_e, cB_st, cB_dy, coB_s, wipeD_n, wipeD_c, cTwo_e, cCutA_e, cCutH_e, cCutL_e, cCutLH_e, kInt_i, sTry_e, tryB_nx, tryB_ex, tryB_rt, sRaise_e, raiseK_e, runH_c, runH_n, hdK_t, hdK_f, noE_bl, noE_int, noE_lst, noE_non, noE_str, noE_tup, noEs_c, noEs_n, sPar2_e, sPar3_e, par2K_e, par3K_e, sFrz_e, cErr_e, cChain_e, bAdd_i, bSub_i, bCmp_i, bEq_i, bNe_i, bEq_s, bNe_s, bEq_b, iAdd_i, bIs_n, bIsNot_n, bIs_b, bIsNot_b, isNon_n, isNon_b, isNon_i, isNon_t, isNon_l, truth_b, truth_n, truth_i, truth_t, locO_l, lstOf_l, lstOf_o, rdOf_r, rdOf_l, rdOf_o, rdOf_t, seqOf_t, seqOf_r, seqOf_l, seqOf_o, lO_s, tO_s, iV_t, iV_l, iV_r, iV_o, iVo_s, enI_t, enI_l, lcB_s, lS_l, pO_s, kS_s, kSub_e, retD_non, retD_bl, retD_int, retD_str, retD_tup, retD_lst, retD_rol, retD_dct, retD_obj, retD_loc, retO_l, retO_d, tgD_non, tgD_bl, tgD_int, tgD_str, tgD_tup, tgD_lst, tgD_rol, tgD_dct, bIx_t, bIx_l, bIx_r, fCut_t, fCut_l, fTuple_t, fInt_i, Bool.and_true, Bool.true_and, Bool.and_false, Bool.false_and, Bool.or_true, Bool.true_or, Bool.or_false, Bool.false_or, Bool.not_true, Bool.not_false, Bool.and_self, Bool.false_eq_true, if_true, if_false, decide_true, decide_false, reduceIte, List.set_cons_zero, List.set_cons_succ, List.length_cons, List.length_nil, List.map_cons, List.map_nil, List.nil_append, List.cons_append, e1, e2]
theorem law_true : ∀ ns : List Int, ns.length ≤ 63 → m_law [.rol (its ns)] = .ok (.bl true) false := fun ns _ => by
  obtain ⟨c0, e0⟩ := cell_is ns 0 (by omega)
  obtain ⟨c1, e1⟩ := cell_is ns 1 (by omega)
  obtain ⟨c2, e2⟩ := cell_is ns 2 (by omega)
  obtain ⟨n, hn⟩ := Int.eq_ofNat_of_zero_le (Int.emod_nonneg c0 (show (9 : Int) ≠ 0 by decide))
  have hn9 : n ≤ 8 := by have := Int.emod_lt_of_pos c0 (show (0 : Int) < 9 by decide); omega
  obtain ⟨⟨hp0, hp1⟩, ck⟩ := chk_of hn9
  have ha := all_is n hn9
  have m0 : ∀ S, bMod S (.int c0) (.int 9) = .ok (.int (n : Int)) false := fun S => by rw [mod_p (by decide), hn]
  have pl : (0 : Int) < ((pts n).length : Int) := by omega
  obtain ⟨i, hi⟩ := Int.eq_ofNat_of_zero_le (Int.emod_nonneg c1 (show ((pts n).length : Int) ≠ 0 by omega))
  have hi2 : i < (pts n).length := by have := Int.emod_lt_of_pos c1 pl; omega
  obtain ⟨j, hj⟩ := Int.eq_ofNat_of_zero_le (Int.emod_nonneg c2 (show ((pts n).length : Int) ≠ 0 by omega))
  have m1 : ∀ S, bMod S (.int c1) (.int ((pts n).length : Int)) = .ok (.int (i : Int)) false := fun S => by rw [mod_p pl, hi]
  have m2 : ∀ S, bMod S (.int c2) (.int ((pts n).length : Int)) = .ok (.int (j : Int)) false := fun S => by rw [mod_p pl, hj]
  have hlen : ∀ S, fLen S [.lst ((pts n).map tupD)] = .ok (.int ((pts n).length : Int)) false := fun S => by rw [fLen_s rfl]; simp
  generalize hs : (pts n)[i] = s
  have hsm : s ∈ pts n := by rw [← hs]; exact List.getElem_mem hi2
  have a1 : atD ((pts n).map tupD) (i : Int) = some (tupD s) := tups_at _ (by rw [List.getElem?_eq_getElem hi2, hs])
  have hl := led_is s (pts n).length (by omega) (ck s hsm).2.1
  obtain ⟨v6, v7, v8, v9, v10, hf⟩ := rows_for hn9 hsm _ rfl (some (.rol (its ns))) (some (.lst ((pts n).map tupD))) (some (.int (j : Int))) ((pts n).drop j ++ (pts n).take j) none none none none none (fun t ht => by
    rcases List.mem_append.mp ht with h | h
    · exact List.mem_of_mem_drop h
    · exact List.mem_of_mem_take h)
  have it : iVal (cBin bAdd (cCutL (cVar 2) (cVar 5)) (cCutH (cVar 2) (cVar 5))) [some (.rol (its ns)), some (.int (n : Int)), some (.lst ((pts n).map tupD)), some (tupD s), some (.dct ((ledF (pts n).length ([s], [s])).1.map tupD) ((ledF (pts n).length ([s], [s])).1.map fun _ => .bl true)), some (.int (j : Int)), none, none, none, none, none, none] [] = .st (((pts n).drop j ++ (pts n).take j).map tupD) := by
    have c1 : ∀ S, fCut S (.lst ((pts n).map tupD)) (some (j : Int)) none = .ok (.lst (((pts n).drop j).map tupD)) true := fun S => by
      rw [fCut_l, if_pos (tupsP _), cut_l, List.map_drop]
    have c2 : ∀ S, fCut S (.lst ((pts n).map tupD)) none (some (j : Int)) = .ok (.lst (((pts n).take j).map tupD)) true := fun S => by
      rw [fCut_l, if_pos (tupsP _), cut_h, List.map_take]
    have ba : ∀ S, bAdd S (.lst (((pts n).drop j).map tupD)) (.lst (((pts n).take j).map tupD)) = .ok (.lst (((pts n).drop j ++ (pts n).take j).map tupD)) true := fun S => by
      rw [bAdd_l, if_pos (by simp; unfold lim; omega), if_pos (by rw [tupsP, tupsP]; rfl), List.map_append]
    simp only [iVal_e, cBin_e, cCutL_e, cCutH_e, cVar_e, gets_s, gets_z, vO_s, rB_ok, kInt_i, c1, c2, ba]
    rfl
  have pr : D.pure (.rol (its ns)) = true := rfl
  have ph : D.pure (tupD s) = true := rfl
  generalize (.dct ((ledF (pts n).length ([s], [s])).1.map tupD) ((ledF (pts n).length ([s], [s])).1.map fun _ => .bl true) : D) = T at *
  rw [r_law]
  have b1 : b_law [some (.rol (its ns)), none, none, none, none, none, none, none, none, none, none, none] [] = .rt (.bl true) false := by
    rw [b_law_e]
    have q1 : S_law_1 [some (.rol (its ns)), none, none, none, none, none, none, none, none, none, none, none] [] = .nx [some (.rol (its ns)), some (.int (n : Int)), none, none, none, none, none, none, none, none, none, none] [] := by
      have e0 : m__law_cell [.rol (its ns), .int 0] = .ok (.int c0) false := e0
      simp only [S_law_1_e, rB_ok, rB_ex, aB_ok, aB_ex, lB_ok, lB_ex, llB_ok, llB_ex, liB_ok, lsB_ok, lsB_ex, vB_ok, vB_ex, sB_nx, sB_rt, sB_bk, sB_ct, sB_ex, tB_ok, tB_ex, iS_ok, iS_ex, fB_st, fB_dy, oS_nx, oS_ct, oS_bk, oS_rt, oS_ex, gB_s, fin_rt, fin_nx, fin_ex, vO_s, vOS_s, trO_s, oD_s, oL_s, newK_l, newK_d, gets_z, gets_s, cVar_e, cD_e, cTrue_e, cBin_e, cTru_e, cNot_e, cAnd_e, cOr_e, cIf_e, cAndB_e, cOrB_e, cNotB_e, cNil_e, cCons_e, cApp_e, iApp_e, sSkip_e, sBreak_e, sCont_e, sRetN_e, sSeq_e, sAsg_e, sNew_e, sExpr_e, sRet_e, sIf_e, sAsgT_e, sFor_e, sWhile_e, setD_e, tgName_e, tgTup_e, tB2_s, tgCons_e, tgNil_e, callD_e, callKw_e, pick_e, pureL_n, pureL_c, pure_non, pure_bl, pure_int, pure_str, pure_tup, pure_lst, pure_rol, pure_dct, pure_obj, sMethE_e, sMethA_e, sSub_e, sAug_e, augK_s, iVal_e, cComp_e, cB_st, cB_dy, coB_s, wipeD_n, wipeD_c, cTwo_e, cCutA_e, cCutH_e, cCutL_e, cCutLH_e, kInt_i, sTry_e, tryB_nx, tryB_ex, tryB_rt, sRaise_e, raiseK_e, runH_c, runH_n, hdK_t, hdK_f, noE_bl, noE_int, noE_lst, noE_non, noE_str, noE_tup, noEs_c, noEs_n, sPar2_e, sPar3_e, par2K_e, par3K_e, sFrz_e, cErr_e, cChain_e, bAdd_i, bSub_i, bCmp_i, bEq_i, bNe_i, bEq_s, bNe_s, bEq_b, iAdd_i, bIs_n, bIsNot_n, bIs_b, bIsNot_b, isNon_n, isNon_b, isNon_i, isNon_t, isNon_l, truth_b, truth_n, truth_i, truth_t, locO_l, lstOf_l, lstOf_o, rdOf_r, rdOf_l, rdOf_o, rdOf_t, seqOf_t, seqOf_r, seqOf_l, seqOf_o, lO_s, tO_s, iV_t, iV_l, iV_r, iV_o, iVo_s, enI_t, enI_l, lcB_s, lS_l, pO_s, kS_s, kSub_e, retD_non, retD_bl, retD_int, retD_str, retD_tup, retD_lst, retD_rol, retD_dct, retD_obj, retD_loc, retO_l, retO_d, tgD_non, tgD_bl, tgD_int, tgD_str, tgD_tup, tgD_lst, tgD_rol, tgD_dct, bIx_t, bIx_l, bIx_r, fCut_t, fCut_l, fTuple_t, fInt_i, Bool.and_true, Bool.true_and, Bool.and_false, Bool.false_and, Bool.or_true, Bool.true_or, Bool.or_false, Bool.false_or, Bool.not_true, Bool.not_false, Bool.and_self, Bool.false_eq_true, if_true, if_false, decide_true, decide_false, reduceIte, List.set_cons_zero, List.set_cons_succ, List.length_cons, List.length_nil, List.map_cons, List.map_nil, List.nil_append, List.cons_append, e0, m0]
    have q2 : S_law_2 [some (.rol (its ns)), some (.int (n : Int)), some (.lst ((pts n).map tupD)), none, none, none, none, none, none, none, none, none] [] = .nx [some (.rol (its ns)), some (.int (n : Int)), some (.lst ((pts n).map tupD)), some (tupD s), none, none, none, none, none, none, none, none] [] := by
      have e1 : m__law_cell [.rol (its ns), .int 1] = .ok (.int c1) false := e1
      simp only [S_law_2_e, rB_ok, rB_ex, aB_ok, aB_ex, lB_ok, lB_ex, llB_ok, llB_ex, liB_ok, lsB_ok, lsB_ex, vB_ok, vB_ex, sB_nx, sB_rt, sB_bk, sB_ct, sB_ex, tB_ok, tB_ex, iS_ok, iS_ex, fB_st, fB_dy, oS_nx, oS_ct, oS_bk, oS_rt, oS_ex, gB_s, fin_rt, fin_nx, fin_ex, vO_s, vOS_s, trO_s, oD_s, oL_s, newK_l, newK_d, gets_z, gets_s, cVar_e, cD_e, cTrue_e, cBin_e, cTru_e, cNot_e, cAnd_e, cOr_e, cIf_e, cAndB_e, cOrB_e, cNotB_e, cNil_e, cCons_e, cApp_e, iApp_e, sSkip_e, sBreak_e, sCont_e, sRetN_e, sSeq_e, sAsg_e, sNew_e, sExpr_e, sRet_e, sIf_e, sAsgT_e, sFor_e, sWhile_e, setD_e, tgName_e, tgTup_e, tB2_s, tgCons_e, tgNil_e, callD_e, callKw_e, pick_e, pureL_n, pureL_c, pure_non, pure_bl, pure_int, pure_str, pure_tup, pure_lst, pure_rol, pure_dct, pure_obj, sMethE_e, sMethA_e, sSub_e, sAug_e, augK_s, iVal_e, cComp_e, cB_st, cB_dy, coB_s, wipeD_n, wipeD_c, cTwo_e, cCutA_e, cCutH_e, cCutL_e, cCutLH_e, kInt_i, sTry_e, tryB_nx, tryB_ex, tryB_rt, sRaise_e, raiseK_e, runH_c, runH_n, hdK_t, hdK_f, noE_bl, noE_int, noE_lst, noE_non, noE_str, noE_tup, noEs_c, noEs_n, sPar2_e, sPar3_e, par2K_e, par3K_e, sFrz_e, cErr_e, cChain_e, bAdd_i, bSub_i, bCmp_i, bEq_i, bNe_i, bEq_s, bNe_s, bEq_b, iAdd_i, bIs_n, bIsNot_n, bIs_b, bIsNot_b, isNon_n, isNon_b, isNon_i, isNon_t, isNon_l, truth_b, truth_n, truth_i, truth_t, locO_l, lstOf_l, lstOf_o, rdOf_r, rdOf_l, rdOf_o, rdOf_t, seqOf_t, seqOf_r, seqOf_l, seqOf_o, lO_s, tO_s, iV_t, iV_l, iV_r, iV_o, iVo_s, enI_t, enI_l, lcB_s, lS_l, pO_s, kS_s, kSub_e, retD_non, retD_bl, retD_int, retD_str, retD_tup, retD_lst, retD_rol, retD_dct, retD_obj, retD_loc, retO_l, retO_d, tgD_non, tgD_bl, tgD_int, tgD_str, tgD_tup, tgD_lst, tgD_rol, tgD_dct, bIx_t, bIx_l, bIx_r, fCut_t, fCut_l, fTuple_t, fInt_i, Bool.and_true, Bool.true_and, Bool.and_false, Bool.false_and, Bool.or_true, Bool.true_or, Bool.or_false, Bool.false_or, Bool.not_true, Bool.not_false, Bool.and_self, Bool.false_eq_true, if_true, if_false, decide_true, decide_false, reduceIte, List.set_cons_zero, List.set_cons_succ, List.length_cons, List.length_nil, List.map_cons, List.map_nil, List.nil_append, List.cons_append, e1, m1, hlen, a1]
    have q3 : S_law_3 [some (.rol (its ns)), some (.int (n : Int)), some (.lst ((pts n).map tupD)), some (tupD s), none, none, none, none, none, none, none, none] [] = .nx [some (.rol (its ns)), some (.int (n : Int)), some (.lst ((pts n).map tupD)), some (tupD s), some T, none, none, none, none, none, none, none] [] := by
      simp only [S_law_3_e, rB_ok, rB_ex, aB_ok, aB_ex, lB_ok, lB_ex, llB_ok, llB_ex, liB_ok, lsB_ok, lsB_ex, vB_ok, vB_ex, sB_nx, sB_rt, sB_bk, sB_ct, sB_ex, tB_ok, tB_ex, iS_ok, iS_ex, fB_st, fB_dy, oS_nx, oS_ct, oS_bk, oS_rt, oS_ex, gB_s, fin_rt, fin_nx, fin_ex, vO_s, vOS_s, trO_s, oD_s, oL_s, newK_l, newK_d, gets_z, gets_s, cVar_e, cD_e, cTrue_e, cBin_e, cTru_e, cNot_e, cAnd_e, cOr_e, cIf_e, cAndB_e, cOrB_e, cNotB_e, cNil_e, cCons_e, cApp_e, iApp_e, sSkip_e, sBreak_e, sCont_e, sRetN_e, sSeq_e, sAsg_e, sNew_e, sExpr_e, sRet_e, sIf_e, sAsgT_e, sFor_e, sWhile_e, setD_e, tgName_e, tgTup_e, tB2_s, tgCons_e, tgNil_e, callD_e, callKw_e, pick_e, pureL_n, pureL_c, pure_non, pure_bl, pure_int, pure_str, pure_tup, pure_lst, pure_rol, pure_dct, pure_obj, sMethE_e, sMethA_e, sSub_e, sAug_e, augK_s, iVal_e, cComp_e, cB_st, cB_dy, coB_s, wipeD_n, wipeD_c, cTwo_e, cCutA_e, cCutH_e, cCutL_e, cCutLH_e, kInt_i, sTry_e, tryB_nx, tryB_ex, tryB_rt, sRaise_e, raiseK_e, runH_c, runH_n, hdK_t, hdK_f, noE_bl, noE_int, noE_lst, noE_non, noE_str, noE_tup, noEs_c, noEs_n, sPar2_e, sPar3_e, par2K_e, par3K_e, sFrz_e, cErr_e, cChain_e, bAdd_i, bSub_i, bCmp_i, bEq_i, bNe_i, bEq_s, bNe_s, bEq_b, iAdd_i, bIs_n, bIsNot_n, bIs_b, bIsNot_b, isNon_n, isNon_b, isNon_i, isNon_t, isNon_l, truth_b, truth_n, truth_i, truth_t, locO_l, lstOf_l, lstOf_o, rdOf_r, rdOf_l, rdOf_o, rdOf_t, seqOf_t, seqOf_r, seqOf_l, seqOf_o, lO_s, tO_s, iV_t, iV_l, iV_r, iV_o, iVo_s, enI_t, enI_l, lcB_s, lS_l, pO_s, kS_s, kSub_e, retD_non, retD_bl, retD_int, retD_str, retD_tup, retD_lst, retD_rol, retD_dct, retD_obj, retD_loc, retO_l, retO_d, tgD_non, tgD_bl, tgD_int, tgD_str, tgD_tup, tgD_lst, tgD_rol, tgD_dct, bIx_t, bIx_l, bIx_r, fCut_t, fCut_l, fTuple_t, fInt_i, Bool.and_true, Bool.true_and, Bool.and_false, Bool.false_and, Bool.or_true, Bool.true_or, Bool.or_false, Bool.false_or, Bool.not_true, Bool.not_false, Bool.and_self, Bool.false_eq_true, if_true, if_false, decide_true, decide_false, reduceIte, List.set_cons_zero, List.set_cons_succ, List.length_cons, List.length_nil, List.map_cons, List.map_nil, List.nil_append, List.cons_append, hl, hlen, ph]
    have q4 : S_law_4 [some (.rol (its ns)), some (.int (n : Int)), some (.lst ((pts n).map tupD)), some (tupD s), some T, none, none, none, none, none, none, none] [] = .nx [some (.rol (its ns)), some (.int (n : Int)), some (.lst ((pts n).map tupD)), some (tupD s), some T, some (.int (j : Int)), none, none, none, none, none, none] [] := by
      have e2 : m__law_cell [.rol (its ns), .int 2] = .ok (.int c2) false := e2
      simp only [S_law_4_e, rB_ok, rB_ex, aB_ok, aB_ex, lB_ok, lB_ex, llB_ok, llB_ex, liB_ok, lsB_ok, lsB_ex, vB_ok, vB_ex, sB_nx, sB_rt, sB_bk, sB_ct, sB_ex, tB_ok, tB_ex, iS_ok, iS_ex, fB_st, fB_dy, oS_nx, oS_ct, oS_bk, oS_rt, oS_ex, gB_s, fin_rt, fin_nx, fin_ex, vO_s, vOS_s, trO_s, oD_s, oL_s, newK_l, newK_d, gets_z, gets_s, cVar_e, cD_e, cTrue_e, cBin_e, cTru_e, cNot_e, cAnd_e, cOr_e, cIf_e, cAndB_e, cOrB_e, cNotB_e, cNil_e, cCons_e, cApp_e, iApp_e, sSkip_e, sBreak_e, sCont_e, sRetN_e, sSeq_e, sAsg_e, sNew_e, sExpr_e, sRet_e, sIf_e, sAsgT_e, sFor_e, sWhile_e, setD_e, tgName_e, tgTup_e, tB2_s, tgCons_e, tgNil_e, callD_e, callKw_e, pick_e, pureL_n, pureL_c, pure_non, pure_bl, pure_int, pure_str, pure_tup, pure_lst, pure_rol, pure_dct, pure_obj, sMethE_e, sMethA_e, sSub_e, sAug_e, augK_s, iVal_e, cComp_e, cB_st, cB_dy, coB_s, wipeD_n, wipeD_c, cTwo_e, cCutA_e, cCutH_e, cCutL_e, cCutLH_e, kInt_i, sTry_e, tryB_nx, tryB_ex, tryB_rt, sRaise_e, raiseK_e, runH_c, runH_n, hdK_t, hdK_f, noE_bl, noE_int, noE_lst, noE_non, noE_str, noE_tup, noEs_c, noEs_n, sPar2_e, sPar3_e, par2K_e, par3K_e, sFrz_e, cErr_e, cChain_e, bAdd_i, bSub_i, bCmp_i, bEq_i, bNe_i, bEq_s, bNe_s, bEq_b, iAdd_i, bIs_n, bIsNot_n, bIs_b, bIsNot_b, isNon_n, isNon_b, isNon_i, isNon_t, isNon_l, truth_b, truth_n, truth_i, truth_t, locO_l, lstOf_l, lstOf_o, rdOf_r, rdOf_l, rdOf_o, rdOf_t, seqOf_t, seqOf_r, seqOf_l, seqOf_o, lO_s, tO_s, iV_t, iV_l, iV_r, iV_o, iVo_s, enI_t, enI_l, lcB_s, lS_l, pO_s, kS_s, kSub_e, retD_non, retD_bl, retD_int, retD_str, retD_tup, retD_lst, retD_rol, retD_dct, retD_obj, retD_loc, retO_l, retO_d, tgD_non, tgD_bl, tgD_int, tgD_str, tgD_tup, tgD_lst, tgD_rol, tgD_dct, bIx_t, bIx_l, bIx_r, fCut_t, fCut_l, fTuple_t, fInt_i, Bool.and_true, Bool.true_and, Bool.and_false, Bool.false_and, Bool.or_true, Bool.true_or, Bool.or_false, Bool.false_or, Bool.not_true, Bool.not_false, Bool.and_self, Bool.false_eq_true, if_true, if_false, decide_true, decide_false, reduceIte, List.set_cons_zero, List.set_cons_succ, List.length_cons, List.length_nil, List.map_cons, List.map_nil, List.nil_append, List.cons_append, e2, m2, hlen]
    have q5 : S_law_5 [some (.rol (its ns)), some (.int (n : Int)), some (.lst ((pts n).map tupD)), some (tupD s), some T, some (.int (j : Int)), none, none, none, none, none, none] [] = .nx [some (.rol (its ns)), some (.int (n : Int)), some (.lst ((pts n).map tupD)), some (tupD s), some T, some (.int (j : Int)), v6, v7, v8, v9, v10, none] [] := by
      rw [S_law_5_e, sFor_e, it, fB_st, hf]
    rw [sSeq_e, q1, sB_nx, sSeq_e]
    have qa : (sAsg 2 (cApp (callD m__law_all_stairs) (cCons (cVar 1) cNil))) [some (.rol (its ns)), some (.int (n : Int)), none, none, none, none, none, none, none, none, none, none] [] = .nx [some (.rol (its ns)), some (.int (n : Int)), some (.lst ((pts n).map tupD)), none, none, none, none, none, none, none, none, none] [] := by
      simp only [rB_ok, rB_ex, aB_ok, aB_ex, lB_ok, lB_ex, llB_ok, llB_ex, liB_ok, lsB_ok, lsB_ex, vB_ok, vB_ex, sB_nx, sB_rt, sB_bk, sB_ct, sB_ex, tB_ok, tB_ex, iS_ok, iS_ex, fB_st, fB_dy, oS_nx, oS_ct, oS_bk, oS_rt, oS_ex, gB_s, fin_rt, fin_nx, fin_ex, vO_s, vOS_s, trO_s, oD_s, oL_s, newK_l, newK_d, gets_z, gets_s, cVar_e, cD_e, cTrue_e, cBin_e, cTru_e, cNot_e, cAnd_e, cOr_e, cIf_e, cAndB_e, cOrB_e, cNotB_e, cNil_e, cCons_e, cApp_e, iApp_e, sSkip_e, sBreak_e, sCont_e, sRetN_e, sSeq_e, sAsg_e, sNew_e, sExpr_e, sRet_e, sIf_e, sAsgT_e, sFor_e, sWhile_e, setD_e, tgName_e, tgTup_e, tB2_s, tgCons_e, tgNil_e, callD_e, callKw_e, pick_e, pureL_n, pureL_c, pure_non, pure_bl, pure_int, pure_str, pure_tup, pure_lst, pure_rol, pure_dct, pure_obj, sMethE_e, sMethA_e, sSub_e, sAug_e, augK_s, iVal_e, cComp_e, cB_st, cB_dy, coB_s, wipeD_n, wipeD_c, cTwo_e, cCutA_e, cCutH_e, cCutL_e, cCutLH_e, kInt_i, sTry_e, tryB_nx, tryB_ex, tryB_rt, sRaise_e, raiseK_e, runH_c, runH_n, hdK_t, hdK_f, noE_bl, noE_int, noE_lst, noE_non, noE_str, noE_tup, noEs_c, noEs_n, sPar2_e, sPar3_e, par2K_e, par3K_e, sFrz_e, cErr_e, cChain_e, bAdd_i, bSub_i, bCmp_i, bEq_i, bNe_i, bEq_s, bNe_s, bEq_b, iAdd_i, bIs_n, bIsNot_n, bIs_b, bIsNot_b, isNon_n, isNon_b, isNon_i, isNon_t, isNon_l, truth_b, truth_n, truth_i, truth_t, locO_l, lstOf_l, lstOf_o, rdOf_r, rdOf_l, rdOf_o, rdOf_t, seqOf_t, seqOf_r, seqOf_l, seqOf_o, lO_s, tO_s, iV_t, iV_l, iV_r, iV_o, iVo_s, enI_t, enI_l, lcB_s, lS_l, pO_s, kS_s, kSub_e, retD_non, retD_bl, retD_int, retD_str, retD_tup, retD_lst, retD_rol, retD_dct, retD_obj, retD_loc, retO_l, retO_d, tgD_non, tgD_bl, tgD_int, tgD_str, tgD_tup, tgD_lst, tgD_rol, tgD_dct, bIx_t, bIx_l, bIx_r, fCut_t, fCut_l, fTuple_t, fInt_i, Bool.and_true, Bool.true_and, Bool.and_false, Bool.false_and, Bool.or_true, Bool.true_or, Bool.or_false, Bool.false_or, Bool.not_true, Bool.not_false, Bool.and_self, Bool.false_eq_true, if_true, if_false, decide_true, decide_false, reduceIte, List.set_cons_zero, List.set_cons_succ, List.length_cons, List.length_nil, List.map_cons, List.map_nil, List.nil_append, List.cons_append, ha]
    rw [qa, sB_nx, sSeq_e, q2, sB_nx, sSeq_e, q3, sB_nx, sSeq_e, q4, sB_nx, sSeq_e, q5, sB_nx]
    rfl
  rw [b1]; rfl
end K04

set_option maxRecDepth 100000
namespace K04
open PySem PySem.Spec L2 HC PL
open PyProof.Rows hiding St
/-! the defs of k04_above_by_single_boxes -/
abbrev topS (i : Nat) : Stmt := PySem.Challenge.pw_hornstairs_k04_above_by_single_boxes.main.body.getD i (.Pass ⟨0, 0, 0, 0⟩)
structure Txt (P : Program) (K : PySem.W.Frag) (mg : Str → Option Value) where
  C_InvalidStair : Addr
  g_InvalidStair : mg "InvalidStair" = some (.ref C_InvalidStair)
  C_Undefined : Addr
  g_Undefined : mg "Undefined" = some (.ref C_Undefined)
  I_InvalidStair : Addr
  X_InvalidStair : XSup K P C_InvalidStair I_InvalidStair "value" "value"
  k_InvalidStair : XcK K C_InvalidStair
  I_Undefined : Addr
  X_Undefined : XSup K P C_Undefined I_Undefined "what" "what"
  k_Undefined : XcK K C_Undefined
  a_is_integer : Addr
  d_is_integer : FuncData
  F_is_integer : L2.Fun K "is_integer" "is_integer" (topS 1) a_is_integer d_is_integer
  g_is_integer : mg "is_integer" = some (.ref a_is_integer)
  b_is_integer : Binds K d_is_integer ["value"] []
  a_is_positive : Addr
  d_is_positive : FuncData
  F_is_positive : L2.Fun K "is_positive" "is_positive" (topS 2) a_is_positive d_is_positive
  g_is_positive : mg "is_positive" = some (.ref a_is_positive)
  b_is_positive : Binds K d_is_positive ["value"] []
  a_strip : Addr
  d_strip : FuncData
  F_strip : L2.Fun K "strip" "strip" (topS 3) a_strip d_strip
  g_strip : mg "strip" = some (.ref a_strip)
  b_strip : Binds K d_strip ["numbers"] []
  a_row_of : Addr
  d_row_of : FuncData
  F_row_of : L2.Fun K "row_of" "row_of" (topS 4) a_row_of d_row_of
  g_row_of : mg "row_of" = some (.ref a_row_of)
  b_row_of : Binds K d_row_of ["stair", "i"] []
  a_is_stair : Addr
  d_is_stair : FuncData
  F_is_stair : L2.Fun K "is_stair" "is_stair" (topS 10) a_is_stair d_is_stair
  g_is_stair : mg "is_stair" = some (.ref a_is_stair)
  b_is_stair : Binds K d_is_stair ["value"] []
  a_need_stair : Addr
  d_need_stair : FuncData
  F_need_stair : L2.Fun K "need_stair" "need_stair" (topS 11) a_need_stair d_need_stair
  g_need_stair : mg "need_stair" = some (.ref a_need_stair)
  b_need_stair : Binds K d_need_stair ["value"] []
  a__need_equal_sizes : Addr
  d__need_equal_sizes : FuncData
  F__need_equal_sizes : L2.Fun K "_need_equal_sizes" "_need_equal_sizes" (topS 13) a__need_equal_sizes d__need_equal_sizes
  g__need_equal_sizes : mg "_need_equal_sizes" = some (.ref a__need_equal_sizes)
  b__need_equal_sizes : Binds K d__need_equal_sizes ["one", "other"] []
  a_breach : Addr
  d_breach : FuncData
  F_breach : L2.Fun K "breach" "breach" (topS 14) a_breach d_breach
  g_breach : mg "breach" = some (.ref a_breach)
  b_breach : Binds K d_breach ["one", "other"] []
  a_is_above : Addr
  d_is_above : FuncData
  F_is_above : L2.Fun K "is_above" "is_above" (topS 15) a_is_above d_is_above
  g_is_above : mg "is_above" = some (.ref a_is_above)
  b_is_above : Binds K d_is_above ["one", "other"] []
  a__step : Addr
  d__step : FuncData
  F__step : L2.Fun K "_step" "_step" (topS 16) a__step d__step
  g__step : mg "_step" = some (.ref a__step)
  b__step : Binds K d__step ["rows", "goal"] []
  a_steps_down : Addr
  d_steps_down : FuncData
  F_steps_down : L2.Fun K "steps_down" "steps_down" (topS 17) a_steps_down d_steps_down
  g_steps_down : mg "steps_down" = some (.ref a_steps_down)
  b_steps_down : Binds K d_steps_down ["one", "other"] []
  a__law_cell : Addr
  d__law_cell : FuncData
  F__law_cell : L2.Fun K "_law_cell" "_law_cell" (topS 19) a__law_cell d__law_cell
  g__law_cell : mg "_law_cell" = some (.ref a__law_cell)
  b__law_cell : Binds K d__law_cell ["script", "k"] []
  a__law_all_stairs : Addr
  d__law_all_stairs : FuncData
  F__law_all_stairs : L2.Fun K "_law_all_stairs" "_law_all_stairs" (topS 20) a__law_all_stairs d__law_all_stairs
  g__law_all_stairs : mg "_law_all_stairs" = some (.ref a__law_all_stairs)
  b__law_all_stairs : Binds K d__law_all_stairs ["total"] []
  a__law_turned : Addr
  d__law_turned : FuncData
  F__law_turned : L2.Fun K "_law_turned" "_law_turned" (topS 21) a__law_turned d__law_turned
  g__law_turned : mg "_law_turned" = some (.ref a__law_turned)
  b__law_turned : Binds K d__law_turned ["stair"] []
  a__law_moved : Addr
  d__law_moved : FuncData
  F__law_moved : L2.Fun K "_law_moved" "_law_moved" (topS 22) a__law_moved d__law_moved
  g__law_moved : mg "_law_moved" = some (.ref a__law_moved)
  b__law_moved : Binds K d__law_moved ["stair", "i", "k"] []
  a__law_led_to : Addr
  d__law_led_to : FuncData
  F__law_led_to : L2.Fun K "_law_led_to" "_law_led_to" (topS 23) a__law_led_to d__law_led_to
  g__law_led_to : mg "_law_led_to" = some (.ref a__law_led_to)
  b__law_led_to : Binds K d__law_led_to ["stair", "count"] []
  a__law_is_step : Addr
  d__law_is_step : FuncData
  F__law_is_step : L2.Fun K "_law_is_step" "_law_is_step" (topS 24) a__law_is_step d__law_is_step
  g__law_is_step : mg "_law_is_step" = some (.ref a__law_is_step)
  b__law_is_step : Binds K d__law_is_step ["before", "behind"] []
  a__law_is_chain : Addr
  d__law_is_chain : FuncData
  F__law_is_chain : L2.Fun K "_law_is_chain" "_law_is_chain" (topS 25) a__law_is_chain d__law_is_chain
  g__law_is_chain : mg "_law_is_chain" = some (.ref a__law_is_chain)
  b__law_is_chain : Binds K d__law_is_chain ["steps", "high", "low"] []
  a_law : Addr
  d_law : FuncData
  F_law : L2.Fun K "law" "law" (topS 26) a_law d_law
  g_law : mg "law" = some (.ref a_law)
  b_law : Binds K d_law ["script"] []
  z_bool : mg "bool" = none
  z_enumerate : mg "enumerate" = none
  z_int : mg "int" = none
  z_isinstance : mg "isinstance" = none
  z_len : mg "len" = none
  z_list : mg "list" = none
  z_max : mg "max" = none
  z_min : mg "min" = none
  z_range : mg "range" = none
  z_sum : mg "sum" = none
  z_super : mg "super" = none
  z_tuple : mg "tuple" = none
def gx {P : Program} {K : PySem.W.Frag} {mg : Str → Option Value} (T : Txt P K mg) : GX := ⟨K, fun c => match c with | 2 => T.C_InvalidStair | 10 => T.C_Undefined | _ => 0, fun c => match c with | 2 => ["value"] | 10 => ["what"] | _ => [], none⟩
theorem sc_is_integer : FnScope ["value"] ["value"] (defScope (topS 1)) := ⟨rfl, rfl, rfl, by decide +kernel, rfl, by decide +kernel, by decide +kernel⟩
theorem ok_is_integer {P : Program} {w : World} {K : PySem.W.Frag} {mg : Str → Option Value} {base : Heap} (T : Txt P K mg) : FnG P w K mg base (L2.CX P w) 1 T.a_is_integer T.d_is_integer ["value"] (fnSp (gx T) m_is_integer) := by
  refine fn_okG (N := ["value"]) T.F_is_integer sc_is_integer rfl fun cdv A outer s H E hr => ?_
  have hu := hr.1.units
  exact (s_one (s_ret (q_and (q_isi (by rfl) T.z_isinstance (by rfl) (q_var 0) (pcl (by rfl) T.z_int (by decide +kernel))) (q_one (q_not (q_isi (by rfl) T.z_isinstance (by rfl) (q_var 0) (pcl (by rfl) T.z_bool (by decide +kernel))) (by rfl))) (by rfl))))
theorem sc_is_positive : FnScope ["value"] ["value"] (defScope (topS 2)) := ⟨rfl, rfl, rfl, by decide +kernel, rfl, by decide +kernel, by decide +kernel⟩
theorem ok_is_positive {P : Program} {w : World} {K : PySem.W.Frag} {mg : Str → Option Value} {base : Heap} (T : Txt P K mg) : FnG P w K mg base (L2.CX P w) 2 T.a_is_positive T.d_is_positive ["value"] (fnSp (gx T) m_is_positive) := by
  have C_is_integer := ok_is_integer (w := w) (base := base) T
  refine fn_okG (N := ["value"]) T.F_is_positive sc_is_positive rfl fun cdv A outer s H E hr => ?_
  have hu := hr.1.units
  exact (s_one (s_ret (q_and (q_call (C_is_integer) (by exact hr.mono (by decide)) (by rfl) T.g_is_integer T.F_is_integer.kp T.b_is_integer (by exact takes_of rfl rfl rfl rfl) (qa_cons (q_var 0) qa_nil)) (q_one (q_cmp op_ge lk_cmp (q_var 0) q_int)) (by rfl))))
theorem sc_strip : FnScope ["numbers", "many"] ["numbers"] (defScope (topS 3)) := ⟨rfl, rfl, rfl, by decide +kernel, rfl, by decide +kernel, by decide +kernel⟩
theorem ok_strip {P : Program} {w : World} {K : PySem.W.Frag} {mg : Str → Option Value} {base : Heap} (T : Txt P K mg) : FnG P w K mg base (L2.CX P w) 1 T.a_strip T.d_strip ["numbers"] (fnSp (gx T) m_strip) := by
  refine fn_okG (N := ["numbers", "many"]) T.F_strip sc_strip rfl fun cdv A outer s H E hr => ?_
  have hu := hr.1.units
  exact (s_cons (s_asg (i := 1) sc_strip.nd (by rfl) (by first | exact Or.inl rfl | exact Or.inr rfl) (q_callB call_len lk_len (by rfl) T.z_len (by decide +kernel) (qa_cons (q_var 0) qa_nil)))
    (s_cons (s_while (by exact L2.passes_of rfl) (w_and (q_cmpT op_gt lk_cmp (q_var 1) q_int) (w_and1 (q_cmpT (op_eq.or (op_eqD hu)) lk_eq (q_ix (q_var 0) (q_op op_sub lk_sub (q_var 1) q_int) (by rfl)) q_int))).pt (s_one (s_aug (k := 1) sc_strip.nd (by rfl) (by first | exact Or.inl rfl | exact Or.inr rfl) q_int iop_sub lk_sub)))
    (s_one (s_ret (q_callTy call_tuple_of lk_tuple (by rfl) T.z_tuple (by decide +kernel) (qa_cons (q_slH (q_var 0) (q_var 1) (by rfl)) qa_nil))))))
theorem sc_row_of : FnScope ["stair", "i"] ["stair", "i"] (defScope (topS 4)) := ⟨rfl, rfl, rfl, by decide +kernel, rfl, by decide +kernel, by decide +kernel⟩
theorem ok_row_of {P : Program} {w : World} {K : PySem.W.Frag} {mg : Str → Option Value} {base : Heap} (T : Txt P K mg) : FnG P w K mg base (L2.CX P w) 1 T.a_row_of T.d_row_of ["stair", "i"] (fnSp (gx T) m_row_of) := by
  refine fn_okG (N := ["stair", "i"]) T.F_row_of sc_row_of rfl fun cdv A outer s H E hr => ?_
  have hu := hr.1.units
  exact (s_cons (s_if (q_cmpT op_lt lk_cmp (q_var 1) (q_callB call_len lk_len (by rfl) T.z_len (by decide +kernel) (qa_cons (q_var 0) qa_nil))) (s_one (s_ret (q_ix (q_var 0) (q_var 1) (by rfl)))) s_nil)
    (s_one (s_ret q_int)))
theorem sc_is_stair : FnScope ["value", "i", "row"] ["value"] (defScope (topS 10)) := ⟨rfl, rfl, rfl, by decide +kernel, rfl, by decide +kernel, by decide +kernel⟩
theorem ok_is_stair {P : Program} {w : World} {K : PySem.W.Frag} {mg : Str → Option Value} {base : Heap} (T : Txt P K mg) : FnG P w K mg base (L2.CX P w) 3 T.a_is_stair T.d_is_stair ["value"] (fnSp (gx T) m_is_stair) := by
  have C_is_positive := ok_is_positive (w := w) (base := base) T
  refine fn_okG (N := ["value", "i", "row"]) T.F_is_stair sc_is_stair rfl fun cdv A outer s H E hr => ?_
  have hu := hr.1.units
  exact (s_cons (s_if (q_notT (q_tru (q_isi (by rfl) T.z_isinstance (by rfl) (q_var 0) (pcl (by rfl) T.z_tuple (by decide +kernel))) (by rfl))) (s_one (s_ret q_bl)) s_nil)
    (s_cons (s_for (by exact L2.passes_of rfl) (by rfl) (it_enum (by rfl) T.z_enumerate (qa_cons (q_var 0) qa_nil) (by rfl)) (tg_tup (by rfl) (tgs_cons (tg_name (i := 1) sc_is_stair.nd (by rfl) (by first | exact Or.inl rfl | exact Or.inr rfl)) (tgs_cons (tg_name (i := 2) sc_is_stair.nd (by rfl) (by first | exact Or.inl rfl | exact Or.inr rfl)) tgs_nil)) (by rfl)) (s_cons (s_if (q_notT (q_tru (q_call (C_is_positive) (by exact hr.mono (by decide)) (by rfl) T.g_is_positive T.F_is_positive.kp T.b_is_positive (by exact takes_of rfl rfl rfl rfl) (qa_cons (q_var 2) qa_nil)) (by rfl))) (s_one (s_ret q_bl)) s_nil)
    (s_one (s_if (w_and (q_cmpT op_gt lk_cmp (q_var 1) q_int) (w_and1 (q_cmpT op_gt lk_cmp (q_var 2) (q_ix (q_var 0) (q_op op_sub lk_sub (q_var 1) q_int) (by rfl))))).pt (s_one (s_ret q_bl)) s_nil))))
    (s_one (s_ret q_bl))))
theorem sc_need_stair : FnScope ["value"] ["value"] (defScope (topS 11)) := ⟨rfl, rfl, rfl, by decide +kernel, rfl, by decide +kernel, by decide +kernel⟩
theorem ok_need_stair {P : Program} {w : World} {K : PySem.W.Frag} {mg : Str → Option Value} {base : Heap} (T : Txt P K mg) : FnG P w K mg base (L2.CX P w) 4 T.a_need_stair T.d_need_stair ["value"] (fnSp (gx T) m_need_stair) := by
  have C_is_stair := ok_is_stair (w := w) (base := base) T
  refine fn_okG (N := ["value"]) T.F_need_stair sc_need_stair rfl fun cdv A outer s H E hr => ?_
  have hu := hr.1.units
  exact (s_one (s_if (q_notT (q_tru (q_call (C_is_stair) (by exact hr.mono (by decide)) (by rfl) T.g_is_stair T.F_is_stair.kp T.b_is_stair (by exact takes_of rfl rfl rfl rfl) (qa_cons (q_var 0) qa_nil)) (by rfl))) (s_one (s_raise (k := 0) (by rfl) (by exact takes_of rfl rfl rfl rfl) T.X_InvalidStair rfl rfl (by rfl) T.g_InvalidStair T.z_super (by exact hr.mono (by decide)) (qa_cons (q_var 0) qa_nil))) s_nil))
theorem sc__need_equal_sizes : FnScope ["one", "other"] ["one", "other"] (defScope (topS 13)) := ⟨rfl, rfl, rfl, by decide +kernel, rfl, by decide +kernel, by decide +kernel⟩
theorem ok__need_equal_sizes {P : Program} {w : World} {K : PySem.W.Frag} {mg : Str → Option Value} {base : Heap} (T : Txt P K mg) : FnG P w K mg base (L2.CX P w) 5 T.a__need_equal_sizes T.d__need_equal_sizes ["one", "other"] (fnSp (gx T) m__need_equal_sizes) := by
  have C_need_stair := ok_need_stair (w := w) (base := base) T
  refine fn_okG (N := ["one", "other"]) T.F__need_equal_sizes sc__need_equal_sizes rfl fun cdv A outer s H E hr => ?_
  have hu := hr.1.units
  exact (s_cons (s_expr (q_call (C_need_stair) (by exact hr.mono (by decide)) (by rfl) T.g_need_stair T.F_need_stair.kp T.b_need_stair (by exact takes_of rfl rfl rfl rfl) (qa_cons (q_var 0) qa_nil)))
    (s_cons (s_expr (q_call (C_need_stair) (by exact hr.mono (by decide)) (by rfl) T.g_need_stair T.F_need_stair.kp T.b_need_stair (by exact takes_of rfl rfl rfl rfl) (qa_cons (q_var 1) qa_nil)))
    (s_one (s_if (q_cmpT (op_ne.or (op_neD hu)) lk_ne (q_callB (cr_sumA (by rfl)) lk_sum (by rfl) T.z_sum (by decide +kernel) (qa_cons (q_var 0) qa_nil)) (q_callB (cr_sumA (by rfl)) lk_sum (by rfl) T.z_sum (by decide +kernel) (qa_cons (q_var 1) qa_nil))) (s_one (s_raise (k := 0) (by rfl) (by exact takes_of rfl rfl rfl rfl) T.X_Undefined rfl rfl (by rfl) T.g_Undefined T.z_super (by exact hr.mono (by decide)) (qa_cons q_str qa_nil))) s_nil))))
theorem sc_breach : FnScope ["one", "other", "lead", "i"] ["one", "other"] (defScope (topS 14)) := ⟨rfl, rfl, rfl, by decide +kernel, rfl, by decide +kernel, by decide +kernel⟩
theorem ok_breach {P : Program} {w : World} {K : PySem.W.Frag} {mg : Str → Option Value} {base : Heap} (T : Txt P K mg) : FnG P w K mg base (L2.CX P w) 6 T.a_breach T.d_breach ["one", "other"] (fnSp (gx T) m_breach) := by
  have C__need_equal_sizes := ok__need_equal_sizes (w := w) (base := base) T
  have C_row_of := ok_row_of (w := w) (base := base) T
  refine fn_okG (N := ["one", "other", "lead", "i"]) T.F_breach sc_breach rfl fun cdv A outer s H E hr => ?_
  have hu := hr.1.units
  exact (s_cons (s_expr (q_call (C__need_equal_sizes) (by exact hr.mono (by decide)) (by rfl) T.g__need_equal_sizes T.F__need_equal_sizes.kp T.b__need_equal_sizes (by exact takes_of rfl rfl rfl rfl) (qa_cons (q_var 0) (qa_cons (q_var 1) qa_nil))))
    (s_cons (s_asg (i := 2) sc_breach.nd (by rfl) (by first | exact Or.inl rfl | exact Or.inr rfl) q_int)
    (s_cons (s_for (by exact L2.passes_of rfl) (by rfl) (it_range1 (by rfl) T.z_range (qa_cons (q_callB (call_max2 (by rfl)) lk_max2 (by rfl) T.z_max (by decide +kernel) (qa_cons (q_callB call_len lk_len (by rfl) T.z_len (by decide +kernel) (qa_cons (q_var 0) qa_nil)) (qa_cons (q_callB call_len lk_len (by rfl) T.z_len (by decide +kernel) (qa_cons (q_var 1) qa_nil)) qa_nil))) qa_nil)) (tg_name (i := 3) sc_breach.nd (by rfl) (by first | exact Or.inl rfl | exact Or.inr rfl)) (s_cons (s_aug (k := 2) sc_breach.nd (by rfl) (by first | exact Or.inl rfl | exact Or.inr rfl) (q_op op_sub lk_sub (q_call (C_row_of) (by exact hr.mono (by decide)) (by rfl) T.g_row_of T.F_row_of.kp T.b_row_of (by exact takes_of rfl rfl rfl rfl) (qa_cons (q_var 0) (qa_cons (q_var 3) qa_nil))) (q_call (C_row_of) (by exact hr.mono (by decide)) (by rfl) T.g_row_of T.F_row_of.kp T.b_row_of (by exact takes_of rfl rfl rfl rfl) (qa_cons (q_var 1) (qa_cons (q_var 3) qa_nil)))) iop_add lk_iadd)
    (s_one (s_if (q_cmpT op_lt lk_cmp (q_var 2) q_int) (s_one (s_ret (q_op op_addA lk_add (q_var 3) q_int))) s_nil))))
    (s_one (s_ret q_non)))))
theorem sc_is_above : FnScope ["one", "other"] ["one", "other"] (defScope (topS 15)) := ⟨rfl, rfl, rfl, by decide +kernel, rfl, by decide +kernel, by decide +kernel⟩
theorem ok_is_above {P : Program} {w : World} {K : PySem.W.Frag} {mg : Str → Option Value} {base : Heap} (T : Txt P K mg) : FnG P w K mg base (L2.CX P w) 7 T.a_is_above T.d_is_above ["one", "other"] (fnSp (gx T) m_is_above) := by
  have C_breach := ok_breach (w := w) (base := base) T
  refine fn_okG (N := ["one", "other"]) T.F_is_above sc_is_above rfl fun cdv A outer s H E hr => ?_
  have hu := hr.1.units
  exact (s_one (s_ret (q_cmp op_isA lk_is (q_call (C_breach) (by exact hr.mono (by decide)) (by rfl) T.g_breach T.F_breach.kp T.b_breach (by exact takes_of rfl rfl rfl rfl) (qa_cons (q_var 0) (qa_cons (q_var 1) qa_nil))) q_non)))
theorem sc__step : FnScope ["rows", "goal", "from_row", "to_row", "moved", "i", "j"] ["rows", "goal"] (defScope (topS 16)) := ⟨rfl, rfl, rfl, by decide +kernel, rfl, by decide +kernel, by decide +kernel⟩
theorem ok__step {P : Program} {w : World} {K : PySem.W.Frag} {mg : Str → Option Value} {base : Heap} (T : Txt P K mg) : FnG P w K mg base (L2.CX P w) 1 T.a__step T.d__step ["rows", "goal"] (fnSp (gx T) m__step) := by
  refine fn_okG (N := ["rows", "goal", "from_row", "to_row", "moved", "i", "j"]) T.F__step sc__step rfl fun cdv A outer s H E hr => ?_
  have hu := hr.1.units
  exact (s_cons (s_asg (i := 2) sc__step.nd (by rfl) (by first | exact Or.inl rfl | exact Or.inr rfl) (q_callB (cr_max (by rfl)) lk_maxL (by rfl) T.z_max (by decide +kernel) (qa_cons (q_comp (by rfl) sc__step.nd (it_range1 (by rfl) T.z_range (qa_cons (q_callB call_len lk_len (by rfl) T.z_len (by decide +kernel) (qa_cons (q_var 0) qa_nil)) qa_nil)) (blkOk_by (own := [("i", 5)]) (by kernel_rfl)) (by decide) (fun _ _ _ _ _ => (tg_name (i := 5) sc__step.nd (by rfl) (by first | exact Or.inl rfl | exact Or.inr rfl))) (fun _ _ _ _ _ => (qt_one (q_cmpT op_gt lk_cmp (q_ix (q_var 0) (q_var 5) (by rfl)) (q_ix (q_var 1) (q_var 5) (by rfl))))) (fun _ _ _ _ _ => (q_var 5))) qa_nil)))
    (s_cons (s_asg (i := 3) sc__step.nd (by rfl) (by first | exact Or.inl rfl | exact Or.inr rfl) (q_callB (cr_min (by rfl)) lk_minL (by rfl) T.z_min (by decide +kernel) (qa_cons (q_comp (by rfl) sc__step.nd (it_range2 (by rfl) T.z_range (qa_cons (q_op op_addA lk_add (q_var 2) q_int) (qa_cons (q_callB call_len lk_len (by rfl) T.z_len (by decide +kernel) (qa_cons (q_var 0) qa_nil)) qa_nil))) (blkOk_by (own := [("j", 6)]) (by kernel_rfl)) (by decide) (fun _ _ _ _ _ => (tg_name (i := 6) sc__step.nd (by rfl) (by first | exact Or.inl rfl | exact Or.inr rfl))) (fun _ _ _ _ _ => (qt_one (q_cmpT op_lt lk_cmp (q_ix (q_var 0) (q_var 6) (by rfl)) (q_ix (q_var 1) (q_var 6) (by rfl))))) (fun _ _ _ _ _ => (q_var 6))) qa_nil)))
    (s_cons (s_new (i := 4) sc__step.nd (by rfl) (by first | exact Or.inl rfl | exact Or.inr rfl) (q_callTy call_list_of lk_list (by rfl) T.z_list (by decide +kernel) (qa_cons (q_var 0) qa_nil)))
    (s_cons (s_augS (q_var 4) (q_var 2) q_int iop_sub lk_sub rfl)
    (s_cons (s_augS (q_var 4) (q_var 3) q_int iop_add lk_iadd rfl)
    (s_one (s_ret (q_var 4))))))))
theorem sc_steps_down : FnScope ["one", "other", "many", "held", "goal", "found", "i"] ["one", "other"] (defScope (topS 17)) := ⟨rfl, rfl, rfl, by decide +kernel, rfl, by decide +kernel, by decide +kernel⟩
theorem ok_steps_down {P : Program} {w : World} {K : PySem.W.Frag} {mg : Str → Option Value} {base : Heap} (T : Txt P K mg) : FnG P w K mg base (L2.CX P w) 8 T.a_steps_down T.d_steps_down ["one", "other"] (fnSp (gx T) m_steps_down) := by
  have C__step := ok__step (w := w) (base := base) T
  have C_is_above := ok_is_above (w := w) (base := base) T
  have C_row_of := ok_row_of (w := w) (base := base) T
  have C_strip := ok_strip (w := w) (base := base) T
  refine fn_okG (N := ["one", "other", "many", "held", "goal", "found", "i"]) T.F_steps_down sc_steps_down rfl fun cdv A outer s H E hr => ?_
  have hu := hr.1.units
  exact (s_cons (s_if (q_notT (q_tru (q_call (C_is_above) (by exact hr.mono (by decide)) (by rfl) T.g_is_above T.F_is_above.kp T.b_is_above (by exact takes_of rfl rfl rfl rfl) (qa_cons (q_var 0) (qa_cons (q_var 1) qa_nil))) (by rfl))) (s_one (s_ret q_non)) s_nil)
    (s_cons (s_asg (i := 2) sc_steps_down.nd (by rfl) (by first | exact Or.inl rfl | exact Or.inr rfl) (q_callB (call_max2 (by rfl)) lk_max2 (by rfl) T.z_max (by decide +kernel) (qa_cons (q_callB call_len lk_len (by rfl) T.z_len (by decide +kernel) (qa_cons (q_var 0) qa_nil)) (qa_cons (q_callB call_len lk_len (by rfl) T.z_len (by decide +kernel) (qa_cons (q_var 1) qa_nil)) qa_nil))))
    (s_cons (s_asgLc (i := 3) (by rfl) sc_steps_down.nd (by rfl) (by rfl) (by exact sw_true rfl rfl rfl (by decide +kernel)) (it_range1 (by rfl) T.z_range (qa_cons (q_var 2) qa_nil)) (blkOk_by (own := [("i", 6)]) (by kernel_rfl)) (by decide) (fun _ _ _ _ _ => (tg_name (i := 6) sc_steps_down.nd (by rfl) (by first | exact Or.inl rfl | exact Or.inr rfl))) (fun _ _ _ _ _ => qt_nil) (fun _ _ _ _ _ => (q_call (C_row_of) (by exact hr.mono (by decide)) (by rfl) T.g_row_of T.F_row_of.kp T.b_row_of takes_none5 (qa_cons (q_var 0) (qa_cons (q_var 6) qa_nil)))))
    (s_cons (s_asgLc (i := 4) (by rfl) sc_steps_down.nd (by rfl) (by rfl) (by exact sw_true rfl rfl rfl (by decide +kernel)) (it_range1 (by rfl) T.z_range (qa_cons (q_var 2) qa_nil)) (blkOk_by (own := [("i", 6)]) (by kernel_rfl)) (by decide) (fun _ _ _ _ _ => (tg_name (i := 6) sc_steps_down.nd (by rfl) (by first | exact Or.inl rfl | exact Or.inr rfl))) (fun _ _ _ _ _ => qt_nil) (fun _ _ _ _ _ => (q_call (C_row_of) (by exact hr.mono (by decide)) (by rfl) T.g_row_of T.F_row_of.kp T.b_row_of takes_none5 (qa_cons (q_var 1) (qa_cons (q_var 6) qa_nil)))))
    (s_cons (s_new (i := 5) sc_steps_down.nd (by rfl) (by first | exact Or.inl rfl | exact Or.inr rfl) (q_lst (qa_cons (q_call (C_strip) (by exact hr.mono (by decide)) (by rfl) T.g_strip T.F_strip.kp T.b_strip (by exact takes_of rfl rfl rfl rfl) (qa_cons (q_var 3) qa_nil)) qa_nil)))
    (s_cons (s_while (by exact L2.passes_of rfl) (q_cmpT (op_ne.or (op_neD hu)) lk_ne (q_var 3) (q_var 4)) (s_cons (s_asg (i := 3) sc_steps_down.nd (by rfl) (by first | exact Or.inl rfl | exact Or.inr rfl) (q_call (C__step) (by exact hr.mono (by decide)) (by rfl) T.g__step T.F__step.kp T.b__step (by exact takes_of rfl rfl rfl rfl) (qa_cons (q_var 3) (qa_cons (q_var 4) qa_nil))))
    (s_one (s_methE PySem.F.slot_list_append PySem.F.type_list_append mt_append lm_append (q_var 5) (qa_cons (q_call (C_strip) (by exact hr.mono (by decide)) (by rfl) T.g_strip T.F_strip.kp T.b_strip (by exact takes_of rfl rfl rfl rfl) (qa_cons (q_var 3) qa_nil)) qa_nil) (by rfl)))))
    (s_one (s_ret (q_callTy call_tuple_of lk_tuple (by rfl) T.z_tuple (by decide +kernel) (qa_cons (q_var 5) qa_nil))))))))))
theorem sc__law_cell : FnScope ["script", "k"] ["script", "k"] (defScope (topS 19)) := ⟨rfl, rfl, rfl, by decide +kernel, rfl, by decide +kernel, by decide +kernel⟩
theorem ok__law_cell {P : Program} {w : World} {K : PySem.W.Frag} {mg : Str → Option Value} {base : Heap} (T : Txt P K mg) : FnG P w K mg base (L2.CX P w) 1 T.a__law_cell T.d__law_cell ["script", "k"] (fnSp (gx T) m__law_cell) := by
  refine fn_okG (N := ["script", "k"]) T.F__law_cell sc__law_cell rfl fun cdv A outer s H E hr => ?_
  have hu := hr.1.units
  exact (s_cons (s_if (q_cmpT op_lt lk_cmp (q_var 1) (q_callB call_len lk_len (by rfl) T.z_len (by decide +kernel) (qa_cons (q_var 0) qa_nil))) (s_one (s_ret (q_callTy call_int1 lk_int (by rfl) T.z_int (by decide +kernel) (qa_cons (q_ix (q_var 0) (q_var 1) (by rfl)) qa_nil)))) s_nil)
    (s_cons (s_if (q_cmpT (op_eq.or (op_eqD hu)) lk_eq (q_callB call_len lk_len (by rfl) T.z_len (by decide +kernel) (qa_cons (q_var 0) qa_nil)) q_int) (s_one (s_ret (q_var 1))) s_nil)
    (s_one (s_ret (q_op op_addA lk_add (q_op op_fdivA lk_fdiv (q_callTy call_int1 lk_int (by rfl) T.z_int (by decide +kernel) (qa_cons (q_ix (q_var 0) (q_op op_mod lk_mod (q_var 1) (q_callB call_len lk_len (by rfl) T.z_len (by decide +kernel) (qa_cons (q_var 0) qa_nil))) (by rfl)) qa_nil)) (q_op op_addA lk_add (q_var 1) q_int)) (q_var 1))))))
theorem sc__law_all_stairs : FnScope ["total", "done", "begun", "k", "following", "made", "left", "top", "part"] ["total"] (defScope (topS 20)) := ⟨rfl, rfl, rfl, by decide +kernel, rfl, by decide +kernel, by decide +kernel⟩
theorem ok__law_all_stairs {P : Program} {w : World} {K : PySem.W.Frag} {mg : Str → Option Value} {base : Heap} (T : Txt P K mg) : FnG P w K mg base (L2.CX P w) 1 T.a__law_all_stairs T.d__law_all_stairs ["total"] (fnSp (gx T) m__law_all_stairs) := by
  refine fn_okG (N := ["total", "done", "begun", "k", "following", "made", "left", "top", "part"]) T.F__law_all_stairs sc__law_all_stairs rfl fun cdv A outer s H E hr => ?_
  have hu := hr.1.units
  exact (s_cons (s_new (i := 1) sc__law_all_stairs.nd (by rfl) (by first | exact Or.inl rfl | exact Or.inr rfl) (q_lst qa_nil))
    (s_cons (s_asg (i := 2) sc__law_all_stairs.nd (by rfl) (by first | exact Or.inl rfl | exact Or.inr rfl) (q_lst (qa_cons (q_tup (qa_cons (q_tup qa_nil) (qa_cons (q_var 0) qa_nil))) qa_nil)))
    (s_cons (s_for (by exact L2.passes_of rfl) (by rfl) (it_range1 (by rfl) T.z_range (qa_cons (q_op op_addA lk_add (q_var 0) q_int) qa_nil)) (tg_name (i := 3) sc__law_all_stairs.nd (by rfl) (by first | exact Or.inl rfl | exact Or.inr rfl)) (ss_frz (s_cons (s_new (i := 4) sc__law_all_stairs.nd (by rfl) (by first | exact Or.inl rfl | exact Or.inr rfl) (q_lst qa_nil))
    (s_cons (s_for (by exact L2.passes_of rfl) (by rfl) (it_val (q_var 2) (by rfl)) (tg_tup (by rfl) (tgs_cons (tg_name (i := 5) sc__law_all_stairs.nd (by rfl) (by first | exact Or.inl rfl | exact Or.inr rfl)) (tgs_cons (tg_name (i := 6) sc__law_all_stairs.nd (by rfl) (by first | exact Or.inl rfl | exact Or.inr rfl)) tgs_nil)) (by rfl)) (s_one (s_if (q_cmpT (op_eq.or (op_eqD hu)) lk_eq (q_var 6) q_int) (s_one (s_methE PySem.F.slot_list_append PySem.F.type_list_append mt_append lm_append (q_var 1) (qa_cons (q_var 5) qa_nil) (by rfl))) (s_cons (s_asg (i := 7) sc__law_all_stairs.nd (by rfl) (by first | exact Or.inl rfl | exact Or.inr rfl) (q_var 6))
    (s_cons (s_if (q_cmpT op_gt lk_cmp (q_callB call_len lk_len (by rfl) T.z_len (by decide +kernel) (qa_cons (q_var 5) qa_nil)) q_int) (s_one (s_asg (i := 7) sc__law_all_stairs.nd (by rfl) (by first | exact Or.inl rfl | exact Or.inr rfl) (q_callB (call_min2 (by rfl)) lk_min2 (by rfl) T.z_min (by decide +kernel) (qa_cons (q_var 6) (qa_cons (q_ix (q_var 5) (q_neg q_int) (by rfl)) qa_nil))))) s_nil)
    (s_one (s_for (by exact L2.passes_of rfl) (by rfl) (it_range2 (by rfl) T.z_range (qa_cons q_int (qa_cons (q_op op_addA lk_add (q_var 7) q_int) qa_nil))) (tg_name (i := 8) sc__law_all_stairs.nd (by rfl) (by first | exact Or.inl rfl | exact Or.inr rfl)) (s_one (s_methE PySem.F.slot_list_append PySem.F.type_list_append mt_append lm_append (q_var 4) (qa_cons (q_tup (qa_cons (q_op op_addA lk_add (q_var 5) (q_tup (qa_cons (q_var 8) qa_nil))) (qa_cons (q_op op_sub lk_sub (q_var 6) (q_var 8)) qa_nil))) qa_nil) (by rfl))))))))))
    (s_one (s_asg (i := 2) sc__law_all_stairs.nd (by rfl) (by first | exact Or.inl rfl | exact Or.inr rfl) (q_var 4)))))))
    (s_one (s_ret (q_var 1))))))
theorem sc__law_turned : FnScope ["stair", "j", "part"] ["stair"] (defScope (topS 21)) := ⟨rfl, rfl, rfl, by decide +kernel, rfl, by decide +kernel, by decide +kernel⟩
theorem ok__law_turned {P : Program} {w : World} {K : PySem.W.Frag} {mg : Str → Option Value} {base : Heap} (T : Txt P K mg) : FnG P w K mg base (L2.CX P w) 1 T.a__law_turned T.d__law_turned ["stair"] (fnSp (gx T) m__law_turned) := by
  refine fn_okG (N := ["stair", "j", "part"]) T.F__law_turned sc__law_turned rfl fun cdv A outer s H E hr => ?_
  have hu := hr.1.units
  exact (s_one (s_ret (q_callTy call_tuple_of lk_tuple (by rfl) T.z_tuple (by decide +kernel) (qa_cons (q_comp (by rfl) sc__law_turned.nd (it_range1 (by rfl) T.z_range (qa_cons (q_callB (cr_sumA (by rfl)) lk_sum (by rfl) T.z_sum (by decide +kernel) (qa_cons (q_slH (q_var 0) q_int (by rfl)) qa_nil)) qa_nil)) (blkOk_by (own := [("j", 1)]) (by kernel_rfl)) (by decide) (fun _ _ _ _ _ => (tg_name (i := 1) sc__law_turned.nd (by rfl) (by first | exact Or.inl rfl | exact Or.inr rfl))) (fun _ _ _ _ _ => qt_nil) (fun _ _ _ _ _ => (q_callB call_len lk_len (by rfl) T.z_len (by decide +kernel) (qa_cons (q_comp (by rfl) sc__law_turned.nd (it_val (q_var 0) (by rfl)) (blkOk_by (own := [("part", 2)]) (by kernel_rfl)) (by decide) (fun _ _ _ _ _ => (tg_name (i := 2) sc__law_turned.nd (by rfl) (by first | exact Or.inl rfl | exact Or.inr rfl))) (fun _ _ _ _ _ => (qt_one (q_cmpT op_gt lk_cmp (q_var 2) (q_var 1)))) (fun _ _ _ _ _ => (q_var 2))) qa_nil)))) qa_nil))))
theorem sc__law_moved : FnScope ["stair", "i", "k", "parts", "row"] ["stair", "i", "k"] (defScope (topS 22)) := ⟨rfl, rfl, rfl, by decide +kernel, rfl, by decide +kernel, by decide +kernel⟩
theorem ok__law_moved {P : Program} {w : World} {K : PySem.W.Frag} {mg : Str → Option Value} {base : Heap} (T : Txt P K mg) : FnG P w K mg base (L2.CX P w) 1 T.a__law_moved T.d__law_moved ["stair", "i", "k"] (fnSp (gx T) m__law_moved) := by
  refine fn_okG (N := ["stair", "i", "k", "parts", "row"]) T.F__law_moved sc__law_moved rfl fun cdv A outer s H E hr => ?_
  have hu := hr.1.units
  exact (s_cons (s_new (i := 3) sc__law_moved.nd (by rfl) (by first | exact Or.inl rfl | exact Or.inr rfl) (q_op op_addA lk_add (q_callTy call_list_of lk_list (by rfl) T.z_list (by decide +kernel) (qa_cons (q_var 0) qa_nil)) (q_lst (qa_cons q_int qa_nil))))
    (s_cons (s_sub (q_op op_sub lk_sub (q_ix (q_var 3) (q_var 1) (by rfl)) q_int) (q_var 3) (q_var 1))
    (s_cons (s_sub (q_op op_addA lk_add (q_ix (q_var 3) (q_var 2) (by rfl)) q_int) (q_var 3) (q_var 2))
    (s_cons (s_for (by exact L2.passes_of rfl) (by rfl) (it_range1 (by rfl) T.z_range (qa_cons (q_op op_sub lk_sub (q_callB call_len lk_len (by rfl) T.z_len (by decide +kernel) (qa_cons (q_var 3) qa_nil)) q_int) qa_nil)) (tg_name (i := 4) sc__law_moved.nd (by rfl) (by first | exact Or.inl rfl | exact Or.inr rfl)) (s_one (s_if (q_cmpT op_lt lk_cmp (q_ix (q_var 3) (q_var 4) (by rfl)) (q_ix (q_var 3) (q_op op_addA lk_add (q_var 4) q_int) (by rfl))) (s_one (s_ret q_non)) s_nil)))
    (s_cons (s_if (q_cmpT (op_eq.or (op_eqD hu)) lk_eq (q_ix (q_var 3) (q_neg q_int) (by rfl)) q_int) (s_one (s_methE0 PySem.F.slot_list_pop PySem.F.type_list_pop mt_pop lm_pop (q_var 3) (by rfl))) s_nil)
    (s_cons (s_if (w_and (q_cmpT op_gt lk_cmp (q_callB call_len lk_len (by rfl) T.z_len (by decide +kernel) (qa_cons (q_var 3) qa_nil)) q_int) (w_and1 (q_cmpT (op_eq.or (op_eqD hu)) lk_eq (q_ix (q_var 3) (q_neg q_int) (by rfl)) q_int))).pt (s_one (s_methE0 PySem.F.slot_list_pop PySem.F.type_list_pop mt_pop lm_pop (q_var 3) (by rfl))) s_nil)
    (s_one (s_ret (q_callTy call_tuple_of lk_tuple (by rfl) T.z_tuple (by decide +kernel) (qa_cons (q_var 3) qa_nil))))))))))
theorem sc__law_led_to : FnScope ["stair", "count", "met", "fresh", "turn", "following", "high", "i", "k", "low"] ["stair", "count"] (defScope (topS 23)) := ⟨rfl, rfl, rfl, by decide +kernel, rfl, by decide +kernel, by decide +kernel⟩
theorem ok__law_led_to {P : Program} {w : World} {K : PySem.W.Frag} {mg : Str → Option Value} {base : Heap} (T : Txt P K mg) : FnG P w K mg base (L2.CX P w) 2 T.a__law_led_to T.d__law_led_to ["stair", "count"] (fnSp (gx T) m__law_led_to) := by
  have C__law_moved := ok__law_moved (w := w) (base := base) T
  refine fn_okG (N := ["stair", "count", "met", "fresh", "turn", "following", "high", "i", "k", "low"]) T.F__law_led_to sc__law_led_to rfl fun cdv A outer s H E hr => ?_
  have hu := hr.1.units
  exact (s_cons (s_new (i := 2) sc__law_led_to.nd (by rfl) (by first | exact Or.inl rfl | exact Or.inr rfl) (q_dctT (unit1 hu) (q_var 0) q_bl))
    (s_cons (s_asg (i := 3) sc__law_led_to.nd (by rfl) (by first | exact Or.inl rfl | exact Or.inr rfl) (q_lst (qa_cons (q_var 0) qa_nil)))
    (s_cons (s_for (by exact L2.passes_of rfl) (by rfl) (it_range1 (by rfl) T.z_range (qa_cons (q_var 1) qa_nil)) (tg_name (i := 4) sc__law_led_to.nd (by rfl) (by first | exact Or.inl rfl | exact Or.inr rfl)) (ss_frz (s_cons (s_new (i := 5) sc__law_led_to.nd (by rfl) (by first | exact Or.inl rfl | exact Or.inr rfl) (q_lst qa_nil))
    (s_cons (s_for (by exact L2.passes_of rfl) (by rfl) (it_val (q_var 3) (by rfl)) (tg_name (i := 6) sc__law_led_to.nd (by rfl) (by first | exact Or.inl rfl | exact Or.inr rfl)) (s_one (s_for (by exact L2.passes_of rfl) (by rfl) (it_range1 (by rfl) T.z_range (qa_cons (q_callB call_len lk_len (by rfl) T.z_len (by decide +kernel) (qa_cons (q_var 6) qa_nil)) qa_nil)) (tg_name (i := 7) sc__law_led_to.nd (by rfl) (by first | exact Or.inl rfl | exact Or.inr rfl)) (s_one (s_for (by exact L2.passes_of rfl) (by rfl) (it_range2 (by rfl) T.z_range (qa_cons (q_op op_addA lk_add (q_var 7) q_int) (qa_cons (q_op op_addA lk_add (q_callB call_len lk_len (by rfl) T.z_len (by decide +kernel) (qa_cons (q_var 6) qa_nil)) q_int) qa_nil))) (tg_name (i := 8) sc__law_led_to.nd (by rfl) (by first | exact Or.inl rfl | exact Or.inr rfl)) (s_cons (s_asg (i := 9) sc__law_led_to.nd (by rfl) (by first | exact Or.inl rfl | exact Or.inr rfl) (q_call (C__law_moved) (by exact hr.mono (by decide)) (by rfl) T.g__law_moved T.F__law_moved.kp T.b__law_moved (by exact takes_of rfl rfl rfl rfl) (qa_cons (q_var 6) (qa_cons (q_var 7) (qa_cons (q_var 8) qa_nil)))))
    (s_one (s_if (w_and (q_cmpT op_isnotA lk_isnot (q_var 9) q_non) (w_and1 (q_ninT (pc_nin (unit1 hu) (q_var 9) (q_var 2))))).pt (s_cons (s_dput (unit1 hu) q_bl (q_var 2) (q_var 9))
    (s_one (s_methE PySem.F.slot_list_append PySem.F.type_list_append mt_append lm_append (q_var 5) (qa_cons (q_var 9) qa_nil) (by rfl)))) s_nil))))))))
    (s_one (s_asg (i := 3) sc__law_led_to.nd (by rfl) (by first | exact Or.inl rfl | exact Or.inr rfl) (q_var 5)))))))
    (s_one (s_ret (q_var 2))))))
theorem sc__law_is_step : FnScope ["before", "behind", "part", "i", "k"] ["before", "behind"] (defScope (topS 24)) := ⟨rfl, rfl, rfl, by decide +kernel, rfl, by decide +kernel, by decide +kernel⟩
theorem ok__law_is_step {P : Program} {w : World} {K : PySem.W.Frag} {mg : Str → Option Value} {base : Heap} (T : Txt P K mg) : FnG P w K mg base (L2.CX P w) 2 T.a__law_is_step T.d__law_is_step ["before", "behind"] (fnSp (gx T) m__law_is_step) := by
  have C__law_moved := ok__law_moved (w := w) (base := base) T
  refine fn_okG (N := ["before", "behind", "part", "i", "k"]) T.F__law_is_step sc__law_is_step rfl fun cdv A outer s H E hr => ?_
  have hu := hr.1.units
  exact (s_cons (s_if (q_notT (q_tru (q_isi (by rfl) T.z_isinstance (by rfl) (q_var 1) (pcl (by rfl) T.z_tuple (by decide +kernel))) (by rfl))) (s_one (s_ret q_bl)) s_nil)
    (s_cons (s_for (by exact L2.passes_of rfl) (by rfl) (it_val (q_var 1) (by rfl)) (tg_name (i := 2) sc__law_is_step.nd (by rfl) (by first | exact Or.inl rfl | exact Or.inr rfl)) (s_one (s_if (w_or (q_notT (q_tru (q_isi (by rfl) T.z_isinstance (by rfl) (q_var 2) (pcl (by rfl) T.z_int (by decide +kernel))) (by rfl))) (w_or1 (q_tru (q_isi (by rfl) T.z_isinstance (by rfl) (q_var 2) (pcl (by rfl) T.z_bool (by decide +kernel))) (by rfl)))).pt (s_one (s_ret q_bl)) s_nil)))
    (s_cons (s_for (by exact L2.passes_of rfl) (by rfl) (it_range1 (by rfl) T.z_range (qa_cons (q_callB call_len lk_len (by rfl) T.z_len (by decide +kernel) (qa_cons (q_var 0) qa_nil)) qa_nil)) (tg_name (i := 3) sc__law_is_step.nd (by rfl) (by first | exact Or.inl rfl | exact Or.inr rfl)) (s_one (s_for (by exact L2.passes_of rfl) (by rfl) (it_range2 (by rfl) T.z_range (qa_cons (q_op op_addA lk_add (q_var 3) q_int) (qa_cons (q_op op_addA lk_add (q_callB call_len lk_len (by rfl) T.z_len (by decide +kernel) (qa_cons (q_var 0) qa_nil)) q_int) qa_nil))) (tg_name (i := 4) sc__law_is_step.nd (by rfl) (by first | exact Or.inl rfl | exact Or.inr rfl)) (s_one (s_if (q_cmpT (op_eq.or (op_eqD hu)) lk_eq (q_call (C__law_moved) (by exact hr.mono (by decide)) (by rfl) T.g__law_moved T.F__law_moved.kp T.b__law_moved (by exact takes_of rfl rfl rfl rfl) (qa_cons (q_var 0) (qa_cons (q_var 3) (qa_cons (q_var 4) qa_nil)))) (q_var 1)) (s_one (s_ret q_bl)) s_nil)))))
    (s_one (s_ret q_bl)))))
theorem sc__law_is_chain : FnScope ["steps", "high", "low", "part", "k"] ["steps", "high", "low"] (defScope (topS 25)) := ⟨rfl, rfl, rfl, by decide +kernel, rfl, by decide +kernel, by decide +kernel⟩
theorem ok__law_is_chain {P : Program} {w : World} {K : PySem.W.Frag} {mg : Str → Option Value} {base : Heap} (T : Txt P K mg) : FnG P w K mg base (L2.CX P w) 3 T.a__law_is_chain T.d__law_is_chain ["steps", "high", "low"] (fnSp (gx T) m__law_is_chain) := by
  have C__law_is_step := ok__law_is_step (w := w) (base := base) T
  refine fn_okG (N := ["steps", "high", "low", "part", "k"]) T.F__law_is_chain sc__law_is_chain rfl fun cdv A outer s H E hr => ?_
  have hu := hr.1.units
  exact (s_cons (s_if (w_or (q_notT (q_tru (q_isi (by rfl) T.z_isinstance (by rfl) (q_var 0) (pcl (by rfl) T.z_tuple (by decide +kernel))) (by rfl))) (w_or (q_cmpT (op_eq.or (op_eqD hu)) lk_eq (q_callB call_len lk_len (by rfl) T.z_len (by decide +kernel) (qa_cons (q_var 0) qa_nil)) q_int) (w_or (q_cmpT op_gt lk_cmp (q_callB call_len lk_len (by rfl) T.z_len (by decide +kernel) (qa_cons (q_var 0) qa_nil)) q_int) (w_or (q_cmpT (op_ne.or (op_neD hu)) lk_ne (q_ix (q_var 0) q_int (by rfl)) (q_var 1)) (w_or1 (q_cmpT (op_ne.or (op_neD hu)) lk_ne (q_ix (q_var 0) (q_neg q_int) (by rfl)) (q_var 2))))))).pt (s_one (s_ret q_bl)) s_nil)
    (s_cons (s_for (by exact L2.passes_of rfl) (by rfl) (it_val (q_ix (q_var 0) q_int (by rfl)) (by rfl)) (tg_name (i := 3) sc__law_is_chain.nd (by rfl) (by first | exact Or.inl rfl | exact Or.inr rfl)) (s_one (s_if (w_or (q_tru (q_isi (by rfl) T.z_isinstance (by rfl) (q_var 3) (pcl (by rfl) T.z_bool (by decide +kernel))) (by rfl)) (w_or1 (q_notT (q_tru (q_isi (by rfl) T.z_isinstance (by rfl) (q_var 3) (pcl (by rfl) T.z_int (by decide +kernel))) (by rfl))))).pt (s_one (s_ret q_bl)) s_nil)))
    (s_cons (s_for (by exact L2.passes_of rfl) (by rfl) (it_range2 (by rfl) T.z_range (qa_cons q_int (qa_cons (q_callB call_len lk_len (by rfl) T.z_len (by decide +kernel) (qa_cons (q_var 0) qa_nil)) qa_nil))) (tg_name (i := 4) sc__law_is_chain.nd (by rfl) (by first | exact Or.inl rfl | exact Or.inr rfl)) (s_one (s_if (q_notT (q_tru (q_call (C__law_is_step) (by exact hr.mono (by decide)) (by rfl) T.g__law_is_step T.F__law_is_step.kp T.b__law_is_step (by exact takes_of rfl rfl rfl rfl) (qa_cons (q_ix (q_var 0) (q_op op_sub lk_sub (q_var 4) q_int) (by rfl)) (qa_cons (q_ix (q_var 0) (q_var 4) (by rfl)) qa_nil))) (by rfl))) (s_one (s_ret q_bl)) s_nil)))
    (s_one (s_ret q_bl)))))
theorem sc_law : FnScope ["script", "total", "stairs", "high", "met", "shift", "low", "due", "least", "told", "steps", "m"] ["script"] (defScope (topS 26)) := ⟨rfl, rfl, rfl, by decide +kernel, rfl, by decide +kernel, by decide +kernel⟩
theorem ok_law {P : Program} {w : World} {K : PySem.W.Frag} {mg : Str → Option Value} {base : Heap} (T : Txt P K mg) : FnG P w K mg base (L2.CX P w) 9 T.a_law T.d_law ["script"] (fnSp (gx T) m_law) := by
  have C__law_all_stairs := ok__law_all_stairs (w := w) (base := base) T
  have C__law_cell := ok__law_cell (w := w) (base := base) T
  have C__law_is_chain := ok__law_is_chain (w := w) (base := base) T
  have C__law_led_to := ok__law_led_to (w := w) (base := base) T
  have C__law_turned := ok__law_turned (w := w) (base := base) T
  have C_breach := ok_breach (w := w) (base := base) T
  have C_is_above := ok_is_above (w := w) (base := base) T
  have C_steps_down := ok_steps_down (w := w) (base := base) T
  refine fn_okG (N := ["script", "total", "stairs", "high", "met", "shift", "low", "due", "least", "told", "steps", "m"]) T.F_law sc_law rfl fun cdv A outer s H E hr => ?_
  have hu := hr.1.units
  exact (s_cons (s_asg (i := 1) sc_law.nd (by rfl) (by first | exact Or.inl rfl | exact Or.inr rfl) (q_op op_mod lk_mod (q_call (C__law_cell) (by exact hr.mono (by decide)) (by rfl) T.g__law_cell T.F__law_cell.kp T.b__law_cell (by exact takes_of rfl rfl rfl rfl) (qa_cons (q_var 0) (qa_cons q_int qa_nil))) q_int))
    (s_cons (s_asg (i := 2) sc_law.nd (by rfl) (by first | exact Or.inl rfl | exact Or.inr rfl) (q_call (C__law_all_stairs) (by exact hr.mono (by decide)) (by rfl) T.g__law_all_stairs T.F__law_all_stairs.kp T.b__law_all_stairs (by exact takes_of rfl rfl rfl rfl) (qa_cons (q_var 1) qa_nil)))
    (s_cons (s_asg (i := 3) sc_law.nd (by rfl) (by first | exact Or.inl rfl | exact Or.inr rfl) (q_ix (q_var 2) (q_op op_mod lk_mod (q_call (C__law_cell) (by exact hr.mono (by decide)) (by rfl) T.g__law_cell T.F__law_cell.kp T.b__law_cell (by exact takes_of rfl rfl rfl rfl) (qa_cons (q_var 0) (qa_cons q_int qa_nil))) (q_callB call_len lk_len (by rfl) T.z_len (by decide +kernel) (qa_cons (q_var 2) qa_nil))) (by rfl)))
    (s_cons (s_asg (i := 4) sc_law.nd (by rfl) (by first | exact Or.inl rfl | exact Or.inr rfl) (q_call (C__law_led_to) (by exact hr.mono (by decide)) (by rfl) T.g__law_led_to T.F__law_led_to.kp T.b__law_led_to (by exact takes_of rfl rfl rfl rfl) (qa_cons (q_var 3) (qa_cons (q_callB call_len lk_len (by rfl) T.z_len (by decide +kernel) (qa_cons (q_var 2) qa_nil)) qa_nil))))
    (s_cons (s_asg (i := 5) sc_law.nd (by rfl) (by first | exact Or.inl rfl | exact Or.inr rfl) (q_op op_mod lk_mod (q_call (C__law_cell) (by exact hr.mono (by decide)) (by rfl) T.g__law_cell T.F__law_cell.kp T.b__law_cell (by exact takes_of rfl rfl rfl rfl) (qa_cons (q_var 0) (qa_cons q_int qa_nil))) (q_callB call_len lk_len (by rfl) T.z_len (by decide +kernel) (qa_cons (q_var 2) qa_nil))))
    (s_cons (s_for (by exact L2.passes_of rfl) (by rfl) (it_val (q_op op_addA lk_add (q_slL (q_var 2) (q_var 5) (by rfl)) (q_slH (q_var 2) (q_var 5) (by rfl))) (by rfl)) (tg_name (i := 6) sc_law.nd (by rfl) (by first | exact Or.inl rfl | exact Or.inr rfl)) (s_cons (s_asg (i := 7) sc_law.nd (by rfl) (by first | exact Or.inl rfl | exact Or.inr rfl) (q_in (pc_in (unit1 hu) (q_var 6) (q_var 4))))
    (s_cons (s_asgLc (i := 8) (by rfl) sc_law.nd (by rfl) (by rfl) (by exact sw_true rfl rfl rfl (by decide +kernel)) (it_range1 (by rfl) T.z_range (qa_cons (q_op op_addA lk_add (q_var 1) q_int) qa_nil)) (blkOk_by (own := [("m", 11)]) (by kernel_rfl)) (by decide) (fun _ _ _ _ _ => (tg_name (i := 11) sc_law.nd (by rfl) (by first | exact Or.inl rfl | exact Or.inr rfl))) (fun _ _ _ _ _ => (qt_one (q_cmpT op_lt lk_cmp (q_callB (cr_sumA (by rfl)) lk_sum (by rfl) T.z_sum (by decide +kernel) (qa_cons (q_slH (q_var 3) (q_var 11) (by rfl)) qa_nil)) (q_callB (cr_sumA (by rfl)) lk_sum (by rfl) T.z_sum (by decide +kernel) (qa_cons (q_slH (q_var 6) (q_var 11) (by rfl)) qa_nil))))) (fun _ _ _ _ _ => (q_var 11)))
    (s_cons (s_if (q_cmpT (op_ne.or (op_neD hu)) lk_ne (q_var 7) (q_cmp (op_eq.or (op_eqD hu)) lk_eq (q_callB call_len lk_len (by rfl) T.z_len (by decide +kernel) (qa_cons (q_var 8) qa_nil)) q_int)) (s_one (s_ret q_bl)) s_nil)
    (s_cons (s_asg (i := 9) sc_law.nd (by rfl) (by first | exact Or.inl rfl | exact Or.inr rfl) (q_call (C_is_above) (by exact hr.mono (by decide)) (by rfl) T.g_is_above T.F_is_above.kp T.b_is_above (by exact takes_of rfl rfl rfl rfl) (qa_cons (q_var 3) (qa_cons (q_var 6) qa_nil))))
    (s_cons (s_if (w_or (q_notT (q_tru (q_isi (by rfl) T.z_isinstance (by rfl) (q_var 9) (pcl (by rfl) T.z_bool (by decide +kernel))) (by rfl))) (w_or1 (q_cmpT (op_ne.or (op_neD hu)) lk_ne (q_var 9) (q_var 7)))).pt (s_one (s_ret q_bl)) s_nil)
    (s_cons (s_asg (i := 9) sc_law.nd (by rfl) (by first | exact Or.inl rfl | exact Or.inr rfl) (q_callKw [1, 0] (C_is_above) (by exact hr.mono (by decide)) (by rfl) T.g_is_above T.F_is_above.kp (bindsKw (ps := ["one", "other"]) (ks := ["other", "one"]) (ix := [1, 0]) T.F_is_above fun _ _ _ _ _ _ us hl => match us, hl with | [_, _], _ => by first | rfl | kernel_rfl) (by exact takes_of rfl rfl rfl rfl) (qk_cons (q_call (C__law_turned) (by exact hr.mono (by decide)) (by rfl) T.g__law_turned T.F__law_turned.kp T.b__law_turned (by exact takes_of rfl rfl rfl rfl) (qa_cons (q_var 3) qa_nil)) (qk_cons (q_call (C__law_turned) (by exact hr.mono (by decide)) (by rfl) T.g__law_turned T.F__law_turned.kp T.b__law_turned (by exact takes_of rfl rfl rfl rfl) (qa_cons (q_var 6) qa_nil)) qk_nil))))
    (s_cons (s_if (w_or (q_notT (q_tru (q_isi (by rfl) T.z_isinstance (by rfl) (q_var 9) (pcl (by rfl) T.z_bool (by decide +kernel))) (by rfl))) (w_or1 (q_cmpT (op_ne.or (op_neD hu)) lk_ne (q_var 9) (q_var 7)))).pt (s_one (s_ret q_bl)) s_nil)
    (s_cons (s_asg (i := 9) sc_law.nd (by rfl) (by first | exact Or.inl rfl | exact Or.inr rfl) (q_call (C_breach) (by exact hr.mono (by decide)) (by rfl) T.g_breach T.F_breach.kp T.b_breach (by exact takes_of rfl rfl rfl rfl) (qa_cons (q_var 3) (qa_cons (q_var 6) qa_nil))))
    (s_cons (s_if (w_and (q_tru (q_var 7) (by rfl)) (w_and1 (q_cmpT op_isnotA lk_isnot (q_var 9) q_non))).pt (s_one (s_ret q_bl)) s_nil)
    (s_cons (s_if (w_and (q_notT (q_tru (q_var 7) (by rfl))) (w_and1 (w_or (q_notT (q_tru (q_isi (by rfl) T.z_isinstance (by rfl) (q_var 9) (pcl (by rfl) T.z_int (by decide +kernel))) (by rfl))) (w_or (q_tru (q_isi (by rfl) T.z_isinstance (by rfl) (q_var 9) (pcl (by rfl) T.z_bool (by decide +kernel))) (by rfl)) (w_or1 (q_cmpT (op_ne.or (op_neD hu)) lk_ne (q_var 9) (q_ix (q_var 8) q_int (by rfl)))))).pt)).pt (s_one (s_ret q_bl)) s_nil)
    (s_cons (s_asg (i := 10) sc_law.nd (by rfl) (by first | exact Or.inl rfl | exact Or.inr rfl) (q_call (C_steps_down) (by exact hr.mono (by decide)) (by rfl) T.g_steps_down T.F_steps_down.kp T.b_steps_down (by exact takes_of rfl rfl rfl rfl) (qa_cons (q_var 3) (qa_cons (q_var 6) qa_nil))))
    (s_cons (s_if (w_and (q_notT (q_tru (q_var 7) (by rfl))) (w_and1 (q_cmpT op_isnotA lk_isnot (q_var 10) q_non))).pt (s_one (s_ret q_bl)) s_nil)
    (s_one (s_if (w_and (q_tru (q_var 7) (by rfl)) (w_and1 (q_notT (q_tru (q_call (C__law_is_chain) (by exact hr.mono (by decide)) (by rfl) T.g__law_is_chain T.F__law_is_chain.kp T.b__law_is_chain (by exact takes_of rfl rfl rfl rfl) (qa_cons (q_var 10) (qa_cons (q_var 3) (qa_cons (q_var 6) qa_nil)))) (by rfl))))).pt (s_one (s_ret q_bl)) s_nil)))))))))))))))
    (s_one (s_ret q_bl))))))))
theorem all_mk {w : World} {K : PySem.W.Frag} {h : Heap} {mg : Str → Option Value} {fa : Addr} (X : K.In h) (G : h.Ns mainGlobals mg) (hfa : mg "law" = some (.ref fa))
    {f0 : Addr} {od0 an0 : Option Addr} {sl0 : Array (Option Value)} {oc0 kV0 dc0 pm0 cd0 ct0 : Value}
    (a0 : PySem.W.nsIn K mainGlobals "is_integer" = some (some (.ref f0))) (l0 : K.lookup f0 = some ⟨oc0, od0, .func (PySem.W.fnOf "is_integer" "is_integer" (defArgs (topS 1)) (defBody (topS 1)) (defScope (topS 1)) .none kV0 dc0 pm0 an0 cd0 ct0), sl0⟩) (c0 : PySem.W.codeIn K cd0 "is_integer" = true) (k0 : PySem.W.keepIn K (.ref f0) = true)
    {f1 : Addr} {od1 an1 : Option Addr} {sl1 : Array (Option Value)} {oc1 kV1 dc1 pm1 cd1 ct1 : Value}
    (a1 : PySem.W.nsIn K mainGlobals "is_positive" = some (some (.ref f1))) (l1 : K.lookup f1 = some ⟨oc1, od1, .func (PySem.W.fnOf "is_positive" "is_positive" (defArgs (topS 2)) (defBody (topS 2)) (defScope (topS 2)) .none kV1 dc1 pm1 an1 cd1 ct1), sl1⟩) (c1 : PySem.W.codeIn K cd1 "is_positive" = true) (k1 : PySem.W.keepIn K (.ref f1) = true)
    {f2 : Addr} {od2 an2 : Option Addr} {sl2 : Array (Option Value)} {oc2 kV2 dc2 pm2 cd2 ct2 : Value}
    (a2 : PySem.W.nsIn K mainGlobals "strip" = some (some (.ref f2))) (l2 : K.lookup f2 = some ⟨oc2, od2, .func (PySem.W.fnOf "strip" "strip" (defArgs (topS 3)) (defBody (topS 3)) (defScope (topS 3)) .none kV2 dc2 pm2 an2 cd2 ct2), sl2⟩) (c2 : PySem.W.codeIn K cd2 "strip" = true) (k2 : PySem.W.keepIn K (.ref f2) = true)
    {f3 : Addr} {od3 an3 : Option Addr} {sl3 : Array (Option Value)} {oc3 kV3 dc3 pm3 cd3 ct3 : Value}
    (a3 : PySem.W.nsIn K mainGlobals "row_of" = some (some (.ref f3))) (l3 : K.lookup f3 = some ⟨oc3, od3, .func (PySem.W.fnOf "row_of" "row_of" (defArgs (topS 4)) (defBody (topS 4)) (defScope (topS 4)) .none kV3 dc3 pm3 an3 cd3 ct3), sl3⟩) (c3 : PySem.W.codeIn K cd3 "row_of" = true) (k3 : PySem.W.keepIn K (.ref f3) = true)
    {f4 : Addr} {od4 an4 : Option Addr} {sl4 : Array (Option Value)} {oc4 kV4 dc4 pm4 cd4 ct4 : Value}
    (a4 : PySem.W.nsIn K mainGlobals "is_stair" = some (some (.ref f4))) (l4 : K.lookup f4 = some ⟨oc4, od4, .func (PySem.W.fnOf "is_stair" "is_stair" (defArgs (topS 10)) (defBody (topS 10)) (defScope (topS 10)) .none kV4 dc4 pm4 an4 cd4 ct4), sl4⟩) (c4 : PySem.W.codeIn K cd4 "is_stair" = true) (k4 : PySem.W.keepIn K (.ref f4) = true)
    {f5 : Addr} {od5 an5 : Option Addr} {sl5 : Array (Option Value)} {oc5 kV5 dc5 pm5 cd5 ct5 : Value}
    (a5 : PySem.W.nsIn K mainGlobals "need_stair" = some (some (.ref f5))) (l5 : K.lookup f5 = some ⟨oc5, od5, .func (PySem.W.fnOf "need_stair" "need_stair" (defArgs (topS 11)) (defBody (topS 11)) (defScope (topS 11)) .none kV5 dc5 pm5 an5 cd5 ct5), sl5⟩) (c5 : PySem.W.codeIn K cd5 "need_stair" = true) (k5 : PySem.W.keepIn K (.ref f5) = true)
    {f6 : Addr} {od6 an6 : Option Addr} {sl6 : Array (Option Value)} {oc6 kV6 dc6 pm6 cd6 ct6 : Value}
    (a6 : PySem.W.nsIn K mainGlobals "_need_equal_sizes" = some (some (.ref f6))) (l6 : K.lookup f6 = some ⟨oc6, od6, .func (PySem.W.fnOf "_need_equal_sizes" "_need_equal_sizes" (defArgs (topS 13)) (defBody (topS 13)) (defScope (topS 13)) .none kV6 dc6 pm6 an6 cd6 ct6), sl6⟩) (c6 : PySem.W.codeIn K cd6 "_need_equal_sizes" = true) (k6 : PySem.W.keepIn K (.ref f6) = true)
    {f7 : Addr} {od7 an7 : Option Addr} {sl7 : Array (Option Value)} {oc7 kV7 dc7 pm7 cd7 ct7 : Value}
    (a7 : PySem.W.nsIn K mainGlobals "breach" = some (some (.ref f7))) (l7 : K.lookup f7 = some ⟨oc7, od7, .func (PySem.W.fnOf "breach" "breach" (defArgs (topS 14)) (defBody (topS 14)) (defScope (topS 14)) .none kV7 dc7 pm7 an7 cd7 ct7), sl7⟩) (c7 : PySem.W.codeIn K cd7 "breach" = true) (k7 : PySem.W.keepIn K (.ref f7) = true)
    {f8 : Addr} {od8 an8 : Option Addr} {sl8 : Array (Option Value)} {oc8 kV8 dc8 pm8 cd8 ct8 : Value}
    (a8 : PySem.W.nsIn K mainGlobals "is_above" = some (some (.ref f8))) (l8 : K.lookup f8 = some ⟨oc8, od8, .func (PySem.W.fnOf "is_above" "is_above" (defArgs (topS 15)) (defBody (topS 15)) (defScope (topS 15)) .none kV8 dc8 pm8 an8 cd8 ct8), sl8⟩) (c8 : PySem.W.codeIn K cd8 "is_above" = true) (k8 : PySem.W.keepIn K (.ref f8) = true)
    {f9 : Addr} {od9 an9 : Option Addr} {sl9 : Array (Option Value)} {oc9 kV9 dc9 pm9 cd9 ct9 : Value}
    (a9 : PySem.W.nsIn K mainGlobals "_step" = some (some (.ref f9))) (l9 : K.lookup f9 = some ⟨oc9, od9, .func (PySem.W.fnOf "_step" "_step" (defArgs (topS 16)) (defBody (topS 16)) (defScope (topS 16)) .none kV9 dc9 pm9 an9 cd9 ct9), sl9⟩) (c9 : PySem.W.codeIn K cd9 "_step" = true) (k9 : PySem.W.keepIn K (.ref f9) = true)
    {f10 : Addr} {od10 an10 : Option Addr} {sl10 : Array (Option Value)} {oc10 kV10 dc10 pm10 cd10 ct10 : Value}
    (a10 : PySem.W.nsIn K mainGlobals "steps_down" = some (some (.ref f10))) (l10 : K.lookup f10 = some ⟨oc10, od10, .func (PySem.W.fnOf "steps_down" "steps_down" (defArgs (topS 17)) (defBody (topS 17)) (defScope (topS 17)) .none kV10 dc10 pm10 an10 cd10 ct10), sl10⟩) (c10 : PySem.W.codeIn K cd10 "steps_down" = true) (k10 : PySem.W.keepIn K (.ref f10) = true)
    {f11 : Addr} {od11 an11 : Option Addr} {sl11 : Array (Option Value)} {oc11 kV11 dc11 pm11 cd11 ct11 : Value}
    (a11 : PySem.W.nsIn K mainGlobals "_law_cell" = some (some (.ref f11))) (l11 : K.lookup f11 = some ⟨oc11, od11, .func (PySem.W.fnOf "_law_cell" "_law_cell" (defArgs (topS 19)) (defBody (topS 19)) (defScope (topS 19)) .none kV11 dc11 pm11 an11 cd11 ct11), sl11⟩) (c11 : PySem.W.codeIn K cd11 "_law_cell" = true) (k11 : PySem.W.keepIn K (.ref f11) = true)
    {f12 : Addr} {od12 an12 : Option Addr} {sl12 : Array (Option Value)} {oc12 kV12 dc12 pm12 cd12 ct12 : Value}
    (a12 : PySem.W.nsIn K mainGlobals "_law_all_stairs" = some (some (.ref f12))) (l12 : K.lookup f12 = some ⟨oc12, od12, .func (PySem.W.fnOf "_law_all_stairs" "_law_all_stairs" (defArgs (topS 20)) (defBody (topS 20)) (defScope (topS 20)) .none kV12 dc12 pm12 an12 cd12 ct12), sl12⟩) (c12 : PySem.W.codeIn K cd12 "_law_all_stairs" = true) (k12 : PySem.W.keepIn K (.ref f12) = true)
    {f13 : Addr} {od13 an13 : Option Addr} {sl13 : Array (Option Value)} {oc13 kV13 dc13 pm13 cd13 ct13 : Value}
    (a13 : PySem.W.nsIn K mainGlobals "_law_turned" = some (some (.ref f13))) (l13 : K.lookup f13 = some ⟨oc13, od13, .func (PySem.W.fnOf "_law_turned" "_law_turned" (defArgs (topS 21)) (defBody (topS 21)) (defScope (topS 21)) .none kV13 dc13 pm13 an13 cd13 ct13), sl13⟩) (c13 : PySem.W.codeIn K cd13 "_law_turned" = true) (k13 : PySem.W.keepIn K (.ref f13) = true)
    {f14 : Addr} {od14 an14 : Option Addr} {sl14 : Array (Option Value)} {oc14 kV14 dc14 pm14 cd14 ct14 : Value}
    (a14 : PySem.W.nsIn K mainGlobals "_law_moved" = some (some (.ref f14))) (l14 : K.lookup f14 = some ⟨oc14, od14, .func (PySem.W.fnOf "_law_moved" "_law_moved" (defArgs (topS 22)) (defBody (topS 22)) (defScope (topS 22)) .none kV14 dc14 pm14 an14 cd14 ct14), sl14⟩) (c14 : PySem.W.codeIn K cd14 "_law_moved" = true) (k14 : PySem.W.keepIn K (.ref f14) = true)
    {f15 : Addr} {od15 an15 : Option Addr} {sl15 : Array (Option Value)} {oc15 kV15 dc15 pm15 cd15 ct15 : Value}
    (a15 : PySem.W.nsIn K mainGlobals "_law_led_to" = some (some (.ref f15))) (l15 : K.lookup f15 = some ⟨oc15, od15, .func (PySem.W.fnOf "_law_led_to" "_law_led_to" (defArgs (topS 23)) (defBody (topS 23)) (defScope (topS 23)) .none kV15 dc15 pm15 an15 cd15 ct15), sl15⟩) (c15 : PySem.W.codeIn K cd15 "_law_led_to" = true) (k15 : PySem.W.keepIn K (.ref f15) = true)
    {f16 : Addr} {od16 an16 : Option Addr} {sl16 : Array (Option Value)} {oc16 kV16 dc16 pm16 cd16 ct16 : Value}
    (a16 : PySem.W.nsIn K mainGlobals "_law_is_step" = some (some (.ref f16))) (l16 : K.lookup f16 = some ⟨oc16, od16, .func (PySem.W.fnOf "_law_is_step" "_law_is_step" (defArgs (topS 24)) (defBody (topS 24)) (defScope (topS 24)) .none kV16 dc16 pm16 an16 cd16 ct16), sl16⟩) (c16 : PySem.W.codeIn K cd16 "_law_is_step" = true) (k16 : PySem.W.keepIn K (.ref f16) = true)
    {f17 : Addr} {od17 an17 : Option Addr} {sl17 : Array (Option Value)} {oc17 kV17 dc17 pm17 cd17 ct17 : Value}
    (a17 : PySem.W.nsIn K mainGlobals "_law_is_chain" = some (some (.ref f17))) (l17 : K.lookup f17 = some ⟨oc17, od17, .func (PySem.W.fnOf "_law_is_chain" "_law_is_chain" (defArgs (topS 25)) (defBody (topS 25)) (defScope (topS 25)) .none kV17 dc17 pm17 an17 cd17 ct17), sl17⟩) (c17 : PySem.W.codeIn K cd17 "_law_is_chain" = true) (k17 : PySem.W.keepIn K (.ref f17) = true)
    {f18 : Addr} {od18 an18 : Option Addr} {sl18 : Array (Option Value)} {oc18 kV18 dc18 pm18 cd18 ct18 : Value}
    (a18 : PySem.W.nsIn K mainGlobals "law" = some (some (.ref f18))) (l18 : K.lookup f18 = some ⟨oc18, od18, .func (PySem.W.fnOf "law" "law" (defArgs (topS 26)) (defBody (topS 26)) (defScope (topS 26)) .none kV18 dc18 pm18 an18 cd18 ct18), sl18⟩) (c18 : PySem.W.codeIn K cd18 "law" = true) (k18 : PySem.W.keepIn K (.ref f18) = true)
    (z_bool : PySem.W.nsIn K mainGlobals "bool" = some none)
    (z_enumerate : PySem.W.nsIn K mainGlobals "enumerate" = some none)
    (z_int : PySem.W.nsIn K mainGlobals "int" = some none)
    (z_isinstance : PySem.W.nsIn K mainGlobals "isinstance" = some none)
    (z_len : PySem.W.nsIn K mainGlobals "len" = some none)
    (z_list : PySem.W.nsIn K mainGlobals "list" = some none)
    (z_max : PySem.W.nsIn K mainGlobals "max" = some none)
    (z_min : PySem.W.nsIn K mainGlobals "min" = some none)
    (z_range : PySem.W.nsIn K mainGlobals "range" = some none)
    (z_sum : PySem.W.nsIn K mainGlobals "sum" = some none)
    (z_super : PySem.W.nsIn K mainGlobals "super" = some none)
    (z_tuple : PySem.W.nsIn K mainGlobals "tuple" = some none)
    {C_InvalidStair : Addr} (g_InvalidStair : PySem.W.nsIn K mainGlobals "InvalidStair" = some (some (.ref C_InvalidStair)))
    {C_Undefined : Addr} (g_Undefined : PySem.W.nsIn K mainGlobals "Undefined" = some (some (.ref C_Undefined)))
    {I_InvalidStair : Addr} (X_InvalidStair : XSup K PySem.Challenge.rw_hornstairs_k04_above_by_single_boxes.prog C_InvalidStair I_InvalidStair "value" "value") (k_InvalidStair : XcK K C_InvalidStair)
    {I_Undefined : Addr} (X_Undefined : XSup K PySem.Challenge.rw_hornstairs_k04_above_by_single_boxes.prog C_Undefined I_Undefined "what" "what") (k_Undefined : XcK K C_Undefined)
    : ∃ (fd : FuncData) (g : GX), g.K = K ∧ (∀ (s : Shared) (v : Value), BindsTo s fd ⟨[v], []⟩ [("script", v)]) ∧ ∀ base : Heap, K.In base → base.Ns mainGlobals mg → FnG PySem.Challenge.rw_hornstairs_k04_above_by_single_boxes.prog w K mg base (L2.CX PySem.Challenge.rw_hornstairs_k04_above_by_single_boxes.prog w) 9 fa fd ["script"] (fnSp g m_law) := by
  have e := hfa.symm.trans (PySem.W.mg_of X G a18)
  cases e
  have F0 := fun_mk (st := topS 1) l0 c0 k0
  have F1 := fun_mk (st := topS 2) l1 c1 k1
  have F2 := fun_mk (st := topS 3) l2 c2 k2
  have F3 := fun_mk (st := topS 4) l3 c3 k3
  have F4 := fun_mk (st := topS 10) l4 c4 k4
  have F5 := fun_mk (st := topS 11) l5 c5 k5
  have F6 := fun_mk (st := topS 13) l6 c6 k6
  have F7 := fun_mk (st := topS 14) l7 c7 k7
  have F8 := fun_mk (st := topS 15) l8 c8 k8
  have F9 := fun_mk (st := topS 16) l9 c9 k9
  have F10 := fun_mk (st := topS 17) l10 c10 k10
  have F11 := fun_mk (st := topS 19) l11 c11 k11
  have F12 := fun_mk (st := topS 20) l12 c12 k12
  have F13 := fun_mk (st := topS 21) l13 c13 k13
  have F14 := fun_mk (st := topS 22) l14 c14 k14
  have F15 := fun_mk (st := topS 23) l15 c15 k15
  have F16 := fun_mk (st := topS 24) l16 c16 k16
  have F17 := fun_mk (st := topS 25) l17 c17 k17
  have F18 := fun_mk (st := topS 26) l18 c18 k18
  let T : Txt PySem.Challenge.rw_hornstairs_k04_above_by_single_boxes.prog K mg := {
    C_InvalidStair := C_InvalidStair, g_InvalidStair := PySem.W.mg_of X G g_InvalidStair,
    C_Undefined := C_Undefined, g_Undefined := PySem.W.mg_of X G g_Undefined,
    I_InvalidStair := I_InvalidStair, X_InvalidStair := X_InvalidStair, k_InvalidStair := k_InvalidStair,
    I_Undefined := I_Undefined, X_Undefined := X_Undefined, k_Undefined := k_Undefined,
    a_is_integer := _, d_is_integer := _, F_is_integer := F0, g_is_integer := PySem.W.mg_of X G a0, b_is_integer := F0.binds (ps := ["value"]) fun _ _ _ _ _ _ us hl => (match us, hl with | [_], _ => rfl),
    a_is_positive := _, d_is_positive := _, F_is_positive := F1, g_is_positive := PySem.W.mg_of X G a1, b_is_positive := F1.binds (ps := ["value"]) fun _ _ _ _ _ _ us hl => (match us, hl with | [_], _ => rfl),
    a_strip := _, d_strip := _, F_strip := F2, g_strip := PySem.W.mg_of X G a2, b_strip := F2.binds (ps := ["numbers"]) fun _ _ _ _ _ _ us hl => (match us, hl with | [_], _ => rfl),
    a_row_of := _, d_row_of := _, F_row_of := F3, g_row_of := PySem.W.mg_of X G a3, b_row_of := F3.binds (ps := ["stair", "i"]) fun _ _ _ _ _ _ us hl => (match us, hl with | [_, _], _ => rfl),
    a_is_stair := _, d_is_stair := _, F_is_stair := F4, g_is_stair := PySem.W.mg_of X G a4, b_is_stair := F4.binds (ps := ["value"]) fun _ _ _ _ _ _ us hl => (match us, hl with | [_], _ => rfl),
    a_need_stair := _, d_need_stair := _, F_need_stair := F5, g_need_stair := PySem.W.mg_of X G a5, b_need_stair := F5.binds (ps := ["value"]) fun _ _ _ _ _ _ us hl => (match us, hl with | [_], _ => rfl),
    a__need_equal_sizes := _, d__need_equal_sizes := _, F__need_equal_sizes := F6, g__need_equal_sizes := PySem.W.mg_of X G a6, b__need_equal_sizes := F6.binds (ps := ["one", "other"]) fun _ _ _ _ _ _ us hl => (match us, hl with | [_, _], _ => rfl),
    a_breach := _, d_breach := _, F_breach := F7, g_breach := PySem.W.mg_of X G a7, b_breach := F7.binds (ps := ["one", "other"]) fun _ _ _ _ _ _ us hl => (match us, hl with | [_, _], _ => rfl),
    a_is_above := _, d_is_above := _, F_is_above := F8, g_is_above := PySem.W.mg_of X G a8, b_is_above := F8.binds (ps := ["one", "other"]) fun _ _ _ _ _ _ us hl => (match us, hl with | [_, _], _ => rfl),
    a__step := _, d__step := _, F__step := F9, g__step := PySem.W.mg_of X G a9, b__step := F9.binds (ps := ["rows", "goal"]) fun _ _ _ _ _ _ us hl => (match us, hl with | [_, _], _ => rfl),
    a_steps_down := _, d_steps_down := _, F_steps_down := F10, g_steps_down := PySem.W.mg_of X G a10, b_steps_down := F10.binds (ps := ["one", "other"]) fun _ _ _ _ _ _ us hl => (match us, hl with | [_, _], _ => rfl),
    a__law_cell := _, d__law_cell := _, F__law_cell := F11, g__law_cell := PySem.W.mg_of X G a11, b__law_cell := F11.binds (ps := ["script", "k"]) fun _ _ _ _ _ _ us hl => (match us, hl with | [_, _], _ => rfl),
    a__law_all_stairs := _, d__law_all_stairs := _, F__law_all_stairs := F12, g__law_all_stairs := PySem.W.mg_of X G a12, b__law_all_stairs := F12.binds (ps := ["total"]) fun _ _ _ _ _ _ us hl => (match us, hl with | [_], _ => rfl),
    a__law_turned := _, d__law_turned := _, F__law_turned := F13, g__law_turned := PySem.W.mg_of X G a13, b__law_turned := F13.binds (ps := ["stair"]) fun _ _ _ _ _ _ us hl => (match us, hl with | [_], _ => rfl),
    a__law_moved := _, d__law_moved := _, F__law_moved := F14, g__law_moved := PySem.W.mg_of X G a14, b__law_moved := F14.binds (ps := ["stair", "i", "k"]) fun _ _ _ _ _ _ us hl => (match us, hl with | [_, _, _], _ => rfl),
    a__law_led_to := _, d__law_led_to := _, F__law_led_to := F15, g__law_led_to := PySem.W.mg_of X G a15, b__law_led_to := F15.binds (ps := ["stair", "count"]) fun _ _ _ _ _ _ us hl => (match us, hl with | [_, _], _ => rfl),
    a__law_is_step := _, d__law_is_step := _, F__law_is_step := F16, g__law_is_step := PySem.W.mg_of X G a16, b__law_is_step := F16.binds (ps := ["before", "behind"]) fun _ _ _ _ _ _ us hl => (match us, hl with | [_, _], _ => rfl),
    a__law_is_chain := _, d__law_is_chain := _, F__law_is_chain := F17, g__law_is_chain := PySem.W.mg_of X G a17, b__law_is_chain := F17.binds (ps := ["steps", "high", "low"]) fun _ _ _ _ _ _ us hl => (match us, hl with | [_, _, _], _ => rfl),
    a_law := _, d_law := _, F_law := F18, g_law := PySem.W.mg_of X G a18, b_law := F18.binds (ps := ["script"]) fun _ _ _ _ _ _ us hl => (match us, hl with | [_], _ => rfl),
    z_bool := PySem.W.mg_none_of X G z_bool,
    z_enumerate := PySem.W.mg_none_of X G z_enumerate,
    z_int := PySem.W.mg_none_of X G z_int,
    z_isinstance := PySem.W.mg_none_of X G z_isinstance,
    z_len := PySem.W.mg_none_of X G z_len,
    z_list := PySem.W.mg_none_of X G z_list,
    z_max := PySem.W.mg_none_of X G z_max,
    z_min := PySem.W.mg_none_of X G z_min,
    z_range := PySem.W.mg_none_of X G z_range,
    z_sum := PySem.W.mg_none_of X G z_sum,
    z_super := PySem.W.mg_none_of X G z_super,
    z_tuple := PySem.W.mg_none_of X G z_tuple }
  exact ⟨T.d_law, gx T, rfl, fun s v => .of_eq rfl, fun base _ _ => ok_law (w := w) (base := base) T⟩
end K04

set_option maxRecDepth 100000
open PySem PySem.W PyProof.Rows
set_option maxHeartbeats 0 in
theorem PySem.Challenge.cw_hornstairs_k04_above_by_single_boxes_holds : PySem.Challenge.rw_hornstairs_k04_above_by_single_boxes.Holds := by
  w_on; o_law; k_head; (case hw => w_witness2)
  k_fill
  refine HC.walk_hx (l := PySem.Challenge.rw_hornstairs_k04_above_by_single_boxes) (n := 63) (k := 9) (x := "script") (m := K04.m_law) rfl (by decide) rfl ⟨⟨rfl, by decide, by decide⟩, rfl⟩ (fun w h Y => PySem.W.kIn_of Y) ?F K04.law_true (fun _ _ _ _ _ h => HC.no_cx h)
  case F =>
    intro w mg fa h KX G hmg
    refine' K04.all_mk KX G hmg ?a0 ?l0 ?c0 ?k0 ?a1 ?l1 ?c1 ?k1 ?a2 ?l2 ?c2 ?k2 ?a3 ?l3 ?c3 ?k3 ?a4 ?l4 ?c4 ?k4 ?a5 ?l5 ?c5 ?k5 ?a6 ?l6 ?c6 ?k6 ?a7 ?l7 ?c7 ?k7 ?a8 ?l8 ?c8 ?k8 ?a9 ?l9 ?c9 ?k9 ?a10 ?l10 ?c10 ?k10 ?a11 ?l11 ?c11 ?k11 ?a12 ?l12 ?c12 ?k12 ?a13 ?l13 ?c13 ?k13 ?a14 ?l14 ?c14 ?k14 ?a15 ?l15 ?c15 ?k15 ?a16 ?l16 ?c16 ?k16 ?a17 ?l17 ?c17 ?k17 ?a18 ?l18 ?c18 ?k18 ?z_bool ?z_enumerate ?z_int ?z_isinstance ?z_len ?z_list ?z_max ?z_min ?z_range ?z_sum ?z_super ?z_tuple ?g_InvalidStair ?g_Undefined ?X_InvalidStair ?k_InvalidStair ?X_Undefined ?k_Undefined
    (case a0 => k_is); (case l0 => k_is); (case c0 => k_is); (case k0 => k_is)
    (case a1 => k_is); (case l1 => k_is); (case c1 => k_is); (case k1 => k_is)
    (case a2 => k_is); (case l2 => k_is); (case c2 => k_is); (case k2 => k_is)
    (case a3 => k_is); (case l3 => k_is); (case c3 => k_is); (case k3 => k_is)
    (case a4 => k_is); (case l4 => k_is); (case c4 => k_is); (case k4 => k_is)
    (case a5 => k_is); (case l5 => k_is); (case c5 => k_is); (case k5 => k_is)
    (case a6 => k_is); (case l6 => k_is); (case c6 => k_is); (case k6 => k_is)
    (case a7 => k_is); (case l7 => k_is); (case c7 => k_is); (case k7 => k_is)
    (case a8 => k_is); (case l8 => k_is); (case c8 => k_is); (case k8 => k_is)
    (case a9 => k_is); (case l9 => k_is); (case c9 => k_is); (case k9 => k_is)
    (case a10 => k_is); (case l10 => k_is); (case c10 => k_is); (case k10 => k_is)
    (case a11 => k_is); (case l11 => k_is); (case c11 => k_is); (case k11 => k_is)
    (case a12 => k_is); (case l12 => k_is); (case c12 => k_is); (case k12 => k_is)
    (case a13 => k_is); (case l13 => k_is); (case c13 => k_is); (case k13 => k_is)
    (case a14 => k_is); (case l14 => k_is); (case c14 => k_is); (case k14 => k_is)
    (case a15 => k_is); (case l15 => k_is); (case c15 => k_is); (case k15 => k_is)
    (case a16 => k_is); (case l16 => k_is); (case c16 => k_is); (case k16 => k_is)
    (case a17 => k_is); (case l17 => k_is); (case c17 => k_is); (case k17 => k_is)
    (case a18 => k_is); (case l18 => k_is); (case c18 => k_is); (case k18 => k_is)
    (case z_bool => k_is); (case z_enumerate => k_is); (case z_int => k_is); (case z_isinstance => k_is)
    (case z_len => k_is); (case z_list => k_is); (case z_max => k_is); (case z_min => k_is)
    (case z_range => k_is); (case z_sum => k_is); (case z_super => k_is); (case z_tuple => k_is)
    (case g_InvalidStair => k_is); (case g_Undefined => k_is)
    case X_InvalidStair =>
      refine' HC.xsup_of ?lf ?hC ?hbm ?hcd ?hcode ?hvs ?hfile ?hcell ?hsub ?hB ?hsup ?ho ?sa ?exC ?tyC ?kC ?iC ?tI ?noA ?hks ?hkc ?hka ?hkp ?hk ?hco ?hgen ?hce ?hp ?ha0 ?hps ?hdp ?hev ?hsw1 ?hsw2 ?htop ?bind
      case iC => k_is
      case lf => k_is
      case hC => k_is
      case hbm => first | rfl | decide
      case hcd => k_is
      case hcode => k_is
      case hvs => rfl
      case hfile => first | rfl | decide +kernel
      case hcell => k_is
      case hsub => k_is
      case hB => k_is
      case hsup => ks_is
      case ho => k_is
      case sa => k_is
      case exC => k_is
      case tyC => k_is
      case kC => k_is
      case tI => k_is
      case noA => k_is
      case hks => rfl
      case hkc => rfl
      case hka => rfl
      case hkp => rfl
      case hk => rfl
      case hco => rfl
      case hgen => rfl
      case hce => decide
      case hp => rfl
      case ha0 => rfl
      case hps => decide
      case hdp => decide
      case hev => exact fun _ => rfl
      case hsw1 => exact fun _ => rfl
      case hsw2 => exact fun _ => rfl
      case htop => first | rfl | decide +kernel
      case bind => exact fun _ _ _ => .of_eq rfl
    case k_InvalidStair => exact ⟨by k_is, by k_is, by k_is, by k_is, by k_is, by k_is, by k_is, by k_is⟩
    case X_Undefined =>
      refine' HC.xsup_of ?lf ?hC ?hbm ?hcd ?hcode ?hvs ?hfile ?hcell ?hsub ?hB ?hsup ?ho ?sa ?exC ?tyC ?kC ?iC ?tI ?noA ?hks ?hkc ?hka ?hkp ?hk ?hco ?hgen ?hce ?hp ?ha0 ?hps ?hdp ?hev ?hsw1 ?hsw2 ?htop ?bind
      case iC => k_is
      case lf => k_is
      case hC => k_is
      case hbm => first | rfl | decide
      case hcd => k_is
      case hcode => k_is
      case hvs => rfl
      case hfile => first | rfl | decide +kernel
      case hcell => k_is
      case hsub => k_is
      case hB => k_is
      case hsup => ks_is
      case ho => k_is
      case sa => k_is
      case exC => k_is
      case tyC => k_is
      case kC => k_is
      case tI => k_is
      case noA => k_is
      case hks => rfl
      case hkc => rfl
      case hka => rfl
      case hkp => rfl
      case hk => rfl
      case hco => rfl
      case hgen => rfl
      case hce => decide
      case hp => rfl
      case ha0 => rfl
      case hps => decide
      case hdp => decide
      case hev => exact fun _ => rfl
      case hsw1 => exact fun _ => rfl
      case hsw2 => exact fun _ => rfl
      case htop => first | rfl | decide +kernel
      case bind => exact fun _ _ _ => .of_eq rfl
    case k_Undefined => exact ⟨by k_is, by k_is, by k_is, by k_is, by k_is, by k_is, by k_is, by k_is⟩
