import PyProof.Rows.All
import Wide.All
import OpenK.AllK
import Wide.FinOn
import HandS.ForMost
import HandS.Exc
import HandS.CallSlots
import HandS.Defaults
import HandS.Wide
import HandS.TupAny
import HandS.IsInst
import HandS.FStr
import HandS.RaiseMore
import HandS.MakeKw
import HandS.ClsMeth
import HandS.Property
import HandS.TryMany
import HandS.Comp
import HandS.Style
import KE.KExcSuper
import KE.KExcMake
import KE.KSuper
import HandS.ExcInit
import HandS.ExcField
import HandS.ExcIs
import KE.KIsAll
import KE.KTryMore
import KE.KCallOwn
import OpenK.KOps
import KE.KStateDown
import HandS.Ends
import HandS.Words
import HandS.WordsExc
import HandS.Head0
import HandS.Head1
import HandS.Head2
import HandS.HeadEnd
import HandS.HeadHook1
import HandS.HeadHook2
import HandS.Text
import HandS.TupLe
import HandS.Deep
import PyProof.ListStr
import HandS.Conv
import HandS.SlotsOwn
import HandS.Iter
import KE.GoesEnum
import KE.GoesEnumKw
import HandS.TupMul
import PyProof.ReprRoads
import PyProof.EqKinds
import HandS.OwnEq
import HandS.Star
import HandS.TryOnly
import HandS.Strs
import KE.KUnpackStar
import KE.KFmtOwn
import KE.IntTextLaws
import PyProof.ReprLen
import HandS.Codes
import PySem.Challenge.RW_wayround_k07_web_texts
set_option Elab.async false
set_option linter.all false
set_option maxRecDepth 100000
set_option maxHeartbeats 4000000
/-! Fw0: Python data as Lean data, the mutable cells apart, what a def computes as a Lean function; all relations to the hand layer's heap. -/
namespace Fw
open PySem L2

/-- immutable data -/
inductive D where
  | non | bl (b : Bool) | int (i : Int) | str (x : Str)
  | tup (ds : List D) | lst (ds : List D) | frz (ds : List D)
  | obj (c : Nat) (ds : List D)
  | dic (ks vs : List D) | dit (ks vs : List D)
  | fn (n : Nat) | ty (n : String)
/-- what a name holds: data, a mutable cell, or (within an except suite) the caught exception -/
inductive S where
  | d (x : D) | loc (n : Nat) | exn (c : Nat) (ds : List D)
inductive Cell where
  | lst (ds : List D)
  | ins (c : Nat) (fs : List (Str × D))
  | dead
def keyD : Key → D
  | .inl i => .int i
  | .inr x => .str x
abbrev Ms := List Cell
abbrev Env := List (Option S)
inductive R (α : Type) where
  | ok (a : α) (ms : Ms)
  | ex (c : Nat) (ds : List D) (ms : Ms)
  | bad
/-- a statement's end -/
inductive T where
  | nx (e : Env) (ms : Ms)
  | rt (s : S) (ms : Ms)
  | bk (e : Env) (ms : Ms)
  | ct (e : Env) (ms : Ms)
  | ex (c : Nat) (ds : List D) (e : Env) (ms : Ms)
  | bad
def R.bind {α β : Type} (r : R α) (f : α → Ms → R β) : R β := match r with
  | .ok a ms => f a ms
  | .ex c ds ms => .ex c ds ms
  | .bad => .bad
def R.post {α : Type} (r : R α) (P : α → Ms → Prop) (E : Nat → List D → Ms → Prop) : Prop := match r with
  | .ok a ms => P a ms
  | .ex c ds ms => E c ds ms
  | .bad => False
def T.post (t : T) (N : Env → Ms → Prop) (Rt : S → Ms → Prop) (B C : Env → Ms → Prop) (E : Nat → List D → Env → Ms → Prop) : Prop := match t with
  | .nx e ms => N e ms
  | .rt s ms => Rt s ms
  | .bk e ms => B e ms
  | .ct e ms => C e ms
  | .ex c ds e ms => E c ds e ms
  | .bad => False
theorem R.post_bind {α β : Type} {r : R α} {f : α → Ms → R β} {P : β → Ms → Prop} {E : Nat → List D → Ms → Prop} (h : (r.bind f).post P E) : r.post (fun a ms => (f a ms).post P E) E := by
  cases r with
  | ok a ms => exact h
  | ex c ds ms => exact h
  | bad => exact h
theorem R.post_mono {α : Type} {r : R α} {P P' : α → Ms → Prop} {E E' : Nat → List D → Ms → Prop} (h : r.post P E) (hp : ∀ a ms, P a ms → P' a ms) (he : ∀ c ds ms, E c ds ms → E' c ds ms) : r.post P' E' := by
  cases r with
  | ok a ms => exact hp _ _ h
  | ex c ds ms => exact he _ _ _ h
  | bad => exact h
theorem T.post_mono {t : T} {N N' : Env → Ms → Prop} {Rt Rt' : S → Ms → Prop} {B B' C C' : Env → Ms → Prop} {E E' : Nat → List D → Env → Ms → Prop} (h : t.post N Rt B C E)
    (hN : ∀ e ms, N e ms → N' e ms) (hR : ∀ s ms, Rt s ms → Rt' s ms) (hB : ∀ e ms, B e ms → B' e ms) (hC : ∀ e ms, C e ms → C' e ms) (hE : ∀ c ds e ms, E c ds e ms → E' c ds e ms) : t.post N' Rt' B' C' E' := by
  cases t with
  | nx e ms => exact hN _ _ h
  | rt s ms => exact hR _ _ h
  | bk e ms => exact hB _ _ h
  | ct e ms => exact hC _ _ h
  | ex c ds e ms => exact hE _ _ _ _ h
  | bad => exact h

/-- the static part: the classes' addresses, their attributes in order, the defs' addresses -/
structure G where
  cls : Nat → Addr
  fld : Nat → List Str
  fn : Nat → Addr
/-- frozen heap, protected heap (it stands, nobody may write it), cells' addresses -/
structure Wd where
  F : Hp
  P : Hp
  mu : List Addr
structure Ext (w w' : Wd) : Prop where
  F : ∀ a o, w.F a = some o → w'.F a = some o
  mu : ∀ (n : Nat) a, w.mu[n]? = some a → w'.mu[n]? = some a
  P : w'.P = w.P
theorem Ext.refl (w : Wd) : Ext w w := ⟨fun _ _ h => h, fun _ _ h => h, rfl⟩
theorem Ext.trans {a b c : Wd} (x : Ext a b) (y : Ext b c) : Ext a c := ⟨fun p o h => y.F p o (x.F p o h), fun n p h => y.mu n p (x.mu n p h), y.P.trans x.P⟩

mutual
def DR (K : PySem.W.Frag) (Γ : G) (F : Hp) : D → V → Prop
  | .non, v => v = .non
  | .bl b, v => v = .bl b
  | .int i, v => v = .int i
  | .str x, v => v = .str x
  | .tup ds, v => ∃ a xs, v = .ref a ∧ SqT K F a xs ∧ DRs K Γ F ds xs
  | .lst ds, v => ∃ a xs, v = .ref a ∧ F a = some (.lst xs) ∧ DRs K Γ F ds xs
  | .frz ds, v => ∃ a xs, v = .ref a ∧ SqL K F a xs ∧ DRs K Γ F ds xs
  | .obj c ds, v => ∃ a dx xs, v = .ref a ∧ F a = some (.ins (Γ.cls c) dx ((Γ.fld c).zip xs)) ∧ (Γ.fld c).length = xs.length ∧ DRs K Γ F ds xs
  | .dic ks vs, v => ∃ a kvs, v = .ref a ∧ F a = some (.dK kvs) ∧ ks = kvs.map (fun p => keyD p.1) ∧ DRs K Γ F vs (kvs.map (·.2))
  | .dit ks vs, v => ∃ a kvs, v = .ref a ∧ F a = some (.dT kvs) ∧ ks = kvs.map (fun p => .tup (p.1.map keyD)) ∧ DRs K Γ F vs (kvs.map (·.2))
  | .fn n, v => v = .ref (Γ.fn n)
  | .ty n, v => v = .ty n
def DRs (K : PySem.W.Frag) (Γ : G) (F : Hp) : List D → List V → Prop
  | [], xs => xs = []
  | d :: ds, xs => ∃ x r, xs = x :: r ∧ DR K Γ F d x ∧ DRs K Γ F ds r
end
theorem sqT_mono {K : PySem.W.Frag} {F F' : Hp} {a : Addr} {xs : List V} (h : SqT K F a xs) (e : ∀ a o, F a = some o → F' a = some o) : SqT K F' a xs := by
  rcases h with (h | ⟨o, h⟩) | h
  · exact .inl (.inl (e _ _ h))
  · exact .inl (.inr ⟨o, e _ _ h⟩)
  · exact .inr h
theorem sqL_mono {K : PySem.W.Frag} {F F' : Hp} {a : Addr} {xs : List V} (h : SqL K F a xs) (e : ∀ a o, F a = some o → F' a = some o) : SqL K F' a xs := by
  rcases h with (h | ⟨o, h⟩) | h
  · exact .inl (.inl (e _ _ h))
  · exact .inl (.inr ⟨o, e _ _ h⟩)
  · exact .inr h
mutual
theorem DR.mono {K : PySem.W.Frag} {Γ : G} {F F' : Hp} (e : ∀ a o, F a = some o → F' a = some o) : ∀ (d : D) (v : V), DR K Γ F d v → DR K Γ F' d v
  | .non, v, h => h
  | .bl b, v, h => h
  | .int i, v, h => h
  | .str x, v, h => h
  | .tup ds, v, h => by
    simp only [DR] at h ⊢
    obtain ⟨a, xs, h1, h2, h3⟩ := h
    exact ⟨a, xs, h1, sqT_mono h2 e, DRs.mono e ds xs h3⟩
  | .lst ds, v, h => by
    simp only [DR] at h ⊢
    obtain ⟨a, xs, h1, h2, h3⟩ := h
    exact ⟨a, xs, h1, e _ _ h2, DRs.mono e ds xs h3⟩
  | .frz ds, v, h => by
    simp only [DR] at h ⊢
    obtain ⟨a, xs, h1, h2, h3⟩ := h
    exact ⟨a, xs, h1, sqL_mono h2 e, DRs.mono e ds xs h3⟩
  | .obj c ds, v, h => by
    simp only [DR] at h ⊢
    obtain ⟨a, dx, xs, h1, h2, h4, h3⟩ := h
    exact ⟨a, dx, xs, h1, e _ _ h2, h4, DRs.mono e ds xs h3⟩
  | .dic ks vs, v, h => by
    simp only [DR] at h ⊢
    obtain ⟨a, kvs, h1, h2, h4, h3⟩ := h
    exact ⟨a, kvs, h1, e _ _ h2, h4, DRs.mono e vs _ h3⟩
  | .dit ks vs, v, h => by
    simp only [DR] at h ⊢
    obtain ⟨a, kvs, h1, h2, h4, h3⟩ := h
    exact ⟨a, kvs, h1, e _ _ h2, h4, DRs.mono e vs _ h3⟩
  | .fn n, v, h => h
  | .ty n, v, h => h
theorem DRs.mono {K : PySem.W.Frag} {Γ : G} {F F' : Hp} (e : ∀ a o, F a = some o → F' a = some o) : ∀ (ds : List D) (xs : List V), DRs K Γ F ds xs → DRs K Γ F' ds xs
  | [], xs, h => h
  | d :: ds, xs, h => by
    simp only [DRs] at h ⊢
    obtain ⟨x, r, h1, h2, h3⟩ := h
    exact ⟨x, r, h1, DR.mono e d x h2, DRs.mono e ds r h3⟩
end
end Fw
set_option Elab.async false
set_option linter.all false
set_option maxRecDepth 100000
set_option maxHeartbeats 4000000
/-! Fw1: the relations to the heap, the judgements, expressions. -/
namespace Fw
open PySem L2

structure Cy where
  X : Cx
  Γ : G
  W : WX
  ea : Addr
  ed : Option Addr
  ec : Value

def XD (K : PySem.W.Frag) (Γ : G) (F : Hp) (c : Nat) (ds : List D) (dd : Option Addr) : Prop :=
  (Γ.fld c = [] ∧ ds = [] ∧ dd = none) ∨ ∃ d xs, dd = some d ∧ F d = some (.xd ((Γ.fld c).zip xs)) ∧ (Γ.fld c).length = xs.length ∧ DRs K Γ F ds xs
theorem XD.mono {K : PySem.W.Frag} {Γ : G} {F F' : Hp} {c : Nat} {ds : List D} {dd : Option Addr} (h : XD K Γ F c ds dd) (e : ∀ a o, F a = some o → F' a = some o) : XD K Γ F' c ds dd := by
  rcases h with h | ⟨d, xs, h1, h2, h3, h4⟩
  · exact .inl h
  · exact .inr ⟨d, xs, h1, e _ _ h2, h3, DRs.mono e ds xs h4⟩

def SR0 (K : PySem.W.Frag) (Γ : G) (w : Wd) : S → V → Prop
  | .d x, v => DR K Γ w.F x v
  | .loc n, v => ∃ a, w.mu[n]? = some a ∧ v = .ref a
  | .exn _ _, _ => False
abbrev SRs0 (K : PySem.W.Frag) (Γ : G) (w : Wd) (ss : List S) (vs : List V) : Prop := Paired (SR0 K Γ w) ss vs
def CR (K : PySem.W.Frag) (Γ : G) (w : Wd) (H : Hp) (a : Addr) : Cell → Prop
  | .lst ds => ∃ xs, H a = some (.lst xs) ∧ DRs K Γ w.F ds xs
  | .ins c fs => ∃ dx xs, H a = some (.ins (Γ.cls c) dx ((fs.map (·.1)).zip xs)) ∧ DRs K Γ w.F (fs.map (·.2)) xs
  | .dead => True
structure HR0 (K : PySem.W.Frag) (Γ : G) (w : Wd) (H : Hp) (ms : Ms) : Prop where
  sub : ∀ a o, w.F a = some o → H a = some o
  prot : ∀ a o, w.P a = some o → H a = some o
  dis : ∀ a o, w.P a = some o → w.F a = none
  len : w.mu.length = ms.length
  inj : ∀ (i j : Nat) a c c', w.mu[i]? = some a → w.mu[j]? = some a → ms[i]? = some c → ms[j]? = some c' → c ≠ .dead → c' ≠ .dead → i = j
  sep : ∀ (n : Nat) a c, w.mu[n]? = some a → ms[n]? = some c → c ≠ .dead → w.F a = none ∧ w.P a = none
  cel : ∀ (n : Nat) a c, w.mu[n]? = some a → ms[n]? = some c → CR K Γ w H a c
abbrev HR (Y : Cy) (w : Wd) (H : Hp) (ms : Ms) : Prop := HR0 Y.X.K Y.Γ w H ms
section
variable (Y : Cy)
def SR (w : Wd) : S → V → Prop
  | .d x, v => DR Y.X.K Y.Γ w.F x v
  | .loc n, v => ∃ a, w.mu[n]? = some a ∧ v = .ref a
  | .exn c ds, v => (v = .ref Y.ea ∧ Y.ec = .ref (Y.Γ.cls c)) ∧ XD Y.X.K Y.Γ w.F c ds Y.ed
def SRs (w : Wd) (ss : List S) (vs : List V) : Prop := Paired (SR Y w) ss vs
structure ER (w : Wd) (σ : St) (env : Env) : Prop where
  len : σ.length = env.length
  slot : ∀ (i : Nat) s, env[i]? = some (some s) → ∃ v, σ[i]? = some (some v) ∧ SR Y w s v
end

section
variable {Y : Cy} {w w1 w2 : Wd} {σ : St} {H H1 H2 : Hp} {env : Env} {ms ms1 ms2 : Ms}
theorem SR.mono (e : Ext w w1) {s : S} {v : V} (h : SR Y w s v) : SR Y w1 s v := by
  cases s with
  | d x => exact DR.mono e.F x v h
  | loc n => obtain ⟨a, h1, h2⟩ := h; exact ⟨a, e.mu n a h1, h2⟩
  | exn c ds => exact ⟨h.1, h.2.mono e.F⟩
theorem SRs.mono (e : Ext w w1) {ss : List S} {vs : List V} (h : SRs Y w ss vs) : SRs Y w1 ss vs := Paired.mapP h fun _ _ q => q.mono e
theorem SR0.mono {K : PySem.W.Frag} {Γ : G} (e : Ext w w1) {s : S} {v : V} (h : SR0 K Γ w s v) : SR0 K Γ w1 s v := by
  cases s with
  | d x => exact DR.mono e.F x v h
  | loc n => obtain ⟨a, h1, h2⟩ := h; exact ⟨a, e.mu n a h1, h2⟩
  | exn c ds => exact h.elim
theorem SRs0.mono {K : PySem.W.Frag} {Γ : G} (e : Ext w w1) {ss : List S} {vs : List V} (h : SRs0 K Γ w ss vs) : SRs0 K Γ w1 ss vs := Paired.mapP h fun _ _ q => q.mono e
theorem SR0.up {s : S} {v : V} (h : SR0 Y.X.K Y.Γ w s v) : SR Y w s v := by
  cases s with
  | d x => exact h
  | loc n => exact h
  | exn c ds => exact h.elim
theorem SRs0.up {ss : List S} {vs : List V} (h : SRs0 Y.X.K Y.Γ w ss vs) : SRs Y w ss vs := Paired.mapP h fun _ _ q => q.up
def S.noX : S → Bool
  | .exn _ _ => false
  | _ => true
theorem SR.down {s : S} {v : V} (h : SR Y w s v) (n : s.noX = true) : SR0 Y.X.K Y.Γ w s v := by
  cases s with
  | d x => exact h
  | loc n => exact h
  | exn c ds => cases n
theorem SRs.down : ∀ {ss : List S} {vs : List V}, SRs Y w ss vs → ss.all S.noX = true → SRs0 Y.X.K Y.Γ w ss vs
  | _, _, .nil, _ => .nil
  | s :: r, _, .cons a b, h => by
    rw [List.all_cons, Bool.and_eq_true] at h
    exact .cons (a.down h.1) (SRs.down b h.2)
theorem CR.mono {K : PySem.W.Frag} {Γ : G} (e : Ext w w1) {a : Addr} {c : Cell} (h : CR K Γ w H a c) (hH : ∀ o, H a = some o → H1 a = some o) : CR K Γ w1 H1 a c := by
  cases c with
  | lst ds => obtain ⟨xs, h1, h2⟩ := h; exact ⟨xs, hH _ h1, DRs.mono e.F _ _ h2⟩
  | ins c fs => obtain ⟨dx, xs, h1, h2⟩ := h; exact ⟨dx, xs, hH _ h1, DRs.mono e.F _ _ h2⟩
  | dead => trivial
theorem ER.mono (e : Ext w w1) (h : ER Y w σ env) : ER Y w1 σ env := ⟨h.len, fun i s hs => let ⟨v, h1, h2⟩ := h.slot i s hs; ⟨v, h1, h2.mono e⟩⟩

def okP (Y : Cy) (w : Wd) (Q : VK) : S → Ms → Prop := fun s ms' => ∀ w' H' v, Ext w w' → HR Y w' H' ms' → SR Y w' s v → Q v H'
def exP (Y : Cy) (w : Wd) (σ : St) : Nat → List D → Ms → Prop := fun c ds ms' => ∀ w' H' dd, Ext w w' → HR Y w' H' ms' → XD Y.X.K Y.Γ w'.F c ds dd → Y.W (.ref (Y.Γ.cls c)) dd σ H'
theorem exP.ext (e : Ext w w1) {c : Nat} {ds : List D} (h : exP Y w σ c ds ms) : exP Y w1 σ c ds ms := fun w' H' dd e' => h w' H' dd (e.trans e')

/-- a reading computes what m says -/
def SndE (Y : Cy) (t : TE) (m : Env → Ms → R S) : Prop :=
  ∀ (w : Wd) (σ : St) (H : Hp) (env : Env) (ms : Ms) (Q : VK), ER Y w σ env → HR Y w H ms → (m env ms).post (okP Y w Q) (exP Y w σ) → t σ H Q
structure DE (Y : Cy) (e : Expr) (m : Env → Ms → R S) : Prop where
  ex : ∃ t, PE Y.X e t ∧ SndE Y t m
def SndT (Y : Cy) (t : TT) (m : Env → Ms → R Bool) : Prop :=
  ∀ (w : Wd) (σ : St) (H : Hp) (env : Env) (ms : Ms) (Q : Bool → Hp → Prop), ER Y w σ env → HR Y w H ms → (m env ms).post (fun b ms' => ∀ w' H', Ext w w' → HR Y w' H' ms' → Q b H') (exP Y w σ) → t σ H Q
structure DT (Y : Cy) (e : Expr) (m : Env → Ms → R Bool) : Prop where
  ex : ∃ t, PT Y.X e t ∧ SndT Y t m
structure DW (Y : Cy) (e : Expr) (m : Env → Ms → R Bool) : Prop where
  ex : ∃ t, PW Y.X e t ∧ SndT Y t m
def SndA (Y : Cy) (t : TA) (m : Env → Ms → R (List S)) : Prop :=
  ∀ (w : Wd) (σ : St) (H : Hp) (env : Env) (ms : Ms) (Q : List V → Hp → Prop), ER Y w σ env → HR Y w H ms → (m env ms).post (fun ss ms' => ∀ w' H' vs, Ext w w' → HR Y w' H' ms' → SRs Y w' ss vs → Q vs H') (exP Y w σ) → t σ H Q
structure DA (Y : Cy) (es : List Expr) (m : Env → Ms → R (List S)) : Prop where
  ex : ∃ t, PA Y.X es t ∧ SndA Y t m

/-- on with a value -/
theorem SndE.go {t : TE} {m : Env → Ms → R S} (h : SndE Y t m) {β : Type} {f : S → Ms → R β} {P : β → Ms → Prop} {k : VK} (er : ER Y w σ env) (hr : HR Y w H ms)
    (hp : ((m env ms).bind f).post P (exP Y w σ)) (hk : ∀ s ms1 w1 H1 v, Ext w w1 → ER Y w1 σ env → HR Y w1 H1 ms1 → SR Y w1 s v → (f s ms1).post P (exP Y w1 σ) → k v H1) : t σ H k := by
  refine h w σ H env ms k er hr (R.post_mono (R.post_bind hp) (fun s ms1 q => ?_) fun _ _ _ q => q)
  intro w1 H1 v e1 hr1 sr
  exact hk s ms1 w1 H1 v e1 (er.mono e1) hr1 sr (R.post_mono q (fun _ _ z => z) fun _ _ _ z => z.ext e1)
theorem SndT.go {t : TT} {m : Env → Ms → R Bool} (h : SndT Y t m) {β : Type} {f : Bool → Ms → R β} {P : β → Ms → Prop} {k : Bool → Hp → Prop} (er : ER Y w σ env) (hr : HR Y w H ms)
    (hp : ((m env ms).bind f).post P (exP Y w σ)) (hk : ∀ b ms1 w1 H1, Ext w w1 → ER Y w1 σ env → HR Y w1 H1 ms1 → (f b ms1).post P (exP Y w1 σ) → k b H1) : t σ H k := by
  refine h w σ H env ms k er hr (R.post_mono (R.post_bind hp) (fun s ms1 q => ?_) fun _ _ _ q => q)
  intro w1 H1 e1 hr1
  exact hk s ms1 w1 H1 e1 (er.mono e1) hr1 (R.post_mono q (fun _ _ z => z) fun _ _ _ z => z.ext e1)
theorem SndA.go {t : TA} {m : Env → Ms → R (List S)} (h : SndA Y t m) {β : Type} {f : List S → Ms → R β} {P : β → Ms → Prop} {k : List V → Hp → Prop} (er : ER Y w σ env) (hr : HR Y w H ms)
    (hp : ((m env ms).bind f).post P (exP Y w σ)) (hk : ∀ ss ms1 w1 H1 vs, Ext w w1 → ER Y w1 σ env → HR Y w1 H1 ms1 → SRs Y w1 ss vs → (f ss ms1).post P (exP Y w1 σ) → k vs H1) : t σ H k := by
  refine h w σ H env ms k er hr (R.post_mono (R.post_bind hp) (fun s ms1 q => ?_) fun _ _ _ q => q)
  intro w1 H1 vs e1 hr1 sr
  exact hk s ms1 w1 H1 vs e1 (er.mono e1) hr1 sr (R.post_mono q (fun _ _ z => z) fun _ _ _ z => z.ext e1)
theorem okP.use {Q : VK} {P : S → Ms → Prop} {s : S} {ms : Ms} (h : P s ms) (hP : P = okP Y w Q) {v : V} (hr : HR Y w H ms) (sr : SR Y w s v) : Q v H := by
  subst hP
  exact h w H v (Ext.refl w) hr sr
theorem okP.at {Q : VK} {s : S} {v : V} (h : okP Y w Q s ms) (e : Ext w w1) (hr : HR Y w1 H1 ms) (sr : SR Y w1 s v) : Q v H1 := h w1 H1 v e hr sr
theorem okP.ext {Q : VK} {s : S} (e : Ext w w1) (h : okP Y w Q s ms) : okP Y w1 Q s ms := fun w' H' v e' => h w' H' v (e.trans e')
theorem post_ext {r : R S} {Q : VK} (e : Ext w w1) (h : r.post (okP Y w Q) (exP Y w1 σ)) : r.post (okP Y w1 Q) (exP Y w1 σ) := R.post_mono h (fun _ _ z => z.ext e) fun _ _ _ z => z

/-! ### names, constants -/
def mVar (i : Nat) : Env → Ms → R S := fun env ms => match env[i]? with
  | some (some s) => .ok s ms
  | _ => .bad
def mC (s : S) : Env → Ms → R S := fun _ ms => .ok s ms
theorem e_var (i : Nat) {x : Str} {pos : Pos} (hN : Y.X.N[i]? = some x := by rfl) (hv : Vis Y.X.env.scope x := by first | exact Or.inl rfl | exact Or.inr (Or.inl rfl) | exact Or.inr (Or.inr rfl)) (hd : (x == ("__debug__" : Str)) = false := by decide)
    (hcd : (x == ("__classdict__" : Str)) = false := by decide) : DE Y (.Name x pos) (mVar i) := by
  refine ⟨_, pe_var hN hv hd hcd, fun w σ H env ms Q er hr h => ?_⟩
  unfold mVar at h
  cases he : env[i]? with
  | none => rw [he] at h; exact h.elim
  | some o =>
    cases o with
    | none => rw [he] at h; exact h.elim
    | some s =>
      rw [he] at h
      obtain ⟨v, h1, h2⟩ := er.slot i s he
      exact ⟨v, h1, h.at (Ext.refl w) hr h2⟩
theorem e_c {e : Expr} {v : V} {s : S} (h : PE Y.X e (tC v)) (hs : ∀ w, SR Y w s v) : DE Y e (mC s) :=
  ⟨_, h, fun w _ _ _ _ _ _ hr q => q.at (Ext.refl w) hr (hs w)⟩
theorem e_int {i : Int} {j pos} : DE Y (.Constant (.int i) j pos) (mC (.d (.int i))) := e_c pe_int fun _ => rfl
theorem e_bl {b : Bool} {j pos} : DE Y (.Constant (.bool b) j pos) (mC (.d (.bl b))) := e_c pe_bl fun _ => rfl
theorem e_non {j pos} : DE Y (.Constant .none j pos) (mC (.d .non)) := e_c pe_non fun _ => rfl
theorem e_str {x : Str} {j pos} : DE Y (.Constant (.str x) j pos) (mC (.d (.str x))) := e_c pe_str fun _ => rfl
/-- a module's constant -/
theorem e_glob {x : Str} {v : V} {s : S} {u : Value} {pos : Pos} (hg : Gl Y.X x) (hm : Y.X.mg x = some u) (r : RelV v u) (hs : ∀ w, SR Y w s v) (hd : (x == ("__debug__" : Str)) = false := by decide) : DE Y (.Name x pos) (mC s) := e_c (pe_glob hg hm r hd) hs

/-! ### operators by values -/
def SndR2 (Y : Cy) (r : R2) (g : S → S → Ms → R S) : Prop :=
  ∀ (w : Wd) (H : Hp) (ms : Ms) (x y : S) (u v : V) (Q : VK), HR Y w H ms → SR Y w x u → SR Y w y v → (g x y ms).post (okP Y w Q) (fun _ _ _ => False) → r u v H Q
def mOp (g : S → S → Ms → R S) (ma mb : Env → Ms → R S) : Env → Ms → R S := fun env ms => (ma env ms).bind fun x ms1 => (mb env ms1).bind fun y ms2 => g x y ms2
theorem snd_op {r : R2} {g : S → S → Ms → R S} {ta tb : TE} {ma mb : Env → Ms → R S} (hg : ∀ x y ms c ds ms', g x y ms ≠ .ex c ds ms') (hs : SndR2 Y r g) (ha : SndE Y ta ma) (hb : SndE Y tb mb) : SndE Y (tOp r ta tb) (mOp g ma mb) := by
  intro w σ H env ms Q er hr h
  refine ha.go er hr h fun x ms1 w1 H1 u e1 er1 hr1 su h1 => ?_
  refine hb.go er1 hr1 h1 fun y ms2 w2 H2 v e2 er2 hr2 sv h2 => ?_
  refine hs w2 H2 ms2 x y u v Q hr2 (su.mono e2) sv ?_
  have hx := hg x y ms2
  cases hgx : g x y ms2 with
  | ok s ms' => rw [hgx] at h2; exact h2.ext (e1.trans e2)
  | ex c ds ms' => exact absurd hgx (hx c ds ms')
  | bad => rw [hgx] at h2; exact h2
theorem e_op {op : Operator} {r : R2} {g : S → S → Ms → R S} {a b : Expr} {ma mb : Env → Ms → R S} {pos : Pos} (ho : OpR Y.X (binaryOp op) r) (hg : ∀ x y ms c ds ms', g x y ms ≠ .ex c ds ms') (hs : SndR2 Y r g) (ha : DE Y a ma) (hb : DE Y b mb) : DE Y (.BinOp a op b pos) (mOp g ma mb) := by
  obtain ⟨ta, pa, sa⟩ := ha.ex
  obtain ⟨tb, pb, sb⟩ := hb.ex
  exact ⟨_, pe_op ho pa pb, snd_op hg hs sa sb⟩
theorem e_cmp {op : CmpOp} {r : R2} {g : S → S → Ms → R S} {a b : Expr} {ma mb : Env → Ms → R S} {pos : Pos} (ho : OpR Y.X (compareOp op) r) (hg : ∀ x y ms c ds ms', g x y ms ≠ .ex c ds ms') (hs : SndR2 Y r g) (ha : DE Y a ma) (hb : DE Y b mb) (hm : behindInMarks op b = false) : DE Y (.Compare a [op] [b] pos) (mOp g ma mb) := by
  obtain ⟨ta, pa, sa⟩ := ha.ex
  obtain ⟨tb, pb, sb⟩ := hb.ex
  exact ⟨_, pe_cmpR ho pa pb hm, snd_op hg hs sa sb⟩
end
end Fw
set_option Elab.async false
set_option linter.all false
set_option maxRecDepth 100000
set_option maxHeartbeats 4000000
/-! Fw2: argument lists, displays, tests, statements, loops. -/
namespace Fw
open PySem L2

section
variable {Y : Cy} {w w1 w2 : Wd} {σ : St} {H H1 H2 : Hp} {env : Env} {ms ms1 ms2 : Ms}

theorem paired_nil_iff {ss : List S} (h : SRs Y w ss []) : ss = [] := by cases h; rfl
theorem HR0.live (h : HR Y w H ms) {n : Nat} {a : Addr} {c : Cell} (hm : w.mu[n]? = some a) (hc : ms[n]? = some c) (hd : c ≠ .dead) : ∃ o, H a = some o := by
  have q := h.cel n a c hm hc
  cases c with
  | lst ds => obtain ⟨xs, e, _⟩ := q; exact ⟨_, e⟩
  | ins c fs => obtain ⟨dx, xs, e, _⟩ := q; exact ⟨_, e⟩
  | dead => exact absurd rfl hd
theorem HR0.freeF (h : HR Y w H ms) {p : Addr} (hp : H p = none) : w.F p = none := by
  cases e : w.F p with
  | none => rfl
  | some u => rw [h.sub p u e] at hp; cases hp
theorem HR0.freeP (h : HR Y w H ms) {p : Addr} (hp : H p = none) : w.P p = none := by
  cases e : w.P p with
  | none => rfl
  | some u => rw [h.prot p u e] at hp; cases hp
/-- a new object, frozen -/
theorem HR0.froz {p : Addr} {o : HO} (h : HR Y w H ms) (hp : H p = none) : HR Y ⟨upd w.F p o, w.P, w.mu⟩ (upd H p o) ms ∧ Ext w ⟨upd w.F p o, w.P, w.mu⟩ := by
  have fp : ∀ a u, w.F a = some u → a ≠ p := fun a u e => ne_of_none (h.sub a u e) hp
  have ex : Ext w ⟨upd w.F p o, w.P, w.mu⟩ := ⟨fun a u e => by show upd w.F p o a = some u; rw [upd_ne (fp a u e)]; exact e, fun _ _ e => e, rfl⟩
  refine ⟨⟨fun a u e => ?_, fun a u e => ?_, fun a u e => ?_, h.len, h.inj, fun n a c hm hc hd => ?_, fun n a c hm hc => ?_⟩, ex⟩
  · have e : upd w.F p o a = some u := e
    by_cases z : a = p
    · subst z; rw [upd_same] at e ⊢; exact e
    · rw [upd_ne z] at e ⊢; exact h.sub a u e
  · have e : w.P a = some u := e
    rw [upd_ne (ne_of_none (h.prot a u e) hp)]
    exact h.prot a u e
  · have e : w.P a = some u := e
    show upd w.F p o a = none
    rw [upd_ne (ne_of_none (h.prot a u e) hp)]
    exact h.dis a u e
  · obtain ⟨u, e⟩ := h.live hm hc hd
    refine ⟨?_, (h.sep n a c hm hc hd).2⟩
    show upd w.F p o a = none
    rw [upd_ne (ne_of_none e hp)]
    exact (h.sep n a c hm hc hd).1
  · exact (h.cel n a c hm hc).mono ex fun u e => by rw [upd_ne (ne_of_none e hp)]; exact e
/-- a new cell -/
theorem HR0.cell {p : Addr} {o : HO} {c : Cell} (h : HR Y w H ms) (hp : H p = none) (hc : CR Y.X.K Y.Γ ⟨w.F, w.P, w.mu ++ [p]⟩ (upd H p o) p c) : HR Y ⟨w.F, w.P, w.mu ++ [p]⟩ (upd H p o) (ms ++ [c]) ∧ Ext w ⟨w.F, w.P, w.mu ++ [p]⟩ := by
  have lt : ∀ {n : Nat} {a : Addr}, w.mu[n]? = some a → n < w.mu.length := fun e => (List.getElem?_eq_some_iff.mp e).1
  have ex : Ext w ⟨w.F, w.P, w.mu ++ [p]⟩ := ⟨fun _ _ e => e, fun n a e => by show (w.mu ++ [p])[n]? = some a; rw [List.getElem?_append_left (lt e)]; exact e, rfl⟩
  have old : ∀ {n : Nat} {a : Addr}, (w.mu ++ [p])[n]? = some a → n < w.mu.length → w.mu[n]? = some a := fun e z => by rw [List.getElem?_append_left z] at e; exact e
  have new : ∀ {n : Nat} {a : Addr}, (w.mu ++ [p])[n]? = some a → ¬ n < w.mu.length → a = p ∧ n = w.mu.length := fun {n a} e z => by
    rw [List.getElem?_append_right (Nat.le_of_not_lt z)] at e
    have : n - w.mu.length = 0 := by
      cases q : n - w.mu.length with
      | zero => rfl
      | succ k => rw [q] at e; simp at e
    rw [this] at e
    exact ⟨by simpa using e.symm, by omega⟩
  have mp : ∀ {n : Nat} {c' : Cell}, ms[n]? = some c' → w.mu[n]? = some p → c' = .dead := fun {n c'} e e2 => Classical.byContradiction fun z => by
    obtain ⟨u, q⟩ := h.live e2 e z
    rw [q] at hp; cases hp
  refine ⟨⟨fun a u e => by rw [upd_ne (ne_of_none (h.sub a u e) hp)]; exact h.sub a u e, fun a u e => by rw [upd_ne (ne_of_none (h.prot a u e) hp)]; exact h.prot a u e, h.dis, by simp [h.len], fun i j a c1 c2 e1 e2 k1 k2 d1 d2 => ?_, fun n a c' e1 e2 hd => ?_, fun n a c' e1 e2 => ?_⟩, ex⟩
  · have dp : ∀ {n : Nat} {c' : Cell}, w.mu[n]? = some p → (ms ++ [c])[n]? = some c' → n < w.mu.length → c' = .dead := fun {n c'} e q z => by
      rw [List.getElem?_append_left (by rw [← h.len]; exact z)] at q
      exact mp q e
    by_cases z1 : i < w.mu.length
    · by_cases z2 : j < w.mu.length
      · refine h.inj i j a c1 c2 (old e1 z1) (old e2 z2) ?_ ?_ d1 d2
        · rw [List.getElem?_append_left (by rw [← h.len]; exact z1)] at k1; exact k1
        · rw [List.getElem?_append_left (by rw [← h.len]; exact z2)] at k2; exact k2
      · obtain ⟨q1, q2⟩ := new e2 z2
        subst q1
        exact absurd (dp (old e1 z1) k1 z1) d1
    · obtain ⟨q1, q2⟩ := new e1 z1
      subst q1
      by_cases z2 : j < w.mu.length
      · exact absurd (dp (old e2 z2) k2 z2) d2
      · rw [q2, (new e2 z2).2]
  · by_cases z : n < w.mu.length
    · rw [List.getElem?_append_left (by rw [← h.len]; exact z)] at e2
      exact h.sep n a c' (old e1 z) e2 hd
    · rw [(new e1 z).1]; exact ⟨h.freeF hp, h.freeP hp⟩
  · by_cases z : n < w.mu.length
    · rw [List.getElem?_append_left (by rw [← h.len]; exact z)] at e2
      have q := h.cel n a c' (old e1 z) e2
      exact q.mono ex fun u e => by rw [upd_ne (ne_of_none e hp)]; exact e
    · obtain ⟨q1, q2⟩ := new e1 z
      subst q1 q2
      rw [List.getElem?_append_right (by rw [h.len]; exact Nat.le_refl _)] at e2
      have : c' = c := by rw [h.len] at e2; simpa using e2.symm
      subst this
      exact hc
/-- a cell is written -/
theorem HR0.write {n : Nat} {a : Addr} {o : HO} {c c' : Cell} (h : HR Y w H ms) (hm : w.mu[n]? = some a) (hc : ms[n]? = some c) (hd : c ≠ .dead) (new : CR Y.X.K Y.Γ w (upd H a o) a c') : HR Y w (upd H a o) (ms.set n c') := by
  obtain ⟨nF, nP⟩ := h.sep n a c hm hc hd
  have hn : n < ms.length := (List.getElem?_eq_some_iff.mp hc).1
  have other : ∀ {i : Nat} {b : Addr} {k : Cell}, w.mu[i]? = some b → ms[i]? = some k → k ≠ .dead → i ≠ n → b ≠ a := fun {i b k} e q z ne x => by
    subst x
    exact ne (h.inj i n b k c e hm q hc z hd)
  have at_ : ∀ {i : Nat} {k : Cell}, (ms.set n c')[i]? = some k → i ≠ n → ms[i]? = some k := fun e ne => by rw [List.getElem?_set_ne (Ne.symm ne)] at e; exact e
  refine ⟨fun b u e => ?_, fun b u e => ?_, h.dis, by simp [h.len], fun i j b c1 c2 e1 e2 k1 k2 d1 d2 => ?_, fun i b k e q z => ?_, fun i b k e q => ?_⟩
  · have : b ≠ a := fun x => by subst x; rw [nF] at e; cases e
    rw [upd_ne this]; exact h.sub b u e
  · have : b ≠ a := fun x => by subst x; rw [nP] at e; cases e
    rw [upd_ne this]; exact h.prot b u e
  · by_cases z1 : i = n
    · by_cases z2 : j = n
      · rw [z1, z2]
      · subst z1
        rw [hm] at e1
        cases e1
        exact absurd rfl (other e2 (at_ k2 z2) d2 z2)
    · by_cases z2 : j = n
      · subst z2
        rw [hm] at e2
        cases e2
        exact absurd rfl (other e1 (at_ k1 z1) d1 z1)
      · exact h.inj i j b c1 c2 e1 e2 (at_ k1 z1) (at_ k2 z2) d1 d2
  · by_cases z1 : i = n
    · subst z1; rw [hm] at e; cases e; exact ⟨nF, nP⟩
    · exact h.sep i b k e (at_ q z1) z
  · by_cases z1 : i = n
    · subst z1
      rw [hm] at e; cases e
      rw [List.getElem?_set_self hn] at q
      cases q
      exact new
    · have q' := at_ q z1
      have r := h.cel i b k e q'
      cases k with
      | dead => trivial
      | lst ds => exact r.mono (Ext.refl w) fun u z => by rw [upd_ne (other e q' (by intro x; cases x) z1)]; exact z
      | ins c fs => exact r.mono (Ext.refl w) fun u z => by rw [upd_ne (other e q' (by intro x; cases x) z1)]; exact z

/-! ### data out of slots -/
def S.toD : S → Option D
  | .d x => some x
  | _ => none
def toDs : List S → Option (List D)
  | [] => some []
  | .d x :: r => (toDs r).map (x :: ·)
  | _ :: _ => none
theorem toDs_rel : ∀ {ss : List S} {ds : List D} {vs : List V}, toDs ss = some ds → SRs Y w ss vs → DRs Y.X.K Y.Γ w.F ds vs
  | [], ds, vs, h, r => by cases r; cases h; rfl
  | .d x :: r, ds, vs, h, rr => by
    cases rr with
    | cons q t =>
      unfold toDs at h
      cases e : toDs r with
      | none => rw [e] at h; cases h
      | some ds' =>
        rw [e] at h
        cases h
        exact ⟨_, _, rfl, q, toDs_rel e t⟩
  | .loc _ :: _, _, _, h, _ => by cases h
  | .exn _ _ :: _, _, _, h, _ => by cases h
theorem toDs_map : ∀ ds : List D, toDs (ds.map S.d) = some ds
  | [] => rfl
  | d :: ds => by show (toDs (ds.map S.d)).map _ = _; rw [toDs_map ds]; rfl
theorem DRs.length : ∀ {K : PySem.W.Frag} {Γ : G} {F : Hp} {ds : List D} {vs : List V}, DRs K Γ F ds vs → ds.length = vs.length
  | _, _, _, [], vs, h => by cases h; rfl
  | _, _, _, d :: ds, vs, h => by obtain ⟨x, r, rfl, _, h3⟩ := h; simp [DRs.length h3]
theorem DRs.get {K : PySem.W.Frag} {Γ : G} {F : Hp} : ∀ {ds : List D} {vs : List V} {i : Nat} {d : D}, DRs K Γ F ds vs → ds[i]? = some d → ∃ v, vs[i]? = some v ∧ DR K Γ F d v
  | [], _, _, _, _, e => by simp at e
  | d :: ds, _, 0, d', h, e => by obtain ⟨x, r, rfl, h2, _⟩ := h; simp at e; subst e; exact ⟨x, rfl, h2⟩
  | d :: ds, _, i + 1, d', h, e => by obtain ⟨x, r, rfl, _, h3⟩ := h; simpa using DRs.get h3 (by simpa using e)
theorem SRs_of_DRs : ∀ {ds : List D} {vs : List V}, DRs Y.X.K Y.Γ w.F ds vs → SRs Y w (ds.map S.d) vs
  | [], _, h => by cases h; exact .nil
  | d :: ds, _, h => by obtain ⟨x, r, rfl, h2, h3⟩ := h; exact .cons h2 (SRs_of_DRs h3)
theorem DRs_of_SRs : ∀ {ds : List D} {vs : List V}, SRs Y w (ds.map S.d) vs → DRs Y.X.K Y.Γ w.F ds vs
  | [], _, h => by cases h; rfl
  | d :: ds, _, h => by cases h with | cons a b => exact ⟨_, _, rfl, a, DRs_of_SRs b⟩
theorem DRs.append {K : PySem.W.Frag} {Γ : G} {F : Hp} : ∀ {ds es : List D} {vs us : List V}, DRs K Γ F ds vs → DRs K Γ F es us → DRs K Γ F (ds ++ es) (vs ++ us)
  | [], _, _, _, h, h' => by cases h; exact h'
  | d :: ds, _, _, _, h, h' => by obtain ⟨x, r, rfl, h2, h3⟩ := h; exact ⟨x, r ++ _, rfl, h2, DRs.append h3 h'⟩
theorem DRs.drop {K : PySem.W.Frag} {Γ : G} {F : Hp} : ∀ {ds : List D} {vs : List V} (n : Nat), DRs K Γ F ds vs → DRs K Γ F (ds.drop n) (vs.drop n)
  | ds, vs, 0, h => h
  | [], _, n + 1, h => by cases h; rfl
  | d :: ds, _, n + 1, h => by obtain ⟨x, r, rfl, h2, h3⟩ := h; exact DRs.drop n h3
theorem DRs.take {K : PySem.W.Frag} {Γ : G} {F : Hp} : ∀ {ds : List D} {vs : List V} (n : Nat), DRs K Γ F ds vs → DRs K Γ F (ds.take n) (vs.take n)
  | ds, vs, 0, h => rfl
  | [], _, n + 1, h => by cases h; rfl
  | d :: ds, _, n + 1, h => by obtain ⟨x, r, rfl, h2, h3⟩ := h; exact ⟨x, r.take n, rfl, h2, DRs.take n h3⟩
theorem SRs.length {ss : List S} {vs : List V} (h : SRs Y w ss vs) : ss.length = vs.length := Paired.length h
theorem SRs.get : ∀ {ss : List S} {vs : List V} {i : Nat} {s : S}, SRs Y w ss vs → ss[i]? = some s → ∃ v, vs[i]? = some v ∧ SR Y w s v
  | _, _, i, _, .nil, e => by simp at e
  | _, _, 0, _, .cons r _, e => by simp at e; subst e; exact ⟨_, rfl, r⟩
  | _, _, i + 1, s, .cons _ t, e => by simpa using SRs.get (i := i) t (by simpa using e)

/-! ### argument lists, displays -/
def aNil : Env → Ms → R (List S) := fun _ ms => .ok [] ms
def aCons (m : Env → Ms → R S) (ma : Env → Ms → R (List S)) : Env → Ms → R (List S) := fun env ms => (m env ms).bind fun x ms1 => (ma env ms1).bind fun xs ms2 => .ok (x :: xs) ms2
theorem a_nil : DA Y [] aNil := ⟨_, pa_nil, fun w _ _ _ _ _ _ hr q => q w _ [] (Ext.refl w) hr .nil⟩
theorem a_cons {e : Expr} {es : List Expr} {m : Env → Ms → R S} {ma : Env → Ms → R (List S)} (h1 : DE Y e m) (h2 : DA Y es ma) (hs : starEach (e :: es) Y.X.env = (false, eval e Y.X.env) :: starEach es Y.X.env := by rfl) : DA Y (e :: es) (aCons m ma) := by
  obtain ⟨t, p, s⟩ := h1.ex
  obtain ⟨ta, pa, sa⟩ := h2.ex
  refine ⟨_, pa_cons p pa hs, fun w σ H env ms Q er hr h => ?_⟩
  refine s.go er hr h fun x ms1 w1 H1 v e1 er1 hr1 sv h1 => ?_
  refine sa.go er1 hr1 h1 fun xs ms2 w2 H2 vs e2 er2 hr2 svs h2 => ?_
  exact h2 w2 H2 (v :: vs) (e1.trans e2) hr2 (.cons (sv.mono e2) svs)
def few (n : Nat) : Bool := Nat.ble n 1000000
theorem few_ok {n : Nat} (h : few n = true) : n ≤ sizeLine := by
  have : n ≤ 1000000 := Nat.le_of_ble_eq_true h
  rw [sizeLine_eq]; omega
def dispD (f : List D → D) (ss : List S) (ms : Ms) : R S := match toDs ss with
  | some ds => match few ds.length with
    | true => .ok (.d (f ds)) ms
    | false => .bad
  | none => .bad
def mTup (ma : Env → Ms → R (List S)) : Env → Ms → R S := fun env ms => (ma env ms).bind (dispD .tup)
def mLst (ma : Env → Ms → R (List S)) : Env → Ms → R S := fun env ms => (ma env ms).bind (dispD .lst)
def newL (ss : List S) (ms : Ms) : R S := match toDs ss with
  | some ds => match few ds.length with
    | true => .ok (.loc ms.length) (ms ++ [.lst ds])
    | false => .bad
  | none => .bad
def mNew (ma : Env → Ms → R (List S)) : Env → Ms → R S := fun env ms => (ma env ms).bind newL
theorem e_tup {es : List Expr} {ma : Env → Ms → R (List S)} {x1 : Nat} {pos : Pos} (h : DA Y es ma) : DE Y (.Tuple es x1 pos) (mTup ma) := by
  obtain ⟨t, p, s⟩ := h.ex
  refine ⟨_, pe_tup p, fun w σ H env ms Q er hr h => ?_⟩
  refine s.go er hr h fun ss ms1 w1 H1 vs e1 er1 hr1 sv h1 => ?_
  unfold dispD at h1
  cases e : toDs ss with
  | none => rw [e] at h1; exact h1.elim
  | some ds =>
    rw [e] at h1
    dsimp only at h1
    cases f : few ds.length with
    | false => rw [f] at h1; exact h1.elim
    | true =>
      rw [f] at h1
      have r := toDs_rel e sv
      refine ⟨by rw [← DRs.length r]; exact few_ok f, fun p hp => ?_⟩
      obtain ⟨hr2, e2⟩ := hr1.froz (o := .tup vs) hp
      exact h1 _ _ _ (e1.trans e2) hr2 ⟨p, vs, rfl, SqT.of upd_same, DRs.mono e2.F _ _ r⟩
theorem e_lst {es : List Expr} {ma : Env → Ms → R (List S)} {pos : Pos} (h : DA Y es ma) : DE Y (.List es pos) (mLst ma) := by
  obtain ⟨t, p, s⟩ := h.ex
  refine ⟨_, pe_lst p, fun w σ H env ms Q er hr h => ?_⟩
  refine s.go er hr h fun ss ms1 w1 H1 vs e1 er1 hr1 sv h1 => ?_
  unfold dispD at h1
  cases e : toDs ss with
  | none => rw [e] at h1; exact h1.elim
  | some ds =>
    rw [e] at h1
    dsimp only at h1
    cases f : few ds.length with
    | false => rw [f] at h1; exact h1.elim
    | true =>
      rw [f] at h1
      have r := toDs_rel e sv
      refine ⟨by rw [← DRs.length r]; exact few_ok f, fun p hp => ?_⟩
      obtain ⟨hr2, e2⟩ := hr1.froz (o := .lst vs) hp
      exact h1 _ _ _ (e1.trans e2) hr2 ⟨p, vs, rfl, upd_same, DRs.mono e2.F _ _ r⟩
theorem e_new {es : List Expr} {ma : Env → Ms → R (List S)} {pos : Pos} (h : DA Y es ma) : DE Y (.List es pos) (mNew ma) := by
  obtain ⟨t, p, s⟩ := h.ex
  refine ⟨_, pe_lst p, fun w σ H env ms Q er hr h => ?_⟩
  refine s.go er hr h fun ss ms1 w1 H1 vs e1 er1 hr1 sv h1 => ?_
  unfold newL at h1
  cases e : toDs ss with
  | none => rw [e] at h1; exact h1.elim
  | some ds =>
    rw [e] at h1
    dsimp only at h1
    cases f : few ds.length with
    | false => rw [f] at h1; exact h1.elim
    | true =>
      rw [f] at h1
      have r := toDs_rel e sv
      refine ⟨by rw [← DRs.length r]; exact few_ok f, fun p hp => ?_⟩
      obtain ⟨hr2, e2⟩ := hr1.cell (o := .lst vs) (c := .lst ds) hp ⟨vs, upd_same, r⟩
      refine h1 _ _ _ (e1.trans e2) hr2 ⟨p, ?_, rfl⟩
      show (w1.mu ++ [p])[ms1.length]? = some p
      rw [← hr1.len]; simp

/-! ### tests -/
def asB (s : S) (ms : Ms) : R Bool := match s with
  | .d (.bl b) => .ok b ms
  | _ => .bad
def mB (m : Env → Ms → R S) : Env → Ms → R Bool := fun env ms => (m env ms).bind asB
theorem snd_B {t : TE} {m : Env → Ms → R S} (h : SndE Y t m) : SndT Y (tB t) (mB m) := by
  intro w σ H env ms Q er hr hw
  refine h.go er hr hw fun s ms1 w1 H1 v e1 er1 hr1 sv h1 => ?_
  unfold asB at h1
  cases s with
  | d x =>
    cases x with
    | bl b => cases sv; exact ⟨b, rfl, h1 w1 H1 e1 hr1⟩
    | _ => exact h1.elim
  | loc n => exact h1.elim
  | exn c ds => exact h1.elim
theorem t_val {e : Expr} {m : Env → Ms → R S} (h : DE Y e m) (he : ∀ whole, isTrue e Y.X.env whole = (do let v ← whole; standAt e.pos; holding [v] (truthy v)) := by intro _; rfl) : DT Y e (mB m) := by
  obtain ⟨t, p, s⟩ := h.ex
  exact ⟨_, pt_val p he, snd_B s⟩
theorem t_cmp {op : CmpOp} {r : R2} {g : S → S → Ms → R S} {a b : Expr} {ma mb : Env → Ms → R S} {pos : Pos} (ho : OpR Y.X (compareOp op) r) (hg : ∀ x y ms c ds ms', g x y ms ≠ .ex c ds ms') (hs : SndR2 Y r g) (ha : DE Y a ma) (hb : DE Y b mb) (hm : behindInMarks op b = false) : DT Y (.Compare a [op] [b] pos) (mB (mOp g ma mb)) := by
  obtain ⟨ta, pa, sa⟩ := ha.ex
  obtain ⟨tb, pb, sb⟩ := hb.ex
  exact ⟨_, pt_cmpR ho pa pb hm, snd_B (snd_op hg hs sa sb)⟩
def mAnd (m k : Env → Ms → R Bool) : Env → Ms → R Bool := fun env ms => (m env ms).bind fun b ms1 => match b with
  | true => k env ms1
  | false => .ok false ms1
def mOr (m k : Env → Ms → R Bool) : Env → Ms → R Bool := fun env ms => (m env ms).bind fun b ms1 => match b with
  | true => .ok true ms1
  | false => k env ms1
def mNot (m : Env → Ms → R Bool) : Env → Ms → R Bool := fun env ms => (m env ms).bind fun b ms1 => .ok (!b) ms1
variable {a b c : Expr} {rest : List Expr} {pos : Pos}
theorem w_and1 {m : Env → Ms → R Bool} (h : DT Y a m) : DW Y (.BoolOp .And [a] pos) m := let ⟨t, p, s⟩ := h.ex; ⟨_, pw_and1 p, s⟩
theorem w_or1 {m : Env → Ms → R Bool} (h : DT Y a m) : DW Y (.BoolOp .Or [a] pos) m := let ⟨t, p, s⟩ := h.ex; ⟨_, pw_or1 p, s⟩
theorem w_and {m k : Env → Ms → R Bool} (h : DT Y a m) (h2 : DW Y (.BoolOp .And (b :: rest) pos) k) : DW Y (.BoolOp .And (a :: b :: rest) pos) (mAnd m k) := by
  obtain ⟨t, p, s⟩ := h.ex
  obtain ⟨t2, p2, s2⟩ := h2.ex
  refine ⟨_, pw_and p p2, fun w σ H env ms Q er hr hw => ?_⟩
  refine s.go er hr hw fun x ms1 w1 H1 e1 er1 hr1 h1 => ?_
  cases x with
  | true => exact iteT (s2 w1 σ H1 env ms1 Q er1 hr1 (R.post_mono h1 (fun b ms2 z w2 H2 e2 => z w2 H2 (e1.trans e2)) fun _ _ _ z => z))
  | false => exact iteF (h1 w1 H1 e1 hr1)
theorem w_or {m k : Env → Ms → R Bool} (h : DT Y a m) (h2 : DW Y (.BoolOp .Or (b :: rest) pos) k) : DW Y (.BoolOp .Or (a :: b :: rest) pos) (mOr m k) := by
  obtain ⟨t, p, s⟩ := h.ex
  obtain ⟨t2, p2, s2⟩ := h2.ex
  refine ⟨_, pw_or p p2, fun w σ H env ms Q er hr hw => ?_⟩
  refine s.go er hr hw fun x ms1 w1 H1 e1 er1 hr1 h1 => ?_
  cases x with
  | false => exact iteF (s2 w1 σ H1 env ms1 Q er1 hr1 (R.post_mono h1 (fun b ms2 z w2 H2 e2 => z w2 H2 (e1.trans e2)) fun _ _ _ z => z))
  | true => exact iteT (h1 w1 H1 e1 hr1)
theorem DW.t {e : Expr} {m : Env → Ms → R Bool} (h : DW Y e m) : DT Y e m := let ⟨t, p, s⟩ := h.ex; ⟨_, p.pt, s⟩
theorem t_not {m : Env → Ms → R Bool} (h : DT Y a m) : DT Y (.UnaryOp .Not a pos) (mNot m) := by
  obtain ⟨t, p, s⟩ := h.ex
  refine ⟨_, pt_not p, fun w σ H env ms Q er hr hw => ?_⟩
  exact s.go er hr hw fun x ms1 w1 H1 e1 er1 hr1 h1 => h1 w1 H1 e1 hr1
/-- as values -/
def mAndV (m k : Env → Ms → R S) : Env → Ms → R S := fun env ms => (mB m env ms).bind fun b ms1 => match b with
  | true => k env ms1
  | false => .ok (.d (.bl false)) ms1
def mOrV (m k : Env → Ms → R S) : Env → Ms → R S := fun env ms => (mB m env ms).bind fun b ms1 => match b with
  | true => .ok (.d (.bl true)) ms1
  | false => k env ms1
def mNotV (m : Env → Ms → R S) : Env → Ms → R S := fun env ms => (mB m env ms).bind fun b ms1 => .ok (.d (.bl (!b))) ms1
theorem bind_assoc {α β γ : Type} (r : R α) (f : α → Ms → R β) (g : β → Ms → R γ) : (r.bind f).bind g = r.bind fun a ms => (f a ms).bind g := by cases r <;> rfl
/-- on with a bool -/
theorem SndE.goB {t : TE} {m : Env → Ms → R S} (h : SndE Y t m) {β : Type} {f : Bool → Ms → R β} {P : β → Ms → Prop} {k : VK} (er : ER Y w σ env) (hr : HR Y w H ms)
    (hp : ((mB m env ms).bind f).post P (exP Y w σ)) (hk : ∀ b ms1 w1 H1, Ext w w1 → ER Y w1 σ env → HR Y w1 H1 ms1 → (f b ms1).post P (exP Y w1 σ) → k (.bl b) H1) : t σ H k := by
  unfold mB at hp
  rw [bind_assoc] at hp
  refine h.go er hr hp fun s ms1 w1 H1 v e1 er1 hr1 sv h1 => ?_
  unfold asB at h1
  cases s with
  | d x =>
    cases x with
    | bl b => cases sv; exact hk b ms1 w1 H1 e1 er1 hr1 h1
    | _ => exact h1.elim
  | loc n => exact h1.elim
  | exn c ds => exact h1.elim
theorem e_one {op} {m : Env → Ms → R S} (h : DE Y a m) : DE Y (.BoolOp op [a] pos) m := let ⟨t, p, s⟩ := h.ex; ⟨_, pe_one p, s⟩
theorem e_and {m k : Env → Ms → R S} (h : DE Y a m) (h2 : DE Y (.BoolOp .And (b :: rest) pos) k) : DE Y (.BoolOp .And (a :: b :: rest) pos) (mAndV m k) := by
  obtain ⟨t, p, s⟩ := h.ex
  obtain ⟨t2, p2, s2⟩ := h2.ex
  refine ⟨_, pe_and p p2, fun w σ H env ms Q er hr hw => ?_⟩
  refine s.goB er hr hw fun x ms1 w1 H1 e1 er1 hr1 h1 => ⟨x, rfl, ?_⟩
  cases x with
  | true => exact iteT (s2 w1 σ H1 env ms1 Q er1 hr1 (R.post_mono h1 (fun _ _ z => z.ext e1) fun _ _ _ z => z))
  | false => exact iteF (h1.at e1 hr1 rfl)
theorem e_or {m k : Env → Ms → R S} (h : DE Y a m) (h2 : DE Y (.BoolOp .Or (b :: rest) pos) k) : DE Y (.BoolOp .Or (a :: b :: rest) pos) (mOrV m k) := by
  obtain ⟨t, p, s⟩ := h.ex
  obtain ⟨t2, p2, s2⟩ := h2.ex
  refine ⟨_, pe_or p p2, fun w σ H env ms Q er hr hw => ?_⟩
  refine s.goB er hr hw fun x ms1 w1 H1 e1 er1 hr1 h1 => ⟨x, rfl, ?_⟩
  cases x with
  | false => exact iteF (s2 w1 σ H1 env ms1 Q er1 hr1 (R.post_mono h1 (fun _ _ z => z.ext e1) fun _ _ _ z => z))
  | true => exact iteT (h1.at e1 hr1 rfl)
theorem e_not {m : Env → Ms → R S} (h : DE Y a m) : DE Y (.UnaryOp .Not a pos) (mNotV m) := by
  obtain ⟨t, p, s⟩ := h.ex
  refine ⟨_, pe_not p, fun w σ H env ms Q er hr hw => ?_⟩
  exact s.goB er hr hw fun x ms1 w1 H1 e1 er1 hr1 h1 => ⟨x, rfl, h1.at e1 hr1 rfl⟩
def mIf {α : Type} (c : Env → Ms → R Bool) (m k : Env → Ms → R α) : Env → Ms → R α := fun env ms => (c env ms).bind fun b ms1 => match b with
  | true => m env ms1
  | false => k env ms1
theorem e_if {mc : Env → Ms → R Bool} {m k : Env → Ms → R S} (hc : DT Y c mc) (ha : DE Y a m) (hb : DE Y b k) : DE Y (.IfExp c a b pos) (mIf mc m k) := by
  obtain ⟨t, p, s⟩ := hc.ex
  obtain ⟨t1, p1, s1⟩ := ha.ex
  obtain ⟨t2, p2, s2⟩ := hb.ex
  refine ⟨_, pe_ifExp p p1 p2, fun w σ H env ms Q er hr hw => ?_⟩
  refine s.go er hr hw fun x ms1 w1 H1 e1 er1 hr1 h1 => ?_
  cases x with
  | true => exact iteT (s1 w1 σ H1 env ms1 Q er1 hr1 (R.post_mono h1 (fun _ _ z => z.ext e1) fun _ _ _ z => z))
  | false => exact iteF (s2 w1 σ H1 env ms1 Q er1 hr1 (R.post_mono h1 (fun _ _ z => z.ext e1) fun _ _ _ z => z))
end
end Fw
set_option Elab.async false
set_option linter.all false
set_option maxRecDepth 100000
set_option maxHeartbeats 4000000
/-! Fw3: statements, targets, loops, defs. -/
namespace Fw
open PySem L2

def nxP (Y : Cy) (w : Wd) (Q : St → Hp → Prop) : Env → Ms → Prop := fun env' ms' => ∀ w' H' σ', Ext w w' → HR Y w' H' ms' → ER Y w' σ' env' → Q σ' H'
def rtP (Y : Cy) (w : Wd) (Q : VK) : S → Ms → Prop := okP Y w Q
def sxP (Y : Cy) (w : Wd) : Nat → List D → Env → Ms → Prop := fun c ds env' ms' => ∀ w' H' σ' dd, Ext w w' → HR Y w' H' ms' → ER Y w' σ' env' → XD Y.X.K Y.Γ w'.F c ds dd → Y.W (.ref (Y.Γ.cls c)) dd σ' H'
def tP (Y : Cy) (w : Wd) (Ed : Ends) (t : T) : Prop := t.post (nxP Y w Ed.nx) (rtP Y w Ed.rt) (nxP Y w Ed.bk) (nxP Y w Ed.ct) (sxP Y w)
def SndS (Y : Cy) (t : TS) (m : Env → Ms → T) : Prop :=
  ∀ (w : Wd) (σ : St) (H : Hp) (env : Env) (ms : Ms) (Ed : Ends), ER Y w σ env → HR Y w H ms → tP Y w Ed (m env ms) → t Ed σ H
structure DS (Y : Cy) (st : Stmt) (m : Env → Ms → T) : Prop where
  ex : ∃ t, PS Y.X st t ∧ SndS Y t m
structure DSs (Y : Cy) (st : List Stmt) (m : Env → Ms → T) : Prop where
  ex : ∃ t, PSs Y.X st t ∧ SndS Y t m
def SndG (Y : Cy) (t : TG) (g : S → Env → Ms → Option Env) : Prop :=
  ∀ (w : Wd) (σ : St) (H : Hp) (env : Env) (ms : Ms) (s : S) (v : V) (Q : St → Hp → Prop) (env' : Env), ER Y w σ env → HR Y w H ms → SR Y w s v → g s env ms = some env' → (∀ w' H' σ', Ext w w' → HR Y w' H' ms → ER Y w' σ' env' → Q σ' H') → t v σ H Q
structure DG (Y : Cy) (tg : Expr) (g : S → Env → Ms → Option Env) : Prop where
  ex : ∃ t, PG Y.X tg t ∧ SndG Y t g
def SndGs (Y : Cy) (t : TGs) (g : List S → Env → Ms → Option Env) : Prop :=
  ∀ (w : Wd) (σ : St) (H : Hp) (env : Env) (ms : Ms) (ss : List S) (vs : List V) (Q : St → Hp → Prop) (env' : Env), ER Y w σ env → HR Y w H ms → SRs Y w ss vs → g ss env ms = some env' → (∀ w' H' σ', Ext w w' → HR Y w' H' ms → ER Y w' σ' env' → Q σ' H') → t vs σ H Q
structure DGs (Y : Cy) (tgs : List Expr) (g : List S → Env → Ms → Option Env) : Prop where
  ex : ∃ t, PGs Y.X tgs t ∧ SndGs Y t g

section
variable {Y : Cy} {w w1 w2 : Wd} {σ : St} {H H1 H2 : Hp} {env : Env} {ms ms1 ms2 : Ms} {Ed : Ends}
theorem nxP.ext (e : Ext w w1) {Q : St → Hp → Prop} (h : nxP Y w Q env ms) : nxP Y w1 Q env ms := fun w' H' σ' e' => h w' H' σ' (e.trans e')
theorem sxP.ext (e : Ext w w1) {c : Nat} {ds : List D} (h : sxP Y w c ds env ms) : sxP Y w1 c ds env ms := fun w' H' σ' dd e' => h w' H' σ' dd (e.trans e')
theorem tP.ext (e : Ext w w1) {t : T} (h : tP Y w Ed t) : tP Y w1 Ed t := T.post_mono h (fun _ _ z => z.ext e) (fun _ _ z => okP.ext e z) (fun _ _ z => z.ext e) (fun _ _ z => z.ext e) fun _ _ _ _ z => z.ext e
theorem ER.set (h : ER Y w σ env) {s : S} {v : V} (r : SR Y w s v) (i : Nat) : ER Y w (σ.set i (some v)) (env.set i (some s)) := by
  refine ⟨by simp [h.len], fun j s' e => ?_⟩
  by_cases z : i = j
  · subst z
    have hi : i < env.length := by
      have := (List.getElem?_eq_some_iff.mp e).1
      simpa using this
    rw [List.getElem?_set_self hi] at e
    cases e
    exact ⟨v, by rw [List.getElem?_set_self (by rw [h.len]; exact hi)], r⟩
  · rw [List.getElem?_set_ne z] at e
    obtain ⟨u, e1, r1⟩ := h.slot j s' e
    exact ⟨u, by rw [List.getElem?_set_ne z]; exact e1, r1⟩
theorem ER.unset (h : ER Y w σ env) (i : Nat) (o : Option V) : ER Y w (σ.set i o) (env.set i none) := by
  refine ⟨by simp [h.len], fun j s' e => ?_⟩
  by_cases z : i = j
  · subst z
    have hi : i < env.length := by
      have := (List.getElem?_eq_some_iff.mp e).1
      simpa using this
    rw [List.getElem?_set_self hi] at e
    cases e
  · rw [List.getElem?_set_ne z] at e
    obtain ⟨u, e1, r1⟩ := h.slot j s' e
    exact ⟨u, by rw [List.getElem?_set_ne z]; exact e1, r1⟩

/-! ### blocks -/
def T.seq (t : T) (k : Env → Ms → T) : T := match t with
  | .nx env ms => k env ms
  | .rt s ms => .rt s ms
  | .bk e ms => .bk e ms
  | .ct e ms => .ct e ms
  | .ex c ds e ms => .ex c ds e ms
  | .bad => .bad
def T.ofE {α : Type} (r : R α) (env : Env) (k : α → Ms → T) : T := match r with
  | .ok a ms => k a ms
  | .ex c ds ms => .ex c ds env ms
  | .bad => .bad
def sNil : Env → Ms → T := .nx
def sCons (m k : Env → Ms → T) : Env → Ms → T := fun env ms => (m env ms).seq k
variable {st : Stmt} {rest : List Stmt} {m k : Env → Ms → T} {pos : Pos}
theorem ss_nil : DSs Y [] sNil := ⟨_, pss_nil, fun w σ H env ms Ed er hr h => h w H σ (Ext.refl w) hr er⟩
theorem ss_cons (h1 : DS Y st m) (h2 : DSs Y rest k) : DSs Y (st :: rest) (sCons m k) := by
  obtain ⟨t, p, s⟩ := h1.ex
  obtain ⟨t2, p2, s2⟩ := h2.ex
  refine ⟨_, pss_cons p p2, fun w σ H env ms Ed er hr h => ?_⟩
  refine s w σ H env ms _ er hr ?_
  unfold sCons at h
  cases hm : m env ms with
  | nx e ms1 =>
    rw [hm] at h
    exact fun w1 H1 σ1 e1 hr1 er1 => s2 w1 σ1 H1 e ms1 Ed er1 hr1 (tP.ext e1 h)
  | rt v ms1 => rw [hm] at h; exact h
  | bk e ms1 => rw [hm] at h; exact h
  | ct e ms1 => rw [hm] at h; exact h
  | ex c ds e ms1 => rw [hm] at h; exact h
  | bad => rw [hm] at h; exact h.elim
theorem ss_one (h1 : DS Y st m) : DSs Y [st] m := let ⟨t, p, s⟩ := h1.ex; ⟨_, pss_one p, s⟩
/-- on behind an expression -/
theorem SndE.goS {t : TE} {me : Env → Ms → R S} (h : SndE Y t me) {f : S → Ms → T} {q : VK} (er : ER Y w σ env) (hr : HR Y w H ms)
    (hp : tP Y w Ed (T.ofE (me env ms) env f)) (hk : ∀ s ms1 w1 H1 v, Ext w w1 → ER Y w1 σ env → HR Y w1 H1 ms1 → SR Y w1 s v → tP Y w1 Ed (f s ms1) → q v H1) : t σ H q := by
  refine h w σ H env ms q er hr ?_
  cases hm : me env ms with
  | ok s ms1 =>
    rw [hm] at hp
    exact fun w1 H1 v e1 hr1 sv => hk s ms1 w1 H1 v e1 (er.mono e1) hr1 sv (tP.ext e1 hp)
  | ex c ds ms1 =>
    rw [hm] at hp
    exact fun w1 H1 dd e1 hr1 xd => hp w1 H1 σ dd e1 hr1 (er.mono e1) xd
  | bad => rw [hm] at hp; exact hp.elim
theorem SndT.goS {t : TT} {me : Env → Ms → R Bool} (h : SndT Y t me) {f : Bool → Ms → T} {q : Bool → Hp → Prop} (er : ER Y w σ env) (hr : HR Y w H ms)
    (hp : tP Y w Ed (T.ofE (me env ms) env f)) (hk : ∀ s ms1 w1 H1, Ext w w1 → ER Y w1 σ env → HR Y w1 H1 ms1 → tP Y w1 Ed (f s ms1) → q s H1) : t σ H q := by
  refine h w σ H env ms q er hr ?_
  cases hm : me env ms with
  | ok s ms1 =>
    rw [hm] at hp
    exact fun w1 H1 e1 hr1 => hk s ms1 w1 H1 e1 (er.mono e1) hr1 (tP.ext e1 hp)
  | ex c ds ms1 =>
    rw [hm] at hp
    exact fun w1 H1 dd e1 hr1 xd => hp w1 H1 σ dd e1 hr1 (er.mono e1) xd
  | bad => rw [hm] at hp; exact hp.elim

def sPass : Env → Ms → T := .nx
def sBrk : Env → Ms → T := .bk
def sCnt : Env → Ms → T := .ct
def sNever : Env → Ms → T := fun _ _ => .bad
def sExpr (me : Env → Ms → R S) : Env → Ms → T := fun env ms => T.ofE (me env ms) env fun _ ms1 => .nx env ms1
def sRet (me : Env → Ms → R S) : Env → Ms → T := fun env ms => T.ofE (me env ms) env .rt
def sRetN : Env → Ms → T := fun _ ms => .rt (.d .non) ms
def sIf (c : Env → Ms → R Bool) (a b : Env → Ms → T) : Env → Ms → T := fun env ms => T.ofE (c env ms) env fun x ms1 => match x with
  | true => a env ms1
  | false => b env ms1
theorem s_pass : DS Y (.Pass pos) sPass := ⟨_, ps_pass, fun w σ H env ms Ed er hr h => h w H σ (Ext.refl w) hr er⟩
theorem s_break : DS Y (.Break pos) sBrk := ⟨_, ps_break, fun w σ H env ms Ed er hr h => h w H σ (Ext.refl w) hr er⟩
theorem s_continue : DS Y (.Continue pos) sCnt := ⟨_, ps_continue, fun w σ H env ms Ed er hr h => h w H σ (Ext.refl w) hr er⟩
theorem s_never : DS Y st sNever := ⟨_, ps_never, fun w σ H env ms Ed er hr h => h.elim⟩
theorem s_doc {x : Str} {j} {pos' : Pos} : DS Y (.Expr (.Constant (.str x) j pos) pos') sPass := ⟨_, ps_doc, fun w σ H env ms Ed er hr h => h w H σ (Ext.refl w) hr er⟩
variable {e : Expr} {me : Env → Ms → R S}
theorem s_expr (h : DE Y e me) (hs : swapsWith e none pos.line Y.X.env = pure false := by rfl) : DS Y (.Expr e pos) (sExpr me) := by
  obtain ⟨t, p, s⟩ := h.ex
  exact ⟨_, ps_expr p hs, fun w σ H env ms Ed er hr h => s.goS er hr h fun x ms1 w1 H1 v e1 er1 hr1 sv h1 => h1 w1 H1 σ (Ext.refl w1) hr1 er1⟩
theorem s_ret (h : DE Y e me) : DS Y (.Return (some e) pos) (sRet me) := by
  obtain ⟨t, p, s⟩ := h.ex
  exact ⟨_, ps_ret p, fun w σ H env ms Ed er hr h => s.goS er hr h fun x ms1 w1 H1 v e1 er1 hr1 sv h1 => h1 w1 H1 v (Ext.refl w1) hr1 sv⟩
theorem s_retN : DS Y (.Return none pos) sRetN := ⟨_, ps_retN, fun w σ H env ms Ed er hr h => h w H .non (Ext.refl w) hr rfl⟩
theorem s_if {c : Expr} {mc : Env → Ms → R Bool} {a b : List Stmt} (hc : DT Y c mc) (ha : DSs Y a m) (hb : DSs Y b k) : DS Y (.If c a b pos) (sIf mc m k) := by
  obtain ⟨t, p, s⟩ := hc.ex
  obtain ⟨t1, p1, s1⟩ := ha.ex
  obtain ⟨t2, p2, s2⟩ := hb.ex
  refine ⟨_, ps_if p p1 p2, fun w σ H env ms Ed er hr h => ?_⟩
  refine s.goS er hr h fun x ms1 w1 H1 e1 er1 hr1 h1 => ?_
  cases x with
  | true => exact iteT (s1 w1 σ H1 env ms1 Ed er1 hr1 h1)
  | false => exact iteF (s2 w1 σ H1 env ms1 Ed er1 hr1 h1)

/-! ### targets -/
def gSet (i : Nat) : S → Env → Ms → Option Env := fun s env _ => some (env.set i (some s))
theorem g_name {i : Nat} {x : Str} (hN : Y.X.N.Nodup) (hi : Y.X.N[i]? = some x := by rfl) (hx : Loc Y.X.env.scope x := by first | exact Or.inl rfl | exact Or.inr rfl) (hf : Y.X.fn x = true ∨ Y.X.env.scope.names.lookup x = some .local := by first | exact .inl rfl | exact .inr rfl) :
    DG Y (.Name x pos) (gSet i) := by
  refine ⟨_, pg_name hN hi hx hf, fun w σ H env ms s v Q env' er hr sv he hq => ?_⟩
  cases he
  exact hq _ _ _ (Ext.refl w) hr (er.set sv i)
def gsNil : List S → Env → Ms → Option Env := fun ss env _ => match ss with
  | [] => some env
  | _ => none
def gsCons (g : S → Env → Ms → Option Env) (gs : List S → Env → Ms → Option Env) : List S → Env → Ms → Option Env := fun ss env ms => match ss with
  | s :: r => (g s env ms).bind fun env1 => gs r env1 ms
  | [] => none
theorem gs_nil : DGs Y [] gsNil := by
  refine ⟨_, pgs_nil, fun w σ H env ms ss vs Q env' er hr sv he hq => ?_⟩
  cases sv with
  | nil => cases he; exact ⟨rfl, hq _ _ _ (Ext.refl w) hr er⟩
  | cons a b => cases he
theorem gs_cons {es : List Expr} {g : S → Env → Ms → Option Env} {gs : List S → Env → Ms → Option Env} (h1 : DG Y e g) (h2 : DGs Y es gs)
    (hs : (assignEach (e :: es) Y.X.env).map (·.2) = assign e Y.X.env :: (assignEach es Y.X.env).map (·.2) := by rfl) : DGs Y (e :: es) (gsCons g gs) := by
  obtain ⟨t, p, s⟩ := h1.ex
  obtain ⟨t2, p2, s2⟩ := h2.ex
  refine ⟨_, pgs_cons p p2 hs, fun w σ H env ms ss vs Q env' er hr sv he hq => ?_⟩
  cases sv with
  | nil => cases he
  | @cons a b ss vs ra rb =>
    have he : (g a env ms).bind (fun env1 => gs ss env1 ms) = some env' := he
    cases hg : g a env ms with
    | none => rw [hg] at he; cases he
    | some env1 =>
      rw [hg] at he
      exact ⟨_, _, rfl, s w σ H env ms a b _ env1 er hr ra hg fun w1 H1 σ1 e1 hr1 er1 => s2 w1 σ1 H1 env1 ms ss vs Q env' er1 hr1 (SRs.mono e1 rb) he fun w2 H2 σ2 e2 => hq w2 H2 σ2 (e1.trans e2)⟩
def gUn (n : Nat) (gs : List S → Env → Ms → Option Env) : S → Env → Ms → Option Env := fun s env ms => match s with
  | .d (.tup ds) => match Nat.beq ds.length n with
    | true => gs (ds.map S.d) env ms
    | false => none
  | _ => none
theorem g_tup {es : List Expr} {j : Nat} {n : Nat} {gs : List S → Env → Ms → Option Env} (hc : Y.X.calm = true) (h : DGs Y es gs)
    (hn : (assignEach es Y.X.env).length = n := by rfl) (hst : (assignEach es Y.X.env).findIdx? (·.1) = none := by rfl) : DG Y (.Tuple es j pos) (gUn n gs) := by
  obtain ⟨t, p, s⟩ := h.ex
  refine ⟨_, pg_tup hc p hn hst, fun w σ H env ms x v Q env' er hr sv he hq => ?_⟩
  cases x with
  | loc i => cases he
  | exn c ds => cases he
  | d x =>
    cases x with
    | tup ds =>
      unfold gUn at he
      dsimp only at he
      cases hl : Nat.beq ds.length n with
      | false => rw [hl] at he; cases he
      | true =>
        rw [hl] at he
        obtain ⟨a, xs, rfl, h2, h3⟩ := sv
        refine ⟨a, xs, rfl, sqT_mono h2 hr.sub, by rw [← DRs.length h3]; exact Nat.eq_of_beq_eq_true hl, ?_⟩
        exact s w σ H env ms _ xs Q env' er hr (SRs_of_DRs h3) he hq
    | _ => cases he

def sSet (i : Nat) (me : Env → Ms → R S) : Env → Ms → T := fun env ms => T.ofE (me env ms) env fun s ms1 => .nx (env.set i (some s)) ms1
theorem s_set {i : Nat} {x : Str} {pos' : Pos} (hN : Y.X.N.Nodup) (he : DE Y e me) (hi : Y.X.N[i]? = some x := by rfl) (hx : Loc Y.X.env.scope x := by first | exact Or.inl rfl | exact Or.inr rfl) (hs : swapsWith e (some (.Name x pos')) pos.line Y.X.env = pure false := by rfl)
    (hf : Y.X.fn x = true ∨ Y.X.env.scope.names.lookup x = some .local := by first | exact .inl rfl | exact .inr rfl) : DS Y (.Assign [.Name x pos'] e pos) (sSet i me) := by
  obtain ⟨t, p, s⟩ := he.ex
  refine ⟨_, ps_set hN hi hx p hs hf, fun w σ H env ms Ed er hr h => ?_⟩
  exact s.goS er hr h fun x ms1 w1 H1 v e1 er1 hr1 sv h1 => h1 w1 H1 _ (Ext.refl w1) hr1 (er1.set sv i)
def sAsg (g : S → Env → Ms → Option Env) (me : Env → Ms → R S) : Env → Ms → T := fun env ms => T.ofE (me env ms) env fun s ms1 => match g s env ms1 with
  | some env' => .nx env' ms1
  | none => .bad
theorem s_asg {tg : Expr} {g : S → Env → Ms → Option Env} (he : DE Y e me) (hg : DG Y tg g) (hs : swapsWithSole [tg] e pos.line Y.X.env = pure false := by rfl) (hw : swappedStores [tg] e Y.X.env = pure none := by rfl)
    (h1 : (assignEach [tg] Y.X.env).map (·.2) = [assign tg Y.X.env] := by rfl) : DS Y (.Assign [tg] e pos) (sAsg g me) := by
  obtain ⟨t, p, s⟩ := he.ex
  obtain ⟨t2, p2, s2⟩ := hg.ex
  refine ⟨_, ps_asg p p2 hs hw h1, fun w σ H env ms Ed er hr h => ?_⟩
  refine s.goS er hr h fun x ms1 w1 H1 v e1 er1 hr1 sv h1 => ?_
  cases q : g x env ms1 with
  | none => rw [q] at h1; exact h1.elim
  | some env' =>
    rw [q] at h1
    exact s2 w1 σ H1 env ms1 x v Ed.nx env' er1 hr1 sv q fun w2 H2 σ' e2 hr2 er' => h1 w2 H2 σ' e2 hr2 er'
/-- a, b = x, y -/
def sPar (i j : Nat) (ma : Env → Ms → R (List S)) : Env → Ms → T := fun env ms => T.ofE (ma env ms) env fun ss ms1 => match ss with
  | [x, y] => .nx ((env.set i (some x)).set j (some y)) ms1
  | _ => .bad
theorem SndA.goS {t : TA} {ma : Env → Ms → R (List S)} (h : SndA Y t ma) {f : List S → Ms → T} {q : List V → Hp → Prop} (er : ER Y w σ env) (hr : HR Y w H ms)
    (hp : tP Y w Ed (T.ofE (ma env ms) env f)) (hk : ∀ s ms1 w1 H1 v, Ext w w1 → ER Y w1 σ env → HR Y w1 H1 ms1 → SRs Y w1 s v → tP Y w1 Ed (f s ms1) → q v H1) : t σ H q := by
  refine h w σ H env ms q er hr ?_
  cases hm : ma env ms with
  | ok s ms1 =>
    rw [hm] at hp
    exact fun w1 H1 v e1 hr1 sv => hk s ms1 w1 H1 v e1 (er.mono e1) hr1 sv (tP.ext e1 hp)
  | ex c ds ms1 =>
    rw [hm] at hp
    exact fun w1 H1 dd e1 hr1 xd => hp w1 H1 σ dd e1 hr1 (er.mono e1) xd
  | bad => rw [hm] at hp; exact hp.elim
end
end Fw
set_option Elab.async false
set_option linter.all false
set_option maxRecDepth 100000
set_option maxHeartbeats 4000000
/-! Fw4: loops. -/
namespace Fw
open PySem L2

/-- what an iterator yields: xs, as long as the cell kp stays -/
def keptC (kp : Option (Nat × Cell)) (ms : Ms) : Prop := ∀ n c, kp = some (n, c) → ms[n]? = some c
/-- more is frozen, more cells: whatever is protected -/
structure Wd.Sub (w w' : Wd) : Prop where
  F : ∀ a o, w.F a = some o → w'.F a = some o
  mu : ∀ (n : Nat) a, w.mu[n]? = some a → w'.mu[n]? = some a
theorem Ext.wsub {w w' : Wd} (e : Ext w w') : w.Sub w' := ⟨e.F, e.mu⟩
theorem Wd.Sub.trans {a b c : Wd} (x : a.Sub b) (y : b.Sub c) : a.Sub c := ⟨fun p o h => y.F p o (x.F p o h), fun n p h => y.mu n p (x.mu n p h)⟩
def Yields (Y : Cy) (w0 : Wd) (xs : List S) (kp : Option (Nat × Cell)) (J : It) : Prop :=
  ∀ (w : Wd) (H : Hp) (ms : Ms), w0.Sub w → HR Y w H ms → keptC kp ms →
    J.stop xs.length H ∧ ∀ (i : Nat) (s : S), xs[i]? = some s → J.go i H ∧ ∀ (x : V) (H' : Hp), J.yld i H x H' → ∃ w', Ext w w' ∧ HR Y w' H' ms ∧ SR Y w' s x
def SndI (Y : Cy) (wi : TI) (mi : Env → Ms → R (List S × Option (Nat × Cell))) : Prop :=
  ∀ (w : Wd) (σ : St) (H : Hp) (env : Env) (ms : Ms) (Rr : It → Hp → Prop), ER Y w σ env → HR Y w H ms →
    (mi env ms).post (fun xk ms1 => ∀ (w1 : Wd) (H1 : Hp) (J : It), Ext w w1 → HR Y w1 H1 ms1 → Yields Y w1 xk.1 xk.2 J → keptC xk.2 ms1 → Rr J H1) (exP Y w σ) → wi σ H Rr
structure DI (Y : Cy) (tg iter : Expr) (mi : Env → Ms → R (List S × Option (Nat × Cell))) : Prop where
  ex : ∃ wi, PI Y.X tg iter wi ∧ SndI Y wi mi
open Classical in
noncomputable def chk {α : Type} (kp : Option (Nat × Cell)) (ms : Ms) (a : α) (b : α) : α := match kp with
  | none => a
  | some (n, c) => if ms[n]? = some c then a else b
noncomputable def forL (kp : Option (Nat × Cell)) (g : S → Env → Ms → Option Env) (body : Env → Ms → T) : List S → Env → Ms → T
  | [], env, ms => chk kp ms (.nx env ms) .bad
  | x :: r, env, ms => chk kp ms (match g x env ms with
    | none => .bad
    | some env1 => match body env1 ms with
      | .nx e m => forL kp g body r e m
      | .ct e m => forL kp g body r e m
      | .bk e m => .nx e m
      | .rt s m => .rt s m
      | .ex c ds e m => .ex c ds e m
      | .bad => .bad) .bad
noncomputable def sFor (mi : Env → Ms → R (List S × Option (Nat × Cell))) (g : S → Env → Ms → Option Env) (body : Env → Ms → T) : Env → Ms → T := fun env ms =>
  T.ofE (mi env ms) env fun xk ms1 => forL xk.2 g body xk.1 env ms1

section
variable {Y : Cy} {w w1 w2 : Wd} {σ : St} {H H1 H2 : Hp} {env : Env} {ms ms1 ms2 : Ms} {Ed : Ends} {pos : Pos}
theorem chk_post {kp : Option (Nat × Cell)} {t : T} (h : tP Y w Ed (chk kp ms t .bad)) : keptC kp ms ∧ tP Y w Ed t := by
  unfold chk at h
  cases kp with
  | none => exact ⟨fun _ _ e => (nomatch e), h⟩
  | some p =>
    obtain ⟨n, c⟩ := p
    dsimp only at h
    by_cases z : ms[n]? = some c
    · rw [if_pos z] at h
      exact ⟨fun m d e => by cases e; exact z, h⟩
    · rw [if_neg z] at h
      exact h.elim
theorem s_for {tg iter : Expr} {body : List Stmt} {mi : Env → Ms → R (List S × Option (Nat × Cell))} {g : S → Env → Ms → Option Env} {mb : Env → Ms → T} (hp : PassesOwn (model Y.X.prog Y.X.w) Y.X.A Y.X.env Y.X.xe) (hc : Y.X.calm = true)
    (hi : DI Y tg iter mi) (hg : DG Y tg g) (hb : DSs Y body mb) (hs : ∀ x, foldedSetIterable iter Y.X.env x = pure x := by intro _; rfl) : DS Y (.For tg iter body [] pos) (sFor mi g mb) := by
  obtain ⟨wi, pi, si⟩ := hi.ex
  obtain ⟨tg', pg, sg⟩ := hg.ex
  obtain ⟨tb, pb, sb⟩ := hb.ex
  refine ⟨_, ps_for hp hc pi pg pb hs, fun w σ H env ms Ed er hr h => ?_⟩
  refine si w σ H env ms _ er hr ?_
  unfold sFor at h
  cases hm : mi env ms with
  | bad => rw [hm] at h; exact h.elim
  | ex c ds ms1 => rw [hm] at h; exact fun w1 H1 dd e1 hr1 xd => h w1 H1 σ dd e1 hr1 (er.mono e1) xd
  | ok xk ms1 =>
    rw [hm] at h
    obtain ⟨xs, kp⟩ := xk
    intro w1 H1 J e1 hr1 hy _
    have h : tP Y w Ed (forL kp g mb xs env ms1) := h
    have hy : Yields Y w1 xs kp J := hy
    refine ⟨fun i m σ' H' => m = xs.length - i ∧ i ≤ xs.length ∧ ∃ (w' : Wd) (env' : Env) (ms' : Ms), Ext w1 w' ∧ HR Y w' H' ms' ∧ ER Y w' σ' env' ∧ tP Y w' Ed (forL kp g mb (xs.drop i) env' ms'),
      ⟨xs.length, by omega, by omega, w1, env, ms1, Ext.refl w1, hr1, er.mono e1, tP.ext e1 h⟩, ?_⟩
    rintro i m σ' H' ⟨rfl, hi, w', env', ms', e', hr', er', h'⟩
    by_cases hlt : i < xs.length
    · refine .inr ?_
      have hx : xs[i]? = some xs[i] := by simp [hlt]
      rw [List.drop_eq_getElem_cons hlt] at h'
      obtain ⟨kc, h'⟩ := chk_post h'
      obtain ⟨hgo, hyl⟩ := (hy w' H' ms' e'.wsub hr' kc).2 i _ hx
      refine ⟨hgo, fun σ2 H2 => i + 1 ≤ xs.length ∧ ∃ (w2 : Wd) (env2 : Env) (ms2 : Ms), Ext w1 w2 ∧ HR Y w2 H2 ms2 ∧ ER Y w2 σ2 env2 ∧ tP Y w2 Ed (forL kp g mb (xs.drop (i + 1)) env2 ms2), fun σ2 H2 n2 => ⟨xs.length - (i + 1), by omega, rfl, n2.1, n2.2⟩, fun x H2 y2 => ?_⟩
      obtain ⟨w2, e2, hr2, sv⟩ := hyl x H2 y2
      cases hgx : g xs[i] env' ms' with
      | none => rw [hgx] at h'; exact h'.elim
      | some env1 =>
        rw [hgx] at h'
        dsimp only at h'
        refine sg w2 σ' H2 env' ms' _ x _ env1 (er'.mono e2) hr2 sv hgx fun w3 H3 σ3 e3 hr3 er3 => ?_
        have e2 := e2.trans e3
        refine sb w3 σ3 H3 env1 ms' _ er3 hr3 ?_
        have h' := tP.ext e2 h'
        have nxt : ∀ e m, tP Y w3 Ed (forL kp g mb (xs.drop (i + 1)) e m) → nxP Y w3 (fun σ2 H2 => i + 1 ≤ xs.length ∧ ∃ (w2 : Wd) (env2 : Env) (ms2 : Ms), Ext w1 w2 ∧ HR Y w2 H2 ms2 ∧ ER Y w2 σ2 env2 ∧ tP Y w2 Ed (forL kp g mb (xs.drop (i + 1)) env2 ms2)) e m := fun e m q w4 H4 σ4 e4 hr4 er4 =>
          ⟨hlt, w4, e, m, (e'.trans e2).trans e4, hr4, er4, tP.ext e4 q⟩
        cases hbm : mb env1 ms' with
        | nx e m => rw [hbm] at h'; exact nxt e m h'
        | ct e m => rw [hbm] at h'; exact nxt e m h'
        | bk e m => rw [hbm] at h'; exact h'
        | rt s m => rw [hbm] at h'; exact h'
        | ex c ds e m => rw [hbm] at h'; exact h'
        | bad => rw [hbm] at h'; exact h'.elim
    · have e : i = xs.length := by omega
      subst e
      rw [List.drop_length] at h'
      obtain ⟨kc, h'⟩ := chk_post h'
      exact .inl ⟨(hy w' H' ms' e'.wsub hr' kc).1, h' w' H' σ' (Ext.refl w') hr' er'⟩

/-! ### what is walked -/
/-- over data: a frozen list, the script, a tuple -/
def itD (s : S) (ms : Ms) : R (List S × Option (Nat × Cell)) := match s with
  | .d (.lst ds) => .ok (ds.map S.d, none) ms
  | .d (.frz ds) => .ok (ds.map S.d, none) ms
  | .loc n => match ms[n]? with
    | some (.lst ds) => .ok (ds.map S.d, some (n, .lst ds)) ms
    | _ => .bad
  | _ => .bad
def itT (s : S) (ms : Ms) : R (List S × Option (Nat × Cell)) := match s with
  | .d (.tup ds) => .ok (ds.map S.d, none) ms
  | _ => .bad
def iList (m : Env → Ms → R S) : Env → Ms → R (List S × Option (Nat × Cell)) := fun env ms => (m env ms).bind itD
def iTup (m : Env → Ms → R S) : Env → Ms → R (List S × Option (Nat × Cell)) := fun env ms => (m env ms).bind itT
theorem map_get {ds : List D} {i : Nat} {s : S} (h : (ds.map S.d)[i]? = some s) : ∃ d, ds[i]? = some d ∧ s = .d d := by
  rw [List.getElem?_map] at h
  cases e : ds[i]? with
  | none => rw [e] at h; cases h
  | some d => rw [e] at h; exact ⟨d, rfl, (Option.some.inj h).symm⟩
theorem yields_list {a : Addr} {xs : List V} {ds : List D} (h : SqL Y.X.K w.F a xs) (r : DRs Y.X.K Y.Γ w.F ds xs) : Yields Y w (ds.map S.d) none (Itl Y.X.K a) := by
  intro w' H' ms' e' hr' _
  have q := sqL_mono (sqL_mono h e'.F) hr'.sub
  refine ⟨⟨xs, q, by rw [List.length_map, DRs.length r]; exact Nat.le_refl _⟩, fun i s hs => ?_⟩
  obtain ⟨d, hd, rfl⟩ := map_get hs
  obtain ⟨v, hv, rv⟩ := DRs.get r hd
  refine ⟨⟨xs, v, q, hv⟩, fun x H2 y => ?_⟩
  obtain ⟨rfl, y⟩ := y
  have : v = x := Option.some.inj (hv.symm.trans (y xs q))
  subst this
  exact ⟨w', Ext.refl w', hr', DR.mono e'.F _ _ rv⟩
theorem yields_cell {n : Nat} {a : Addr} {ds : List D} (h : w.mu[n]? = some a) : Yields Y w (ds.map S.d) (some (n, .lst ds)) (Itl Y.X.K a) := by
  intro w' H' ms' e' hr' kc
  have hc := kc n _ rfl
  obtain ⟨xs, q, r⟩ := hr'.cel n a _ (e'.mu n a h) hc
  have q' : SqL Y.X.K H' a xs := SqL.of q
  refine ⟨⟨xs, q', by rw [List.length_map, DRs.length r]; exact Nat.le_refl _⟩, fun i s hs => ?_⟩
  obtain ⟨d, hd, rfl⟩ := map_get hs
  obtain ⟨v, hv, rv⟩ := DRs.get r hd
  refine ⟨⟨xs, v, q', hv⟩, fun x H2 y => ?_⟩
  obtain ⟨rfl, y⟩ := y
  have : v = x := Option.some.inj (hv.symm.trans (y xs q'))
  subst this
  exact ⟨w', Ext.refl w', hr', rv⟩
theorem yields_tup {a : Addr} {xs : List V} {ds : List D} (h : SqT Y.X.K w.F a xs) (r : DRs Y.X.K Y.Γ w.F ds xs) : Yields Y w (ds.map S.d) none (Itt Y.X.K a) := by
  intro w' H' ms' e' hr' _
  have q := sqT_mono (sqT_mono h e'.F) hr'.sub
  refine ⟨⟨xs, q, by rw [List.length_map, DRs.length r]; exact Nat.le_refl _⟩, fun i s hs => ?_⟩
  obtain ⟨d, hd, rfl⟩ := map_get hs
  obtain ⟨v, hv, rv⟩ := DRs.get r hd
  refine ⟨⟨xs, v, q, hv⟩, fun x H2 y => ?_⟩
  obtain ⟨rfl, y⟩ := y
  have : v = x := Option.some.inj (hv.symm.trans (y xs q))
  subst this
  exact ⟨w', Ext.refl w', hr', DR.mono e'.F _ _ rv⟩
variable {tg l : Expr} {m : Env → Ms → R S}
theorem i_list (h : DE Y l m) : DI Y tg l (iList m) := by
  obtain ⟨t, p, s⟩ := h.ex
  refine ⟨_, pi_list p, fun w σ H env ms Rr er hr h => ?_⟩
  refine s.go er hr h fun x ms1 w1 H1 v e1 er1 hr1 sv h1 => ?_
  cases x with
  | exn c ds => exact h1.elim
  | loc n =>
    obtain ⟨a, ha, rfl⟩ := sv
    unfold itD at h1
    dsimp only at h1
    cases hc : ms1[n]? with
    | none => rw [hc] at h1; exact h1.elim
    | some c =>
      rw [hc] at h1
      cases c with
      | lst ss =>
        obtain ⟨xs, q, r⟩ := hr1.cel n a _ ha hc
        exact ⟨a, rfl, ⟨xs, SqL.of q⟩, h1 w1 H1 _ e1 hr1 (yields_cell ha) (fun i c e => by cases e; exact hc)⟩
      | ins c fs => exact h1.elim
      | dead => exact h1.elim
  | d x =>
    cases x with
    | lst ds =>
      obtain ⟨a, xs, rfl, h2, h3⟩ := sv
      exact ⟨a, rfl, ⟨xs, SqL.of (hr1.sub _ _ h2)⟩, h1 w1 H1 _ e1 hr1 (yields_list (SqL.of h2) h3) (fun _ _ e => nomatch e)⟩
    | frz ds =>
      obtain ⟨a, xs, rfl, h2, h3⟩ := sv
      exact ⟨a, rfl, ⟨xs, sqL_mono h2 hr1.sub⟩, h1 w1 H1 _ e1 hr1 (yields_list h2 h3) (fun _ _ e => nomatch e)⟩
    | _ => exact h1.elim
theorem i_tup (h : DE Y l m) : DI Y tg l (iTup m) := by
  obtain ⟨t, p, s⟩ := h.ex
  refine ⟨_, pi_tup p, fun w σ H env ms Rr er hr h => ?_⟩
  refine s.go er hr h fun x ms1 w1 H1 v e1 er1 hr1 sv h1 => ?_
  cases x with
  | exn c ds => exact h1.elim
  | loc n => exact h1.elim
  | d x =>
    cases x with
    | tup ds =>
      obtain ⟨a, xs, rfl, h2, h3⟩ := sv
      exact ⟨a, rfl, ⟨xs, sqT_mono h2 hr1.sub⟩, h1 w1 H1 _ e1 hr1 (yields_tup h2 h3) (fun _ _ e => nomatch e)⟩
    | _ => exact h1.elim
/-- range -/
def rngS (lo : Int) (n : Nat) : List S := (List.range n).map fun i => S.d (.int (lo + (i : Nat)))
theorem yields_rng {lo : Int} {n : Nat} : Yields Y w (rngS lo n) none (Itr lo n) := by
  intro w' H' ms' e' hr' _
  refine ⟨by show n ≤ (rngS lo n).length; simp [rngS], fun i s hs => ?_⟩
  have hi : i < n := by
    have := (List.getElem?_eq_some_iff.mp hs).1
    simpa [rngS] using this
  have hsv : s = .d (.int (lo + (i : Nat))) := by
    simp [rngS, hi] at hs
    exact hs.symm
  refine ⟨hi, fun x H2 y => ?_⟩
  obtain ⟨rfl, rfl⟩ := y
  exact ⟨w', Ext.refl w', hr', by rw [hsv]; rfl⟩
/-- told by choice: the kernel never counts it out -/
noncomputable def dec (p : Prop) : Bool := @decide p (Classical.propDecidable p)
theorem dec_of {p : Prop} (h : dec p = true) : p := @of_decide_eq_true p (Classical.propDecidable p) h
theorem dec_is {p : Prop} (h : p) : dec p = true := @decide_eq_true p (Classical.propDecidable p) h
theorem dec_not {p : Prop} (h : ¬ p) : dec p = false := @decide_eq_false p (Classical.propDecidable p) h
/-- .. of an int -/
noncomputable def inR (i : Int) : Bool := @decide (-(2 ^ 62) ≤ i ∧ i < 2 ^ 62) (Classical.propDecidable _)
theorem inR_of {i : Int} (h : inR i = true) : -(2 ^ 62) ≤ i ∧ i < 2 ^ 62 := @of_decide_eq_true _ (Classical.propDecidable _) h
theorem inR_is {i : Int} (h : -(2 ^ 62) ≤ i ∧ i < 2 ^ 62) : inR i = true := @decide_eq_true _ (Classical.propDecidable _) h
noncomputable def itR1 (ss : List S) (ms : Ms) : R (List S × Option (Nat × Cell)) := match ss with
  | [.d (.int j)] => match inR j with
    | true => .ok (rngS 0 j.toNat, none) ms
    | false => .bad
  | _ => .bad
noncomputable def itR2 (ss : List S) (ms : Ms) : R (List S × Option (Nat × Cell)) := match ss with
  | [.d (.int i), .d (.int j)] => match inR i && inR j with
    | true => .ok (rngS i (j - i).toNat, none) ms
    | false => .bad
  | _ => .bad
noncomputable def iRng1 (m : Env → Ms → R (List S)) : Env → Ms → R (List S × Option (Nat × Cell)) := fun env ms => (m env ms).bind itR1
noncomputable def iRng2 (m : Env → Ms → R (List S)) : Env → Ms → R (List S × Option (Nat × Cell)) := fun env ms => (m env ms).bind itR2
variable {a b : Expr} {p pos' : Pos} {ma : Env → Ms → R (List S)}
theorem i_range1 (hg : Gl Y.X "range") (hm : Y.X.mg "range" = none) (ha : DA Y [a] ma) (hs : starEach [a] Y.X.env = [(false, eval a Y.X.env)] := by rfl) : DI Y tg (.Call (.Name "range" p) [a] [] pos') (iRng1 ma) := by
  obtain ⟨t, pa, s⟩ := ha.ex
  refine ⟨_, pi_range1 hg hm pa hs, fun w σ H env ms Rr er hr h => ?_⟩
  refine s.go er hr h fun ss ms1 w1 H1 vs e1 er1 hr1 sv h1 => ?_
  unfold itR1 at h1
  split at h1
  · rename_i j
    cases hj : inR j with
    | false => rw [hj] at h1; exact h1.elim
    | true =>
      rw [hj] at h1
      have := inR_of hj
      cases sv with
      | cons q r =>
        cases r
        cases q
        exact ⟨j, rfl, this.1, this.2, h1 w1 H1 _ e1 hr1 yields_rng (fun _ _ e => nomatch e)⟩
  · exact h1.elim
theorem i_range2 (hg : Gl Y.X "range") (hm : Y.X.mg "range" = none) (ha : DA Y [a, b] ma) (hs : starEach [a, b] Y.X.env = [(false, eval a Y.X.env), (false, eval b Y.X.env)] := by rfl) (hs2 : starEach [b] Y.X.env = [(false, eval b Y.X.env)] := by rfl) :
    DI Y tg (.Call (.Name "range" p) [a, b] [] pos') (iRng2 ma) := by
  obtain ⟨t, pa, s⟩ := ha.ex
  refine ⟨_, pi_range2 hg hm pa hs hs2, fun w σ H env ms Rr er hr h => ?_⟩
  refine s.go er hr h fun ss ms1 w1 H1 vs e1 er1 hr1 sv h1 => ?_
  unfold itR2 at h1
  split at h1
  · rename_i i j
    cases hj : (inR i && inR j) with
    | false => rw [hj] at h1; exact h1.elim
    | true =>
      rw [hj] at h1
      obtain ⟨k1, k2⟩ := Bool.and_eq_true_iff.mp hj
      have q1 := inR_of k1
      have q2 := inR_of k2
      cases sv with
      | cons q r =>
        cases r with
        | cons q' r' =>
          cases r'
          cases q
          cases q'
          exact ⟨i, j, rfl, ⟨q1.1, q1.2, q2.1, q2.2⟩, h1 w1 H1 _ e1 hr1 yields_rng (fun _ _ e => nomatch e)⟩
  · exact h1.elim

/-! ### while -/
def whileL (c : Env → Ms → R Bool) (b : Env → Ms → T) : Nat → Env → Ms → T
  | 0, _, _ => .bad
  | n + 1, env, ms => match c env ms with
    | .ok true ms1 => match b env ms1 with
      | .nx e m => whileL c b n e m
      | .ct e m => whileL c b n e m
      | .bk e m => .nx e m
      | .rt s m => .rt s m
      | .ex c ds e m => .ex c ds e m
      | .bad => .bad
    | .ok false ms1 => .nx env ms1
    | .ex k ds ms1 => .ex k ds env ms1
    | .bad => .bad
def sWhile (fu : Env → Ms → Nat) (c : Env → Ms → R Bool) (b : Env → Ms → T) : Env → Ms → T := fun env ms => whileL c b (fu env ms) env ms
theorem s_while (fu : Env → Ms → Nat) {c : Expr} {body : List Stmt} {mc : Env → Ms → R Bool} {mb : Env → Ms → T} (hp : PassesOwn (model Y.X.prog Y.X.w) Y.X.A Y.X.env Y.X.xe) (hc : DT Y c mc) (hb : DSs Y body mb) : DS Y (.While c body [] pos) (sWhile fu mc mb) := by
  obtain ⟨tc, pc, sc⟩ := hc.ex
  obtain ⟨tb, pb, sb⟩ := hb.ex
  refine ⟨_, ps_while hp pc pb, fun w σ H env ms Ed er hr h => ?_⟩
  refine ⟨fun n σ' H' => ∃ (w' : Wd) (env' : Env) (ms' : Ms), HR Y w' H' ms' ∧ ER Y w' σ' env' ∧ tP Y w' Ed (whileL mc mb n env' ms'), ⟨fu env ms, w, env, ms, hr, er, h⟩, ?_⟩
  rintro n σ1 H1 ⟨w1, env1, ms1, hr1, er1, h1⟩
  cases n with
  | zero => exact h1.elim
  | succ n =>
    unfold whileL at h1
    refine sc w1 σ1 H1 env1 ms1 _ er1 hr1 ?_
    cases hm : mc env1 ms1 with
    | bad => rw [hm] at h1; exact h1.elim
    | ex k ds ms2 => rw [hm] at h1; exact fun w2 H2 dd e2 hr2 xd => h1 w2 H2 σ1 dd e2 hr2 (er1.mono e2) xd
    | ok x ms2 =>
      rw [hm] at h1
      intro w2 H2 e2 hr2
      cases x with
      | false => exact iteF (h1 w2 H2 σ1 e2 hr2 (er1.mono e2))
      | true =>
        refine iteT ⟨fun σ' H' => ∃ (w' : Wd) (env' : Env) (ms' : Ms), HR Y w' H' ms' ∧ ER Y w' σ' env' ∧ tP Y w' Ed (whileL mc mb n env' ms'), fun σ' H' q => ⟨n, Nat.lt_succ_self n, q⟩, ?_⟩
        refine sb w2 σ1 H2 env1 ms2 _ (er1.mono e2) hr2 ?_
        have h1 := tP.ext e2 h1
        have nxt : ∀ e m, tP Y w2 Ed (whileL mc mb n e m) → nxP Y w2 (fun σ' H' => ∃ (w' : Wd) (env' : Env) (ms' : Ms), HR Y w' H' ms' ∧ ER Y w' σ' env' ∧ tP Y w' Ed (whileL mc mb n env' ms')) e m := fun e m q w4 H4 σ4 e4 hr4 er4 =>
          ⟨w4, e, m, hr4, er4, tP.ext e4 q⟩
        dsimp only at h1
        cases hbm : mb env1 ms2 with
        | nx e m => rw [hbm] at h1; exact nxt e m h1
        | ct e m => rw [hbm] at h1; exact nxt e m h1
        | bk e m => rw [hbm] at h1; exact h1
        | rt s m => rw [hbm] at h1; exact h1
        | ex c ds e m => rw [hbm] at h1; exact h1
        | bad => rw [hbm] at h1; exact h1.elim
end
end Fw
set_option Elab.async false
set_option linter.all false
set_option maxRecDepth 100000
set_option maxHeartbeats 4000000
/-! Fw5: defs: what a def computes, its rule, calls. -/
namespace Fw
open PySem L2 PySem.Spec PyProof.Rows

def start0 (n : Nat) (ss : List S) : Env := ss.map some ++ List.replicate (n - ss.length) none
def endS (s : S) (ms : Ms) : R S := match s.noX with
  | true => .ok s ms
  | false => .bad
def fnSem (n : Nat) (m : Env → Ms → T) : List S → Ms → R S := fun ss ms => match m (start0 n ss) ms with
  | .nx _ ms' => .ok (.d .non) ms'
  | .rt s ms' => endS s ms'
  | .ex c ds _ ms' => .ex c ds ms'
  | _ => .bad

/-! ### a call: the callee sees only the cells it is handed -/
def locsOf : List S → List Nat
  | [] => []
  | .loc n :: r => n :: locsOf r
  | .d _ :: r => locsOf r
  | .exn _ _ :: r => locsOf r
def renS (ls : List Nat) : S → S
  | .loc n => .loc (ls.idxOf n)
  | .d x => .d x
  | .exn c ds => .exn c ds
def getC (ms : Ms) (n : Nat) : Cell := match ms[n]? with
  | some c => c
  | none => .dead
def wb : List Nat → Ms → Ms → Ms
  | l :: ls, c :: cs, ms => wb ls cs (ms.set l c)
  | _, _, ms => ms
def nodupB : List Nat → Bool
  | [] => true
  | l :: ls => !ls.contains l && nodupB ls
def callEnd (ls : List Nat) (ms : Ms) (r : R S) : R S := match r with
  | .ok (.d x) ms' => .ok (.d x) (wb ls ms' ms)
  | .ok (.loc j) ms' => match ls[j]? with
    | some n => .ok (.loc n) (wb ls ms' ms)
    | none => match ms'[j]? with
      | some c => .ok (.loc ms.length) (wb ls ms' ms ++ [c])
      | none => .bad
  | .ok (.exn _ _) _ => .bad
  | .ex c ds ms' => .ex c ds (wb ls ms' ms)
  | .bad => .bad
def callSem (sem : List S → Ms → R S) (ss : List S) (ms : Ms) : R S := match ss.all S.noX && nodupB (locsOf ss) with
  | true => callEnd (locsOf ss) ms (sem (ss.map (renS (locsOf ss))) ((locsOf ss).map (getC ms)))
  | false => .bad
theorem nodupB_ok : ∀ {ls : List Nat}, nodupB ls = true → ls.Nodup
  | [], _ => List.nodup_nil
  | l :: ls, h => by
    unfold nodupB at h
    rw [Bool.and_eq_true, Bool.not_eq_true'] at h
    refine List.nodup_cons.mpr ⟨fun m => ?_, nodupB_ok h.2⟩
    have := List.contains_iff_mem.mpr m
    rw [h.1] at this; cases this
theorem wb_len : ∀ (ls : List Nat) (cs ms : Ms), (wb ls cs ms).length = ms.length
  | [], cs, ms => by unfold wb; rfl
  | l :: ls, [], ms => by unfold wb; rfl
  | l :: ls, c :: cs, ms => by show (wb ls cs (ms.set l c)).length = _; rw [wb_len]; simp
theorem wb_out : ∀ {ls : List Nat} {cs ms : Ms} {n : Nat}, n ∉ ls → (wb ls cs ms)[n]? = ms[n]?
  | [], cs, ms, n, _ => by unfold wb; rfl
  | l :: ls, [], ms, n, _ => by unfold wb; rfl
  | l :: ls, c :: cs, ms, n, h => by
    show (wb ls cs (ms.set l c))[n]? = _
    rw [wb_out (fun z => h (List.mem_cons_of_mem _ z)), List.getElem?_set_ne (fun z => h (by subst z; exact List.mem_cons_self))]
theorem wb_in : ∀ {ls : List Nat} {cs ms : Ms} {n k : Nat} {c : Cell}, ls.Nodup → ls[k]? = some n → cs[k]? = some c → n < ms.length → (wb ls cs ms)[n]? = some c
  | [], cs, ms, n, k, c, _, h, _, _ => by simp at h
  | l :: ls, [], ms, n, k, c, _, _, h, _ => by simp at h
  | l :: ls, c :: cs, ms, n, 0, d, nd, h, h2, hn => by
    simp at h h2
    subst h h2
    show (wb ls cs (ms.set l c))[l]? = _
    rw [wb_out (List.nodup_cons.mp nd).1, List.getElem?_set_self hn]
  | l :: ls, c :: cs, ms, n, k + 1, d, nd, h, h2, hn => by
    show (wb ls cs (ms.set l c))[n]? = _
    exact wb_in (List.nodup_cons.mp nd).2 (by simpa using h) (by simpa using h2) (by simpa using hn)
theorem mem_of_locs : ∀ {ss : List S} {n : Nat}, S.loc n ∈ ss → n ∈ locsOf ss
  | .loc m :: r, n, h => by
    rcases List.mem_cons.mp h with e | e
    · cases e; exact List.mem_cons_self
    · exact List.mem_cons_of_mem _ (mem_of_locs e)
  | .d x :: r, n, h => by
    have : S.loc n ∈ r := by
      rcases List.mem_cons.mp h with e | e
      · cases e
      · exact e
    exact mem_of_locs (ss := r) this
  | .exn _ _ :: r, n, h => by
    have : S.loc n ∈ r := by
      rcases List.mem_cons.mp h with e | e
      · cases e
      · exact e
    exact mem_of_locs (ss := r) this
section
variable {K : PySem.W.Frag} {Γ : G} {w w1 : Wd} {H H1 : Hp} {ms ms1 : Ms}
theorem locs_lt : ∀ {ss : List S} {vs : List V}, SRs0 K Γ w ss vs → ∀ n ∈ locsOf ss, ∃ a, w.mu[n]? = some a
  | _, _, .nil, n, h => nomatch h
  | .loc m :: r, _, .cons q t, n, h => by
    rcases List.mem_cons.mp h with e | e
    · subst e; obtain ⟨a, h1, _⟩ := q; exact ⟨a, h1⟩
    · exact locs_lt t n e
  | .d _ :: r, _, .cons q t, n, h => locs_lt t n h
  | .exn _ _ :: r, _, .cons q t, n, h => locs_lt t n h
open Classical in
/-- the caller's other cells, and what it protects itself -/
noncomputable def guardP (w : Wd) (H : Hp) (ms : Ms) (ls : List Nat) : Hp := fun a => match w.P a with
  | some o => some o
  | none => if ∃ (n : Nat) (c : Cell), w.mu[n]? = some a ∧ ms[n]? = some c ∧ c ≠ .dead ∧ n ∉ ls then H a else none
theorem guardP_P {ls : List Nat} {a : Addr} {o : HO} (h : w.P a = some o) : guardP w H ms ls a = some o := by unfold guardP; rw [h]
theorem guardP_cell {ls : List Nat} {a : Addr} {n : Nat} {c : Cell} (hp : w.P a = none) (h1 : w.mu[n]? = some a) (h2 : ms[n]? = some c) (h3 : c ≠ .dead) (h4 : n ∉ ls) : guardP w H ms ls a = H a := by
  unfold guardP; rw [hp]; exact if_pos ⟨n, c, h1, h2, h3, h4⟩
theorem guardP_inv {ls : List Nat} {a : Addr} {o : HO} (h : guardP w H ms ls a = some o) : w.P a = some o ∨ (H a = some o ∧ ∃ (n : Nat) (c : Cell), w.mu[n]? = some a ∧ ms[n]? = some c ∧ c ≠ .dead ∧ n ∉ ls) := by
  unfold guardP at h
  cases e : w.P a with
  | some u => rw [e] at h; exact .inl h
  | none =>
    rw [e] at h
    dsimp only at h
    split at h
    · rename_i z; exact .inr ⟨h, z⟩
    · cases h
def addr (w : Wd) (n : Nat) : Addr := match w.mu[n]? with
  | some a => a
  | none => 0
theorem addr_eq {n : Nat} {a : Addr} (h : w.mu[n]? = some a) : addr w n = a := by unfold addr; rw [h]
/-- the callee's world -/
noncomputable def callW (w : Wd) (H : Hp) (ms : Ms) (ls : List Nat) : Wd := ⟨w.F, guardP w H ms ls, ls.map (addr w)⟩
theorem getC_eq {n : Nat} {c : Cell} (h : ms[n]? = some c) : getC ms n = c := by unfold getC; rw [h]
theorem HR0.cell_at (h : HR0 K Γ w H ms) {n : Nat} {a : Addr} (e : w.mu[n]? = some a) : ms[n]? = some (getC ms n) := by
  have : n < ms.length := by rw [← h.len]; exact (List.getElem?_eq_some_iff.mp e).1
  unfold getC
  rw [List.getElem?_eq_getElem this]
theorem HR0.alive (h : HR0 K Γ w H ms) {n : Nat} {a : Addr} {c : Cell} (hm : w.mu[n]? = some a) (hc : ms[n]? = some c) (hd : c ≠ .dead) : ∃ o, H a = some o := by
  have q := h.cel n a c hm hc
  cases c with
  | lst ds => obtain ⟨xs, e, _⟩ := q; exact ⟨_, e⟩
  | ins c fs => obtain ⟨dx, xs, e, _⟩ := q; exact ⟨_, e⟩
  | dead => exact absurd rfl hd
theorem HR0.callW {ls : List Nat} (h : HR0 K Γ w H ms) (nd : ls.Nodup) (hl : ∀ n ∈ ls, ∃ a, w.mu[n]? = some a) : HR0 K Γ (callW w H ms ls) H (ls.map (getC ms)) := by
  have at_ : ∀ {i : Nat} {a : Addr}, (ls.map (addr w))[i]? = some a → ∃ n, ls[i]? = some n ∧ w.mu[n]? = some a := fun {i a} e => by
    rw [List.getElem?_map] at e
    cases q : ls[i]? with
    | none => rw [q] at e; cases e
    | some n =>
      rw [q] at e
      obtain ⟨b, hb⟩ := hl n (List.mem_of_getElem? q)
      have : addr w n = a := Option.some.inj e
      rw [addr_eq hb] at this
      subst this
      exact ⟨n, rfl, hb⟩
  have mc : ∀ {i n : Nat} {c : Cell}, ls[i]? = some n → (ls.map (getC ms))[i]? = some c → ms[n]? = some c := fun {i n c} e q => by
    rw [List.getElem?_map, e] at q
    obtain ⟨b, hb⟩ := hl n (List.mem_of_getElem? e)
    rw [h.cell_at hb]
    exact q
  refine ⟨h.sub, fun a o e => ?_, fun a o e => ?_, by simp [Fw.callW], fun i j a c c' e1 e2 k1 k2 d1 d2 => ?_, fun i a c e k hd => ?_, fun i a c e k => ?_⟩
  · rcases guardP_inv e with e | ⟨e, _⟩
    · exact h.prot a o e
    · exact e
  · rcases guardP_inv e with e | ⟨_, n, c, e1, e2, e3, _⟩
    · exact h.dis a o e
    · exact (h.sep n a c e1 e2 e3).1
  · obtain ⟨n, hn, en⟩ := at_ e1
    obtain ⟨m, hm, em⟩ := at_ e2
    have := h.inj n m a c c' en em (mc hn k1) (mc hm k2) d1 d2
    subst this
    exact (List.getElem?_inj (List.getElem?_eq_some_iff.mp hn).1 nd).mp (hn.trans hm.symm)
  · obtain ⟨n, hn, en⟩ := at_ e
    have s := h.sep n a c en (mc hn k) hd
    refine ⟨s.1, ?_⟩
    show guardP w H ms ls a = none
    cases q : guardP w H ms ls a with
    | none => rfl
    | some o =>
      rcases guardP_inv q with z | ⟨_, m, c', z1, z2, z3, z4⟩
      · rw [s.2] at z; cases z
      · have := h.inj n m a c c' en z1 (mc hn k) z2 hd z3
        subst this
        exact absurd (List.mem_of_getElem? hn) z4
  · obtain ⟨n, hn, en⟩ := at_ e
    have q := h.cel n a c en (mc hn k)
    cases c with
    | dead => trivial
    | lst ds => exact q
    | ins c fs => exact q
theorem renS_rel {ls : List Nat} {s : S} {v : V} (h : SR0 K Γ w s v) (hl : ∀ n, s = .loc n → n ∈ ls) : SR0 K Γ (callW w H ms ls) (renS ls s) v := by
  cases s with
  | d x => exact h
  | exn c ds => exact h.elim
  | loc n =>
    obtain ⟨a, e1, rfl⟩ := h
    refine ⟨a, ?_, rfl⟩
    show (ls.map (addr w))[ls.idxOf n]? = some a
    have hm := hl n rfl
    rw [List.getElem?_map, List.getElem?_eq_getElem (List.idxOf_lt_length_of_mem hm), List.getElem_idxOf]
    show some (addr w n) = _
    rw [addr_eq e1]
theorem renSs_rel {ls : List Nat} : ∀ {ss : List S} {vs : List V}, SRs0 K Γ w ss vs → (∀ n, S.loc n ∈ ss → n ∈ ls) → SRs0 K Γ (callW w H ms ls) (ss.map (renS ls)) vs
  | _, _, .nil, _ => .nil
  | s :: r, _, .cons a b, h => .cons (renS_rel a fun n e => h n (by subst e; exact List.mem_cons_self)) (renSs_rel b fun n e => h n (List.mem_cons_of_mem _ e))
/-- behind the call -/
theorem HR0.back {ls : List Nat} {w' : Wd} {H' : Hp} {ms' : Ms} {mu2 : List Addr} {ms2 : Ms} (src : Nat → Option Nat) (h : HR0 K Γ w H ms) (e : Ext (Fw.callW w H ms ls) w') (h' : HR0 K Γ w' H' ms') (len : mu2.length = ms2.length)
    (k1 : ∀ (n : Nat) a c, mu2[n]? = some a → ms2[n]? = some c → src n = none → w.mu[n]? = some a ∧ ms[n]? = some c ∧ n ∉ ls)
    (k2 : ∀ (n k : Nat) a c, mu2[n]? = some a → ms2[n]? = some c → src n = some k → w'.mu[k]? = some a ∧ ms'[k]? = some c)
    (k3 : ∀ (n m k : Nat), n < mu2.length → m < mu2.length → src n = some k → src m = some k → n = m) : HR0 K Γ ⟨w'.F, w.P, mu2⟩ H' ms2 := by
  have eP : w'.P = guardP w H ms ls := e.P
  have old : ∀ {n : Nat} {a : Addr} {c : Cell}, w.mu[n]? = some a → ms[n]? = some c → c ≠ .dead → n ∉ ls → w'.P a = H a ∧ w.P a = none := fun {n a c} q1 q2 q3 q4 => by
    have s := h.sep n a c q1 q2 q3
    exact ⟨by rw [eP]; exact guardP_cell s.2 q1 q2 q3 q4, s.2⟩
  have clash : ∀ {n k : Nat} {a : Addr} {c c' : Cell}, w.mu[n]? = some a → ms[n]? = some c → c ≠ .dead → n ∉ ls → w'.mu[k]? = some a → ms'[k]? = some c' → c' ≠ .dead → False := fun {n k a c c'} q1 q2 q3 q4 r1 r2 r3 => by
    obtain ⟨o, ho⟩ := h.alive q1 q2 q3
    have := (h'.sep k a c' r1 r2 r3).2
    rw [(old q1 q2 q3 q4).1, ho] at this
    cases this
  refine ⟨h'.sub, fun a o q => ?_, fun a o q => ?_, len, fun i j a c c' e1 e2 q1 q2 d1 d2 => ?_, fun n a c q1 q2 q3 => ?_, fun n a c q1 q2 => ?_⟩
  · exact h'.prot a o (by rw [eP]; exact guardP_P q)
  · exact h'.dis a o (by rw [eP]; exact guardP_P q)
  · cases si : src i with
    | none =>
      obtain ⟨x1, x2, x3⟩ := k1 i a c e1 q1 si
      cases sj : src j with
      | none =>
        obtain ⟨y1, y2, y3⟩ := k1 j a c' e2 q2 sj
        exact h.inj i j a c c' x1 y1 x2 y2 d1 d2
      | some k =>
        obtain ⟨y1, y2⟩ := k2 j k a c' e2 q2 sj
        exact (clash x1 x2 d1 x3 y1 y2 d2).elim
    | some k =>
      obtain ⟨x1, x2⟩ := k2 i k a c e1 q1 si
      cases sj : src j with
      | none =>
        obtain ⟨y1, y2, y3⟩ := k1 j a c' e2 q2 sj
        exact (clash y1 y2 d2 y3 x1 x2 d1).elim
      | some k' =>
        obtain ⟨y1, y2⟩ := k2 j k' a c' e2 q2 sj
        have := h'.inj k k' a c c' x1 y1 x2 y2 d1 d2
        subst this
        exact k3 i j k (List.getElem?_eq_some_iff.mp e1).1 (List.getElem?_eq_some_iff.mp e2).1 si sj
  · cases si : src n with
    | none =>
      obtain ⟨x1, x2, x3⟩ := k1 n a c q1 q2 si
      obtain ⟨o, ho⟩ := h.alive x1 x2 q3
      obtain ⟨z1, z2⟩ := old x1 x2 q3 x3
      exact ⟨h'.dis a o (z1.trans ho), z2⟩
    | some k =>
      obtain ⟨x1, x2⟩ := k2 n k a c q1 q2 si
      have s := h'.sep k a c x1 x2 q3
      refine ⟨s.1, ?_⟩
      cases z : w.P a with
      | none => rfl
      | some o =>
        have := s.2
        rw [eP, guardP_P z] at this
        cases this
  · cases si : src n with
    | none =>
      obtain ⟨x1, x2, x3⟩ := k1 n a _ q1 q2 si
      cases c with
      | dead => trivial
      | lst ds =>
        have nd : (Cell.lst ds) ≠ .dead := by intro z; cases z
        obtain ⟨xs, y1, y2⟩ := h.cel n a _ x1 x2
        exact ⟨xs, h'.prot a _ ((old x1 x2 nd x3).1.trans y1), DRs.mono e.F _ _ y2⟩
      | ins c fs =>
        have nd : (Cell.ins c fs) ≠ .dead := by intro z; cases z
        obtain ⟨dx, xs, y1, y2⟩ := h.cel n a _ x1 x2
        exact ⟨dx, xs, h'.prot a _ ((old x1 x2 nd x3).1.trans y1), DRs.mono e.F _ _ y2⟩
    | some k =>
      obtain ⟨x1, x2⟩ := k2 n k a _ q1 q2 si
      have q := h'.cel k a _ x1 x2
      cases c with
      | dead => trivial
      | lst ds => exact q
      | ins c fs => exact q
/-- no new cell -/
theorem HR0.back0 {ls : List Nat} {w' : Wd} {H' : Hp} {ms' : Ms} (h : HR0 K Γ w H ms) (nd : ls.Nodup) (hl : ∀ n ∈ ls, ∃ a, w.mu[n]? = some a) (e : Ext (Fw.callW w H ms ls) w') (h' : HR0 K Γ w' H' ms') : HR0 K Γ ⟨w'.F, w.P, w.mu⟩ H' (wb ls ms' ms) := by
  refine h.back (ls := ls) (fun n => match decide (n ∈ ls) with
    | true => some (ls.idxOf n)
    | false => none) e h' (by rw [wb_len]; exact h.len) (fun n a c q1 q2 z => ?_) (fun n k a c q1 q2 z => ?_) fun n m k _ _ z1 z2 => ?_
  · cases b : decide (n ∈ ls) with
    | true => rw [b] at z; cases z
    | false =>
      have := of_decide_eq_false b
      rw [wb_out this] at q2
      exact ⟨q1, q2, this⟩
  · cases b : decide (n ∈ ls) with
    | false => rw [b] at z; cases z
    | true =>
      rw [b] at z
      cases z
      have hm := of_decide_eq_true b
      have hi : ls[ls.idxOf n]? = some n := by rw [List.getElem?_eq_getElem (List.idxOf_lt_length_of_mem hm), List.getElem_idxOf]
      have hmu : w'.mu[ls.idxOf n]? = some a := e.mu _ a (by
        show (ls.map (addr w))[ls.idxOf n]? = _
        rw [List.getElem?_map, hi]
        show some (addr w n) = _
        rw [addr_eq q1])
      refine ⟨hmu, ?_⟩
      have hc := h'.cell_at hmu
      rw [wb_in nd hi hc (by rw [← h.len]; exact (List.getElem?_eq_some_iff.mp q1).1)] at q2
      rw [hc, q2]
  · cases b1 : decide (n ∈ ls) with
    | false => rw [b1] at z1; cases z1
    | true =>
      cases b2 : decide (m ∈ ls) with
      | false => rw [b2] at z2; cases z2
      | true =>
        rw [b1] at z1
        rw [b2] at z2
        have z1 : ls.idxOf n = k := Option.some.inj z1
        have z2 : ls.idxOf m = k := Option.some.inj z2
        have h1 : ls[ls.idxOf n]? = some n := by rw [List.getElem?_eq_getElem (List.idxOf_lt_length_of_mem (of_decide_eq_true b1)), List.getElem_idxOf]
        have h2 : ls[ls.idxOf m]? = some m := by rw [List.getElem?_eq_getElem (List.idxOf_lt_length_of_mem (of_decide_eq_true b2)), List.getElem_idxOf]
        rw [z1] at h1; rw [z2] at h2
        exact Option.some.inj (h1.symm.trans h2)
/-- with a new cell -/
theorem HR0.back1 {ls : List Nat} {w' : Wd} {H' : Hp} {ms' : Ms} {j : Nat} {b : Addr} {d : Cell} (h : HR0 K Γ w H ms) (nd : ls.Nodup) (hl : ∀ n ∈ ls, ∃ a, w.mu[n]? = some a) (e : Ext (Fw.callW w H ms ls) w') (h' : HR0 K Γ w' H' ms')
    (hj : ls[j]? = none) (hb : w'.mu[j]? = some b) (hd : ms'[j]? = some d) : HR0 K Γ ⟨w'.F, w.P, w.mu ++ [b]⟩ H' (wb ls ms' ms ++ [d]) := by
  have nin : w.mu.length ∉ ls := fun z => by
    obtain ⟨a, q⟩ := hl _ z
    have := (List.getElem?_eq_some_iff.mp q).1
    omega
  have hjl : ls.length ≤ j := List.getElem?_eq_none_iff.mp hj
  have side : ∀ {n : Nat} {a : Addr} {c : Cell}, (w.mu ++ [b])[n]? = some a → (wb ls ms' ms ++ [d])[n]? = some c → (n < w.mu.length ∧ w.mu[n]? = some a ∧ (wb ls ms' ms)[n]? = some c) ∨ (n = w.mu.length ∧ a = b ∧ c = d) := fun {n a c} q1 q2 => by
    have l := wb_len ls ms' ms
    by_cases z : n < w.mu.length
    · rw [List.getElem?_append_left z] at q1
      rw [List.getElem?_append_left (by rw [l, ← h.len]; exact z)] at q2
      exact .inl ⟨z, q1, q2⟩
    · have lt := (List.getElem?_eq_some_iff.mp q1).1
      have : n = w.mu.length := by simp at lt; omega
      subst this
      rw [List.getElem?_append_right (Nat.le_refl _)] at q1
      rw [List.getElem?_append_right (by rw [l, ← h.len]; exact Nat.le_refl _)] at q2
      rw [l, ← h.len] at q2
      simp at q1 q2
      exact .inr ⟨rfl, q1.symm, q2.symm⟩
  refine h.back (ls := ls) (fun n => match decide (n ∈ ls) with
    | true => some (ls.idxOf n)
    | false => match Nat.beq n w.mu.length with
      | true => some j
      | false => none) e h' (by rw [List.length_append, List.length_append, wb_len, h.len]; rfl) (fun n a c q1 q2 z => ?_) (fun n k a c q1 q2 z => ?_) fun n m k ln lm z1 z2 => ?_
  · cases b1 : decide (n ∈ ls) with
    | true => rw [b1] at z; cases z
    | false =>
      rw [b1] at z
      dsimp only at z
      cases b2 : Nat.beq n w.mu.length with
      | true => rw [b2] at z; cases z
      | false =>
        have := of_decide_eq_false b1
        rcases side q1 q2 with ⟨_, r1, r2⟩ | ⟨rfl, _, _⟩
        · rw [wb_out this] at r2
          exact ⟨r1, r2, this⟩
        · rw [Nat.beq_refl] at b2; cases b2
  · cases b1 : decide (n ∈ ls) with
    | false =>
      rw [b1] at z
      dsimp only at z
      cases b2 : Nat.beq n w.mu.length with
      | false => rw [b2] at z; cases z
      | true =>
        rw [b2] at z
        cases z
        have : n = w.mu.length := Nat.eq_of_beq_eq_true b2
        rcases side q1 q2 with ⟨r0, _, _⟩ | ⟨_, rfl, rfl⟩
        · omega
        · exact ⟨hb, hd⟩
    | true =>
      rw [b1] at z
      cases z
      have hm := of_decide_eq_true b1
      have hi : ls[ls.idxOf n]? = some n := by rw [List.getElem?_eq_getElem (List.idxOf_lt_length_of_mem hm), List.getElem_idxOf]
      rcases side q1 q2 with ⟨_, r1, r2⟩ | ⟨rfl, _, _⟩
      · have hmu : w'.mu[ls.idxOf n]? = some a := e.mu _ a (by
          show (ls.map (addr w))[ls.idxOf n]? = _
          rw [List.getElem?_map, hi]
          show some (addr w n) = _
          rw [addr_eq r1])
        refine ⟨hmu, ?_⟩
        have hc := h'.cell_at hmu
        rw [wb_in nd hi hc (by rw [← h.len]; exact (List.getElem?_eq_some_iff.mp r1).1)] at r2
        rw [hc, r2]
      · exact absurd hm nin
  · have hin : ∀ {n : Nat}, n ∈ ls → ls[ls.idxOf n]? = some n := fun hm => by rw [List.getElem?_eq_getElem (List.idxOf_lt_length_of_mem hm), List.getElem_idxOf]
    cases b1 : decide (n ∈ ls) with
    | false =>
      rw [b1] at z1
      dsimp only at z1
      cases c1 : Nat.beq n w.mu.length with
      | false => rw [c1] at z1; cases z1
      | true =>
        rw [c1] at z1
        cases z1
        have e1 : n = w.mu.length := Nat.eq_of_beq_eq_true c1
        cases b2 : decide (m ∈ ls) with
        | true =>
          rw [b2] at z2
          have z2 : ls.idxOf m = j := Option.some.inj z2
          have := List.idxOf_lt_length_of_mem (of_decide_eq_true b2)
          omega
        | false =>
          rw [b2] at z2
          dsimp only at z2
          cases c2 : Nat.beq m w.mu.length with
          | false => rw [c2] at z2; cases z2
          | true => rw [e1, Nat.eq_of_beq_eq_true c2]
    | true =>
      rw [b1] at z1
      have z1 : ls.idxOf n = k := Option.some.inj z1
      have h1 := hin (of_decide_eq_true b1)
      have l1 := List.idxOf_lt_length_of_mem (of_decide_eq_true b1)
      cases b2 : decide (m ∈ ls) with
      | true =>
        rw [b2] at z2
        have z2 : ls.idxOf m = k := Option.some.inj z2
        have h2 := hin (of_decide_eq_true b2)
        rw [z1] at h1; rw [z2] at h2
        exact Option.some.inj (h1.symm.trans h2)
      | false =>
        rw [b2] at z2
        dsimp only at z2
        cases c2 : Nat.beq m w.mu.length with
        | false => rw [c2] at z2; cases z2
        | true =>
          rw [c2] at z2
          have z2 : j = k := Option.some.inj z2
          omega
end

/-! ### a def's promise -/
def okF (K : PySem.W.Frag) (Γ : G) (w : Wd) (Q : VK) : S → Ms → Prop := fun s ms' => ∀ w' H' v, Ext w w' → HR0 K Γ w' H' ms' → SR0 K Γ w' s v → Q v H'
def exF (K : PySem.W.Frag) (Γ : G) (w : Wd) (E : XK) : Nat → List D → Ms → Prop := fun c ds ms' => ∀ w' H' dd, Ext w w' → HR0 K Γ w' H' ms' → XD K Γ w'.F c ds dd → E (.ref (Γ.cls c)) dd H'
structure DF (P : Program) (w : World) (K : PySem.W.Frag) (mg : Str → Option Value) (base : Heap) (Γ : G) (k : Nat) (f : Addr) (fd : FuncData) (ps : List Str) (sem : List S → Ms → R S) : Prop where
  run : ∀ (A : Around) (outer : List PySem.Env) (s : Shared) (H : Hp) (args : Args) (us : List Value) (vs : List V) (ss : List S) (ms : Ms) (wd : Wd) (Q : VK) (E : XK), Room k A → A.guards = some [] → Env0 P w K mg base A outer s H →
    BindsTo s fd args (ps.zip us) → Vals vs us → vs.length = ps.length → HR0 K Γ wd H ms → SRs0 K Γ wd ss vs → (sem ss ms).post (okF K Γ wd Q) (exF K Γ wd E) →
    codeAny (model P w) A (.call (.ref f) args) (L2.CR (CX P w) outer P w H s Q E) s
theorem DF.mono {P : Program} {w : World} {K : PySem.W.Frag} {mg : Str → Option Value} {base : Heap} {Γ : G} {j k : Nat} {f : Addr} {fd : FuncData} {ps : List Str} {sem : List S → Ms → R S} (h : DF P w K mg base Γ j f fd ps sem) (l : j ≤ k) : DF P w K mg base Γ k f fd ps sem :=
  ⟨fun A outer s H args us vs ss ms wd Q E hr => h.run A outer s H args us vs ss ms wd Q E (hr.mono l)⟩

/-- where a body stands -/
structure CyOk (Y : Cy) (k : Nat) : Prop where
  hr : Room k Y.X.A
  gd : Y.X.A.guards = some []
  tk : Takes Y.X Y.W
  own : PassesOwn (model Y.X.prog Y.X.w) Y.X.A Y.X.env Y.X.xe
  calm : Y.X.calm = true
  nd : Y.X.N.Nodup
/-- a def's own body: not a block within it -/
structure DefOk (Y : Cy) : Prop where
  stk : Y.X.stack = Y.X.env :: Y.X.outer
  frm : Y.X.env.frame = some Y.X.env.locals
def fnCy (P : Program) (w : World) (K : PySem.W.Frag) (mg : Str → Option Value) (base : Heap) (Γ : G) (N : List Str) (qual : Str) (scope : Scope) (f : Addr) (cd : Value) (A : Around) (outer : List PySem.Env) (s : Shared) (H : Hp) (E : XK) : Cy :=
  ⟨cxOf (CX P w) P w K mg base N qual scope f cd A outer s H E, Γ, fun cls d _ H => E cls d H, 0, none, .none⟩
section
variable {P : Program} {w : World} {K : PySem.W.Frag} {mg : Str → Option Value} {base : Heap} {Γ : G} {x qual : Str} {params : Arguments} {body : List Stmt} {scope : Scope} {dvs : List V} {kws : List (Str × V)} {f : Addr} {fd : FuncData} {N ps : List Str} {k : Nat}
theorem start_rel {Y : Cy} {wd : Wd} {n : Nat} {ss : List S} {vs : List V} (h : SRs0 Y.X.K Y.Γ wd ss vs) (hn : N.length = n) : ER Y wd (L2.start N vs) (start0 n ss) := by
  have l := Paired.length h
  refine ⟨by unfold L2.start start0; simp [l, hn], fun i s e => ?_⟩
  unfold start0 at e
  by_cases z : i < ss.length
  · rw [List.getElem?_append_left (by simpa using z), List.getElem?_map] at e
    cases q : ss[i]? with
    | none => rw [q] at e; cases e
    | some s' =>
      rw [q] at e
      cases e
      obtain ⟨v, hv, r⟩ := SRs.get (Y := Y) h.up q
      refine ⟨v, ?_, r⟩
      unfold L2.start
      rw [List.getElem?_append_left (by rw [List.length_map, ← l]; exact z), List.getElem?_map, hv]
      rfl
  · rw [List.getElem?_append_right (by simpa using z), List.getElem?_replicate] at e
    split at e <;> cases e
/-- THE RULE for a def -/
theorem d_fn {n : Nat} {m : Env → Ms → T} (F : FunD K x qual params body scope dvs kws f fd) (Sc : FnScope N ps scope) (hn : N.length = n)
    (hb : ∀ (cd : Value) (A : Around) (outer : List PySem.Env) (s : Shared) (H : Hp) (E : XK), CyOk (fnCy P w K mg base Γ N qual scope f cd A outer s H E) k → DefOk (fnCy P w K mg base Γ N qual scope f cd A outer s H E) → DSs (fnCy P w K mg base Γ N qual scope f cd A outer s H E) body m) :
    DF P w K mg base Γ (k + 1) f fd ps (fnSem n m) := by
  obtain ⟨oc, od, dV, kV, doc, pm, an, cd, ct, osl, rfl, lk, hcd, _, _⟩ := F.ex
  refine ⟨fun A outer s H args us vs ss ms wd Q E hr hg e0 hbd rv hl hh hs hp => ?_⟩
  have inK : K.In s.heap := e0.mod.kin.keeps fun b o e => (e0.bs b o e).1
  refine codeAny_call_function hr.depth (inK _ _ lk) rfl Sc.co Sc.gen rfl (PySem.W.codeRec_of inK hcd) (hbd _ _ _ _ ?_)
  have kinds : ∀ y ∈ ps.zip us, scope.names.lookup y.1 = some .local ∨ (scope.names.lookup y.1 = some .cell ∧ ((cellsFrom (s.heap.objs.size + 1) scope.names []).lookup y.1).isSome = true) := by
    rintro ⟨n1, v1⟩ hy
    exact (Sc.par n1 (List.of_mem_zip hy).1).imp id fun q => ⟨q, PySem.W.cellsFrom_some _ _ _ (.inl q)⟩
  refine wpAny_newFunctionEnv_cells Sc.kind kinds fun env he s1 hx => ?_
  subst he
  have lim : s.heap.NoLimit := e0.mod.nolimit.keeps fun b o e => (e0.bs b o e).1
  refine ⟨lim.keeps hx.toInCall.keep, codeAny_func ?_⟩
  have nd : N.Nodup := Sc.nd
  have ok : CyOk (fnCy P w K mg base Γ N qual scope f cd A outer s H E) k :=
    ⟨hr.deeper _, hg, takes_of rfl rfl rfl rfl, PassesOwn.leaving, rfl, nd⟩
  obtain ⟨t, pt, st⟩ := (hb cd A outer s H E ok ⟨rfl, rfl⟩).ex
  have I0 : Inv (fnCy P w K mg base Γ N qual scope f cd A outer s H E).X [] (L2.start N vs) H s1 := inv_start Sc hr.hd e0 hl rv hx
  have er : ER (fnCy P w K mg base Γ N qual scope f cd A outer s H E) wd (L2.start N vs) (start0 n ss) := start_rel hs hn
  have ends : ∀ (s' : S) (ms' : Ms), (endS s' ms').post (okF K Γ wd Q) (exF K Γ wd E) → okP (fnCy P w K mg base Γ N qual scope f cd A outer s H E) wd Q s' ms' := by
    intro s' ms' h w' H' v e' hr' sv
    unfold endS at h
    cases nx : s'.noX with
    | false => rw [nx] at h; exact h.elim
    | true =>
      rw [nx] at h
      exact h w' H' v e' hr' (sv.down nx)
  have hq : t { nx := fun _ H' => Q .non H', rt := Q } (L2.start N vs) H := by
    refine st wd _ H _ ms _ er hh ?_
    unfold fnSem at hp
    cases hm : m (start0 n ss) ms with
    | nx e ms' =>
      rw [hm] at hp
      exact fun w' H' σ' e' hr' er' => hp w' H' .non e' hr' rfl
    | rt s' ms' =>
      rw [hm] at hp
      exact ends _ _ hp
    | bk e ms' => rw [hm] at hp; exact hp.elim
    | ct e ms' => rw [hm] at hp; exact hp.elim
    | ex c ds e ms' =>
      rw [hm] at hp
      exact fun w' H' σ' dd e' hr' er' xd => hp w' H' dd e' hr' xd
    | bad => rw [hm] at hp; exact hp.elim
  refine wpAny_mono (pt.run [] s1 (L2.start N vs) H _ I0 hq) (fun fl s' hfl => ?_) fun e s' he => he
  cases fl with
  | next =>
    obtain ⟨σ', H', J, q⟩ := hfl
    exact ⟨V.non, H', J.os, J.bare, J.base, J.hok, rfl, q⟩
  | ret u =>
    obtain ⟨v, σ', H', J, r, q⟩ := hfl
    exact ⟨v, H', J.os, J.bare, J.base, J.hok, r, q⟩
  | brk => obtain ⟨_, _, _, q⟩ := hfl; exact q.elim
  | cont => obtain ⟨_, _, _, q⟩ := hfl; exact q.elim
end

/-! ### calls -/
section
variable {Y : Cy} {j k : Nat} {f : Addr} {fd : FuncData} {ps : List Str} {sem : List S → Ms → R S} {x : Str} {p pos : Pos} {e : Expr} {es : List Expr} {ma : Env → Ms → R (List S)}
abbrev DFY (Y : Cy) (j : Nat) (f : Addr) (fd : FuncData) (ps : List Str) (sem : List S → Ms → R S) : Prop := DF Y.X.prog Y.X.w Y.X.K Y.X.mg Y.X.base Y.Γ j f fd ps sem
/-- the callee's ends are the caller's -/
theorem call_post {w : Wd} {H : Hp} {ms : Ms} {ss : List S} {vs : List V} {σ : L2.St} {Q : VK} (hr : HR Y w H ms) (sv : SRs Y w ss vs) (h : (callSem sem ss ms).post (okP Y w Q) (exP Y w σ)) :
    ∃ wc mc sc, HR0 Y.X.K Y.Γ wc H mc ∧ SRs0 Y.X.K Y.Γ wc sc vs ∧ (sem sc mc).post (okF Y.X.K Y.Γ wc Q) (exF Y.X.K Y.Γ wc fun cls d H' => Y.W cls d σ H') := by
  unfold callSem at h
  cases b : (ss.all S.noX && nodupB (locsOf ss)) with
  | false => rw [b] at h; exact h.elim
  | true =>
    rw [b] at h
    dsimp only at h
    obtain ⟨nx, nd⟩ := Bool.and_eq_true_iff.mp b
    have nd := nodupB_ok nd
    have s0 := sv.down nx
    have hl := locs_lt s0
    refine ⟨callW w H ms (locsOf ss), _, _, hr.callW nd hl, renSs_rel s0 (fun n e => mem_of_locs e), ?_⟩
    cases hs : sem (ss.map (renS (locsOf ss))) ((locsOf ss).map (getC ms)) with
    | bad => rw [hs] at h; exact h.elim
    | ex c ds ms' =>
      rw [hs] at h
      intro w' H' dd e' hr' xd
      exact h ⟨w'.F, w.P, w.mu⟩ H' dd ⟨e'.F, fun _ _ z => z, rfl⟩ (hr.back0 nd hl e' hr') xd
    | ok s ms' =>
      rw [hs] at h
      intro w' H' v e' hr' sv'
      unfold callEnd at h
      cases s with
      | exn c ds => exact sv'.elim
      | d x => exact h ⟨w'.F, w.P, w.mu⟩ H' v ⟨e'.F, fun _ _ z => z, rfl⟩ (hr.back0 nd hl e' hr') sv'
      | loc j =>
        dsimp only at h
        obtain ⟨a, ha, rfl⟩ := sv'
        cases hj : (locsOf ss)[j]? with
        | some n =>
          rw [hj] at h
          refine h ⟨w'.F, w.P, w.mu⟩ H' _ ⟨e'.F, fun _ _ z => z, rfl⟩ (hr.back0 nd hl e' hr') ⟨a, ?_, rfl⟩
          obtain ⟨b, hb⟩ := hl n (List.mem_of_getElem? hj)
          have : w'.mu[j]? = some b := e'.mu j b (by
            show ((locsOf ss).map (addr w))[j]? = _
            rw [List.getElem?_map, hj]
            show some (addr w n) = _
            rw [addr_eq hb])
          rw [ha] at this
          cases this
          exact hb
        | none =>
          rw [hj] at h
          dsimp only at h
          cases hc : ms'[j]? with
          | none => rw [hc] at h; exact h.elim
          | some c =>
            rw [hc] at h
            refine h ⟨w'.F, w.P, w.mu ++ [a]⟩ H' _ ⟨e'.F, fun n b z => ?_, rfl⟩ (hr.back1 nd hl e' hr' hj ha hc) ⟨a, ?_, rfl⟩
            · show (w.mu ++ [a])[n]? = some b
              rw [List.getElem?_append_left (List.getElem?_eq_some_iff.mp z).1]
              exact z
            · show (w.mu ++ [a])[ms.length]? = some a
              rw [← hr.len]; simp
/-- a call's end, in the caller -/
def CalR (Y : Cy) (pins : List (Addr × Obj)) (σ : L2.St) (Q : VK) (r : Result) (s' : Shared) : Prop := match r with
  | .ok (.ret u) => EP Y.X pins σ Q u s'
  | .ok _ => False
  | .error e => Y.X.xe e s'
/-- the callee runs -/
theorem code_df {pins : List (Addr × Obj)} {σ : L2.St} {H : Hp} {s : Shared} {w : Wd} {Q : VK} {us ws : List Value} {vs : List V} {ss : List S} {ms : Ms} {kw : List (Str × Value)} (ok : CyOk Y k) (F : DFY Y j f fd ps sem) (hj : j ≤ k) (hb : BindsTo s fd ⟨us, kw⟩ (ps.zip ws)) (hl : vs.length = ps.length)
    (I : Inv Y.X pins σ H s) (r : Vals vs ws) (hr : HR Y w H ms) (sv : SRs Y w ss vs) (h : (callSem sem ss ms).post (okP Y w Q) (exP Y w σ)) : codeAny (model Y.X.prog Y.X.w) Y.X.A (.call (.ref f) ⟨us, kw⟩) (CalR Y pins σ Q) s := by
  obtain ⟨wc, mc, sc, hr1, s1, h2⟩ := call_post hr sv h
  refine codeAny_mono (F.run Y.X.A Y.X.stack s H ⟨us, kw⟩ ws vs sc mc wc Q _ (ok.hr.mono hj) ok.gd I.env0 hb r hl hr1 s1 h2) fun res s' hq => ?_
  cases res with
  | error er => exact ok.tk er s' (XE.of_call I (fun _ _ _ z => z) hq)
  | ok fl =>
    cases fl with
    | ret u => exact I.after hq
    | next => exact False.elim hq
    | brk => exact False.elim hq
    | cont => exact False.elim hq
theorem Binds.all {K : PySem.W.Frag} {s : Shared} {us : List Value} {vs : List V} (hb : Binds K fd ps []) (hk : K.In s.heap) (r : Vals vs us) (hl : vs.length = ps.length) : BindsTo s fd ⟨us, []⟩ (ps.zip us) := by
  have bt := hb s us hk (by rw [List.append_nil, ← r.length]; exact hl)
  rw [List.append_nil] at bt
  exact bt
end
end Fw
set_option Elab.async false
set_option linter.all false
set_option maxRecDepth 100000
set_option maxHeartbeats 4000000
/-! Fw6: operators and built-ins by data. -/
namespace Fw
open PySem L2 PySem.Spec PyProof.Rows

section
variable {Y : Cy} {w w1 w2 : Wd} {σ : L2.St} {H H1 H2 : Hp} {env : Env} {ms ms1 ms2 : Ms} {k : Nat}

/-- two ints (a bool counts as an int where f says so) -/
def asI : S → Option Int
  | .d (.int i) => some i
  | .d (.bl b) => some (b2i b)
  | _ => none
def gII (C : Int → Int → Bool) (f : Int → Int → D) : S → S → Ms → R S := fun x y ms => match x, y with
  | .d (.int i), .d (.int j) => match C i j with
    | true => .ok (.d (f i j)) ms
    | false => .bad
  | _, _ => .bad
theorem gII_ne {C : Int → Int → Bool} {f : Int → Int → D} : ∀ x y ms c ds ms', gII C f x y ms ≠ .ex c ds ms' := by
  intro x y ms c ds ms' h
  unfold gII at h
  split at h
  · split at h <;> cases h
  · cases h
theorem gII_inv {C : Int → Int → Bool} {f : Int → Int → D} {x y : S} {P : S → Ms → Prop} {E : Nat → List D → Ms → Prop} (h : (gII C f x y ms).post P E) : ∃ i j, x = .d (.int i) ∧ y = .d (.int j) ∧ C i j = true ∧ P (.d (f i j)) ms := by
  unfold gII at h
  split at h
  · rename_i i j
    cases hc : C i j with
    | false => rw [hc] at h; exact h.elim
    | true => rw [hc] at h; exact ⟨i, j, rfl, rfl, hc, h⟩
  · exact h.elim
def flatD : D → Bool
  | .int _ => true
  | .bl _ => true
  | .str _ => true
  | .non => true
  | _ => false
def flatOf : D → V
  | .int i => .int i
  | .bl b => .bl b
  | .str x => .str x
  | _ => .non
theorem flat_rel {K : PySem.W.Frag} {Γ : G} {F : Hp} {d : D} {v : V} (h : flatD d = true) : DR K Γ F d v ↔ v = flatOf d := by
  cases d <;> first | exact Iff.rfl | cases h
theorem snd_I {C : Int → Int → Prop} {Cb : Int → Int → Bool} {g : Int → Int → V} {f : Int → Int → D} (hC : ∀ i j, Cb i j = true → C i j) (hf : ∀ i j, flatD (f i j) = true ∧ flatOf (f i j) = g i j) : SndR2 Y (rI C g) (gII Cb f) := by
  intro w H ms x y u v Q hr sx sy h
  obtain ⟨i, j, rfl, rfl, hc, q⟩ := gII_inv h
  cases sx
  cases sy
  exact ⟨i, j, rfl, rfl, hC i j hc, q.at (Ext.refl w) hr (by show DR _ _ _ _ _; rw [flat_rel (hf i j).1, (hf i j).2])⟩
theorem snd_I0 {Cb : Int → Int → Bool} {g : Int → Int → V} {f : Int → Int → D} (hf : ∀ i j, flatD (f i j) = true ∧ flatOf (f i j) = g i j) : SndR2 Y (rI0 g) (gII Cb f) := by
  intro w H ms x y u v Q hr sx sy h
  obtain ⟨i, j, rfl, rfl, hc, q⟩ := gII_inv h
  cases sx
  cases sy
  exact ⟨i, j, rfl, rfl, q.at (Ext.refl w) hr (by show DR _ _ _ _ _; rw [flat_rel (hf i j).1, (hf i j).2])⟩
def gOr (g g' : S → S → Ms → R S) : S → S → Ms → R S := fun x y ms => match g x y ms with
  | .bad => g' x y ms
  | r => r
theorem gOr_ne {g g' : S → S → Ms → R S} (h : ∀ x y ms c ds ms', g x y ms ≠ .ex c ds ms') (h' : ∀ x y ms c ds ms', g' x y ms ≠ .ex c ds ms') : ∀ x y ms c ds ms', gOr g g' x y ms ≠ .ex c ds ms' := by
  intro x y ms c ds ms' e
  unfold gOr at e
  split at e
  · exact h' _ _ _ _ _ _ e
  · exact h _ _ _ _ _ _ e
theorem snd_or {r r' : R2} {g g' : S → S → Ms → R S} (h : SndR2 Y r g) (h' : SndR2 Y r' g') : SndR2 Y (fun x y H Q => r x y H Q ∨ r' x y H Q) (gOr g g') := by
  intro w H ms x y u v Q hr sx sy q
  unfold gOr at q
  split at q
  · exact .inr (h' w H ms x y u v Q hr sx sy q)
  · exact .inl (h w H ms x y u v Q hr sx sy q)
/-- one rule of an operator: its reading, what it computes -/
structure OpD (Y : Cy) (f : Value → Value → Sem Value) (g : S → S → Ms → R S) : Prop where
  ex : ∃ r, OpR Y.X f r ∧ SndR2 Y r g
  ne : ∀ x y ms c ds ms', g x y ms ≠ .ex c ds ms'
theorem OpD.or {f : Value → Value → Sem Value} {g g' : S → S → Ms → R S} (h : OpD Y f g) (h' : OpD Y f g') : OpD Y f (gOr g g') :=
  let ⟨r, p, s⟩ := h.ex
  let ⟨r', p', s'⟩ := h'.ex
  ⟨⟨_, p.or p', snd_or s s'⟩, gOr_ne h.ne h'.ne⟩
theorem e_bin {op : Operator} {g : S → S → Ms → R S} {a b : Expr} {ma mb : Env → Ms → R S} {pos : Pos} (h : OpD Y (binaryOp op) g) (ha : DE Y a ma) (hb : DE Y b mb) : DE Y (.BinOp a op b pos) (mOp g ma mb) :=
  let ⟨r, p, s⟩ := h.ex
  e_op p h.ne s ha hb
theorem e_cmp1 {op : CmpOp} {g : S → S → Ms → R S} {a b : Expr} {ma mb : Env → Ms → R S} {pos : Pos} (h : OpD Y (compareOp op) g) (ha : DE Y a ma) (hb : DE Y b mb) (hm : behindInMarks op b = false) : DE Y (.Compare a [op] [b] pos) (mOp g ma mb) :=
  let ⟨r, p, s⟩ := h.ex
  e_cmp p h.ne s ha hb hm
theorem t_cmp1 {op : CmpOp} {g : S → S → Ms → R S} {a b : Expr} {ma mb : Env → Ms → R S} {pos : Pos} (h : OpD Y (compareOp op) g) (ha : DE Y a ma) (hb : DE Y b mb) (hm : behindInMarks op b = false) : DT Y (.Compare a [op] [b] pos) (mB (mOp g ma mb)) :=
  let ⟨r, p, s⟩ := h.ex
  t_cmp p h.ne s ha hb hm

/-! ### arithmetic -/
def yes2 : Int → Int → Bool := fun _ _ => true
def gAddI := gII yes2 fun i j => .int (i + j)
def gSubI := gII yes2 fun i j => .int (i - j)
noncomputable def cMul (i j : Int) : Bool := dec (-(2 ^ 64) < i ∧ i < 2 ^ 64) || dec (-(2 ^ 64) < j ∧ j < 2 ^ 64)
noncomputable def gMulI := gII cMul fun i j => .int (i * j)
noncomputable def cMod (_ j : Int) : Bool := dec (0 < j)
noncomputable def gModI := gII cMod fun i j => .int (i % j)
noncomputable def cDiv (_ j : Int) : Bool := dec (0 < j ∧ j < 2 ^ 64)
noncomputable def gDivI := gII cDiv fun i j => .int (i / j)
noncomputable def cPow (i j : Int) : Bool := dec (0 ≤ j ∧ j ≤ 1000 ∧ i.natAbs < 2 ^ 64)
noncomputable def gPowI := gII cPow fun i j => .int (i ^ j.toNat)
theorem o_addI : OpD Y (binaryOp .Add) gAddI := ⟨⟨_, op_add, snd_I0 fun _ _ => ⟨rfl, rfl⟩⟩, gII_ne⟩
theorem o_subI : OpD Y (binaryOp .Sub) gSubI := ⟨⟨_, op_sub, snd_I0 fun _ _ => ⟨rfl, rfl⟩⟩, gII_ne⟩
theorem o_mulI : OpD Y (binaryOp .Mult) gMulI := ⟨⟨_, op_mul, snd_I (fun i j h => (Bool.or_eq_true_iff.mp h).imp dec_of dec_of) fun _ _ => ⟨rfl, rfl⟩⟩, gII_ne⟩
theorem o_modI : OpD Y (binaryOp .Mod) gModI := ⟨⟨_, op_mod, snd_I (fun i j h => dec_of h) fun _ _ => ⟨rfl, rfl⟩⟩, gII_ne⟩
theorem o_divI : OpD Y (binaryOp .FloorDiv) gDivI := ⟨⟨_, op_fdivW, snd_I (fun i j h => by
  have := dec_of h
  exact wide_div (b := 64) this.1 (by omega) (by decide) (by decide)) fun _ _ => ⟨rfl, rfl⟩⟩, gII_ne⟩
theorem o_powI : OpD Y (binaryOp .Pow) gPowI := ⟨⟨_, op_pow, snd_I (fun i j h => by
  have := dec_of h
  exact ⟨this.1, by omega, this.2.2⟩) fun _ _ => ⟨rfl, rfl⟩⟩, gII_ne⟩
/-- texts -/
def gAddS : S → S → Ms → R S := fun x y ms => match x, y with
  | .d (.str a), .d (.str b) => match few (a.length + b.length) with
    | true => .ok (.d (.str (a ++ b))) ms
    | false => .bad
  | _, _ => .bad
theorem o_addS : OpD Y (binaryOp .Add) gAddS := by
  refine ⟨⟨_, op_add_str, fun w H ms x y u v Q hr sx sy h => ?_⟩, fun x y ms c ds ms' h => ?_⟩
  · unfold gAddS at h
    split at h
    · rename_i a b
      cases f : few (a.length + b.length) with
      | false => rw [f] at h; exact h.elim
      | true =>
        rw [f] at h
        cases sx
        cases sy
        exact ⟨a, b, rfl, rfl, few_ok f, h.at (Ext.refl w) hr rfl⟩
    · exact h.elim
  · unfold gAddS at h
    split at h
    · split at h <;> cases h
    · cases h
/-- frozen lists, tuples -/
def gAddL : S → S → Ms → R S := fun x y ms => match x, y with
  | .d (.lst a), .d (.lst b) => match few (a.length + b.length) with
    | true => .ok (.d (.lst (a ++ b))) ms
    | false => .bad
  | _, _ => .bad
theorem o_addL : OpD Y (binaryOp .Add) gAddL := by
  refine ⟨⟨_, op_cat, fun w H ms x y u v Q hr sx sy h => ?_⟩, fun x y ms c ds ms' h => ?_⟩
  · unfold gAddL at h
    split at h
    · rename_i a b
      cases f : few (a.length + b.length) with
      | false => rw [f] at h; exact h.elim
      | true =>
        rw [f] at h
        obtain ⟨p, xs, rfl, e1, r1⟩ := sx
        obtain ⟨q, ys, rfl, e2, r2⟩ := sy
        refine ⟨p, q, xs, ys, rfl, rfl, hr.sub _ _ e1, hr.sub _ _ e2, by rw [← DRs.length r1, ← DRs.length r2]; exact few_ok f, fun l hl => ?_⟩
        obtain ⟨hr2, e⟩ := hr.froz (o := .lst (xs ++ ys)) hl
        exact h.at e hr2 ⟨l, _, rfl, upd_same, DRs.mono e.1 _ _ (DRs.append r1 r2)⟩
    · exact h.elim
  · unfold gAddL at h
    split at h
    · split at h <;> cases h
    · cases h
def gAddT : S → S → Ms → R S := fun x y ms => match x, y with
  | .d (.tup a), .d (.tup b) => match few (a.length + b.length) with
    | true => .ok (.d (.tup (a ++ b))) ms
    | false => .bad
  | _, _ => .bad
theorem o_addT : OpD Y (binaryOp .Add) gAddT := by
  refine ⟨⟨_, op_catA, fun w H ms x y u v Q hr sx sy h => ?_⟩, fun x y ms c ds ms' h => ?_⟩
  · unfold gAddT at h
    split at h
    · rename_i a b
      cases f : few (a.length + b.length) with
      | false => rw [f] at h; exact h.elim
      | true =>
        rw [f] at h
        obtain ⟨p, xs, rfl, e1, r1⟩ := sx
        obtain ⟨q, ys, rfl, e2, r2⟩ := sy
        refine ⟨p, q, xs, ys, rfl, rfl, sqT_mono e1 hr.sub, sqT_mono e2 hr.sub, by rw [← DRs.length r1, ← DRs.length r2]; exact few_ok f, fun z => ?_, fun _ z => ?_, fun _ _ l hl => ?_⟩
        · subst z
          have : a = [] := List.eq_nil_of_length_eq_zero (DRs.length r1)
          subst this
          exact h.at (Ext.refl w) hr ⟨q, ys, rfl, e2, r2⟩
        · subst z
          have : b = [] := List.eq_nil_of_length_eq_zero (DRs.length r2)
          subst this
          rw [List.append_nil] at h
          exact h.at (Ext.refl w) hr ⟨p, xs, rfl, e1, r1⟩
        · obtain ⟨hr2, e⟩ := hr.froz (o := .tup (xs ++ ys)) hl
          exact h.at e hr2 ⟨l, _, rfl, SqT.of upd_same, DRs.mono e.1 _ _ (DRs.append r1 r2)⟩
    · exact h.elim
  · unfold gAddT at h
    split at h
    · split at h <;> cases h
    · cases h
def gAdd := gOr gAddI (gOr gAddS (gOr gAddL gAddT))
theorem o_add : OpD Y (binaryOp .Add) gAdd := o_addI.or (o_addS.or (o_addL.or o_addT))
/-- a text some times -/
def strMul (x : Str) (n : Int) : Str := Txt.mul x n
noncomputable def gMulS : S → S → Ms → R S := fun x y ms => match x, y with
  | .d (.str a), .d (.int n) => match dec (a.length ≤ 1000 ∧ -1000 ≤ n ∧ n ≤ 1000) with
    | true => .ok (.d (.str (strMul a n))) ms
    | false => .bad
  | _, _ => .bad
theorem mulOk_small {x : Str} {n : Int} (h : x.length ≤ 1000 ∧ -1000 ≤ n ∧ n ≤ 1000) : MulOk x n := by
  obtain ⟨h1, h2, h3⟩ := h
  refine ⟨?_, fun z _ => ?_, fun z _ => ?_⟩
  · have a1 : ¬ n < -(2 ^ 63 : Int) := by omega
    have a2 : ¬ n ≥ 2 ^ 63 := by omega
    rw [decide_eq_false a1, decide_eq_false a2]; rfl
  · have hn : 0 < n := by omega
    have : (1000 : Int) ≤ (2 ^ 63 - 1) / n := by
      rw [Int.le_ediv_iff_mul_le hn]
      have : (1000 : Int) * n ≤ 1000 * 1000 := Int.mul_le_mul_of_nonneg_left h3 (by decide)
      omega
    omega
  · have : x.length * n.toNat ≤ 1000 * 1000 := Nat.mul_le_mul h1 (by omega)
    show decide (_ > sizeLine) = false
    have e := sizeLine_eq
    simp only [decide_eq_false_iff_not]
    omega
theorem op_mul_str : OpR Y.X (binaryOp .Mult) (fun x y H Q => ∃ a n, x = .str a ∧ y = .int n ∧ (a.length ≤ 1000 ∧ -1000 ≤ n ∧ n ≤ 1000) ∧ Q (.str (strMul a n)) H) := by
  intro pins s σ H x y v u Q I rx ry h
  obtain ⟨a, n, rfl, rfl, hz, q⟩ := h
  obtain ⟨t, rfl⟩ := rx
  obtain ⟨t', rfl⟩ := ry
  exact SB.mul (mulOk_small hz) fun t k => ⟨.str _, H, I.tok _, ⟨_, rfl⟩, q⟩
theorem o_mulS : OpD Y (binaryOp .Mult) gMulS := by
  refine ⟨⟨_, op_mul_str, fun w H ms x y u v Q hr sx sy h => ?_⟩, fun x y ms c ds ms' h => ?_⟩
  · unfold gMulS at h
    split at h
    · rename_i a b
      cases f : dec (a.length ≤ 1000 ∧ -1000 ≤ b ∧ b ≤ 1000) with
      | false => rw [f] at h; exact h.elim
      | true =>
        rw [f] at h
        cases sx
        cases sy
        exact ⟨a, b, rfl, rfl, dec_of f, h.at (Ext.refl w) hr rfl⟩
    · exact h.elim
  · unfold gMulS at h
    split at h
    · split at h <;> cases h
    · cases h
noncomputable def gMul := gOr gMulI gMulS
theorem o_mul : OpD Y (binaryOp .Mult) gMul := o_mulI.or o_mulS
end
end Fw
set_option Elab.async false
set_option linter.all false
set_option maxRecDepth 100000
set_option maxHeartbeats 4000000
/-! Fw7: comparisons. -/
namespace Fw
open PySem L2 PySem.Spec PyProof.Rows SeqAt

/-! ### an int beside a bool -/
section
variable {prog : Program} {w : World} {A : Around} {E : Value → Shared → Prop} {s : Shared} {a b : Bool} {n : Int} {u : Tok} {Q : Value → Shared → Prop}
theorem gives_lt_bi (a : Bool) (n : Int) (u : Tok) : Gives (Builtin.«int.__lt__» ⟨[.bool a, .int n u], []⟩) (.val (Value.bool (decide (b2i a < n)))) :=
  .of_wp fun M A E s Q h => by obtain ⟨hp, g, d, tk, os⟩ := s; wp_walk; exact ⟨_, rfl, h⟩
theorem gives_le_bi (a : Bool) (n : Int) (u : Tok) : Gives (Builtin.«int.__le__» ⟨[.bool a, .int n u], []⟩) (.val (Value.bool (decide (b2i a ≤ n)))) :=
  .of_wp fun M A E s Q h => by obtain ⟨hp, g, d, tk, os⟩ := s; wp_walk; exact ⟨_, rfl, h⟩
theorem gives_gt_bi (a : Bool) (n : Int) (u : Tok) : Gives (Builtin.«int.__gt__» ⟨[.bool a, .int n u], []⟩) (.val (Value.bool (decide (b2i a > n)))) :=
  .of_wp fun M A E s Q h => by obtain ⟨hp, g, d, tk, os⟩ := s; wp_walk; exact ⟨_, rfl, h⟩
theorem gives_ge_bi (a : Bool) (n : Int) (u : Tok) : Gives (Builtin.«int.__ge__» ⟨[.bool a, .int n u], []⟩) (.val (Value.bool (decide (b2i a ≥ n)))) :=
  .of_wp fun M A E s Q h => by obtain ⟨hp, g, d, tk, os⟩ := s; wp_walk; exact ⟨_, rfl, h⟩
theorem lt_bi (h : Q (.bool (decide (b2i a < n))) s) : wpAny (model prog w) A (compareOp .Lt (.bool a) (.int n u)) Q E s :=
  rc_left_or (op := .Lt) rfl (typeIs_int s n u) (by decide) F.sub_int_bool F.slot_bool_lt (call_gives F.slot_bool_lt rfl F.entry_int_lt (F.args_int_lt_2 _ _) (gives_lt_bi a n u) ⟨nofun, h⟩) (.inl rfl)
theorem le_bi (h : Q (.bool (decide (b2i a ≤ n))) s) : wpAny (model prog w) A (compareOp .LtE (.bool a) (.int n u)) Q E s :=
  rc_left_or (op := .LtE) rfl (typeIs_int s n u) (by decide) F.sub_int_bool F.slot_bool_le (call_gives F.slot_bool_le rfl F.entry_int_le (F.args_int_le_2 _ _) (gives_le_bi a n u) ⟨nofun, h⟩) (.inl rfl)
theorem gt_bi (h : Q (.bool (decide (b2i a > n))) s) : wpAny (model prog w) A (compareOp .Gt (.bool a) (.int n u)) Q E s :=
  rc_left_or (op := .Gt) rfl (typeIs_int s n u) (by decide) F.sub_int_bool F.slot_bool_gt (call_gives F.slot_bool_gt rfl F.entry_int_gt (F.args_int_gt_2 _ _) (gives_gt_bi a n u) ⟨nofun, h⟩) (.inl rfl)
theorem ge_bi (h : Q (.bool (decide (b2i a ≥ n))) s) : wpAny (model prog w) A (compareOp .GtE (.bool a) (.int n u)) Q E s :=
  rc_left_or (op := .GtE) rfl (typeIs_int s n u) (by decide) F.sub_int_bool F.slot_bool_ge (call_gives F.slot_bool_ge rfl F.entry_int_ge (F.args_int_ge_2 _ _) (gives_ge_bi a n u) ⟨nofun, h⟩) (.inl rfl)
theorem lt_ib (h : Q (.bool (decide (n < b2i a))) s) : wpAny (model prog w) A (compareOp .Lt (.int n u) (.bool a)) Q E s :=
  rc_sub_first_or (op := .Lt) (typeIs_int s n u) rfl (by decide) F.sub_bool_int F.slot_bool_gt_refl (call_gives F.slot_bool_gt_refl rfl F.entry_int_gt (F.args_int_gt_2 _ _) (gives_gt_bi a n u) ⟨nofun, h⟩) (.inl rfl)
theorem le_ib (h : Q (.bool (decide (n ≤ b2i a))) s) : wpAny (model prog w) A (compareOp .LtE (.int n u) (.bool a)) Q E s :=
  rc_sub_first_or (op := .LtE) (typeIs_int s n u) rfl (by decide) F.sub_bool_int F.slot_bool_ge_refl (call_gives F.slot_bool_ge_refl rfl F.entry_int_ge (F.args_int_ge_2 _ _) (gives_ge_bi a n u) ⟨nofun, h⟩) (.inl rfl)
theorem gt_ib (h : Q (.bool (decide (n > b2i a))) s) : wpAny (model prog w) A (compareOp .Gt (.int n u) (.bool a)) Q E s :=
  rc_sub_first_or (op := .Gt) (typeIs_int s n u) rfl (by decide) F.sub_bool_int F.slot_bool_lt_refl (call_gives F.slot_bool_lt_refl rfl F.entry_int_lt (F.args_int_lt_2 _ _) (gives_lt_bi a n u) ⟨nofun, h⟩) (.inl rfl)
theorem ge_ib (h : Q (.bool (decide (n ≥ b2i a))) s) : wpAny (model prog w) A (compareOp .GtE (.int n u) (.bool a)) Q E s :=
  rc_sub_first_or (op := .GtE) (typeIs_int s n u) rfl (by decide) F.sub_bool_int F.slot_bool_le_refl (call_gives F.slot_bool_le_refl rfl F.entry_int_le (F.args_int_le_2 _ _) (gives_le_bi a n u) ⟨nofun, h⟩) (.inl rfl)
end

section
variable {Y : Cy} {w w1 w2 : Wd} {σ : L2.St} {H H1 H2 : Hp} {env : Env} {ms ms1 ms2 : Ms} {k : Nat}
/-- a number, int or bool -/
def numV : V → Option Int
  | .int i => some i
  | .bl b => some (b2i b)
  | _ => none
def rCmp (p : Int → Int → Bool) : R2 := fun x y H Q => ∃ i j, numV x = some i ∧ numV y = some j ∧ Q (.bl (p i j)) H
def gCmp (p : Int → Int → Bool) : S → S → Ms → R S := fun x y ms => match asI x, asI y with
  | some i, some j => .ok (.d (.bl (p i j))) ms
  | _, _ => .bad
theorem num_cases {x : V} {i : Int} (h : numV x = some i) : x = .int i ∨ ∃ b, x = .bl b ∧ i = b2i b := by
  cases x with
  | int j => cases h; exact .inl rfl
  | bl b => cases h; exact .inr ⟨b, rfl, rfl⟩
  | _ => cases h
theorem num_rel {s : S} {v : V} {i : Int} (h : asI s = some i) (r : SR Y w s v) : numV v = some i := by
  cases s with
  | d x =>
    cases x with
    | int j => cases h; cases r; rfl
    | bl b => cases h; cases r; rfl
    | _ => cases h
  | loc n => cases h
  | exn c ds => cases h
theorem snd_cmp {p : Int → Int → Bool} : SndR2 Y (rCmp p) (gCmp p) := by
  intro w H ms x y u v Q hr sx sy h
  unfold gCmp at h
  cases e1 : asI x with
  | none => rw [e1] at h; exact h.elim
  | some i =>
    cases e2 : asI y with
    | none => rw [e1, e2] at h; exact h.elim
    | some j =>
      rw [e1, e2] at h
      exact ⟨i, j, num_rel e1 sx, num_rel e2 sy, h.at (Ext.refl w) hr rfl⟩
theorem gCmp_ne {p : Int → Int → Bool} : ∀ x y ms c ds ms', gCmp p x y ms ≠ .ex c ds ms' := by
  intro x y ms c ds ms' h
  unfold gCmp at h
  split at h <;> cases h
theorem op_num {op : CmpOp} {p : Int → Int → Bool}
    (h1 : ∀ (i j : Int) (t u : Tok) (Q : Value → Shared → Prop) (s : Shared), Q (.bool (p i j)) s → wpAny (model Y.X.prog Y.X.w) Y.X.A (compareOp op (.int i t) (.int j u)) Q Y.X.xe s)
    (h2 : ∀ (a : Bool) (j : Int) (u : Tok) (Q : Value → Shared → Prop) (s : Shared), Q (.bool (p (b2i a) j)) s → wpAny (model Y.X.prog Y.X.w) Y.X.A (compareOp op (.bool a) (.int j u)) Q Y.X.xe s)
    (h3 : ∀ (i : Int) (t : Tok) (b : Bool) (Q : Value → Shared → Prop) (s : Shared), Q (.bool (p i (b2i b))) s → wpAny (model Y.X.prog Y.X.w) Y.X.A (compareOp op (.int i t) (.bool b)) Q Y.X.xe s)
    (h4 : ∀ (a b : Bool) (Q : Value → Shared → Prop) (s : Shared), Q (.bool (p (b2i a) (b2i b))) s → wpAny (model Y.X.prog Y.X.w) Y.X.A (compareOp op (.bool a) (.bool b)) Q Y.X.xe s) : OpR Y.X (compareOp op) (rCmp p) := by
  intro pins s σ H x y v u Q I rx ry h
  obtain ⟨i, j, ex, ey, q⟩ := h
  have fin : EP Y.X pins σ Q (.bool (p i j)) s := ⟨.bl _, H, I, rfl, q⟩
  rcases num_cases ex with rfl | ⟨a, rfl, rfl⟩
  · obtain ⟨t, rfl⟩ := rx
    rcases num_cases ey with rfl | ⟨b, rfl, rfl⟩
    · obtain ⟨t', rfl⟩ := ry
      exact h1 i j t t' _ s fin
    · cases ry
      exact h3 i t b _ s fin
  · cases rx
    rcases num_cases ey with rfl | ⟨b, rfl, rfl⟩
    · obtain ⟨t', rfl⟩ := ry
      exact h2 a j t' _ s fin
    · cases ry
      exact h4 a b _ s fin
def gLt := gCmp fun i j => decide (i < j)
def gLe := gCmp fun i j => decide (i ≤ j)
def gGt := gCmp fun i j => decide (j < i)
def gGe := gCmp fun i j => decide (j ≤ i)
theorem o_lt : OpD Y (compareOp .Lt) gLt := ⟨⟨_, op_num (fun _ _ _ _ _ _ q => PyProof.Rows.lt_int q) (fun _ _ _ _ _ q => lt_bi q) (fun _ _ _ _ _ q => lt_ib q) (fun _ _ _ _ q => lt_bool q), snd_cmp⟩, gCmp_ne⟩
theorem o_le : OpD Y (compareOp .LtE) gLe := ⟨⟨_, op_num (fun _ _ _ _ _ _ q => PyProof.Rows.le_int q) (fun _ _ _ _ _ q => le_bi q) (fun _ _ _ _ _ q => le_ib q) (fun _ _ _ _ q => le_bool q), snd_cmp⟩, gCmp_ne⟩
theorem o_gt : OpD Y (compareOp .Gt) gGt := ⟨⟨_, op_num (fun _ _ _ _ _ _ q => PyProof.Rows.gt_int q) (fun _ _ _ _ _ q => gt_bi q) (fun _ _ _ _ _ q => gt_ib q) (fun _ _ _ _ q => gt_bool q), snd_cmp⟩, gCmp_ne⟩
theorem o_ge : OpD Y (compareOp .GtE) gGe := ⟨⟨_, op_num (fun _ _ _ _ _ _ q => PyProof.Rows.ge_int q) (fun _ _ _ _ _ q => ge_bi q) (fun _ _ _ _ _ q => ge_ib q) (fun _ _ _ _ q => ge_bool q), snd_cmp⟩, gCmp_ne⟩

/-! ### chains -/
def mChain (g g' : S → S → Ms → R S) (ma mb mc : Env → Ms → R S) : Env → Ms → R S := fun env ms => (ma env ms).bind fun x ms1 => (mb env ms1).bind fun y ms2 => (g x y ms2).bind fun z ms3 => (asB z ms3).bind fun b ms4 => match b with
  | true => (mc env ms4).bind fun v ms5 => g' y v ms5
  | false => .ok (.d (.bl false)) ms4
theorem asB_inv {s : S} {β : Type} {f : Bool → Ms → R β} {P : β → Ms → Prop} {E : Nat → List D → Ms → Prop} (h : ((asB s ms).bind f).post P E) : ∃ b, s = .d (.bl b) ∧ (f b ms).post P E := by
  unfold asB at h
  cases s with
  | d x =>
    cases x with
    | bl b => exact ⟨b, rfl, h⟩
    | _ => exact h.elim
  | loc n => exact h.elim
  | exn c ds => exact h.elim
/-- an operator in the middle: its answer handed on -/
theorem op_go {f : Value → Value → Sem Value} {g : S → S → Ms → R S} {r : R2} (hne : ∀ x y ms c ds ms', g x y ms ≠ .ex c ds ms') (hs : SndR2 Y r g) {x y : S} {u v : V} {β : Type} {q : S → Ms → R β} {P : β → Ms → Prop} {kq : VK} (hr : HR Y w H ms) (er : ER Y w σ env) (sx : SR Y w x u) (sy : SR Y w y v)
    (h : ((g x y ms).bind q).post P (exP Y w σ)) (hk : ∀ z ms1 w1 H1 zv, Ext w w1 → ER Y w1 σ env → HR Y w1 H1 ms1 → SR Y w1 z zv → (q z ms1).post P (exP Y w1 σ) → kq zv H1) : r u v H kq := by
  refine hs w H ms x y u v kq hr sx sy ?_
  have hx := hne x y ms
  cases hg : g x y ms with
  | ex c ds ms' => exact absurd hg (hx c ds ms')
  | bad => rw [hg] at h; exact h
  | ok z ms' =>
    rw [hg] at h
    exact fun w1 H1 zv e1 hr1 sz => hk z ms' w1 H1 zv e1 (er.mono e1) hr1 sz (R.post_mono h (fun _ _ z => z) fun _ _ _ z => z.ext e1)
theorem snd_chain {r r' : R2} {g g' : S → S → Ms → R S} {ta tb tc : TE} {ma mb mc : Env → Ms → R S} (hne : ∀ x y ms c ds ms', g x y ms ≠ .ex c ds ms') (hne' : ∀ x y ms c ds ms', g' x y ms ≠ .ex c ds ms')
    (hs : SndR2 Y r g) (hs' : SndR2 Y r' g') (ha : SndE Y ta ma) (hb : SndE Y tb mb) (hc : SndE Y tc mc) : SndE Y (tChain r r' ta tb tc) (mChain g g' ma mb mc) := by
  intro w σ H env ms Q er hr h
  refine ha.go er hr h fun x ms1 w1 H1 u e1 er1 hr1 su h1 => ?_
  refine hb.go er1 hr1 h1 fun y ms2 w2 H2 v e2 er2 hr2 sv h2 => ?_
  refine op_go (f := fun _ _ => pure .none) hne hs hr2 er2 (su.mono e2) sv h2 fun z ms3 w3 H3 zv e3 er3 hr3 sz h3 => ?_
  obtain ⟨b, rfl, h4⟩ := asB_inv h3
  cases sz
  refine ⟨b, rfl, ?_⟩
  cases b with
  | false => exact iteF (h4.at (e1.trans (e2.trans e3)) hr3 rfl)
  | true =>
    refine iteT ?_
    refine hc.go er3 hr3 h4 fun t ms5 w5 H5 tv e5 er5 hr5 st h5 => ?_
    refine hs' w5 H5 ms5 y t v tv Q hr5 (sv.mono (e3.trans e5)) st ?_
    have hx := hne' y t ms5
    cases hg : g' y t ms5 with
    | ex c ds ms' => exact absurd hg (hx c ds ms')
    | bad => rw [hg] at h5; exact h5
    | ok z ms' => rw [hg] at h5; exact h5.ext (e1.trans (e2.trans (e3.trans e5)))
theorem e_chain {op op' : CmpOp} {g g' : S → S → Ms → R S} {a b c : Expr} {ma mb mc : Env → Ms → R S} {pos : Pos} (h : OpD Y (compareOp op) g) (h' : OpD Y (compareOp op') g') (ha : DE Y a ma) (hb : DE Y b mb) (hc : DE Y c mc)
    (hm : lastMarks [op, op'] [b, c] = false := by with_unfolding_all rfl) : DE Y (.Compare a [op, op'] [b, c] pos) (mChain g g' ma mb mc) := by
  obtain ⟨r, p, s⟩ := h.ex
  obtain ⟨r', p', s'⟩ := h'.ex
  obtain ⟨ta, pa, sa⟩ := ha.ex
  obtain ⟨tb, pb, sb⟩ := hb.ex
  obtain ⟨tc, pc, sc⟩ := hc.ex
  exact ⟨_, pe_chain p p' pa pb pc hm, snd_chain h.ne h'.ne s s' sa sb sc⟩
theorem t_chain {op op' : CmpOp} {g g' : S → S → Ms → R S} {a b c : Expr} {ma mb mc : Env → Ms → R S} {pos : Pos} (h : OpD Y (compareOp op) g) (h' : OpD Y (compareOp op') g') (ha : DE Y a ma) (hb : DE Y b mb) (hc : DE Y c mc)
    (hm : lastMarks [op, op'] [b, c] = false := by with_unfolding_all rfl) : DT Y (.Compare a [op, op'] [b, c] pos) (mB (mChain g g' ma mb mc)) := by
  obtain ⟨r, p, s⟩ := h.ex
  obtain ⟨r', p', s'⟩ := h'.ex
  obtain ⟨ta, pa, sa⟩ := ha.ex
  obtain ⟨tb, pb, sb⟩ := hb.ex
  obtain ⟨tc, pc, sc⟩ := hc.ex
  exact ⟨_, pt_chain p p' pa pb pc hm, snd_B (snd_chain h.ne h'.ne s s' sa sb sc)⟩

/-! ### == of data -/
mutual
def toP : D → Option PyData
  | .non => some .none
  | .bl b => some (.bool b)
  | .int i => some (.int i)
  | .str x => some (.str x)
  | .tup ds => (toPs ds).map .tuple
  | .lst ds => (toPs ds).map .list
  | .frz ds => (toPs ds).map .list
  | .obj _ _ => none
  | .dic _ _ => none
  | .dit _ _ => none
  | .fn _ => none
  | .ty _ => none
def toPs : List D → Option (List PyData)
  | [] => some []
  | d :: ds => (toP d).bind fun p => (toPs ds).map (p :: ·)
end
mutual
theorem toP_rel {K : PySem.W.Frag} {Γ : G} {F H : Hp} (e : ∀ a o, F a = some o → H a = some o) : ∀ (d : D) (v : V) (p : PyData), toP d = some p → DR K Γ F d v → Dp K H v p
  | .non, v, p, h, r => by cases h; cases r; exact .non
  | .bl b, v, p, h, r => by cases h; cases r; exact .bl b
  | .int i, v, p, h, r => by cases h; cases r; exact .int i
  | .str x, v, p, h, r => by cases h; cases r; exact .str x
  | .tup ds, v, p, h, r => by
    simp only [toP, Option.map_eq_some_iff] at h
    obtain ⟨ps, h1, rfl⟩ := h
    simp only [DR] at r
    obtain ⟨a, xs, rfl, h2, h3⟩ := r
    exact .tup (sqT_mono h2 e) (toPs_rel e ds xs ps h1 h3)
  | .lst ds, v, p, h, r => by
    simp only [toP, Option.map_eq_some_iff] at h
    obtain ⟨ps, h1, rfl⟩ := h
    simp only [DR] at r
    obtain ⟨a, xs, rfl, h2, h3⟩ := r
    exact .lst (SqL.of (e _ _ h2)) (toPs_rel e ds xs ps h1 h3)
  | .frz ds, v, p, h, r => by
    simp only [toP, Option.map_eq_some_iff] at h
    obtain ⟨ps, h1, rfl⟩ := h
    simp only [DR] at r
    obtain ⟨a, xs, rfl, h2, h3⟩ := r
    exact .lst (sqL_mono h2 e) (toPs_rel e ds xs ps h1 h3)
  | .obj _ _, _, _, h, _ => by cases h
  | .dic _ _, _, _, h, _ => by cases h
  | .dit _ _, _, _, h, _ => by cases h
  | .fn _, _, _, h, _ => by cases h
  | .ty _, _, _, h, _ => by cases h
theorem toPs_rel {K : PySem.W.Frag} {Γ : G} {F H : Hp} (e : ∀ a o, F a = some o → H a = some o) : ∀ (ds : List D) (vs : List V) (ps : List PyData), toPs ds = some ps → DRs K Γ F ds vs → DpAll K H vs ps
  | [], vs, ps, h, r => by cases h; cases r; exact .nil
  | d :: ds, vs, ps, h, r => by
    simp only [toPs, Option.bind_eq_some_iff, Option.map_eq_some_iff] at h
    obtain ⟨p, h1, ps', h2, rfl⟩ := h
    simp only [DRs] at r
    obtain ⟨x, t, rfl, r1, r2⟩ := r
    exact .cons (toP_rel e d x p h1 r1) (toPs_rel e ds t ps' h2 r2)
end
def shapedD (d : D) : Option PyData := match toP d with
  | some p => match SeqAt.shaped p with
    | true => some p
    | false => none
  | none => none
theorem shapedD_inv {d : D} {p : PyData} (h : shapedD d = some p) : toP d = some p ∧ SeqAt.shaped p = true := by
  unfold shapedD at h
  cases e : toP d with
  | none => rw [e] at h; cases h
  | some q =>
    rw [e] at h
    dsimp only at h
    cases f : SeqAt.shaped q with
    | false => rw [f] at h; cases h
    | true => rw [f] at h; cases h; exact ⟨rfl, f⟩
/-- what a slot holds, read as data: a cell's list too -/
def view (s : S) (ms : Ms) : Option D := match s with
  | .d x => some x
  | .loc n => match ms[n]? with
    | some (.lst ds) => some (.lst ds)
    | _ => none
  | .exn _ _ => none
theorem view_rel {s : S} {v : V} {d : D} {p : PyData} (h : view s ms = some d) (hr : HR Y w H ms) (sv : SR Y w s v) (hp : toP d = some p) : Dp Y.X.K H v p := by
  cases s with
  | d x => cases h; exact toP_rel hr.sub _ _ _ hp sv
  | exn c ds => cases h
  | loc n =>
    obtain ⟨a, ha, rfl⟩ := sv
    unfold view at h
    dsimp only at h
    cases hc : ms[n]? with
    | none => rw [hc] at h; cases h
    | some c =>
      rw [hc] at h
      cases c with
      | dead => cases h
      | ins c fs => cases h
      | lst ds =>
        cases h
        obtain ⟨xs, q, r⟩ := hr.cel n a _ ha hc
        simp only [toP, Option.map_eq_some_iff] at hp
        obtain ⟨ps, h1, rfl⟩ := hp
        exact .lst (SqL.of q) (toPs_rel hr.sub ds xs ps h1 r)
def gEqD (neg : Bool) : S → S → Ms → R S := fun x y ms => match (view x ms).bind shapedD, (view y ms).bind shapedD with
  | some p, some q => .ok (.d (.bl (if neg then !PyData.eqv p q else PyData.eqv p q))) ms
  | _, _ => .bad
theorem gEqD_ne {neg : Bool} : ∀ x y ms c ds ms', gEqD neg x y ms ≠ .ex c ds ms' := by
  intro x y ms c ds ms' h
  unfold gEqD at h
  split at h <;> cases h
theorem eqD_inv {neg : Bool} {x y : S} {P : S → Ms → Prop} {E : Nat → List D → Ms → Prop} (h : (gEqD neg x y ms).post P E) : ∃ d e p q, view x ms = some d ∧ view y ms = some e ∧ toP d = some p ∧ toP e = some q ∧ SeqAt.shaped p = true ∧ SeqAt.shaped q = true ∧ P (.d (.bl (if neg then !PyData.eqv p q else PyData.eqv p q))) ms := by
  unfold gEqD at h
  split at h
  · rename_i p q e1 e2
    obtain ⟨d, h1, h2⟩ := Option.bind_eq_some_iff.mp e1
    obtain ⟨e, h3, h4⟩ := Option.bind_eq_some_iff.mp e2
    obtain ⟨k1, k2⟩ := shapedD_inv h2
    obtain ⟨k3, k4⟩ := shapedD_inv h4
    exact ⟨d, e, p, q, h1, h3, k1, k3, k2, k4, h⟩
  · exact h.elim
theorem o_eqD (ok : CyOk Y k) : OpD Y (compareOp .Eq) (gEqD false) := by
  refine ⟨⟨_, op_eqD ok.hr.units, fun w H ms x y u v Q hr sx sy h => ?_⟩, gEqD_ne⟩
  obtain ⟨d, e, p, q, h1, h2, h3, h4, h5, h6, hq⟩ := eqD_inv h
  exact ⟨p, q, view_rel h1 hr sx h3, view_rel h2 hr sy h4, h5, h6, hq.at (Ext.refl w) hr rfl⟩
theorem o_neD (ok : CyOk Y k) : OpD Y (compareOp .NotEq) (gEqD true) := by
  refine ⟨⟨_, op_neD ok.hr.units, fun w H ms x y u v Q hr sx sy h => ?_⟩, gEqD_ne⟩
  obtain ⟨d, e, p, q, h1, h2, h3, h4, h5, h6, hq⟩ := eqD_inv h
  exact ⟨p, q, view_rel h1 hr sx h3, view_rel h2 hr sy h4, h5, h6, hq.at (Ext.refl w) hr rfl⟩
/-- is None -/
def gIsN (neg : Bool) : S → S → Ms → R S := fun x y ms => match y with
  | .d .non => .ok (.d (.bl (match x with
    | .d .non => !neg
    | _ => neg))) ms
  | _ => .bad
theorem gIsN_ne {neg : Bool} : ∀ x y ms c ds ms', gIsN neg x y ms ≠ .ex c ds ms' := by
  intro x y ms c ds ms' h
  unfold gIsN at h
  split at h <;> cases h
theorem isN_rel {s : S} {v : V} (sv : SR Y w s v) : (decide (v = .non)) = (match s with
    | .d .non => true
    | _ => false) := by
  cases s with
  | loc n => obtain ⟨a, _, rfl⟩ := sv; rfl
  | exn c ds => obtain ⟨⟨rfl, _⟩, _⟩ := sv; rfl
  | d x =>
    cases x with
    | non => cases sv; rfl
    | bl b => cases sv; rfl
    | int i => cases sv; rfl
    | str x => cases sv; rfl
    | fn n => cases sv; rfl
    | tup ds => obtain ⟨a, xs, rfl, _⟩ := sv; rfl
    | lst ds => obtain ⟨a, xs, rfl, _⟩ := sv; rfl
    | frz ds => obtain ⟨a, xs, rfl, _⟩ := sv; rfl
    | obj c ds => obtain ⟨a, dx, xs, rfl, _⟩ := sv; rfl
    | dic ks vs => obtain ⟨a, xs, rfl, _⟩ := sv; rfl
    | dit ks vs => obtain ⟨a, xs, rfl, _⟩ := sv; rfl
    | ty n => cases sv; rfl
theorem o_isN : OpD Y (compareOp .Is) (gIsN false) := by
  refine ⟨⟨_, op_isN, fun w H ms x y u v Q hr sx sy h => ?_⟩, gIsN_ne⟩
  unfold gIsN at h
  split at h
  · cases sy
    refine ⟨rfl, ?_⟩
    rw [isN_rel sx]
    refine h.at (Ext.refl w) hr ?_
    cases x with
    | d x => cases x <;> rfl
    | loc n => rfl
    | exn c ds => rfl
  · exact h.elim
theorem o_notN : OpD Y (compareOp .IsNot) (gIsN true) := by
  refine ⟨⟨_, op_notN, fun w H ms x y u v Q hr sx sy h => ?_⟩, gIsN_ne⟩
  unfold gIsN at h
  split at h
  · cases sy
    refine ⟨rfl, ?_⟩
    rw [isN_rel sx]
    refine h.at (Ext.refl w) hr ?_
    cases x with
    | d x => cases x <;> rfl
    | loc n => rfl
    | exn c ds => rfl
  · exact h.elim
end
end Fw
set_option Elab.async false
set_option linter.all false
set_option maxRecDepth 100000
set_option maxHeartbeats 4000000
/-! Fw8: built-in functions, subscripts, comprehensions, f-strings. -/
namespace Fw
open PySem L2 PySem.Spec PyProof.Rows

section
variable {Y : Cy} {w w1 w2 : Wd} {σ : L2.St} {H H1 H2 : Hp} {env : Env} {ms ms1 ms2 : Ms} {k : Nat}

/-! ### calls of built-ins -/
def SndC (Y : Cy) (r : List V → Hp → VK → Prop) (g : List S → Ms → R S) : Prop :=
  ∀ (w : Wd) (H : Hp) (ms : Ms) (ss : List S) (vs : List V) (Q : VK), HR Y w H ms → SRs Y w ss vs → (g ss ms).post (okP Y w Q) (fun _ _ _ => False) → r vs H Q
structure CallD (Y : Cy) (f : Value) (g : List S → Ms → R S) : Prop where
  ex : ∃ r, CallR Y.X f r ∧ SndC Y r g
  ne : ∀ ss ms c ds ms', g ss ms ≠ .ex c ds ms'
def cOr (g g' : List S → Ms → R S) : List S → Ms → R S := fun ss ms => match g ss ms with
  | .bad => g' ss ms
  | r => r
theorem CallD.or {f : Value} {g g' : List S → Ms → R S} (h : CallD Y f g) (h' : CallD Y f g') : CallD Y f (cOr g g') := by
  obtain ⟨r, p, s⟩ := h.ex
  obtain ⟨r', p', s'⟩ := h'.ex
  refine ⟨⟨_, p.or p', fun w H ms ss vs Q hr sv q => ?_⟩, fun ss ms c ds ms' e => ?_⟩
  · unfold cOr at q
    split at q
    · exact .inr (s' w H ms ss vs Q hr sv q)
    · exact .inl (s w H ms ss vs Q hr sv q)
  · unfold cOr at e
    split at e
    · exact h'.ne _ _ _ _ _ e
    · exact h.ne _ _ _ _ _ e
def mB1 (g : List S → Ms → R S) (ma : Env → Ms → R (List S)) : Env → Ms → R S := fun env ms => (ma env ms).bind g
theorem snd_call {r : List V → Hp → VK → Prop} {g : List S → Ms → R S} {t : TA} {ma : Env → Ms → R (List S)} (hne : ∀ ss ms c ds ms', g ss ms ≠ .ex c ds ms') (hs : SndC Y r g) (ha : SndA Y t ma) : SndE Y (tCB r t) (mB1 g ma) := by
  intro w σ H env ms Q er hr h
  refine ha.go er hr h fun ss ms1 w1 H1 vs e1 er1 hr1 sv h1 => ?_
  refine hs w1 H1 ms1 ss vs Q hr1 sv ?_
  have hx := hne ss ms1
  cases hg : g ss ms1 with
  | ex c ds ms' => exact absurd hg (hx c ds ms')
  | bad => rw [hg] at h1; exact h1
  | ok z ms' => rw [hg] at h1; exact h1.ext e1
variable {x : Str} {p pos : Pos} {e : Expr} {es : List Expr} {ma : Env → Ms → R (List S)} {g : List S → Ms → R S}
theorem e_callB {id : String} (hc : CallD Y (.builtin id) g) (hg : Gl Y.X x) (hm : Y.X.mg x = none) (hv : bootBuiltins x = some (.builtin id)) (ha : DA Y (e :: es) ma) (hn : x ≠ "__name__" := by decide) (hdb : (x == ("__debug__" : Str)) = false := by decide)
    (he : starEach (e :: es) Y.X.env = (false, eval e Y.X.env) :: starEach es Y.X.env := by rfl) (hpl : (backTo pos (starEach es Y.X.env)).any (·.1) = false := by rfl) : DE Y (.Call (.Name x p) (e :: es) [] pos) (mB1 g ma) := by
  obtain ⟨r, pr, sr⟩ := hc.ex
  obtain ⟨t, pa, sa⟩ := ha.ex
  exact ⟨_, pe_callB pr hg hm hv pa hn hdb he hpl, snd_call hc.ne sr sa⟩
theorem e_callT {T : String} (hc : CallD Y (.type T) g) (hg : Gl Y.X x) (hm : Y.X.mg x = none) (hv : bootBuiltins x = some (.type T)) (ha : DA Y (e :: es) ma) (hn : x ≠ "__name__" := by decide) (hdb : (x == ("__debug__" : Str)) = false := by decide)
    (he : starEach (e :: es) Y.X.env = (false, eval e Y.X.env) :: starEach es Y.X.env := by rfl) (hpl : (backTo pos (starEach es Y.X.env)).any (·.1) = false := by rfl) : DE Y (.Call (.Name x p) (e :: es) [] pos) (mB1 g ma) := by
  obtain ⟨r, pr, sr⟩ := hc.ex
  obtain ⟨t, pa, sa⟩ := ha.ex
  exact ⟨_, pe_callTy pr hg hm hv pa hn hdb he hpl, snd_call hc.ne sr sa⟩
/-- one data argument -/
def c1 (f : D → Option D) : List S → Ms → R S := fun ss ms => match ss with
  | [s] => match (view s ms).bind f with
    | some d => .ok (.d d) ms
    | none => .bad
  | _ => .bad
theorem c1_ne {f : D → Option D} : ∀ ss ms c ds ms', c1 f ss ms ≠ .ex c ds ms' := by
  intro ss ms c ds ms' h
  unfold c1 at h
  split at h
  · split at h <;> cases h
  · cases h
theorem c1_inv {f : D → Option D} {ss : List S} {P : S → Ms → Prop} {E : Nat → List D → Ms → Prop} (h : (c1 f ss ms).post P E) : ∃ s d d', ss = [s] ∧ view s ms = some d ∧ f d = some d' ∧ P (.d d') ms := by
  unfold c1 at h
  split at h
  · rename_i s
    split at h
    · rename_i d' e
      obtain ⟨d, h1, h2⟩ := Option.bind_eq_some_iff.mp e
      exact ⟨s, d, d', rfl, h1, h2, h⟩
    · exact h.elim
  · exact h.elim
theorem SRs.one {s : S} {vs : List V} (h : SRs Y w [s] vs) : ∃ v, vs = [v] ∧ SR Y w s v := by
  cases h with
  | cons a b => cases b; exact ⟨_, rfl, a⟩
theorem SRs.two {s t : S} {vs : List V} (h : SRs Y w [s, t] vs) : ∃ v u, vs = [v, u] ∧ SR Y w s v ∧ SR Y w t u := by
  cases h with
  | cons a b =>
    obtain ⟨u, rfl, c⟩ := SRs.one b
    exact ⟨_, u, rfl, a, c⟩
/-- the list that a slot's data stands for -/
theorem view_list {s : S} {v : V} {ds : List D} (h : view s ms = some (.lst ds)) (hr : HR Y w H ms) (sv : SR Y w s v) : ∃ a xs, v = .ref a ∧ H a = some (.lst xs) ∧ DRs Y.X.K Y.Γ w.F ds xs := by
  cases s with
  | d x =>
    cases h
    obtain ⟨a, xs, rfl, h2, h3⟩ := sv
    exact ⟨a, xs, rfl, hr.sub _ _ h2, h3⟩
  | exn c ds => cases h
  | loc n =>
    obtain ⟨a, ha, rfl⟩ := sv
    unfold view at h
    dsimp only at h
    cases hc : ms[n]? with
    | none => rw [hc] at h; cases h
    | some c =>
      rw [hc] at h
      cases c with
      | dead => cases h
      | ins c fs => cases h
      | lst ds =>
        cases h
        obtain ⟨xs, q, r⟩ := hr.cel n a _ ha hc
        exact ⟨a, xs, rfl, q, r⟩
theorem view_notlist {s : S} {v : V} {d : D} (h : view s ms = some d) (hn : ∀ ds, d ≠ .lst ds) (sv : SR Y w s v) : DR Y.X.K Y.Γ w.F d v := by
  cases s with
  | d x => cases h; exact sv
  | exn c ds => cases h
  | loc n =>
    unfold view at h
    dsimp only at h
    split at h
    · rename_i ds e
      cases h
      exact absurd rfl (hn ds)
    · cases h

/-! len, abs, int, str, bool -/
def lenD : D → Option D
  | .str x => match few x.length with
    | true => some (.int x.length)
    | false => none
  | .lst ds => some (.int ds.length)
  | .frz ds => some (.int ds.length)
  | .tup ds => some (.int ds.length)
  | _ => none
theorem cd_len : CallD Y (.builtin "len") (c1 lenD) := by
  refine ⟨⟨_, call_len_seq.or call_len_str, fun w H ms ss vs Q hr sv h => ?_⟩, c1_ne⟩
  obtain ⟨s, d, d', rfl, h1, h2, q⟩ := c1_inv h
  obtain ⟨v, rfl, r⟩ := SRs.one sv
  cases d with
  | str x =>
    unfold lenD at h2
    dsimp only at h2
    cases f : few x.length with
    | false => rw [f] at h2; cases h2
    | true =>
      rw [f] at h2
      cases h2
      cases view_notlist h1 (by intro ds z; cases z) r
      exact .inr ⟨x, rfl, few_ok f, q.at (Ext.refl w) hr rfl⟩
  | lst ds =>
    cases h2
    obtain ⟨a, xs, rfl, e1, e2⟩ := view_list h1 hr r
    exact .inl ⟨a, xs, rfl, .inl (SqL.of e1), by rw [← DRs.length e2]; exact q.at (Ext.refl w) hr rfl⟩
  | frz ds =>
    cases h2
    obtain ⟨a, xs, rfl, e1, e2⟩ := view_notlist h1 (by intro ds z; cases z) r
    exact .inl ⟨a, xs, rfl, .inl (sqL_mono e1 hr.sub), by rw [← DRs.length e2]; exact q.at (Ext.refl w) hr rfl⟩
  | tup ds =>
    cases h2
    obtain ⟨a, xs, rfl, e1, e2⟩ := view_notlist h1 (by intro ds z; cases z) r
    exact .inl ⟨a, xs, rfl, .inr (sqT_mono e1 hr.sub), by rw [← DRs.length e2]; exact q.at (Ext.refl w) hr rfl⟩
  | _ => cases h2
def absD : D → Option D
  | .int i => some (.int (if i < 0 then -i else i))
  | _ => none
theorem cd_abs : CallD Y (.builtin "abs") (c1 absD) := by
  refine ⟨⟨_, call_abs, fun w H ms ss vs Q hr sv h => ?_⟩, c1_ne⟩
  obtain ⟨s, d, d', rfl, h1, h2, q⟩ := c1_inv h
  obtain ⟨v, rfl, r⟩ := SRs.one sv
  cases d with
  | int i =>
    cases h2
    cases view_notlist h1 (by intro ds z; cases z) r
    exact ⟨i, rfl, q.at (Ext.refl w) hr rfl⟩
  | _ => cases h2
def intD : D → Option D
  | .int i => some (.int i)
  | .bl b => some (.int (if b then 1 else 0))
  | _ => none
theorem cd_int : CallD Y (.type "int") (c1 intD) := by
  refine ⟨⟨_, call_int1, fun w H ms ss vs Q hr sv h => ?_⟩, c1_ne⟩
  obtain ⟨s, d, d', rfl, h1, h2, q⟩ := c1_inv h
  obtain ⟨v, rfl, r⟩ := SRs.one sv
  cases d with
  | int i =>
    cases h2
    cases view_notlist h1 (by intro ds z; cases z) r
    exact .inl ⟨i, rfl, q.at (Ext.refl w) hr rfl⟩
  | bl b =>
    cases h2
    cases view_notlist h1 (by intro ds z; cases z) r
    exact .inr ⟨b, rfl, q.at (Ext.refl w) hr rfl⟩
  | _ => cases h2
/-- an int that is shown -/
def showI (i : Int) : Bool := decide (i.natAbs < 2 ^ 1000)
theorem showI_ok {i : Int} (h : showI i = true) : i.natAbs.log2 < 1920 := by
  have := of_decide_eq_true h
  exact Nat.lt_of_lt_of_le (PySem.Flt.log2_lt_of (by decide) this) (by decide)
def strD : D → Option D
  | .int i => match showI i with
    | true => some (.str (toString i))
    | false => none
  | .str x => some (.str x)
  | _ => none
theorem cd_str : CallD Y (.type "str") (c1 strD) := by
  refine ⟨⟨_, call_str_int.or SkE.call_str_str, fun w H ms ss vs Q hr sv h => ?_⟩, c1_ne⟩
  obtain ⟨s, d, d', rfl, h1, h2, q⟩ := c1_inv h
  obtain ⟨v, rfl, r⟩ := SRs.one sv
  cases d with
  | int i =>
    unfold strD at h2
    dsimp only at h2
    cases f : showI i with
    | false => rw [f] at h2; cases h2
    | true =>
      rw [f] at h2
      cases h2
      cases view_notlist h1 (by intro ds z; cases z) r
      exact .inl ⟨i, rfl, showI_ok f, q.at (Ext.refl w) hr rfl⟩
  | str x =>
    cases h2
    cases view_notlist h1 (by intro ds z; cases z) r
    exact .inr ⟨x, rfl, q.at (Ext.refl w) hr rfl⟩
  | _ => cases h2
/-- repr of data -/
def reprD (d : D) : Option D := match toP d with
  | some p => match p.showable && decide (p.depth ≤ 40) && few p.shown.length && !p.hasDict with
    | true => some (.str p.shown)
    | false => none
  | none => none
theorem call_reprD (ok : CyOk Y k) : CallR Y.X (.builtin "repr") (fun xs H Q => ∃ x p, xs = [x] ∧ Dp Y.X.K H x p ∧ p.showable = true ∧ p.depth ≤ 40 ∧ p.shown.length ≤ sizeLine ∧ p.hasDict = false ∧ Q (.str p.shown) H) := by
  intro pins s σ H xs us Q I r h
  obtain ⟨x, p, rfl, hd, h1, h2, h3, h4, q⟩ := h
  obtain ⟨u, rfl, ru⟩ := vals1 r
  obtain ⟨as, rd⟩ := Dp.reads I p x u hd ru
  have hu := ok.hr.units
  cases rd with
  | none => exact PySem.P.repr_of_none ⟨.str _, H, I.tok _, ⟨_, rfl⟩, q⟩
  | bool b => exact PySem.P.repr_of_bool ⟨.str _, H, I.tok _, ⟨_, rfl⟩, q⟩
  | int i t => exact PySem.P.repr_of_int (by simpa [PyData.showable] using h1) ⟨.str _, H, I.tok _, ⟨_, rfl⟩, q⟩
  | str y t => exact PySem.P.repr_of_str ⟨.str _, H, I.tok _, ⟨_, rfl⟩, q⟩ h3
  | list a1 a2 a3 a4 =>
    exact repr_of_reads' (Reads.list a1 a2 a3 a4) h1 (fun z => by rw [h4] at z; cases z) ok.gd (by omega) (fun _ _ z => z) (fun h' t tk kp => ⟨.str _, H, I.kept kp, ⟨_, rfl⟩, q⟩) h3
  | tuple a1 a2 a3 a4 =>
    exact repr_of_reads' (Reads.tuple a1 a2 a3 a4) h1 (fun z => by rw [h4] at z; cases z) ok.gd (by omega) (fun _ _ z => z) (fun h' t tk kp => ⟨.str _, H, I.kept kp, ⟨_, rfl⟩, q⟩) h3
  | dict a1 a2 a3 a4 a5 => cases h4
theorem cd_repr (ok : CyOk Y k) : CallD Y (.builtin "repr") (c1 reprD) := by
  refine ⟨⟨_, call_reprD ok, fun w H ms ss vs Q hr sv h => ?_⟩, c1_ne⟩
  obtain ⟨s, d, d', rfl, h1, h2, q⟩ := c1_inv h
  obtain ⟨v, rfl, r⟩ := SRs.one sv
  unfold reprD at h2
  cases e : toP d with
  | none => rw [e] at h2; cases h2
  | some p =>
    rw [e] at h2
    dsimp only at h2
    split at h2
    · rename_i f
      cases h2
      simp only [Bool.and_eq_true] at f
      obtain ⟨⟨⟨f1, f2⟩, f3⟩, f4⟩ := f
      exact ⟨v, p, rfl, view_rel h1 hr r e, f1, of_decide_eq_true f2, few_ok f3, by simpa using f4, q.at (Ext.refl w) hr rfl⟩
    · cases h2

/-! two ints -/
def c2 (f : Int → Int → Int) : List S → Ms → R S := fun ss ms => match ss with
  | [.d (.int i), .d (.int j)] => .ok (.d (.int (f i j))) ms
  | _ => .bad
theorem c2_ne {f : Int → Int → Int} : ∀ ss ms c ds ms', c2 f ss ms ≠ .ex c ds ms' := by
  intro ss ms c ds ms' h
  unfold c2 at h
  split at h <;> cases h
def maxI (i j : Int) : Int := if j > i then j else i
def minI (i j : Int) : Int := if j < i then j else i
theorem snd_c2 {f : Int → Int → Int} {r : List V → Hp → VK → Prop} (h : ∀ i j H Q, Q (.int (f i j)) H → r [.int i, .int j] H Q) : SndC Y r (c2 f) := by
  intro w H ms ss vs Q hr sv q
  unfold c2 at q
  split at q
  · rename_i i j
    obtain ⟨v, u, rfl, r1, r2⟩ := SRs.two sv
    cases r1
    cases r2
    exact h i j H Q (q.at (Ext.refl w) hr rfl)
  · exact q.elim
theorem cd_max (hc : Y.X.calm = true) : CallD Y (.builtin "max") (c2 maxI) := ⟨⟨_, call_max2 hc, snd_c2 fun i j _ _ q => ⟨i, j, rfl, q⟩⟩, c2_ne⟩
theorem cd_min (hc : Y.X.calm = true) : CallD Y (.builtin "min") (c2 minI) := ⟨⟨_, call_min2 hc, snd_c2 fun i j _ _ q => ⟨i, j, rfl, q⟩⟩, c2_ne⟩
/-! tuple(list), list(x) -/
def cTup : List S → Ms → R S := fun ss ms => match ss with
  | [s] => match view s ms with
    | some (.lst ds) => .ok (.d (.tup ds)) ms
    | some (.tup ds) => .ok (.d (.tup ds)) ms
    | _ => .bad
  | _ => .bad
theorem cd_tuple : CallD Y (.type "tuple") cTup := by
  refine ⟨⟨_, call_tuple_of, fun w H ms ss vs Q hr sv h => ?_⟩, fun ss ms c ds ms' h => ?_⟩
  · unfold cTup at h
    split at h
    · rename_i s
      obtain ⟨v, rfl, r⟩ := SRs.one sv
      split at h
      · rename_i ds e
        obtain ⟨a, xs, rfl, e1, e2⟩ := view_list e hr r
        refine ⟨a, xs, rfl, .inl ⟨SqL.of e1, fun l hl => ?_⟩⟩
        obtain ⟨hr2, ex⟩ := hr.froz (o := .tup xs) hl
        exact h.at ex hr2 ⟨l, xs, rfl, SqT.of upd_same, DRs.mono ex.1 _ _ e2⟩
      · rename_i ds e
        obtain ⟨a, xs, rfl, e1, e2⟩ := view_notlist e (by intro ds z; cases z) r
        exact ⟨a, xs, rfl, .inr ⟨sqT_mono e1 hr.sub, h.at (Ext.refl w) hr ⟨a, xs, rfl, e1, e2⟩⟩⟩
      · exact h.elim
    · exact h.elim
  · unfold cTup at h
    split at h
    · split at h <;> cases h
    · cases h
/-- list(x), frozen | a new cell -/
def cLst : List S → Ms → R S := fun ss ms => match ss with
  | [s] => match view s ms with
    | some (.lst ds) => .ok (.d (.lst ds)) ms
    | some (.tup ds) => .ok (.d (.lst ds)) ms
    | _ => .bad
  | _ => .bad
def cNew : List S → Ms → R S := fun ss ms => match ss with
  | [s] => match view s ms with
    | some (.lst ds) => .ok (.loc ms.length) (ms ++ [.lst ds])
    | some (.tup ds) => .ok (.loc ms.length) (ms ++ [.lst ds])
    | _ => .bad
  | _ => .bad
theorem SRs0_of_DRs {K : PySem.W.Frag} {Γ : G} {w : Wd} : ∀ {ds : List D} {vs : List V}, DRs K Γ w.F ds vs → SRs0 K Γ w (ds.map S.d) vs
  | [], _, h => by cases h; exact .nil
  | d :: ds, _, h => by obtain ⟨x, r, rfl, h2, h3⟩ := h; exact .cons h2 (SRs0_of_DRs h3)
theorem seq_inv {s : S} {v : V} {ds : List D} (h : view s ms = some (.lst ds) ∨ view s ms = some (.tup ds)) (hr : HR Y w H ms) (sv : SR Y w s v) : ∃ a xs, v = .ref a ∧ (SqL Y.X.K H a xs ∨ SqT Y.X.K H a xs) ∧ DRs Y.X.K Y.Γ w.F ds xs := by
  rcases h with h | h
  · obtain ⟨a, xs, rfl, e1, e2⟩ := view_list h hr sv
    exact ⟨a, xs, rfl, .inl (SqL.of e1), e2⟩
  · obtain ⟨a, xs, rfl, e1, e2⟩ := view_notlist h (by intro ds z; cases z) sv
    exact ⟨a, xs, rfl, .inr (sqT_mono e1 hr.sub), e2⟩
theorem cd_list : CallD Y (.type "list") cLst := by
  have key : ∀ (w : Wd) (H : Hp) (ms : Ms) (s : S) (v : V) (Q : VK) (ds : List D), HR Y w H ms → SR Y w s v → (view s ms = some (.lst ds) ∨ view s ms = some (.tup ds)) → okP Y w Q (.d (.lst ds)) ms → ∃ p ys, [v] = [V.ref p] ∧ (SqL Y.X.K H p ys ∨ SqT Y.X.K H p ys) ∧ ∀ l, H l = none → Q (.ref l) (upd H l (.lst ys)) := by
    intro w H ms s v Q ds hr r e q
    obtain ⟨a, xs, rfl, e1, e2⟩ := seq_inv e hr r
    refine ⟨a, xs, rfl, e1, fun l hl => ?_⟩
    obtain ⟨hr2, ex⟩ := hr.froz (o := .lst xs) hl
    exact q.at ex hr2 ⟨l, xs, rfl, upd_same, DRs.mono ex.1 _ _ e2⟩
  refine ⟨⟨_, call_list_of, fun w H ms ss vs Q hr sv h => ?_⟩, fun ss ms c ds ms' h => ?_⟩
  · unfold cLst at h
    split at h
    · rename_i s
      obtain ⟨v, rfl, r⟩ := SRs.one sv
      split at h
      · rename_i ds e
        exact key w H ms s v Q ds hr r (.inl e) h
      · rename_i ds e
        exact key w H ms s v Q ds hr r (.inr e) h
      · exact h.elim
    · exact h.elim
  · unfold cLst at h
    split at h
    · split at h <;> cases h
    · cases h
theorem cd_listN : CallD Y (.type "list") cNew := by
  have key : ∀ (w : Wd) (H : Hp) (ms : Ms) (s : S) (v : V) (Q : VK) (ds : List D), HR Y w H ms → SR Y w s v → (view s ms = some (.lst ds) ∨ view s ms = some (.tup ds)) → okP Y w Q (.loc ms.length) (ms ++ [.lst ds]) → ∃ p ys, [v] = [V.ref p] ∧ (SqL Y.X.K H p ys ∨ SqT Y.X.K H p ys) ∧ ∀ l, H l = none → Q (.ref l) (upd H l (.lst ys)) := by
    intro w H ms s v Q ds hr r e q
    obtain ⟨a, xs, rfl, e1, e2⟩ := seq_inv e hr r
    refine ⟨a, xs, rfl, e1, fun l hl => ?_⟩
    obtain ⟨hr2, ex⟩ := hr.cell (o := .lst xs) (c := .lst ds) hl ⟨xs, upd_same, e2⟩
    refine q.at ex hr2 ⟨l, ?_, rfl⟩
    show (w.mu ++ [l])[ms.length]? = some l
    rw [← hr.len]; simp
  refine ⟨⟨_, call_list_of, fun w H ms ss vs Q hr sv h => ?_⟩, fun ss ms c ds ms' h => ?_⟩
  · unfold cNew at h
    split at h
    · rename_i s
      obtain ⟨v, rfl, r⟩ := SRs.one sv
      split at h
      · rename_i ds e
        exact key w H ms s v Q ds hr r (.inl e) h
      · rename_i ds e
        exact key w H ms s v Q ds hr r (.inr e) h
      · exact h.elim
    · exact h.elim
  · unfold cNew at h
    split at h
    · split at h <;> cases h
    · cases h

end
end Fw
set_option Elab.async false
set_option linter.all false
set_option maxRecDepth 100000
set_option maxHeartbeats 4000000
/-! Fw9: calls of every shape: defs, methods, classmethods, classes; attributes. -/
namespace Fw
open PySem L2 PySem.Spec PyProof.Rows

/-! ### arguments -/
def CP (X : Cx) (pins : List (Addr × Obj)) (σ : L2.St) (n : Nat) (ks : List Str) (Q : List V → Hp → Prop) (a : Args) (s' : Shared) : Prop :=
  ∃ us ws vs H', a = ⟨us, ks.zip ws⟩ ∧ us.length = n ∧ ws.length = ks.length ∧ Inv X pins σ H' s' ∧ Vals vs (us ++ ws) ∧ Q vs H'
structure PC (X : Cx) (es : List Expr) (kws : List Keyword) (n : Nat) (ks : List Str) (t : TA) : Prop where
  plain : ∀ pos, ((backTo pos (starEach es X.env)).any (·.1) || (backToKw pos (keywordEach kws X.env)).any (·.1.isNone)) = false
  run : ∀ (pos : Pos) (f : Value) (pins : List (Addr × Obj)) (s : Shared) (σ : L2.St) (H : Hp) (Q : List V → Hp → Prop), Inv X pins σ H s → t σ H Q →
    wpAny (model X.prog X.w) X.A (evalArgs f true (backTo pos (starEach es X.env)) (backToKw pos (keywordEach kws X.env))) (CP X pins σ n ks Q) X.xe s
structure DC (Y : Cy) (es : List Expr) (kws : List Keyword) (n : Nat) (ks : List Str) (m : Env → Ms → R (List S)) : Prop where
  ex : ∃ t, PC Y.X es kws n ks t ∧ SndA Y t m
structure DK (Y : Cy) (kws : List Keyword) (m : Env → Ms → R (List S)) : Prop where
  ex : ∃ t, PK Y.X kws t ∧ SndA Y t m
def lenIs (n : Nat) (ss : List S) (ms : Ms) : R (List S) := match Nat.beq ss.length n with
  | true => .ok ss ms
  | false => .bad
def mLen (n : Nat) (m : Env → Ms → R (List S)) : Env → Ms → R (List S) := fun env ms => (m env ms).bind (lenIs n)
def mApp (n k : Nat) (m mk : Env → Ms → R (List S)) : Env → Ms → R (List S) := fun env ms => (mLen n m env ms).bind fun ss ms1 => (mLen k mk env ms1).bind fun zs ms2 => .ok (ss ++ zs) ms2
section
variable {Y : Cy} {w w1 w2 : Wd} {σ : L2.St} {H H1 H2 : Hp} {env : Env} {ms ms1 ms2 : Ms} {e : Expr} {es : List Expr} {kws : List Keyword} {m mk : Env → Ms → R (List S)} {me : Env → Ms → R S} {n : Nat} {ks : List Str}
def tLen (n : Nat) (t : TA) : TA := fun σ H Q => t σ H fun vs H1 => vs.length = n ∧ Q vs H1
def tApp (t t2 : TA) : TA := fun σ H Q => t σ H fun vs H1 => t2 σ H1 fun us H2 => Q (vs ++ us) H2
theorem snd_len {t : TA} (h : SndA Y t m) : SndA Y (tLen n t) (mLen n m) := by
  intro w σ H env ms Q er hr q
  refine h.go er hr q fun ss ms1 w1 H1 vs e1 er1 hr1 sv q1 => ?_
  unfold lenIs at q1
  cases b : Nat.beq ss.length n with
  | false => rw [b] at q1; exact q1.elim
  | true => rw [b] at q1; exact ⟨by rw [← SRs.length sv]; exact Nat.eq_of_beq_eq_true b, q1 w1 H1 vs e1 hr1 sv⟩
theorem SRs.append : ∀ {ss ts : List S} {vs us : List V}, SRs Y w ss vs → SRs Y w ts us → SRs Y w (ss ++ ts) (vs ++ us)
  | _, _, _, _, .nil, k => k
  | _, _, _, _, .cons a b, k => .cons a (SRs.append b k)
theorem snd_app {t t2 : TA} {n k : Nat} (h : SndA Y t m) (h2 : SndA Y t2 mk) : SndA Y (tApp (tLen n t) (tLen k t2)) (mApp n k m mk) := by
  intro w σ H env ms Q er hr q
  refine (snd_len h).go er hr q fun ss ms1 w1 H1 vs e1 er1 hr1 sv q1 => ?_
  refine (snd_len h2).go er1 hr1 q1 fun zs ms2 w2 H2 us e2 er2 hr2 sz q2 => ?_
  exact q2 w2 H2 _ (e1.trans e2) hr2 ((sv.mono e2).append sz)
theorem k_nil : DK Y [] aNil := ⟨_, pk_nil, fun w _ _ _ _ _ _ hr q => q w _ [] (Ext.refl w) hr .nil⟩
theorem k_cons {nm : Option Str} {kpos : Pos} (h1 : DE Y e me) (h2 : DK Y kws mk) : DK Y (⟨nm, e, kpos⟩ :: kws) (aCons me mk) := by
  obtain ⟨t, p, s⟩ := h1.ex
  obtain ⟨ta, pa, sa⟩ := h2.ex
  refine ⟨_, pk_cons p pa, fun w σ H env ms Q er hr h => ?_⟩
  refine s.go er hr h fun x ms1 w1 H1 v e1 er1 hr1 sv h1 => ?_
  refine sa.go er1 hr1 h1 fun xs ms2 w2 H2 vs e2 er2 hr2 svs h2 => ?_
  exact h2 w2 H2 (v :: vs) (e1.trans e2) hr2 (.cons (sv.mono e2) svs)
theorem c_nil : DC Y [] [] 0 [] aNil := by
  refine ⟨tNil, ⟨fun _ => rfl, fun pos f pins s σ H Q I h => ?_⟩, fun w _ _ _ _ _ _ hr q => q w _ [] (Ext.refl w) hr .nil⟩
  exact evalArgs_nil3 ⟨[], [], [], H, rfl, rfl, rfl, I, .nil, h⟩
theorem c_pos (h : DA Y (e :: es) m) (hl : (e :: es).length = n := by rfl) (he : starEach (e :: es) Y.X.env = (false, eval e Y.X.env) :: starEach es Y.X.env := by rfl) (hp : ∀ pos, ((backTo pos (starEach (e :: es) Y.X.env)).any (·.1) || (backToKw pos (keywordEach [] Y.X.env)).any (·.1.isNone)) = false := by intro _; rfl) :
    DC Y (e :: es) [] n [] (mLen n m) := by
  obtain ⟨t, p, s⟩ := h.ex
  refine ⟨tLen n t, ⟨hp, fun pos f pins s σ H Q I h => ?_⟩, snd_len s⟩
  have z := p.run pos pins s σ H _ I h
  rw [he] at z ⊢
  refine Calls.evalArgs_plain (thn z fun us s1 ⟨vs, H1, I1, r, hn, q⟩ => ?_)
  exact ⟨us, [], vs, H1, rfl, by rw [← r.length]; exact hn, rfl, I1, by rw [List.append_nil]; exact r, q⟩
theorem c_kw0 (h : DK Y kws mk) {k : Nat} (hk : ks.length = k := by rfl) (hall : ∀ pos, (backToKw pos (keywordEach kws Y.X.env)).all (·.1.isSome) = true := by intro _; rfl) (hks : ∀ pos, (backToKw pos (keywordEach kws Y.X.env)).filterMap (·.1) = ks := by intro _; rfl)
    (hp : ∀ pos, ((backTo pos (starEach [] Y.X.env)).any (·.1) || (backToKw pos (keywordEach kws Y.X.env)).any (·.1.isNone)) = false := by intro _; rfl) : DC Y [] kws 0 ks (mLen k mk) := by
  obtain ⟨t, p, s⟩ := h.ex
  refine ⟨tLen k t, ⟨hp, fun pos f pins s σ H Q I h => ?_⟩, snd_len s⟩
  refine evalArgs_kw2_nil (hall pos) (thn (p.run pos pins s σ H _ I h) fun ws s1 ⟨vs, H1, I1, r, hn, q⟩ => ?_)
  rw [hks pos]
  exact ⟨[], ws, vs, H1, rfl, rfl, by rw [← r.length, hk]; exact hn, I1, r, q⟩
theorem c_kw (h : DA Y (e :: es) m) (h2 : DK Y kws mk) {k : Nat} (hk : ks.length = k := by rfl) (hl : (e :: es).length = n := by rfl) (hall : ∀ pos, (backToKw pos (keywordEach kws Y.X.env)).all (·.1.isSome) = true := by intro _; rfl) (hks : ∀ pos, (backToKw pos (keywordEach kws Y.X.env)).filterMap (·.1) = ks := by intro _; rfl)
    (he : starEach (e :: es) Y.X.env = (false, eval e Y.X.env) :: starEach es Y.X.env := by rfl) (hp : ∀ pos, ((backTo pos (starEach (e :: es) Y.X.env)).any (·.1) || (backToKw pos (keywordEach kws Y.X.env)).any (·.1.isNone)) = false := by intro _; rfl) : DC Y (e :: es) kws n ks (mApp n k m mk) := by
  obtain ⟨t, p, s⟩ := h.ex
  obtain ⟨t2, p2, s2⟩ := h2.ex
  refine ⟨tApp (tLen n t) (tLen k t2), ⟨hp, fun pos f pins s σ H Q I h => ?_⟩, snd_app s s2⟩
  refine evalArgs_kw2 (hall pos) (thn (p.run pos pins s σ H _ I h) fun us s1 ⟨vs, H1, I1, r, hn, q⟩ => ?_) he
  refine thn (p2.run pos pins s1 σ H1 _ I1 q) fun ws s2 ⟨zs, H2, I2, r2, hn2, q2⟩ => ?_
  rw [hks pos]
  exact ⟨us, ws, vs ++ zs, H2, rfl, by rw [← r.length]; exact hn, by rw [← r2.length, hk]; exact hn2, I2, r.append r2, q2⟩
end

/-! ### callees -/
def pick {α : Type} (pk : List Nat) (l : List α) : List α := pk.filterMap fun i => l[i]?
theorem paired_get {α β : Type} {P : α → β → Prop} : ∀ {xs : List α} {ys : List β}, Paired P xs ys → ∀ i : Nat, (xs[i]? = none ∧ ys[i]? = none) ∨ ∃ x y, xs[i]? = some x ∧ ys[i]? = some y ∧ P x y
  | _, _, .nil, i => .inl ⟨by simp, by simp⟩
  | _, _, .cons a b, 0 => .inr ⟨_, _, rfl, rfl, a⟩
  | _, _, .cons a b, i + 1 => by simpa using paired_get b i
theorem pick_paired {α β : Type} {P : α → β → Prop} {xs : List α} {ys : List β} (h : Paired P xs ys) : ∀ pk : List Nat, Paired P (pick pk xs) (pick pk ys)
  | [] => .nil
  | i :: pk => by
    unfold pick
    rw [List.filterMap_cons, List.filterMap_cons]
    rcases paired_get h i with ⟨e1, e2⟩ | ⟨x, y, e1, e2, p⟩
    · rw [e1, e2]; exact pick_paired h pk
    · rw [e1, e2]; exact .cons p (pick_paired h pk)
theorem pick_len {α : Type} {l : List α} : ∀ {pk : List Nat}, (∀ i ∈ pk, i < l.length) → (pick pk l).length = pk.length
  | [], _ => rfl
  | i :: pk, h => by
    unfold pick
    rw [List.filterMap_cons, List.getElem?_eq_getElem (h i List.mem_cons_self)]
    exact congrArg Nat.succ (pick_len fun j hj => h j (List.mem_cons_of_mem _ hj))
/-- how a def binds a call with n values by position and the names ks: pk picks, per parameter, out of values ++ named ++ defaults -/
structure Bd (K : PySem.W.Frag) (fd : FuncData) (ps : List Str) (n : Nat) (ks : List Str) (pk : List Nat) (dvs : List V) : Prop where
  to : ∃ ds : List Value, Vals dvs ds ∧ ∀ (s : Shared) (us ws : List Value), K.In s.heap → us.length = n → ws.length = ks.length → BindsTo s fd ⟨us, ks.zip ws⟩ (ps.zip (pick pk (us ++ ws ++ ds)))
  len : pk.length = ps.length
  rng : ∀ i ∈ pk, i < n + ks.length + dvs.length
structure Cal (Y : Cy) (f : Addr) (n : Nat) (ks : List Str) (g : List S → Ms → R S) : Prop where
  run : ∀ {pins : List (Addr × Obj)} {σ : L2.St} {H : Hp} {s : Shared} {w : Wd} {Q : VK} {us ws : List Value} {vs : List V} {ss : List S} {ms : Ms}, Inv Y.X pins σ H s → us.length = n → ws.length = ks.length → Vals vs (us ++ ws) → HR Y w H ms → SRs Y w ss vs →
    (g ss ms).post (okP Y w Q) (exP Y w σ) → codeAny (model Y.X.prog Y.X.w) Y.X.A (.call (.ref f) ⟨us, ks.zip ws⟩) (CalR Y pins σ Q) s
theorem cal_wp {Y : Cy} {f : Value} {us : List Value} {kw : List (Str × Value)} {pins : List (Addr × Obj)} {σ : L2.St} {Q : VK} {s : Shared} (h : codeAny (model Y.X.prog Y.X.w) Y.X.A (.call f ⟨us, kw⟩) (CalR Y pins σ Q) s) :
    wpAny (model Y.X.prog Y.X.w) Y.X.A (call f us kw) (EP Y.X pins σ Q) Y.X.xe s := by
  refine wpAny_call (codeAny_mono h fun r s' q => ?_)
  cases r with
  | error e => exact q
  | ok fl => cases fl <;> exact q
def bndS (sem : List S → Ms → R S) (pk : List Nat) (cs : List S) : List S → Ms → R S := fun ss ms => callSem sem (pick pk (ss ++ cs)) ms
section
variable {Y : Cy} {w w1 w2 : Wd} {σ : L2.St} {H H1 H2 : Hp} {env : Env} {ms ms1 ms2 : Ms} {o e : Expr} {es : List Expr} {kws : List Keyword} {m mk : Env → Ms → R (List S)} {me : Env → Ms → R S} {n j k : Nat} {ks ps : List Str} {f : Addr} {fd : FuncData} {sem g : List S → Ms → R S} {x : Str} {p apos pos : Pos}
theorem pick_rel {pk : List Nat} {ss : List S} {vs : List V} (h : SRs Y w ss vs) : SRs Y w (pick pk ss) (pick pk vs) := pick_paired h pk
theorem Cal.fn {pk : List Nat} {dvs : List V} {cs : List S} (ok : CyOk Y k) (F : DFY Y j f fd ps sem) (hj : j ≤ k) (hb : Bd Y.X.K fd ps n ks pk dvs) (hc : ∀ w, SRs Y w cs dvs) : Cal Y f n ks (bndS sem pk cs) := by
  refine ⟨fun {pins σ H s w Q us ws vs ss ms} I l1 l2 r hr sv h => ?_⟩
  obtain ⟨ds, rd, to⟩ := hb.to
  have r2 : Vals (pick pk (vs ++ dvs)) (pick pk (us ++ ws ++ ds)) := pick_paired (r.append rd) pk
  have l3 : vs.length = n + ks.length := by rw [r.length, List.length_append, l1, l2]
  have l4 : (pick pk (vs ++ dvs)).length = ps.length := by
    rw [pick_len, hb.len]
    intro i hi
    rw [List.length_append, l3]
    exact hb.rng i hi
  exact code_df ok F hj (to s us ws I.kIn l1 l2) l4 I r2 hr (pick_rel (sv.append (hc w))) h

def mCallN (g : List S → Ms → R S) (m : Env → Ms → R (List S)) : Env → Ms → R S := fun env ms => (m env ms).bind g
/-- x(..), x a name of the module for a def or a class -/
theorem e_callN (hcal : Cal Y f n ks g) (hg : Gl Y.X x) (hm : Y.X.mg x = some (.ref f)) (hk : PySem.W.keepIn Y.X.K (.ref f) = true) (ha : DC Y es kws n ks m) (hdb : (x == ("__debug__" : Str)) = false := by decide) :
    DE Y (.Call (.Name x p) es kws pos) (mCallN g m) := by
  obtain ⟨t, pa, sa⟩ := ha.ex
  refine ⟨fun σ H Q => t σ H fun vs H1 => ∃ (ss : List S) (ms : Ms) (w : Wd), HR Y w H1 ms ∧ SRs Y w ss vs ∧ (g ss ms).post (okP Y w Q) (exP Y w σ), ⟨fun pins s σ H Q I h => ?_⟩, fun w σ H env ms Q er hr h => ?_⟩
  · refine wpAny_Call_Name_kw (ld_glob I hg hm ?_ hdb)
    refine PySem.W.callWith_of (pa.plain pos) (PySem.W.keeps_K hk) (thn (pa.run pos _ pins s σ H _ I h) fun a s1 ⟨us, ws, vs, H1, ea, l1, l2, I1, r, ss, ms, w, hr, sv, q⟩ => ?_)
    subst ea
    exact ⟨I1.kIn, cal_wp (hcal.run I1 l1 l2 r hr sv q)⟩
  · refine sa.go er hr h fun ss ms1 w1 H1 vs e1 er1 hr1 sv h1 => ?_
    exact ⟨ss, ms1, w1, hr1, sv, R.post_mono h1 (fun _ _ z => z.ext e1) fun _ _ _ z => z⟩
/-- a method's callees, by the receiver's class -/
abbrev MTab := List (Nat × (List S → Ms → R S))
def mMeth (tab : MTab) (mo : Env → Ms → R S) (m : Env → Ms → R (List S)) : Env → Ms → R S := fun env ms => (mo env ms).bind fun x ms1 => match x with
  | .d (.obj c ds) => match tab.lookup c with
    | some g => (m env ms1).bind fun ss ms2 => g (.d (.obj c ds) :: ss) ms2
    | none => .bad
  | _ => .bad
/-- what a method of a class must have -/
structure MtOk (Y : Cy) (n : Nat) (ks : List Str) (mth : Str) (c : Nat) (g : List S → Ms → R S) : Prop where
  cls : Cls Y.X.K (Y.Γ.cls c)
  no : mth ∉ Y.Γ.fld c
  ex : ∃ f, Meth Y.X.K (Y.Γ.cls c) mth f ∧ Cal Y f (n + 1) ks g
inductive Tab {α : Type} (P : Nat → α → Prop) : List (Nat × α) → Prop where
  | nil : Tab P []
  | cons {c : Nat} {g : α} {r : List (Nat × α)} (h : P c g) (t : Tab P r) : Tab P ((c, g) :: r)
theorem Tab.at_ {α : Type} {P : Nat → α → Prop} {c : Nat} {g : α} : ∀ {l : List (Nat × α)}, Tab P l → l.lookup c = some g → P c g
  | _, .nil, h => by cases h
  | (c', g') :: r, .cons h t, e => by
    rw [List.lookup_cons] at e
    cases q : c == c' with
    | true =>
      rw [q] at e
      cases e
      rw [beq_iff_eq.mp q]; exact h
    | false => rw [q] at e; exact t.at_ e
theorem lookup_zip_none {α : Type} : ∀ {fs : List Str} {xs : List α} {f : Str}, f ∉ fs → (fs.zip xs).lookup f = none
  | [], _, _, _ => by simp
  | a :: fs, [], _, _ => by simp
  | a :: fs, x :: xs, f, h => by
    rw [List.zip_cons_cons, List.lookup_cons]
    have : (f == a) = false := beq_eq_false_iff_ne.mpr fun z => h (by subst z; exact List.mem_cons_self)
    rw [this]
    exact lookup_zip_none fun z => h (List.mem_cons_of_mem _ z)
theorem e_meth {tab : MTab} {mth : Str} {mo : Env → Ms → R S} {pl : Sem Bool} (ho : DE Y o mo) (ht : Tab (MtOk Y n ks mth) tab) (ha : DC Y es kws n ks m)
    (hc : eval (.Call (.Attribute o mth apos) es kws pos) Y.X.env = (do
      let ov ← eval o Y.X.env
      standAt apos.atName
      let (f, first) ← holding [ov] (getMethod ov mth pl)
      callWith pos f first (backTo pos (starEach es Y.X.env)) (backToKw pos (keywordEach kws Y.X.env))) := by rfl) :
    DE Y (.Call (.Attribute o mth apos) es kws pos) (mMeth tab mo m) := by
  obtain ⟨to, po, so⟩ := ho.ex
  obtain ⟨t, pa, sa⟩ := ha.ex
  refine ⟨fun σ H Q => to σ H fun x H1 => ∃ a c dx xs g, x = .ref a ∧ H1 a = some (.ins (Y.Γ.cls c) dx ((Y.Γ.fld c).zip xs)) ∧ MtOk Y n ks mth c g ∧ t σ H1 fun vs H2 => ∃ (ss : List S) (ms : Ms) (w : Wd), HR Y w H2 ms ∧ SRs Y w ss (x :: vs) ∧ (g ss ms).post (okP Y w Q) (exP Y w σ),
    ⟨fun pins s σ H Q I h => ?_⟩, fun w σ H env ms Q er hr h => ?_⟩
  · refine PySem.W.methodCall_KW (pl := pl) (thn (po.run pins s σ H _ I h) fun u s1 ⟨x, H1, I1, rx, a, c, dx, xs, g, ex, ea, mt, q⟩ => ?_) hc
    subst ex
    obtain rfl : u = Value.ref a := rx
    obtain ⟨f, hm, cal⟩ := mt.ex
    refine getmeth_ok I1 ea mt.cls hm (lookup_zip_none mt.no) ?_
    refine PySem.W.callWith_of (pa.plain pos) (PySem.W.keeps_K hm.kp) (thn (pa.run pos _ pins s1 σ H1 _ I1 q) fun b s2 ⟨us, ws, vs, H2, eb, l1, l2, I2, r, ss, ms, w, hr, sv, q2⟩ => ?_)
    subst eb
    exact ⟨I2.kIn, cal_wp (cal.run (us := .ref a :: us) (vs := .ref a :: vs) I2 (congrArg Nat.succ l1) l2 (show Vals (V.ref a :: vs) (Value.ref a :: (us ++ ws)) from .cons rfl r) hr sv q2)⟩
  · refine so.go er hr h fun x ms1 w1 H1 v e1 er1 hr1 sv h1 => ?_
    cases x with
    | loc i => exact h1.elim
    | exn c ds => exact h1.elim
    | d x =>
      cases x with
      | obj c ds =>
        obtain ⟨a, dx, xs, rfl, k1, k2, k3⟩ := sv
        dsimp only at h1
        cases hl : tab.lookup c with
        | none => rw [hl] at h1; exact h1.elim
        | some g =>
          rw [hl] at h1
          refine ⟨a, c, dx, xs, g, rfl, hr1.sub _ _ k1, ht.at_ hl, ?_⟩
          refine sa.go er1 hr1 h1 fun ss ms2 w2 H2 vs e2 er2 hr2 svs h2 => ?_
          exact ⟨_, ms2, w2, hr2, .cons (show SR Y w2 (.d (.obj c ds)) (.ref a) from ⟨a, dx, xs, rfl, e2.F _ _ k1, k2, DRs.mono e2.F _ _ k3⟩) svs, R.post_mono h2 (fun _ _ z => z.ext (e1.trans e2)) fun _ _ _ z => z⟩
      | _ => exact h1.elim
/-- C.m(..), m a classmethod, C a class by name or a name's value -/
structure CmOk (Y : Cy) (n : Nat) (ks : List Str) (mth : Str) (c : Nat) (g : List S → Ms → R S) : Prop where
  ex : ∃ mc q f, ClX.CRead Y.X.K (Y.Γ.fn c) mc ∧ ClX.CMet Y.X.K (Y.Γ.fn c) mc mth q f ∧ Cal Y f (n + 1) ks g
def mCMeth (tab : MTab) (mo : Env → Ms → R S) (m : Env → Ms → R (List S)) : Env → Ms → R S := fun env ms => (mo env ms).bind fun x ms1 => match x with
  | .d (.fn c) => match tab.lookup c with
    | some g => (m env ms1).bind fun ss ms2 => g (.d (.fn c) :: ss) ms2
    | none => .bad
  | _ => .bad
theorem e_cmeth {tab : MTab} {mth : Str} {mo : Env → Ms → R S} {pl : Sem Bool} (ho : DE Y o mo) (ht : Tab (CmOk Y n ks mth) tab) (ha : DC Y es kws n ks m)
    (hc : eval (.Call (.Attribute o mth apos) es kws pos) Y.X.env = (do
      let ov ← eval o Y.X.env
      standAt apos.atName
      let (f, first) ← holding [ov] (getMethod ov mth pl)
      callWith pos f first (backTo pos (starEach es Y.X.env)) (backToKw pos (keywordEach kws Y.X.env))) := by rfl) :
    DE Y (.Call (.Attribute o mth apos) es kws pos) (mCMeth tab mo m) := by
  obtain ⟨to, po, so⟩ := ho.ex
  obtain ⟨t, pa, sa⟩ := ha.ex
  refine ⟨fun σ H Q => to σ H fun x H1 => ∃ c g, x = .ref (Y.Γ.fn c) ∧ CmOk Y n ks mth c g ∧ t σ H1 fun vs H2 => ∃ (ss : List S) (ms : Ms) (w : Wd), HR Y w H2 ms ∧ SRs Y w ss (x :: vs) ∧ (g ss ms).post (okP Y w Q) (exP Y w σ),
    ⟨fun pins s σ H Q I h => ?_⟩, fun w σ H env ms Q er hr h => ?_⟩
  · refine PySem.W.methodCall_KW (pl := pl) (thn (po.run pins s σ H _ I h) fun u s1 ⟨x, H1, I1, rx, c, g, ex, mt, q⟩ => ?_) hc
    subst ex
    obtain rfl : u = Value.ref (Y.Γ.fn c) := rx
    obtain ⟨mc, qa, f, cr, cm, cal⟩ := mt.ex
    refine ClX.getmethcm_ok I1 cr cm fun s2 I2 => ?_
    have hq : ∀ {s' : Shared} {σ' : L2.St} {H' : Hp}, Inv Y.X ((s1.heap.objs.size, PySem.W.methodObj (.ref f) (.ref (Y.Γ.fn c))) :: pins) σ' H' s' → PySem.W.MethP Y.X.K s1.heap.objs.size f (.ref (Y.Γ.fn c)) s'.heap := fun I' => ⟨ClX.pin_at I', I'.kIn⟩
    show wpAny _ _ (callWith pos (.ref s1.heap.objs.size) [] _ _) _ _ _
    refine PySem.W.callWith_of (P := PySem.W.MethP Y.X.K s1.heap.objs.size f (.ref (Y.Γ.fn c))) (pa.plain pos) (PySem.W.keeps_M cm.fi) (thn (pa.run pos (.ref s1.heap.objs.size) _ s2 σ H1 _ I2 q) fun b s3 ⟨us, ws, vs, H2, eb, l1, l2, I3, r, ss, ms, w, hr, sv, q2⟩ => ?_)
    subst eb
    refine ⟨hq I3, ?_⟩
    have z := cal.run (us := .ref (Y.Γ.fn c) :: us) (vs := .ref (Y.Γ.fn c) :: vs) I3 (congrArg Nat.succ l1) l2 (show Vals (V.ref (Y.Γ.fn c) :: vs) (Value.ref (Y.Γ.fn c) :: (us ++ ws)) from .cons rfl r) hr sv q2
    exact thn (cal_wp (PySem.W.method_call (ClX.pin_at I3) z)) fun _ _ y => ClX.unpinE y
  · refine so.go er hr h fun x ms1 w1 H1 v e1 er1 hr1 sv h1 => ?_
    cases x with
    | loc i => exact h1.elim
    | exn c ds => exact h1.elim
    | d x =>
      cases x with
      | fn c =>
        cases sv
        dsimp only at h1
        cases hl : tab.lookup c with
        | none => rw [hl] at h1; exact h1.elim
        | some g =>
          rw [hl] at h1
          refine ⟨c, g, rfl, ht.at_ hl, ?_⟩
          refine sa.go er1 hr1 h1 fun ss ms2 w2 H2 vs e2 er2 hr2 svs h2 => ?_
          exact ⟨_, ms2, w2, hr2, .cons (show SR Y w2 (.d (.fn c)) (.ref (Y.Γ.fn c)) from rfl) svs, R.post_mono h2 (fun _ _ z => z.ext (e1.trans e2)) fun _ _ _ z => z⟩
      | _ => exact h1.elim
end
end Fw
set_option Elab.async false
set_option linter.all false
set_option maxRecDepth 100000
set_option maxHeartbeats 4000000
/-! Fw10: new instances, attributes read and written. -/
namespace Fw
open PySem L2 PySem.Spec PyProof.Rows

/-- a world without its last cell -/
def Wd.dropLast (w : Wd) : Wd := ⟨w.F, w.P, w.mu.dropLast⟩
section
variable {K : PySem.W.Frag} {Γ : G} {w w1 : Wd} {H H1 : Hp} {ms ms1 : Ms}
theorem HR0.sub_mu {F : Hp} {mu : List Addr} {ms2 : Ms} (h : HR0 K Γ w H ms) (hF : ∀ a o, w.F a = some o → F a = some o) (hs : ∀ a o, F a = some o → H a = some o) (hd : ∀ a o, w.P a = some o → F a = none) (len : mu.length = ms2.length)
    (hm : ∀ (n : Nat) a c, mu[n]? = some a → ms2[n]? = some c → w.mu[n]? = some a ∧ ms[n]? = some c ∧ (c ≠ .dead → F a = none)) : HR0 K Γ ⟨F, w.P, mu⟩ H ms2 := by
  refine ⟨hs, h.prot, hd, len, fun i j a c c' e1 e2 k1 k2 d1 d2 => ?_, fun n a c e k d => ?_, fun n a c e k => ?_⟩
  · obtain ⟨x1, x2, _⟩ := hm i a c e1 k1
    obtain ⟨y1, y2, _⟩ := hm j a c' e2 k2
    exact h.inj i j a c c' x1 y1 x2 y2 d1 d2
  · obtain ⟨x1, x2, x3⟩ := hm n a c e k
    exact ⟨x3 d, (h.sep n a c x1 x2 d).2⟩
  · obtain ⟨x1, x2, x3⟩ := hm n a c e k
    have q := h.cel n a c x1 x2
    cases c with
    | dead => trivial
    | lst ds => obtain ⟨xs, y1, y2⟩ := q; exact ⟨xs, y1, DRs.mono hF _ _ y2⟩
    | ins c fs => obtain ⟨dx, xs, y1, y2⟩ := q; exact ⟨dx, xs, y1, DRs.mono hF _ _ y2⟩
theorem dropLast_get {α : Type} {l : List α} {n : Nat} {x : α} (h : l.dropLast[n]? = some x) : l[n]? = some x ∧ n + 1 < l.length := by
  have hl : n < l.dropLast.length := (List.getElem?_eq_some_iff.mp h).1
  rw [List.length_dropLast] at hl
  refine ⟨?_, by omega⟩
  rw [List.getElem?_dropLast] at h
  rw [if_pos (by omega)] at h
  exact h
/-- the last cell is forgotten -/
theorem HR0.forget (h : HR0 K Γ w H ms) : HR0 K Γ w.dropLast H ms.dropLast := by
  refine h.sub_mu (fun _ _ z => z) h.sub h.dis (by show w.mu.dropLast.length = _; rw [List.length_dropLast, List.length_dropLast, h.len]) fun n a c e k => ?_
  have e := (dropLast_get e).1
  have k := (dropLast_get k).1
  exact ⟨e, k, fun d => (h.sep n a c e k d).1⟩
/-- the last cell is frozen -/
theorem HR0.freeze {n : Nat} {a : Addr} {c : Cell} {o : HO} (h : HR0 K Γ w H ms) (hn : w.mu.length = n + 1) (ha : w.mu[n]? = some a) (hc : ms[n]? = some c) (hd : c ≠ .dead) (ho : H a = some o) : HR0 K Γ ⟨upd w.F a o, w.P, w.mu.dropLast⟩ H ms.dropLast := by
  obtain ⟨nF, nP⟩ := h.sep n a c ha hc hd
  refine h.sub_mu (fun b u e => ?_) (fun b u e => ?_) (fun b u e => ?_) (by rw [List.length_dropLast, List.length_dropLast, h.len]) fun m b d e k => ?_
  · have : b ≠ a := fun z => by subst z; rw [nF] at e; cases e
    rw [upd_ne this]; exact e
  · by_cases z : b = a
    · subst z; rw [upd_same] at e; rw [← e]; exact ho
    · rw [upd_ne z] at e; exact h.sub b u e
  · have : b ≠ a := fun z => by subst z; rw [nP] at e; cases e
    rw [upd_ne this]; exact h.dis b u e
  · obtain ⟨e, hl⟩ := dropLast_get e
    have k := (dropLast_get k).1
    refine ⟨e, k, fun dd => ?_⟩
    have : b ≠ a := fun z => by
      subst z
      have := h.inj m n b d c e ha k hc dd hd
      omega
    rw [upd_ne this]
    exact (h.sep m b d e k dd).1
end
section
variable {Y : Cy} {w w1 w2 : Wd} {σ : L2.St} {H H1 H2 : Hp} {env : Env} {ms ms1 ms2 : Ms} {o e : Expr} {es : List Expr} {kws : List Keyword} {m mk : Env → Ms → R (List S)} {me : Env → Ms → R S} {n j k : Nat} {ks ps : List Str} {f : Addr} {fd : FuncData} {sem g : List S → Ms → R S} {x : Str} {p apos pos : Pos}
/-- the callee runs within other frames of the machine -/
theorem code_dfA {A : Around} {pins : List (Addr × Obj)} {σ : L2.St} {H : Hp} {s : Shared} {w : Wd} {Q : VK} {us ws : List Value} {vs : List V} {ss : List S} {ms : Ms} {kw : List (Str × Value)} (tk : Takes Y.X Y.W) (hr : Room j A) (gd : A.guards = some []) (F : DFY Y j f fd ps sem)
    (hb : BindsTo s fd ⟨us, kw⟩ (ps.zip ws)) (hl : vs.length = ps.length) (I : Inv Y.X pins σ H s) (e0 : Env0 Y.X.prog Y.X.w Y.X.K Y.X.mg Y.X.base A Y.X.stack s H) (r : Vals vs ws) (hh : HR Y w H ms) (sv : SRs Y w ss vs) (h : (callSem sem ss ms).post (okP Y w Q) (exP Y w σ)) :
    codeAny (model Y.X.prog Y.X.w) A (.call (.ref f) ⟨us, kw⟩) (CalR Y pins σ Q) s := by
  obtain ⟨wc, mc, sc, hr1, s1, h2⟩ := call_post hh sv h
  refine codeAny_mono (F.run A Y.X.stack s H ⟨us, kw⟩ ws vs sc mc wc Q _ hr gd e0 hb r hl hr1 s1 h2) fun res s' hq => ?_
  cases res with
  | error er => exact tk er s' (XE.of_call I (fun _ _ _ z => z) hq)
  | ok fl =>
    cases fl with
    | ret u => exact I.after hq
    | next => exact False.elim hq
    | brk => exact False.elim hq
    | cont => exact False.elim hq
theorem make_guards {A : Around} {C : Addr} {us : List Value} {kw : List (Str × Value)} : (A.under (.builtin "type.__call__" ⟨.ref C :: us, kw⟩)).guards = A.guards := by
  first | rfl | simp [Around.under, Code.guards, pushGuards]
theorem HR0.junk {K : PySem.W.Frag} {Γ : G} {w : Wd} {H : Hp} {ms : Ms} {p : Addr} {o : HO} (h : HR0 K Γ w H ms) (hp : H p = none) : HR0 K Γ w (upd H p o) ms :=
  ⟨fun a u e => by rw [upd_ne (ne_of_none (h.sub a u e) hp)]; exact h.sub a u e, fun a u e => by rw [upd_ne (ne_of_none (h.prot a u e) hp)]; exact h.prot a u e, h.dis, h.len, h.inj, h.sep,
    fun n a c hm hc => (h.cel n a c hm hc).mono (Ext.refl w) fun u e => by rw [upd_ne (ne_of_none e hp)]; exact e⟩
theorem Ext.dropLast {w : Wd} {x : Addr} {w' : Wd} {F : Hp} (e : Ext ⟨w.F, w.P, w.mu ++ [x]⟩ w') (l : w'.mu.length = w.mu.length + 1) (hF : ∀ a o, w'.F a = some o → w.F a = some o → F a = some o) : Ext w ⟨F, w'.P, w'.mu.dropLast⟩ := by
  refine ⟨fun a o h => hF a o (e.F a o h) h, fun n a h => ?_, e.P⟩
  have hn : n < w.mu.length := (List.getElem?_eq_some_iff.mp h).1
  have h2 := e.mu n a (by show (w.mu ++ [x])[n]? = _; rw [List.getElem?_append_left hn]; exact h)
  show w'.mu.dropLast[n]? = _
  rw [List.getElem?_dropLast, if_pos (by omega)]
  exact h2
/-- C(..): a new instance, its __init__, then it is frozen -/
def mkS (c : Nat) (fs : List Str) (g : List S → Ms → R S) : List S → Ms → R S := fun ss ms => match g (.loc ms.length :: ss) (ms ++ [.ins c []]) with
  | .ok (.d .non) ms' => match Nat.beq ms'.length (ms.length + 1), ms'[ms.length]? with
    | true, some (.ins c' kvs) => match Nat.beq c' c && decide (kvs.map (·.1) = fs) with
      | true => .ok (.d (.obj c (kvs.map (·.2)))) ms'.dropLast
      | false => .bad
    | _, _ => .bad
  | .ex k ds ms' => match Nat.beq ms'.length (ms.length + 1) with
    | true => .ex k ds ms'.dropLast
    | false => .bad
  | _ => .bad
theorem mk_post {c : Nat} {x dx : Addr} {ss : List S} {Q : VK} (hr : HR Y w H ms) (hx : H x = none) (hd : H dx = none) (ne : dx ≠ x) (h : (mkS c (Y.Γ.fld c) g ss ms).post (okP Y w Q) (exP Y w σ)) :
    HR Y ⟨w.F, w.P, w.mu ++ [x]⟩ (upd (upd H dx (.own x)) x (.ins (Y.Γ.cls c) dx [])) (ms ++ [.ins c []]) ∧ Ext w ⟨w.F, w.P, w.mu ++ [x]⟩ ∧
      (g (.loc ms.length :: ss) (ms ++ [.ins c []])).post (okP Y ⟨w.F, w.P, w.mu ++ [x]⟩ fun v H' => v = .non ∧ Q (.ref x) H') (exP Y ⟨w.F, w.P, w.mu ++ [x]⟩ σ) := by
  have h1 : HR Y w (upd H dx (.own x)) ms := hr.junk hd
  have hx' : (upd H dx (.own x)) x = none := by rw [upd_ne (Ne.symm ne)]; exact hx
  obtain ⟨h2, e2⟩ := h1.cell (o := .ins (Y.Γ.cls c) dx []) (c := .ins c []) hx' ⟨dx, [], upd_same, rfl⟩
  refine ⟨h2, e2, ?_⟩
  have mx : ∀ {w' : Wd}, Ext ⟨w.F, w.P, w.mu ++ [x]⟩ w' → w'.mu[ms.length]? = some x := fun {w'} e => e.mu _ _ (by show (w.mu ++ [x])[ms.length]? = _; rw [← hr.len]; simp)
  unfold mkS at h
  cases hg : g (.loc ms.length :: ss) (ms ++ [.ins c []]) with
  | bad => rw [hg] at h; exact h.elim
  | ex k ds ms' =>
    rw [hg] at h
    dsimp only at h
    cases hb : Nat.beq ms'.length (ms.length + 1) with
    | false => rw [hb] at h; exact h.elim
    | true =>
      rw [hb] at h
      have hb := Nat.eq_of_beq_eq_true hb
      intro w' H' dd e' hr' xd
      exact h w'.dropLast H' dd (e'.dropLast (by rw [hr'.len, hb, hr.len]) fun a o z _ => z) hr'.forget xd
  | ok s ms' =>
    rw [hg] at h
    split at h
    · rename_i ms'' heq
      injection heq with q1 q2
      subst q1 q2
      split at h
      · rename_i c' kvs hl hc
        cases hb : (Nat.beq c' c && decide (kvs.map (·.1) = Y.Γ.fld c)) with
        | false => rw [hb] at h; exact h.elim
        | true =>
          rw [hb] at h
          obtain ⟨b1, b2⟩ := Bool.and_eq_true_iff.mp hb
          have b1 := Nat.eq_of_beq_eq_true b1
          have b2 := of_decide_eq_true b2
          subst b1
          have hl := Nat.eq_of_beq_eq_true hl
          intro w' H' v e' hr' sv
          refine ⟨sv, ?_⟩
          have hm := mx e'
          obtain ⟨d', xs, k1, k2⟩ := hr'.cel _ _ _ hm hc
          rw [b2] at k1
          have lx : w'.mu.length = w.mu.length + 1 := by rw [hr'.len, hl, hr.len]
          have nd : Cell.ins c' kvs ≠ .dead := by intro z; cases z
          have fr := hr'.freeze (by rw [lx, hr.len]) hm hc nd k1
          have ex : Ext w ⟨upd w'.F x (.ins (Y.Γ.cls c') d' ((Y.Γ.fld c').zip xs)), w'.P, w'.mu.dropLast⟩ := e'.dropLast lx fun a o z1 z2 => by
            rw [upd_ne (ne_of_none (hr.sub a o z2) hx)]; exact z1
          refine h _ H' _ ex fr ⟨x, d', xs, rfl, upd_same, ?_, ?_⟩
          · rw [← DRs.length k2, ← b2, List.length_map, List.length_map]
          · refine DRs.mono (fun a o z => ?_) _ _ k2
            show upd w'.F x _ a = some o
            rw [upd_ne]
            · exact z
            · intro z2
              subst z2
              rw [(hr'.sep _ _ _ hm hc nd).1] at z
              cases z
      · exact h.elim
    · exact absurd ‹R.ok s ms' = R.ex _ _ _› (by intro z; cases z)
    · exact h.elim
theorem Cal.make {pk : List Nat} {dvs : List V} {cs : List S} {c : Nat} {C : Addr} (ok : CyOk Y k) (M : Mk Y.X.K C f) (hC : Y.Γ.cls c = C) (F : DFY Y j f fd ps sem) (hj : j + 1 ≤ k) (hb : Bd Y.X.K fd ps (n + 1) ks pk dvs) (hc : ∀ w, SRs Y w cs dvs) : Cal Y C n ks (mkS c (Y.Γ.fld c) (bndS sem pk cs)) := by
  subst hC
  refine ⟨fun {pins σ H s w Q us ws vs ss ms} I l1 l2 r hr sv h => ?_⟩
  have I2 := Inv.made (C := Y.Γ.cls c) I
  have hx : H (s.heap.objs.size + 1) = none := I.hok.fresh (Nat.le_succ _)
  have hdx : H s.heap.objs.size = none := I.hok.fresh (Nat.le_refl _)
  have ne : s.heap.objs.size ≠ s.heap.objs.size + 1 := Nat.ne_of_lt (Nat.lt_succ_self _)
  obtain ⟨hr2, e2, q2⟩ := mk_post hr hx hdx ne h
  obtain ⟨ds, rd, to⟩ := hb.to
  have sv2 : SRs Y ⟨w.F, w.P, w.mu ++ [s.heap.objs.size + 1]⟩ (.loc ms.length :: ss) (.ref (s.heap.objs.size + 1) :: vs) :=
    .cons ⟨_, by show (w.mu ++ [s.heap.objs.size + 1])[ms.length]? = _; rw [← hr.len]; simp, rfl⟩ (sv.mono e2)
  have r1 : Vals (V.ref (s.heap.objs.size + 1) :: vs) (Value.ref (s.heap.objs.size + 1) :: us ++ ws) := .cons rfl r
  have r2 : Vals (pick pk (V.ref (s.heap.objs.size + 1) :: vs ++ dvs)) (pick pk (Value.ref (s.heap.objs.size + 1) :: us ++ ws ++ ds)) := pick_paired (r1.append rd) pk
  have l3 : vs.length = n + ks.length := by rw [r.length, List.length_append, l1, l2]
  have l4 : (pick pk (V.ref (s.heap.objs.size + 1) :: vs ++ dvs)).length = ps.length := by
    rw [pick_len, hb.len]
    intro i hi
    have := hb.rng i hi
    simp only [List.cons_append, List.length_cons, List.length_append, l3]
    omega
  refine make_map (f := f) I.kIn M.makes M.init (beq_iff_eq.mp M.fn) (codeAny_mono (code_dfA (us := Value.ref (s.heap.objs.size + 1) :: us) ok.tk ((ok.hr.mono hj).make _ us (ks.zip ws)) (by rw [make_guards]; exact ok.gd) F
    (to _ (Value.ref (s.heap.objs.size + 1) :: us) ws I2.kIn (congrArg Nat.succ l1) l2) l4 I2 (I2.env0.make _ us (ks.zip ws)) r2 hr2 (pick_rel (sv2.append (hc _))) q2) fun r s' hq => ?_)
  cases r with
  | error e => exact hq
  | ok fl =>
    cases fl with
    | ret u =>
      obtain ⟨v, H', I3, rv, ev, q3⟩ := hq
      subst ev
      exact ⟨rv, ⟨V.ref (s.heap.objs.size + 1), H', I3, rfl, q3⟩⟩
    | next => exact False.elim hq
    | brk => exact False.elim hq
    | cont => exact False.elim hq
end
end Fw
set_option Elab.async false
set_option linter.all false
set_option maxRecDepth 100000
set_option maxHeartbeats 4000000
/-! Fw11: attributes, subscripts, isinstance. -/
namespace Fw
open PySem L2 PySem.Spec PyProof.Rows

section
variable {Y : Cy} {w w1 w2 : Wd} {σ : L2.St} {H H1 H2 : Hp} {env : Env} {ms ms1 ms2 : Ms} {Ed : Ends} {o e : Expr} {es : List Expr} {m mk : Env → Ms → R (List S)} {me mo : Env → Ms → R S} {n j k : Nat} {ks ps : List Str} {f : Addr} {fd : FuncData} {sem g : List S → Ms → R S} {x fl : Str} {p apos pos : Pos}
/-! ### e.f -/
def fldG (i : Nat) : List D → Ms → R S := fun ds ms => match ds[i]? with
  | some d => .ok (.d d) ms
  | none => .bad
def noEx (r : R S) : R S := match r with
  | .ok s ms => .ok s ms
  | .ex _ _ _ => .bad
  | .bad => .bad
def propG (c : Nat) (g : List S → Ms → R S) : List D → Ms → R S := fun ds ms => noEx (g [.d (.obj c ds)] ms)
/-- Y where no exception may leave -/
def Cy.nox (Y : Cy) : Cy := ⟨Y.X.nox, Y.Γ, fun _ _ _ _ => False, Y.ea, Y.ed, Y.ec⟩
def AtG (Y : Cy) (fl : Str) (c : Nat) (g : List D → Ms → R S) : Prop :=
  ∀ {pins : List (Addr × Obj)} {s : Shared} {σ : L2.St} {H : Hp} {a dx : Addr} {xs : List V} {ds : List D} {w : Wd} {ms : Ms} {Q : VK} {E : Value → Shared → Prop}, Inv Y.X pins σ H s → w.F a = some (.ins (Y.Γ.cls c) dx ((Y.Γ.fld c).zip xs)) → (Y.Γ.fld c).length = xs.length → DRs Y.X.K Y.Γ w.F ds xs → HR Y w H ms →
    (g ds ms).post (okP Y w Q) (fun _ _ _ => False) → wpAny (model Y.X.prog Y.X.w) Y.X.A (getAttr (.ref a) fl true) (EP Y.X pins σ Q) E s
theorem zip_at : ∀ {fs : List Str} {xs : List V} {i : Nat} {v : V}, fs[i]? = some fl → (∀ j, j < i → fs[j]? ≠ some fl) → xs[i]? = some v → (fs.zip xs).lookup fl = some v
  | [], _, _, _, h, _, _ => by simp at h
  | a :: fs, [], _, _, _, _, h => by simp at h
  | a :: fs, x :: xs, 0, v, h, _, h2 => by
    simp at h h2
    subst h h2
    rw [List.zip_cons_cons, List.lookup_cons, beq_self_eq_true]
  | a :: fs, x :: xs, i + 1, v, h, h3, h2 => by
    rw [List.zip_cons_cons, List.lookup_cons]
    have : (fl == a) = false := beq_eq_false_iff_ne.mpr fun z => h3 0 (Nat.succ_pos _) (by subst z; rfl)
    rw [this]
    exact zip_at (by simpa using h) (fun j hj => by simpa using h3 (j + 1) (Nat.succ_lt_succ hj)) (by simpa using h2)
theorem at_fld {c i : Nat} (hc : Cls Y.X.K (Y.Γ.cls c)) (hn : NoAttr Y.X.K (Y.Γ.cls c) fl) (hi : (Y.Γ.fld c)[i]? = some fl) (hj : ((Y.Γ.fld c).take i).contains fl = false) : AtG Y fl c (fldG i) := by
  intro pins s σ H a dx xs ds w ms Q E I ea lx r hr q
  unfold fldG at q
  cases hd : ds[i]? with
  | none => rw [hd] at q; exact q.elim
  | some d =>
    rw [hd] at q
    obtain ⟨v, hv, rv⟩ := DRs.get r hd
    refine getattr_ok I (hr.sub _ _ ea) hc hn (zip_at hi (fun j h z => ?_) hv) fun u s' I' ru => ⟨v, H, I', ru, q.at (Ext.refl w) hr rv⟩
    have : fl ∈ (Y.Γ.fld c).take i := List.mem_of_getElem? (i := j) (by rw [List.getElem?_take, if_pos h]; exact z)
    have z2 := List.contains_iff_mem.mpr this
    rw [hj] at z2
    cases z2
theorem at_prop {c : Nat} {pa ga : Addr} {pk : List Nat} {dvs : List V} {cs : List S} (ok : CyOk Y k) (hc : Cls Y.X.K (Y.Γ.cls c)) (hp : PropOf Y.X.K (Y.Γ.cls c) fl pa ga) (F : DFY Y j ga fd ps sem) (hj : j + 1 ≤ k) (hb : Bd Y.X.K fd ps 1 [] pk dvs) (hcs : ∀ w, SRs Y w cs dvs) : AtG Y fl c (propG c (bndS sem pk cs)) := by
  intro pins s σ H a dx xs ds w ms Q E I ea lx r hr q
  obtain ⟨mA, O, _, _, _, _⟩ := ins_get I.hok (hr.sub _ _ ea)
  obtain ⟨od, J, _⟩ := O.look
  obtain ⟨rest, hrec⟩ := hp.rec_
  have I1 := I.tok (s.toks + 1)
  have hcl : (PySem.W.clsIn Y.X.K (Y.Γ.cls c)).isSome = true := by
    obtain ⟨cd, e1, _⟩ := PySem.W.any_some hc.hd
    rw [e1]
    rfl
  refine PySem.W.get_bind I.kIn J (PySem.W.plainGet_of (hc.get fl)).1 (PySem.W.findObj_data hcl hp.at_ hp.get hp.tak) (PySem.W.plainGet_of (hc.get fl)).2 (wpAny_call (PySem.W.prop_get (s := { s with toks := s.toks + 1 }) I.kIn hrec ?_))
  obtain ⟨dl, rd, to⟩ := hb.to
  have q2 : (callSem sem (pick pk ([S.d (.obj c ds)] ++ cs)) ms).post (okP Y.nox w Q) (exP Y.nox w σ) := by
    unfold propG noEx at q
    have q : (match callSem sem (pick pk ([S.d (.obj c ds)] ++ cs)) ms with
      | .ok s ms => R.ok s ms
      | .ex _ _ _ => .bad
      | .bad => .bad).post (okP Y w Q) (fun _ _ _ => False) := q
    cases hcall : callSem sem (pick pk ([S.d (.obj c ds)] ++ cs)) ms with
    | bad => rw [hcall] at q; exact q
    | ex _ _ _ => rw [hcall] at q; exact q.elim
    | ok s' ms' =>
      rw [hcall] at q
      intro w' H' v e' hr' sv
      refine q w' H' v e' hr' ?_
      cases s' <;> exact sv
  have sv0 : SRs Y.nox w ([S.d (.obj c ds)] ++ cs) (V.ref a :: dvs) := .cons ⟨a, dx, xs, rfl, ea, lx, r⟩ (Paired.mapP (hcs w) fun x v z => by cases x <;> exact z)
  have r2 : Vals (pick pk (V.ref a :: dvs)) (pick pk ([Value.ref a] ++ [] ++ dl)) := pick_paired (show Vals (V.ref a :: dvs) ([Value.ref a] ++ [] ++ dl) from .cons rfl rd) pk
  have l4 : (pick pk (V.ref a :: dvs)).length = ps.length := by
    rw [pick_len, hb.len]
    intro i hi
    have := hb.rng i hi
    simp only [List.length_nil, List.length_cons] at this ⊢
    omega
  refine codeAny_mono (code_dfA (Y := Y.nox) takes_none5 (ok.hr.mono hj).in1 ok.gd F (to { s with toks := s.toks + 1 } [.ref a] [] I1.kIn rfl rfl) l4 (I1.wish _) I1.env0.in1 r2 hr (pick_rel sv0) q2) fun rr s' hq => ?_
  cases rr with
  | error er => exact False.elim hq
  | ok fw =>
    cases fw with
    | ret u =>
      obtain ⟨v, H', I3, rv, q3⟩ := hq
      show wpAny _ _ (handedOut u) _ _ _
      rw [PySem.W.handedOut_of (handed_of rv)]
      exact wpAny_pure ⟨v, H', I3.unwish, rv, q3⟩
    | next => exact False.elim hq
    | brk => exact False.elim hq
    | cont => exact False.elim hq
abbrev ATab := List (Nat × (List D → Ms → R S))
/-- e.f: a frozen instance by its class; a cell: its field -/
def mAttr (fl : Str) (tab : ATab) (mo : Env → Ms → R S) : Env → Ms → R S := fun env ms => (mo env ms).bind fun x ms1 => match x with
  | .d (.obj c ds) => match tab.lookup c with
    | some g => noEx (g ds ms1)
    | none => .bad
  | _ => .bad
theorem noEx_post {r : R S} {P : S → Ms → Prop} {E E' : Nat → List D → Ms → Prop} (h : (noEx r).post P E) : r.post P E' := by
  cases r with
  | ok s ms => exact h
  | ex c ds ms => exact h.elim
  | bad => exact h
theorem e_attr {tab : ATab} (ho : DE Y o mo) (ht : Tab (AtG Y fl) tab) (hb : attributeBase o fl Y.X.env (eval o Y.X.env) = eval o Y.X.env := by rfl) : DE Y (.Attribute o fl pos) (mAttr fl tab mo) := by
  obtain ⟨to, po, so⟩ := ho.ex
  refine ⟨fun σ H Q => to σ H fun v H1 => ∃ a c dx xs ds w ms g, v = .ref a ∧ w.F a = some (.ins (Y.Γ.cls c) dx ((Y.Γ.fld c).zip xs)) ∧ (Y.Γ.fld c).length = xs.length ∧ DRs Y.X.K Y.Γ w.F ds xs ∧ HR Y w H1 ms ∧ AtG Y fl c g ∧ (g ds ms).post (okP Y w Q) (fun _ _ _ => False),
    ⟨fun pins s σ H Q I h => ?_⟩, fun w σ H env ms Q er hr h => ?_⟩
  · refine attr_of hb (thn (po.run pins s σ H _ I h) fun u s1 ⟨v, H1, I1, rx, a, c, dx, xs, ds, w, ms, g, ev, ea, lx, r, hr, ag, q⟩ => ?_)
    subst ev
    obtain rfl : u = Value.ref a := rx
    exact ag I1 ea lx r hr q
  · refine so.go er hr h fun x ms1 w1 H1 v e1 er1 hr1 sv h1 => ?_
    cases x with
    | loc i => exact h1.elim
    | exn c ds => exact h1.elim
    | d x =>
      cases x with
      | obj c ds =>
        obtain ⟨a, dx, xs, rfl, k1, k2, k3⟩ := sv
        dsimp only at h1
        cases hl : tab.lookup c with
        | none => rw [hl] at h1; exact h1.elim
        | some g =>
          rw [hl] at h1
          exact ⟨a, c, dx, xs, ds, w1, ms1, g, rfl, k1, k2, k3, hr1, ht.at_ hl, R.post_mono (noEx_post h1) (fun _ _ z => z.ext e1) fun _ _ _ z => z⟩
      | _ => exact h1.elim
/-! ### o.f = e, o under construction -/
def putD (f : Str) (v : D) : List (Str × D) → List (Str × D)
  | [] => [(f, v)]
  | (g, x) :: r => match decide (g = f) with
    | true => (g, v) :: r
    | false => (g, x) :: putD f v r
theorem putD_rel {F : Hp} {v : D} {y : V} (hv : DR Y.X.K Y.Γ F v y) : ∀ {fs : List (Str × D)} {xs : List V}, DRs Y.X.K Y.Γ F (fs.map (·.2)) xs → ∃ ys, putF fl y ((fs.map (·.1)).zip xs) = ((putD fl v fs).map (·.1)).zip ys ∧ DRs Y.X.K Y.Γ F ((putD fl v fs).map (·.2)) ys
  | [], _, h => by cases h; exact ⟨[y], rfl, ⟨y, [], rfl, hv, rfl⟩⟩
  | (g, d) :: r, _, h => by
    obtain ⟨x, xs, rfl, h2, h3⟩ := h
    by_cases z : g = fl
    · refine ⟨y :: xs, ?_, ?_⟩
      · simp only [putD, List.map_cons, List.zip_cons_cons, putF, z, decide_true, if_pos]
      · simp only [putD, z, decide_true]
        exact ⟨y, xs, rfl, hv, h3⟩
    · obtain ⟨ys, e1, e2⟩ := putD_rel hv h3
      refine ⟨x :: ys, ?_, ?_⟩
      · simp only [putD, List.map_cons, List.zip_cons_cons, putF, decide_eq_false z, if_neg z]
        rw [e1]
      · simp only [putD, decide_eq_false z]
        exact ⟨x, ys, rfl, h2, e2⟩
def sFldS (fl : Str) (cs : List Nat) (me mo : Env → Ms → R S) : Env → Ms → T := fun env ms => T.ofE (me env ms) env fun y ms1 => T.ofE (mo env ms1) env fun x ms2 => match x, y with
  | .loc n, .d v => match ms2[n]? with
    | some (.ins c fs) => match cs.contains c && Nat.blt fs.length 1000 with
      | true => .nx env (ms2.set n (.ins c (putD fl v fs)))
      | false => .bad
    | _ => .bad
  | _, _ => .bad
theorem s_fld {pos' : Pos} {cs : List Nat} (he : DE Y e me) (ho : DE Y o mo) (hc : ∀ c ∈ cs, Cls Y.X.K (Y.Γ.cls c) ∧ NoAttr Y.X.K (Y.Γ.cls c) fl) (hs : swapsWith e (some (.Attribute o fl pos')) pos.line Y.X.env = pure false := by rfl) : DS Y (.Assign [.Attribute o fl pos'] e pos) (sFldS fl cs me mo) := by
  obtain ⟨te, pe, se⟩ := he.ex
  obtain ⟨to, po, so⟩ := ho.ex
  refine ⟨_, ps_fld po pe hs, fun w σ H env ms Ed er hr h => ?_⟩
  refine se.goS er hr h fun y ms1 w1 H1 v e1 er1 hr1 sv h1 => ?_
  refine so.goS er1 hr1 h1 fun x ms2 w2 H2 u e2 er2 hr2 su h2 => ?_
  cases x with
  | d x => exact h2.elim
  | exn c ds => exact h2.elim
  | loc i =>
    cases y with
    | loc _ => exact h2.elim
    | exn _ _ => exact h2.elim
    | d y =>
      dsimp only at h2
      obtain ⟨a, ha, rfl⟩ := su
      cases hi : ms2[i]? with
      | none => rw [hi] at h2; exact h2.elim
      | some cl =>
        rw [hi] at h2
        cases cl with
        | lst _ => exact h2.elim
        | dead => exact h2.elim
        | ins c fs =>
          dsimp only at h2
          cases hb : (cs.contains c && Nat.blt fs.length 1000) with
          | false => rw [hb] at h2; exact h2.elim
          | true =>
            rw [hb] at h2
            obtain ⟨b1, b2⟩ := Bool.and_eq_true_iff.mp hb
            obtain ⟨k1, k2⟩ := hc c (List.contains_iff_mem.mp b1)
            obtain ⟨dx, xs, q1, q2⟩ := hr2.cel i a _ ha hi
            have sv2 : DR Y.X.K Y.Γ w2.F y v := DR.mono e2.F _ _ sv
            obtain ⟨ys, z1, z2⟩ := putD_rel (fl := fl) sv2 q2
            refine ⟨a, _, dx, _, rfl, q1, k1, k2, ?_, ?_⟩
            · rw [List.length_zip, List.length_map]
              have : fs.length < 1000 := by simpa [Nat.blt_eq] using b2
              omega
            · refine h2 w2 _ σ (Ext.refl w2) (hr2.write ha hi (by intro z; cases z) ?_) er2
              exact ⟨dx, ys, by rw [upd_same, z1], z2⟩

/-! ### o[i] -/
def ixD (d : D) (i : Int) : Option D := match d with
  | .lst ds => atI ds i
  | .frz ds => atI ds i
  | .tup ds => atI ds i
  | .str z => match few z.length with
    | true => (atI z.cps.toList i).map fun c => .str ⟨#[c]⟩
    | false => none
  | _ => none
def gIx : S → S → Ms → R S := fun x y ms => match y with
  | .d (.int i) => match (view x ms).bind (ixD · i) with
    | some d => .ok (.d d) ms
    | none => .bad
  | _ => .bad
theorem gIx_ne : ∀ x y ms c ds ms', gIx x y ms ≠ .ex c ds ms' := by
  intro x y ms c ds ms' h
  unfold gIx at h
  split at h
  · split at h <;> cases h
  · cases h
theorem atI_rel {F : Hp} {ds : List D} {xs : List V} {i : Int} {d : D} (r : DRs Y.X.K Y.Γ F ds xs) (h : atI ds i = some d) : ∃ v, atI xs i = some v ∧ DR Y.X.K Y.Γ F d v := by
  unfold atI at h ⊢
  rw [← DRs.length r]
  obtain ⟨j, h1, h2⟩ := Option.bind_eq_some_iff.mp h
  rw [h1]
  exact DRs.get r h2
theorem ix_rel : SndR2 Y (rIx Y.X.K) gIx := by
  intro w H ms x y u v Q hr sx sy h
  unfold gIx at h
  split at h
  · rename_i i
    cases sy
    split at h
    · rename_i d hd
      obtain ⟨dx, h1, h2⟩ := Option.bind_eq_some_iff.mp hd
      cases dx with
      | lst ds =>
        obtain ⟨a, xs, rfl, k1, k2⟩ := view_list h1 hr sx
        obtain ⟨z, z1, z2⟩ := atI_rel k2 h2
        exact .inl ⟨a, xs, i, z, rfl, rfl, SqL.of k1, z1, h.at (Ext.refl w) hr z2⟩
      | frz ds =>
        obtain ⟨a, xs, rfl, k1, k2⟩ := view_notlist h1 (by intro ds z; cases z) sx
        obtain ⟨z, z1, z2⟩ := atI_rel k2 h2
        exact .inl ⟨a, xs, i, z, rfl, rfl, sqL_mono k1 hr.sub, z1, h.at (Ext.refl w) hr z2⟩
      | tup ds =>
        obtain ⟨a, xs, rfl, k1, k2⟩ := view_notlist h1 (by intro ds z; cases z) sx
        obtain ⟨z, z1, z2⟩ := atI_rel k2 h2
        exact .inr (.inl ⟨a, xs, i, z, rfl, rfl, sqT_mono k1 hr.sub, z1, h.at (Ext.refl w) hr z2⟩)
      | str z =>
        cases view_notlist h1 (by intro ds z; cases z) sx
        unfold ixD at h2
        dsimp only at h2
        cases fz : few z.length with
        | false => rw [fz] at h2; cases h2
        | true =>
          rw [fz] at h2
          obtain ⟨c, c1, rfl⟩ := Option.map_eq_some_iff.mp h2
          exact .inr (.inr ⟨z, i, c, rfl, rfl, few_ok fz, c1, h.at (Ext.refl w) hr rfl⟩)
      | _ => cases h2
    · exact h.elim
  · exact h.elim
theorem e_ix {i : Expr} {mi : Env → Ms → R S} (ho : DE Y o mo) (hi : DE Y i mi) (hs : PlainIx i := by intro _ _; rfl) : DE Y (.Subscript o i pos) (mOp gIx mo mi) := by
  obtain ⟨to, po, so⟩ := ho.ex
  obtain ⟨ti, pi, si⟩ := hi.ex
  exact ⟨_, pe_ix ix_seq po pi hs, snd_op gIx_ne ix_rel so si⟩
/-- o[i] = e, o a cell -/
def sSub (me mo mi : Env → Ms → R S) : Env → Ms → T := fun env ms => T.ofE (me env ms) env fun y ms1 => T.ofE (mo env ms1) env fun x ms2 => T.ofE (mi env ms2) env fun i ms3 => match x, y, i with
  | .loc n, .d v, .d (.int i) => match ms3[n]? with
    | some (.lst ds) => match ixN ds.length i with
      | some j => .nx env (ms3.set n (.lst (ds.set j v)))
      | none => .bad
    | _ => .bad
  | _, _, _ => .bad
theorem DRs.set {K : PySem.W.Frag} {Γ : G} {F : Hp} {d : D} {v : V} (h : DR K Γ F d v) : ∀ {ds : List D} {xs : List V} (j : Nat), DRs K Γ F ds xs → DRs K Γ F (ds.set j d) (xs.set j v)
  | [], _, _, r => by cases r; rfl
  | a :: ds, _, 0, r => by obtain ⟨x, xs, rfl, _, h3⟩ := r; exact ⟨v, xs, rfl, h, h3⟩
  | a :: ds, _, j + 1, r => by obtain ⟨x, xs, rfl, h2, h3⟩ := r; exact ⟨x, xs.set j v, rfl, h2, DRs.set h j h3⟩
theorem s_sub {i : Expr} {mi : Env → Ms → R S} {pos' : Pos} (he : DE Y e me) (ho : DE Y o mo) (hi : DE Y i mi)
    (ha : ∀ v, assign (.Subscript o i pos') Y.X.env v = (do
      let ov ← holding [v] (eval o Y.X.env)
      let iv ← holding [v, ov] (eval i Y.X.env)
      standAt pos'
      holding [v, ov, iv] (setItem ov iv v)
      release [v, ov, iv] []) := by intro _; rfl)
    (hs : swapsWithSole [.Subscript o i pos'] e pos.line Y.X.env = pure false := by rfl) (hw : swappedStores [.Subscript o i pos'] e Y.X.env = pure none := by rfl)
    (h1 : (assignEach [.Subscript o i pos'] Y.X.env).map (·.2) = [assign (.Subscript o i pos') Y.X.env] := by rfl) : DS Y (.Assign [.Subscript o i pos'] e pos) (sSub me mo mi) := by
  obtain ⟨te, pe, se⟩ := he.ex
  obtain ⟨to, po, so⟩ := ho.ex
  obtain ⟨ti, pi, si⟩ := hi.ex
  refine ⟨_, ps_asg pe (pg_sub po pi set_list ha) hs hw h1, fun w σ H env ms Ed er hr h => ?_⟩
  refine se.goS er hr h fun y ms1 w1 H1 v e1 er1 hr1 sv h1 => ?_
  refine so.goS er1 hr1 h1 fun x ms2 w2 H2 u e2 er2 hr2 su h2 => ?_
  refine si.goS er2 hr2 h2 fun i ms3 w3 H3 iv e3 er3 hr3 si3 h3 => ?_
  split at h3
  · rename_i n v' i'
    cases si3
    obtain ⟨a, ha, rfl⟩ := su
    have ha := e3.mu n a ha
    split at h3
    · rename_i ds hn
      split at h3
      · rename_i j hj
        obtain ⟨xs, q1, q2⟩ := hr3.cel n a _ ha hn
        refine ⟨a, xs, i', j, rfl, rfl, q1, by rw [← DRs.length q2]; exact hj, ?_⟩
        refine h3 w3 _ σ (Ext.refl w3) (hr3.write ha hn (by intro z; cases z) ?_) er3
        exact ⟨_, upd_same, DRs.set (DR.mono (e2.trans e3).F _ _ sv) j q2⟩
      · exact h3.elim
    · exact h3.elim
  · exact h3.elim
end
end Fw
set_option Elab.async false
set_option linter.all false
set_option maxRecDepth 100000
set_option maxHeartbeats 4000000
/-! Fw12: list comprehensions. -/
namespace Fw
open PySem L2 PySem.Spec PyProof.Rows

/-- the block within a comprehension -/
def Cy.blk (Y : Cy) (s : Shared) (H : Hp) (scope : Scope) (C : Addr) (cl : List (Str × Addr)) (fp : List Addr) : Cy := ⟨Y.X.blk s H scope (compEnvC scope cl C Y.X.env) fp, Y.Γ, fun _ _ _ _ => False, Y.ea, Y.ed, Y.ec⟩
theorem CyOk.blk {Y : Cy} {k : Nat} (ok : CyOk Y k) (s : Shared) (H : Hp) (scope : Scope) (C : Addr) (cl : List (Str × Addr)) (fp : List Addr) : CyOk (Y.blk s H scope C cl fp) k :=
  ⟨ok.hr, ok.gd, takes_none5, PassesOwn.never, ok.calm, ok.nd⟩
def wipeE (env : Env) : List Nat → Env
  | [] => env
  | v :: vs => (wipeE env vs).set v none
theorem ER.wipe {Y : Cy} {w : Wd} {σ : L2.St} {env : Env} (h : ER Y w σ env) : ∀ vs, ER Y w (wipe σ vs) (wipeE env vs)
  | [] => h
  | v :: vs => (h.wipe vs).unset v none
theorem wipe_get (σ : L2.St) (j : Nat) : ∀ vs : List Nat, (wipe σ vs)[j]? = if j ∈ vs then σ[j]?.map fun _ => none else σ[j]?
  | [] => by simp [wipe]
  | v :: vs => by
    unfold wipe
    rw [List.getElem?_set, wipe_length, wipe_get σ j vs]
    by_cases e : v = j
    · subst e
      by_cases l : v < σ.length
      · simp [l]
      · simp [l]
    · simp only [List.mem_cons]
      by_cases m : j ∈ vs
      · simp [e, m]
      · simp [e, m, Ne.symm e]
theorem wipe_set {σ : L2.St} {i : Nat} {o : Option V} {vs : List Nat} (h : i ∈ vs) : wipe (σ.set i o) vs = wipe σ vs := by
  refine List.ext_getElem? fun j => ?_
  rw [wipe_get, wipe_get]
  by_cases m : j ∈ vs
  · rw [if_pos m, if_pos m, List.getElem?_set]
    by_cases e : i = j
    · subst e
      by_cases l : i < σ.length
      · simp [l]
      · simp [l]
    · simp [e]
  · rw [if_neg m, if_neg m, List.getElem?_set_ne (fun e => m (by subst e; exact h))]
/-- targets that write only the slots vs -/
def SndGv (Y : Cy) (vs : List Nat) (t : TG) (g : S → Env → Ms → Option Env) : Prop :=
  ∀ (w : Wd) (σ : L2.St) (H : Hp) (env : Env) (ms : Ms) (s : S) (v : V) (Q : L2.St → Hp → Prop) (env' : Env), ER Y w σ env → HR Y w H ms → SR Y w s v → g s env ms = some env' → (∀ w' H' σ', Ext w w' → HR Y w' H' ms → ER Y w' σ' env' → wipe σ' vs = wipe σ vs → Q σ' H') → t v σ H Q
def SndGsv (Y : Cy) (vs : List Nat) (t : TGs) (g : List S → Env → Ms → Option Env) : Prop :=
  ∀ (w : Wd) (σ : L2.St) (H : Hp) (env : Env) (ms : Ms) (ss : List S) (xs : List V) (Q : L2.St → Hp → Prop) (env' : Env), ER Y w σ env → HR Y w H ms → SRs Y w ss xs → g ss env ms = some env' → (∀ w' H' σ', Ext w w' → HR Y w' H' ms → ER Y w' σ' env' → wipe σ' vs = wipe σ vs → Q σ' H') → t xs σ H Q
structure DGv (Y : Cy) (vs : List Nat) (tg : Expr) (g : S → Env → Ms → Option Env) : Prop where
  ex : ∃ t, PG Y.X tg t ∧ SndGv Y vs t g
structure DGsv (Y : Cy) (vs : List Nat) (tgs : List Expr) (g : List S → Env → Ms → Option Env) : Prop where
  ex : ∃ t, PGs Y.X tgs t ∧ SndGsv Y vs t g
structure DTs (Y : Cy) (ifs : List Expr) (m : Env → Ms → R Bool) : Prop where
  ex : ∃ t, PTs Y.X ifs t ∧ SndT Y t m

/-! ### the comprehension -/
noncomputable def compL (kp : Option (Nat × Cell)) (g : S → Env → Ms → Option Env) (tt : Env → Ms → R Bool) (elt : Env → Ms → R S) (vs : List Nat) (env : Env) : List S → List D → Ms → R (List D)
  | [], acc, ms => chk kp ms (.ok acc ms) .bad
  | x :: r, acc, ms => chk kp ms (match g x (wipeE env vs) ms with
    | none => .bad
    | some env1 => (tt env1 ms).bind fun b ms1 => match b with
      | false => compL kp g tt elt vs env r acc ms1
      | true => (elt env1 ms1).bind fun y ms2 => match y with
        | .d d => match few acc.length with
          | true => compL kp g tt elt vs env r (acc ++ [d]) ms2
          | false => .bad
        | _ => .bad) .bad
def noExA {α : Type} (r : R α) : R α := match r with
  | .ok s ms => .ok s ms
  | .ex _ _ _ => .bad
  | .bad => .bad
section
variable {Y : Cy} {w w1 w2 : Wd} {σ : L2.St} {H H1 H2 : Hp} {env : Env} {ms ms1 ms2 : Ms}
/-- the list under way is protected -/
def Wd.prot (w : Wd) (D : Addr) (xs : List V) : Wd := ⟨w.F, upd w.P D (.lst xs), w.mu⟩
theorem HR0.prot0 {D : Addr} (h : HR Y w H ms) (hD : H D = none) : HR Y (w.prot D []) (upd H D (.lst [])) ms := by
  refine ⟨fun a o e => ?_, fun a o e => ?_, fun a o e => ?_, h.len, h.inj, fun n a c e k d => ?_, fun n a c e k => ?_⟩
  · rw [upd_ne (ne_of_none (h.sub a o e) hD)]; exact h.sub a o e
  · have e : upd w.P D (.lst []) a = some o := e
    by_cases z : a = D
    · subst z; rw [upd_same] at e ⊢; exact e
    · rw [upd_ne z] at e ⊢; exact h.prot a o e
  · have e : upd w.P D (.lst []) a = some o := e
    by_cases z : a = D
    · subst z; exact h.freeF hD
    · rw [upd_ne z] at e; exact h.dis a o e
  · obtain ⟨u, q⟩ := h.live e k d
    have s := h.sep n a c e k d
    refine ⟨s.1, ?_⟩
    show upd w.P D (.lst []) a = none
    rw [upd_ne (ne_of_none q hD)]
    exact s.2
  · exact (h.cel n a c e k).mono (Ext.refl w) fun u q => by rw [upd_ne (ne_of_none q hD)]; exact q
/-- the list under way grows -/
theorem HR0.grow {D : Addr} {xs ys : List V} {P : Hp} (h : HR Y w H ms) (hP : w.P = upd P D (.lst xs)) : HR Y ⟨w.F, upd P D (.lst ys), w.mu⟩ (upd H D (.lst ys)) ms := by
  have pD : w.P D = some (.lst xs) := by rw [hP, upd_same]
  have fD := h.dis D _ pD
  have nc : ∀ {n : Nat} {a : Addr} {c : Cell}, w.mu[n]? = some a → ms[n]? = some c → c ≠ .dead → a ≠ D := fun e k d z => by
    subst z
    have := (h.sep _ _ _ e k d).2
    rw [pD] at this; cases this
  refine ⟨fun a o e => ?_, fun a o e => ?_, fun a o e => ?_, h.len, h.inj, fun n a c e k d => ?_, fun n a c e k => ?_⟩
  · have : a ≠ D := fun z => by subst z; rw [fD] at e; cases e
    rw [upd_ne this]; exact h.sub a o e
  · have e : upd P D (.lst ys) a = some o := e
    by_cases z : a = D
    · subst z; rw [upd_same] at e ⊢; exact e
    · rw [upd_ne z] at e ⊢; exact h.prot a o (by rw [hP, upd_ne z]; exact e)
  · have e : upd P D (.lst ys) a = some o := e
    by_cases z : a = D
    · subst z; exact fD
    · rw [upd_ne z] at e; exact h.dis a o (by rw [hP, upd_ne z]; exact e)
  · have s := h.sep n a c e k d
    refine ⟨s.1, ?_⟩
    show upd P D (.lst ys) a = none
    rw [upd_ne (nc e k d)]
    have := s.2
    rw [hP, upd_ne (nc e k d)] at this
    exact this
  · have q := h.cel n a c e k
    by_cases d : c = .dead
    · subst d; trivial
    · exact q.mono (Ext.refl w) fun u z => by rw [upd_ne (nc e k d)]; exact z
/-- the list is done: frozen -/
theorem HR0.doneF {D : Addr} {xs : List V} {P : Hp} (h : HR Y w H ms) (hP : w.P = upd P D (.lst xs)) (hD : P D = none) : HR Y ⟨upd w.F D (.lst xs), P, w.mu⟩ H ms := by
  have pD : w.P D = some (.lst xs) := by rw [hP, upd_same]
  have fD := h.dis D _ pD
  have nc : ∀ {n : Nat} {a : Addr} {c : Cell}, w.mu[n]? = some a → ms[n]? = some c → c ≠ .dead → a ≠ D := fun e k d z => by
    subst z
    have := (h.sep _ _ _ e k d).2
    rw [pD] at this; cases this
  have fm : ∀ a o, w.F a = some o → upd w.F D (.lst xs) a = some o := fun a o e => by
    rw [upd_ne (fun z => by subst z; rw [fD] at e; cases e)]; exact e
  have pm : ∀ a o, P a = some o → w.P a = some o ∧ a ≠ D := fun a o e => by
    have : a ≠ D := fun z => by subst z; rw [hD] at e; cases e
    exact ⟨by rw [hP, upd_ne this]; exact e, this⟩
  refine ⟨fun a o e => ?_, fun a o e => h.prot a o (pm a o e).1, fun a o e => ?_, h.len, h.inj, fun n a c e k d => ?_, fun n a c e k => ?_⟩
  · have e : upd w.F D (.lst xs) a = some o := e
    by_cases z : a = D
    · subst z; rw [upd_same] at e; rw [← e]; exact h.prot a _ pD
    · rw [upd_ne z] at e; exact h.sub a o e
  · obtain ⟨q1, q2⟩ := pm a o e
    show upd w.F D (.lst xs) a = none
    rw [upd_ne q2]; exact h.dis a o q1
  · have s := h.sep n a c e k d
    refine ⟨?_, ?_⟩
    · show upd w.F D (.lst xs) a = none
      rw [upd_ne (nc e k d)]; exact s.1
    · show P a = none
      cases z : P a with
      | none => rfl
      | some u => have := s.2; rw [(pm a u z).1] at this; cases this
  · have q := h.cel n a c e k
    cases c with
    | dead => trivial
    | lst ds => obtain ⟨ys, y1, y2⟩ := q; exact ⟨ys, y1, DRs.mono fm _ _ y2⟩
    | ins c fs => obtain ⟨dx, ys, y1, y2⟩ := q; exact ⟨dx, ys, y1, DRs.mono fm _ _ y2⟩
/-- an object becomes a cell -/
theorem HR0.addc {P : Hp} {p : Addr} {c : Cell} (h : HR Y w H ms) (pm : ∀ a o, P a = some o → w.P a = some o) (nF : w.F p = none) (nP : P p = none) (nc : ∀ (n : Nat) c', w.mu[n]? = some p → ms[n]? = some c' → c' = .dead) (hc : CR Y.X.K Y.Γ w H p c) :
    HR Y ⟨w.F, P, w.mu ++ [p]⟩ H (ms ++ [c]) := by
  have side : ∀ {n : Nat} {a : Addr} {d : Cell}, (w.mu ++ [p])[n]? = some a → (ms ++ [c])[n]? = some d → (w.mu[n]? = some a ∧ ms[n]? = some d) ∨ (n = w.mu.length ∧ a = p ∧ d = c) := fun {n a d} q1 q2 => by
    by_cases z : n < w.mu.length
    · rw [List.getElem?_append_left z] at q1
      rw [List.getElem?_append_left (by rw [← h.len]; exact z)] at q2
      exact .inl ⟨q1, q2⟩
    · have lt := (List.getElem?_eq_some_iff.mp q1).1
      have : n = w.mu.length := by simp at lt; omega
      subst this
      rw [List.getElem?_append_right (Nat.le_refl _)] at q1
      rw [List.getElem?_append_right (by rw [← h.len]; exact Nat.le_refl _), ← h.len] at q2
      simp at q1 q2
      exact .inr ⟨rfl, q1.symm, q2.symm⟩
  have np : ∀ {n : Nat} {a : Addr} {d : Cell}, w.mu[n]? = some a → ms[n]? = some d → d ≠ .dead → P a = none := fun {n a d} q1 q2 q3 => by
    cases z : P a with
    | none => rfl
    | some u => have := (h.sep n a d q1 q2 q3).2; rw [pm a u z] at this; cases this
  refine ⟨h.sub, fun a o e => h.prot a o (pm a o e), fun a o e => h.dis a o (pm a o e), by simp [h.len], fun i j a c1 c2 e1 e2 k1 k2 d1 d2 => ?_, fun n a d e k dd => ?_, fun n a d e k => ?_⟩
  · rcases side e1 k1 with ⟨x1, x2⟩ | ⟨x1, x2, x3⟩
    · rcases side e2 k2 with ⟨y1, y2⟩ | ⟨y1, y2, y3⟩
      · exact h.inj i j a c1 c2 x1 y1 x2 y2 d1 d2
      · subst y2; exact absurd (nc i c1 x1 x2) d1
    · rcases side e2 k2 with ⟨y1, y2⟩ | ⟨y1, y2, y3⟩
      · subst x2; exact absurd (nc j c2 y1 y2) d2
      · rw [x1, y1]
  · rcases side e k with ⟨x1, x2⟩ | ⟨x1, x2, x3⟩
    · exact ⟨(h.sep n a d x1 x2 dd).1, np x1 x2 dd⟩
    · subst x2; exact ⟨nF, nP⟩
  · rcases side e k with ⟨x1, x2⟩ | ⟨x1, x2, x3⟩
    · have q := h.cel n a d x1 x2
      cases d with
      | dead => trivial
      | lst ds => exact q
      | ins c fs => exact q
    · subst x2 x3
      cases d with
      | dead => trivial
      | lst ds => exact hc
      | ins c fs => exact hc
/-- the list is done: a cell -/
theorem HR0.doneC {L : Addr} {xs : List V} {ds : List D} {P : Hp} (h : HR Y w H ms) (hP : w.P = upd P L (.lst xs)) (hL : P L = none) (r : DRs Y.X.K Y.Γ w.F ds xs) : HR Y ⟨w.F, P, w.mu ++ [L]⟩ H (ms ++ [.lst ds]) := by
  have pD : w.P L = some (.lst xs) := by rw [hP, upd_same]
  refine h.addc (fun a o e => ?_) (h.dis L _ pD) hL (fun n c' e k => Classical.byContradiction fun d => ?_) ⟨xs, h.prot L _ pD, r⟩
  · have : a ≠ L := fun z => by subst z; rw [hL] at e; cases e
    rw [hP, upd_ne this]; exact e
  · have := (h.sep n L c' e k d).2
    rw [pD] at this; cases this

/-! ### readings out of semantics -/
def semE (Y : Cy) (m : Env → Ms → R S) : TE := fun σ H Q => ∃ w env ms, ER Y w σ env ∧ HR Y w H ms ∧ (m env ms).post (okP Y w Q) (fun _ _ _ => False)
def semT (Y : Cy) (m : Env → Ms → R Bool) : TT := fun σ H Q => ∃ w env ms, ER Y w σ env ∧ HR Y w H ms ∧ (m env ms).post (fun b ms' => ∀ w' H', Ext w w' → HR Y w' H' ms' → Q b H') (fun _ _ _ => False)
def semG (Y : Cy) (vs : List Nat) (g : S → Env → Ms → Option Env) : TG := fun v σ H Q => ∃ w env ms s env', ER Y w σ env ∧ HR Y w H ms ∧ SR Y w s v ∧ g s env ms = some env' ∧ ∀ w' H' σ', Ext w w' → HR Y w' H' ms → ER Y w' σ' env' → wipe σ' vs = wipe σ vs → Q σ' H'
variable {s0 : Shared} {H0 : Hp} {scope : Scope} {C : Addr} {cl : List (Str × Addr)} {fp : List Addr}
theorem SR.blk {s : S} {v : V} (h : SR Y w s v) : SR (Y.blk s0 H0 scope C cl fp) w s v := by cases s <;> exact h
theorem SR.unblk {s : S} {v : V} (h : SR (Y.blk s0 H0 scope C cl fp) w s v) : SR Y w s v := by cases s <;> exact h
theorem ER.blk (h : ER Y w σ env) : ER (Y.blk s0 H0 scope C cl fp) w σ env := ⟨h.len, fun i s e => let ⟨v, h1, h2⟩ := h.slot i s e; ⟨v, h1, h2.blk⟩⟩
theorem ER.unblk (h : ER (Y.blk s0 H0 scope C cl fp) w σ env) : ER Y w σ env := ⟨h.len, fun i s e => let ⟨v, h1, h2⟩ := h.slot i s e; ⟨v, h1, h2.unblk⟩⟩
theorem blk_pe {elt : Expr} {m : Env → Ms → R S} (h : DE (Y.blk s0 H0 scope C cl fp) elt m) : PE (Y.blk s0 H0 scope C cl fp).X elt (semE Y m) := by
  obtain ⟨t, p, sd⟩ := h.ex
  refine ⟨fun pins s σ H Q I ⟨w, env, ms, er, hr, q⟩ => p.run pins s σ H Q I (sd w σ H env ms Q er.blk hr (R.post_mono q (fun _ _ z w' H' v e hr' sv => z w' H' v e hr' sv.unblk) fun _ _ _ z => z.elim))⟩
theorem blk_pts {ifs : List Expr} {m : Env → Ms → R Bool} (h : DTs (Y.blk s0 H0 scope C cl fp) ifs m) : PTs (Y.blk s0 H0 scope C cl fp).X ifs (semT Y m) := by
  obtain ⟨t, p, sd⟩ := h.ex
  refine ⟨fun pins s σ H Q I ⟨w, env, ms, er, hr, q⟩ => p.run pins s σ H Q I (sd w σ H env ms Q er.blk hr (R.post_mono q (fun _ _ z => z) fun _ _ _ z => z.elim))⟩
theorem blk_pg {vs : List Nat} {tg : Expr} {g : S → Env → Ms → Option Env} (h : DGv (Y.blk s0 H0 scope C cl fp) vs tg g) : PG (Y.blk s0 H0 scope C cl fp).X tg (semG Y vs g) := by
  obtain ⟨t, p, sd⟩ := h.ex
  refine ⟨fun pins s σ H v u Q I r ⟨w, env, ms, x, env', er, hr, sv, e, q⟩ => p.run pins s σ H v u Q I r (sd w σ H env ms x v Q env' er.blk hr sv.blk e fun w' H' σ' e' hr' er' => q w' H' σ' e' hr' er'.unblk)⟩
theorem SR.subm {w w1 : Wd} (e : w.Sub w1) {s : S} {v : V} (h : SR Y w s v) : SR Y w1 s v := by
  cases s with
  | d x => exact DR.mono e.F x v h
  | loc n => obtain ⟨a, h1, h2⟩ := h; exact ⟨a, e.mu n a h1, h2⟩
  | exn c ds => exact ⟨h.1, h.2.mono e.F⟩
theorem ER.subm (e : w.Sub w1) (h : ER Y w σ env) : ER Y w1 σ env := ⟨h.len, fun i s hs => let ⟨v, h1, h2⟩ := h.slot i s hs; ⟨v, h1, h2.subm e⟩⟩
theorem wipe_wipe (σ : L2.St) (vs : List Nat) : wipe (wipe σ vs) vs = wipe σ vs := by
  refine List.ext_getElem? fun j => ?_
  rw [wipe_get, wipe_get]
  by_cases m : j ∈ vs
  · rw [if_pos m, if_pos m, Option.map_map]; rfl
  · rw [if_neg m, if_neg m]
theorem chk_postR {α : Type} {kp : Option (Nat × Cell)} {r : R α} {P : α → Ms → Prop} {E : Nat → List D → Ms → Prop} (h : (chk kp ms r .bad).post P E) : keptC kp ms ∧ r.post P E := by
  unfold chk at h
  cases kp with
  | none => exact ⟨fun _ _ e => (nomatch e), h⟩
  | some p =>
    obtain ⟨n, c⟩ := p
    dsimp only at h
    by_cases z : ms[n]? = some c
    · rw [if_pos z] at h
      exact ⟨fun m d e => by cases e; exact z, h⟩
    · rw [if_neg z] at h
      exact h.elim
/-- a comprehension's end: frozen, or a new cell -/
def lcEnd (cell : Bool) (acc : List D) (ms : Ms) : R S := match cell with
  | false => .ok (.d (.lst acc)) ms
  | true => .ok (.loc ms.length) (ms ++ [.lst acc])
noncomputable def mLc (cell : Bool) (mi : Env → Ms → R (List S × Option (Nat × Cell))) (g : S → Env → Ms → Option Env) (tt : Env → Ms → R Bool) (elt : Env → Ms → R S) (vs : List Nat) : Env → Ms → R S := fun env ms =>
  (mi env ms).bind fun xk ms1 => (noExA (compL xk.2 g tt elt vs env xk.1 [] ms1)).bind (lcEnd cell)
theorem lcEnd_use {cell : Bool} {L : Addr} {xs : List V} {acc : List D} {Q : VK} {wB : Wd} (hr1 : HR Y w1 H1 ms1) (hL : H1 L = none) (sub : w1.Sub wB) (hP : wB.P = upd w1.P L (.lst xs)) (hr : HR Y wB H2 ms2) (r : DRs Y.X.K Y.Γ wB.F acc xs)
    (q : (lcEnd cell acc ms2).post (okP Y w1 Q) (fun _ _ _ => False)) : Q (.ref L) H2 := by
  have pL := hr1.freeP hL
  have pD : wB.P L = some (.lst xs) := by rw [hP, upd_same]
  cases cell with
  | false =>
    have fm : ∀ a o, wB.F a = some o → upd wB.F L (.lst xs) a = some o := fun a o e => by
      rw [upd_ne (fun z => by subst z; rw [hr.dis _ _ pD] at e; cases e)]; exact e
    exact q ⟨upd wB.F L (.lst xs), w1.P, wB.mu⟩ H2 _ ⟨fun a o e => fm a o (sub.F a o e), sub.mu, rfl⟩ (hr.doneF hP pL) ⟨L, xs, rfl, upd_same, DRs.mono fm _ _ r⟩
  | true =>
    refine q ⟨wB.F, w1.P, wB.mu ++ [L]⟩ H2 _ ⟨sub.F, fun n a e => ?_, rfl⟩ (hr.doneC hP pL r) ⟨L, ?_, rfl⟩
    · have e := sub.mu n a e
      show (wB.mu ++ [L])[n]? = _
      rw [List.getElem?_append_left (List.getElem?_eq_some_iff.mp e).1]; exact e
    · show (wB.mu ++ [L])[ms2.length]? = _
      rw [← hr.len]; simp
theorem noExA_post {α : Type} {r : R α} {P : α → Ms → Prop} {E : Nat → List D → Ms → Prop} (h : (noExA r).post P E) : r.post P (fun _ _ _ => False) := by
  cases r with
  | ok s ms => exact h
  | ex c ds ms => exact h.elim
  | bad => exact h
theorem snd_lc {cell : Bool} {wi : TI} {mi : Env → Ms → R (List S × Option (Nat × Cell))} {g : S → Env → Ms → Option Env} {tt : Env → Ms → R Bool} {elt : Env → Ms → R S} {vs : List Nat} (si : SndI Y wi mi) :
    SndE Y (tLc wi (semG Y vs g) (semT Y tt) (semE Y elt) vs) (mLc cell mi g tt elt vs) := by
  intro w σ H env ms Q er hr h
  refine si w σ H env ms _ er hr ?_
  unfold mLc at h
  cases hm : mi env ms with
  | bad => rw [hm] at h; exact h.elim
  | ex c ds ms1 => rw [hm] at h; exact h
  | ok xk ms1 =>
    rw [hm] at h
    obtain ⟨xs, kp⟩ := xk
    intro w1 H1 J e1 hr1 hy _ L hL
    have hy : Yields Y w1 xs kp J := hy
    have h : ((noExA (compL kp g tt elt vs env xs [] ms1)).bind (lcEnd cell)).post (okP Y w Q) (exP Y w σ) := h
    have h0 := noExA_post (R.post_bind h)
    have h1 : (compL kp g tt elt vs env xs [] ms1).post (fun acc ms' => (lcEnd cell acc ms').post (okP Y w1 Q) (fun _ _ _ => False)) (fun _ _ _ => False) := R.post_mono h0 (fun acc ms' z => by
      cases cell with
      | false => exact okP.ext e1 z
      | true => exact okP.ext e1 z) fun _ _ _ z => z
    refine ⟨fun i m H' => m = xs.length - i ∧ i ≤ xs.length ∧ ∃ (wB : Wd) (acc : List D) (av : List V) (ms' : Ms), w1.Sub wB ∧ wB.P = upd w1.P L (.lst av) ∧ HR Y wB H' ms' ∧ DRs Y.X.K Y.Γ wB.F acc av ∧
        (compL kp g tt elt vs env (xs.drop i) acc ms').post (fun acc ms' => (lcEnd cell acc ms').post (okP Y w1 Q) (fun _ _ _ => False)) (fun _ _ _ => False),
      ⟨xs.length, by omega, by omega, w1.prot L [], [], [], ms1, ⟨fun _ _ z => z, fun _ _ z => z⟩, rfl, hr1.prot0 hL, rfl, h1⟩, ?_⟩
    rintro i m H' ⟨rfl, hi, wB, acc, av, ms', sub, hP, hr', rA, h'⟩
    by_cases hlt : i < xs.length
    · refine .inr ?_
      have hx : xs[i]? = some xs[i] := by simp [hlt]
      rw [List.drop_eq_getElem_cons hlt] at h'
      obtain ⟨kc, h'⟩ := chk_postR h'
      obtain ⟨hgo, hyl⟩ := (hy wB H' ms' sub hr' kc).2 i _ hx
      refine ⟨hgo, fun H2 => i + 1 ≤ xs.length ∧ ∃ (wB : Wd) (acc : List D) (av : List V) (ms' : Ms), w1.Sub wB ∧ wB.P = upd w1.P L (.lst av) ∧ HR Y wB H2 ms' ∧ DRs Y.X.K Y.Γ wB.F acc av ∧
        (compL kp g tt elt vs env (xs.drop (i + 1)) acc ms').post (fun acc ms' => (lcEnd cell acc ms').post (okP Y w1 Q) (fun _ _ _ => False)) (fun _ _ _ => False), fun H2 n2 => ⟨xs.length - (i + 1), by omega, rfl, n2.1, n2.2⟩, fun x H2 y2 => ?_⟩
      obtain ⟨w2, e2, hr2, sv⟩ := hyl x H2 y2
      cases hgx : g xs[i] (wipeE env vs) ms' with
      | none => rw [hgx] at h'; exact h'.elim
      | some env1 =>
        rw [hgx] at h'
        dsimp only at h'
        have er2 : ER Y w2 (wipe σ vs) (wipeE env vs) := (er.subm ((e1.wsub.trans sub).trans e2.wsub)).wipe vs
        refine ⟨w2, wipeE env vs, ms', _, env1, er2, hr2, sv, hgx, fun w5 H5 σ3 e5 hr5 er3 hw => ?_⟩
        have e2 := e2.trans e5
        refine ⟨by rw [hw, wipe_wipe], w5, env1, ms', er3, hr5, ?_⟩
        refine R.post_mono (R.post_bind h') (fun b ms3 q3 w3 H3 e3 hr3 => ?_) fun _ _ _ z => z
        have P3 : w3.P = upd w1.P L (.lst av) := by rw [e3.P, e2.P, hP]
        have s3 : w1.Sub w3 := (sub.trans e2.wsub).trans e3.wsub
        cases b with
        | false =>
          refine iteF ⟨hlt, w3, acc, av, ms3, s3, P3, hr3, DRs.mono (fun a o z => e3.F a o (e2.F a o z)) _ _ rA, q3⟩
        | true =>
          refine iteT ⟨w3, env1, ms3, er3.mono e3, hr3, ?_⟩
          refine R.post_mono (R.post_bind q3) (fun y ms4 q4 w4 H4 v e4 hr4 sv4 => ?_) fun _ _ _ z => z
          cases y with
          | loc n => exact q4.elim
          | exn c ds => exact q4.elim
          | d d =>
            dsimp only at q4
            cases fz : few acc.length with
            | false => rw [fz] at q4; exact q4.elim
            | true =>
              rw [fz] at q4
              have P4 : w4.P = upd w1.P L (.lst av) := by rw [e4.P, P3]
              have rA4 : DRs Y.X.K Y.Γ w4.F acc av := DRs.mono (fun a o z => e4.F a o (e3.F a o (e2.F a o z))) _ _ rA
              refine ⟨av, hr4.prot L _ (by rw [P4, upd_same]), ?_, hlt, ⟨w4.F, upd w1.P L (.lst (av ++ [v])), w4.mu⟩, acc ++ [d], av ++ [v], ms4, ⟨(s3.trans e4.wsub).F, (s3.trans e4.wsub).mu⟩, rfl, hr4.grow P4, rA4.append ⟨v, [], rfl, sv4, rfl⟩, q4⟩
              rw [← DRs.length rA]
              have : acc.length ≤ 1000000 := Nat.le_of_ble_eq_true fz
              rw [sizeLine_eq]; omega
    · have e : i = xs.length := by omega
      subst e
      rw [List.drop_length] at h'
      obtain ⟨kc, h'⟩ := chk_postR h'
      exact .inl ⟨(hy wB H' ms' sub hr' kc).1, lcEnd_use hr1 hL sub hP hr' rA h'⟩
end
end Fw
set_option Elab.async false
set_option linter.all false
set_option maxRecDepth 100000
set_option maxHeartbeats 4000000
/-! Fw13: comprehension rules, parallel stores, isinstance. -/
namespace Fw
open PySem L2 PySem.Spec PyProof.Rows

section
variable {Y : Cy} {w w1 w2 : Wd} {σ : L2.St} {H H1 H2 : Hp} {env : Env} {ms ms1 ms2 : Ms} {Ed : Ends} {e elt tg iter a b : Expr} {es ifs : List Expr} {scope : Scope} {own : List (Str × Nat)} {pos spos py : Pos} {k : Nat} {vs : List Nat}
  {mi : Env → Ms → R (List S × Option (Nat × Cell))} {g : S → Env → Ms → Option Env} {tt : Env → Ms → R Bool} {me m : Env → Ms → R S} {ma : Env → Ms → R (List S)}
theorem e_lc (cell : Bool) (ok : CyOk Y k) (hi : DI Y tg iter mi) (bo : BlkOk Y.X.N Y.X.env.scope scope own) (hv : own.map (·.2) = vs) (hg : ∀ s H C cl fp, DGv (Y.blk s H scope C cl fp) vs tg g) (ht : ∀ s H C cl fp, DTs (Y.blk s H scope C cl fp) ifs tt) (he : ∀ s H C cl fp, DE (Y.blk s H scope C cl fp) elt me)
    (hs : ∀ x, foldedSetIterable iter Y.X.env x = pure x := by intro _; rfl) : DE Y (.ListComp elt [⟨tg, iter, ifs, 0⟩] scope pos) (mLc cell mi g tt me vs) := by
  subst hv
  obtain ⟨wi, pi, si⟩ := hi.ex
  exact ⟨_, pe_lc ok.calm ok.nd pi bo (fun s H C cl fp => blk_pg (hg s H C cl fp)) (fun s H C cl fp => blk_pts (ht s H C cl fp)) (fun s H C cl fp => blk_pe (he s H C cl fp)) hs, snd_lc si⟩
/-- y = [..] on one line -/
theorem s_setLc (cell : Bool) {i : Nat} {y : Str} (ok : CyOk Y k) (hi : DI Y tg iter mi) (bo : BlkOk Y.X.N Y.X.env.scope scope own) (hv : own.map (·.2) = vs) (hg : ∀ s H C cl fp, DGv (Y.blk s H scope C cl fp) vs tg g) (ht : ∀ s H C cl fp, DTs (Y.blk s H scope C cl fp) ifs tt) (he : ∀ s H C cl fp, DE (Y.blk s H scope C cl fp) elt me)
    (hsw : swapsWith (.ListComp elt [⟨tg, iter, ifs, 0⟩] scope pos) (some (.Name y py)) spos.line Y.X.env = pure true) (hy : Y.X.N[i]? = some y := by rfl) (hyl : Y.X.env.scope.names.lookup y = some .local := by rfl)
    (hs : ∀ x, foldedSetIterable iter Y.X.env x = pure x := by intro _; rfl) : DS Y (.Assign [.Name y py] (.ListComp elt [⟨tg, iter, ifs, 0⟩] scope pos) spos) (sSet i (mLc cell mi g tt me vs)) := by
  subst hv
  obtain ⟨wi, pi, si⟩ := hi.ex
  refine ⟨_, ps_setLc ok.calm ok.nd hy hyl hsw pi bo (fun s H C cl fp => blk_pg (hg s H C cl fp)) (fun s H C cl fp => blk_pts (ht s H C cl fp)) (fun s H C cl fp => blk_pe (he s H C cl fp)) hs, fun w σ H env ms Ed er hr h => ?_⟩
  exact (snd_lc (cell := cell) si).goS er hr h fun x ms1 w1 H1 v e1 er1 hr1 sv h1 => h1 w1 H1 _ (Ext.refl w1) hr1 (er1.set sv i)
theorem ts_nil : DTs Y [] (fun _ ms => .ok true ms) := ⟨_, pts_nil, fun w σ H env ms Q er hr h => h w H (Ext.refl w) hr⟩
theorem ts_one (h : DT Y a tt) : DTs Y [a] tt := let ⟨t, p, s⟩ := h.ex; ⟨_, pts_one p, s⟩
theorem gv_name {i : Nat} {x : Str} (hN : Y.X.N.Nodup) (hi : Y.X.N[i]? = some x := by rfl) (hv : i ∈ vs := by decide) (hx : Loc Y.X.env.scope x := by first | exact Or.inl rfl | exact Or.inr rfl) (hf : Y.X.fn x = true ∨ Y.X.env.scope.names.lookup x = some .local := by first | exact .inl rfl | exact .inr rfl) :
    DGv Y vs (.Name x pos) (gSet i) := by
  refine ⟨_, pg_name hN hi hx hf, fun w σ H env ms s v Q env' er hr sv he hq => ?_⟩
  cases he
  exact hq _ _ _ (Ext.refl w) hr (er.set sv i) (wipe_set hv)
theorem gsv_nil : DGsv Y vs [] gsNil := by
  refine ⟨_, pgs_nil, fun w σ H env ms ss xs Q env' er hr sv he hq => ?_⟩
  cases sv with
  | nil => cases he; exact ⟨rfl, hq _ _ _ (Ext.refl w) hr er rfl⟩
  | cons a b => cases he
theorem gsv_cons {gs : List S → Env → Ms → Option Env} (h1 : DGv Y vs e g) (h2 : DGsv Y vs es gs)
    (hs : (assignEach (e :: es) Y.X.env).map (·.2) = assign e Y.X.env :: (assignEach es Y.X.env).map (·.2) := by rfl) : DGsv Y vs (e :: es) (gsCons g gs) := by
  obtain ⟨t, p, s⟩ := h1.ex
  obtain ⟨t2, p2, s2⟩ := h2.ex
  refine ⟨_, pgs_cons p p2 hs, fun w σ H env ms ss xs Q env' er hr sv he hq => ?_⟩
  cases sv with
  | nil => cases he
  | @cons a b ss xs ra rb =>
    have he : (g a env ms).bind (fun env1 => gs ss env1 ms) = some env' := he
    cases hg : g a env ms with
    | none => rw [hg] at he; cases he
    | some env1 =>
      rw [hg] at he
      exact ⟨_, _, rfl, s w σ H env ms a b _ env1 er hr ra hg fun w1 H1 σ1 e1 hr1 er1 z1 => s2 w1 σ1 H1 env1 ms ss xs Q env' er1 hr1 (SRs.mono e1 rb) he fun w2 H2 σ2 e2 hr2 er2 z2 => hq w2 H2 σ2 (e1.trans e2) hr2 er2 (z2.trans z1)⟩
theorem gv_tup {j n : Nat} {gs : List S → Env → Ms → Option Env} (hc : Y.X.calm = true) (h : DGsv Y vs es gs)
    (hn : (assignEach es Y.X.env).length = n := by rfl) (hst : (assignEach es Y.X.env).findIdx? (·.1) = none := by rfl) : DGv Y vs (.Tuple es j pos) (gUn n gs) := by
  obtain ⟨t, p, s⟩ := h.ex
  refine ⟨_, pg_tup hc p hn hst, fun w σ H env ms x v Q env' er hr sv he hq => ?_⟩
  cases x with
  | loc i => cases he
  | exn c ds => cases he
  | d x =>
    cases x with
    | tup ds =>
      unfold gUn at he
      dsimp only at he
      cases hl : Nat.beq ds.length n with
      | false => rw [hl] at he; cases he
      | true =>
        rw [hl] at he
        obtain ⟨a, xs, rfl, h2, h3⟩ := sv
        refine ⟨a, xs, rfl, sqT_mono h2 hr.sub, by rw [← DRs.length h3]; exact Nat.eq_of_beq_eq_true hl, ?_⟩
        exact s w σ H env ms _ xs Q env' er hr (SRs_of_DRs h3) he hq
    | _ => cases he
/-- a, b = x, y -/
theorem s_par {i j : Nat} {x y : Str} {px pt : Pos} {kt k2 pt2} (ok : CyOk Y k) (hij : i ≠ j) (ha : DA Y [a, b] ma) (hw : swappedStores [.Tuple [.Name x px, .Name y py] kt pt] (.Tuple [a, b] k2 pt2) Y.X.env = pure (some [x, y])) (hi : Y.X.N[i]? = some x := by rfl) (hj : Y.X.N[j]? = some y := by rfl)
    (hx : Y.X.env.scope.names.lookup x = some .local := by rfl) (hy : Y.X.env.scope.names.lookup y = some .local := by rfl)
    (hs : swapsWithSole [.Tuple [.Name x px, .Name y py] kt pt] (.Tuple [a, b] k2 pt2) pos.line Y.X.env = pure false := by rfl) :
    DS Y (.Assign [.Tuple [.Name x px, .Name y py] kt pt] (.Tuple [a, b] k2 pt2) pos) (sPar i j ma) := by
  obtain ⟨t, p, s⟩ := ha.ex
  refine ⟨_, ps_par ok.calm ok.nd hi hj hij hx hy p hw hs, fun w σ H env ms Ed er hr h => ?_⟩
  refine s.goS er hr h fun ss ms1 w1 H1 xs e1 er1 hr1 sv h1 => ?_
  split at h1
  · rename_i x y
    obtain ⟨v, u, rfl, r1, r2⟩ := SRs.two sv
    exact ⟨v, u, rfl, h1 w1 H1 _ (Ext.refl w1) hr1 ((er1.set r1 i).set r2 j)⟩
  · exact h1.elim

/-! ### isinstance -/
inductive Ty where
  | nm (a : String) | cl (c : Nat)
def tyD : D → Option Ty
  | .non => some (.nm "NoneType")
  | .bl _ => some (.nm "bool")
  | .int _ => some (.nm "int")
  | .str _ => some (.nm "str")
  | .tup _ => some (.nm "tuple")
  | .lst _ => some (.nm "list")
  | .frz _ => some (.nm "list")
  | .dic _ _ => some (.nm "dict")
  | .dit _ _ => some (.nm "dict")
  | .obj c _ => some (.cl c)
  | _ => none
def isT (a T : String) : Bool := decide (a = T) || (decide (a = "bool") && decide (T = "int"))
def tyNames : List String := ["NoneType", "bool", "int", "str", "tuple", "list", "dict"]
theorem isT_kit : ∀ a ∈ tyNames, ∀ T ∈ tyNames, kitB a T = some (isT a T) := by decide +kernel
/-- what isinstance must know of the own classes: oc the classes whose instances are asked, kc the class objects asked for, sub the answer -/
structure IsiOk (Y : Cy) (oc kc : List Nat) (sub : Nat → Nat → Bool) : Prop where
  nk : ∀ m ∈ kc, ∀ a ∈ tyNames, PySem.W.kitOne Y.X.K (.type a) (.ref (Y.Γ.fn m)) = some false
  on : ∀ c ∈ oc, ∀ T ∈ tyNames, PySem.W.kitOne Y.X.K (.ref (Y.Γ.cls c)) (.type T) = some false
  ok : ∀ c ∈ oc, ∀ m ∈ kc, PySem.W.kitOne Y.X.K (.ref (Y.Γ.cls c)) (.ref (Y.Γ.fn m)) = some (sub c m)
  cls : ∀ c ∈ oc, Cls Y.X.K (Y.Γ.cls c) ∧ PySem.W.findIn Y.X.K (.ref (Y.Γ.cls c)) "__class__" = some (some (.builtin "object.__class__")) ∧ PySem.W.mroIn Y.X.K (Y.Γ.cls c) (.type "object") = some true
  get : oc ≠ [] → PySem.W.specialIn Y.X.K (.builtin "object.__class__") "__get__" = some (some (.builtin "getset_descriptor.__get__")) ∧ PySem.W.takesIn Y.X.K (.builtin "object.__class__") = some true
theorem IsiOk.base : IsiOk Y [] [] (fun _ _ => false) := ⟨fun _ h => (nomatch h), fun _ h => (nomatch h), fun _ h => (nomatch h), fun _ h => (nomatch h), fun h => absurd rfl h⟩
def isiD (oc kc : List Nat) (sub : Nat → Nat → Bool) (t : Ty) (c : D) : Option Bool := match t, c with
  | .nm a, .ty T => match tyNames.contains T with
    | true => some (isT a T)
    | false => none
  | .nm _, .fn m => match kc.contains m with
    | true => some false
    | false => none
  | .cl c, .ty T => match oc.contains c && tyNames.contains T with
    | true => some false
    | false => none
  | .cl c, .fn m => match oc.contains c && kc.contains m with
    | true => some (sub c m)
    | false => none
  | _, _ => none
def cIsi (oc kc : List Nat) (sub : Nat → Nat → Bool) : List S → Ms → R S := fun ss ms => match ss with
  | [s, .d c] => match ((view s ms).bind tyD).bind (isiD oc kc sub · c) with
    | some b => .ok (.d (.bl b)) ms
    | none => .bad
  | _ => .bad
def tyV (Y : Cy) : Ty → Value
  | .nm a => .type a
  | .cl c => .ref (Y.Γ.cls c)
theorem tyD_names {d : D} {a : String} (h : tyD d = some (.nm a)) : a ∈ tyNames := by
  cases d <;> cases h <;> decide
theorem seqTy {K : PySem.W.Frag} {a : Addr} {xs : List V} (h : SqT K H a xs) : TyX K H (.ref a) (.type "tuple") := by
  rcases h with (h | ⟨o, h⟩) | ⟨o, its, n, k1, k2, _⟩
  · exact .base (.tup h)
  · exact .fTuple h
  · exact .kTuple k1 k2
theorem seqTyL {K : PySem.W.Frag} {a : Addr} {xs : List V} (h : SqL K H a xs) : TyX K H (.ref a) (.type "list") := by
  rcases h with (h | ⟨o, h⟩) | ⟨o, its, n, k1, k2, _⟩
  · exact .base (.lst h)
  · exact .base (.frz h)
  · exact .kList k1 k2
theorem ty_rel {oc kc : List Nat} {sub : Nat → Nat → Bool} {s : S} {v : V} {d : D} {t : Ty} (ok : IsiOk Y oc kc sub) (h : view s ms = some d) (hr : HR Y w H ms) (sv : SR Y w s v) (ht : tyD d = some t) (hc : ∀ c, t = .cl c → c ∈ oc) : TyX Y.X.K H v (tyV Y t) := by
  cases d with
  | non => cases ht; cases view_notlist h (by intro ds z; cases z) sv; exact .base .non
  | bl b => cases ht; cases view_notlist h (by intro ds z; cases z) sv; exact .base (.bl b)
  | int i => cases ht; cases view_notlist h (by intro ds z; cases z) sv; exact .base (.int i)
  | str x => cases ht; cases view_notlist h (by intro ds z; cases z) sv; exact .base (.str x)
  | tup ds =>
    cases ht
    obtain ⟨a, xs, rfl, e1, e2⟩ := view_notlist h (by intro ds z; cases z) sv
    exact seqTy (sqT_mono e1 hr.sub)
  | lst ds =>
    cases ht
    obtain ⟨a, xs, rfl, e1, e2⟩ := view_list h hr sv
    exact .base (.lst e1)
  | frz ds =>
    cases ht
    obtain ⟨a, xs, rfl, e1, e2⟩ := view_notlist h (by intro ds z; cases z) sv
    exact seqTyL (sqL_mono e1 hr.sub)
  | dic ks vs =>
    cases ht
    obtain ⟨a, kvs, rfl, e1, e2⟩ := view_notlist h (by intro ds z; cases z) sv
    exact .base (.dK (hr.sub _ _ e1))
  | dit ks vs =>
    cases ht
    obtain ⟨a, kvs, rfl, e1, e2⟩ := view_notlist h (by intro ds z; cases z) sv
    exact .base (.dT (hr.sub _ _ e1))
  | obj c ds =>
    cases ht
    obtain ⟨a, dx, xs, rfl, e1, e2⟩ := view_notlist h (by intro ds z; cases z) sv
    have hm := hc c rfl
    obtain ⟨c1, c2, c3⟩ := ok.cls c hm
    obtain ⟨g1, g2⟩ := ok.get (fun z => by rw [z] at hm; cases hm)
    exact .base (.ins (hr.sub _ _ e1) c1 c2 g1 g2 c3)
  | fn n => cases ht
  | ty n => cases ht
theorem cd_isi {oc kc : List Nat} {sub : Nat → Nat → Bool} (ok : IsiOk Y oc kc sub) : CallD Y (.builtin "isinstance") (cIsi oc kc sub) := by
  refine ⟨⟨_, call_isi, fun w H ms ss vs Q hr sv h => ?_⟩, fun ss ms c ds ms' h => ?_⟩
  · unfold cIsi at h
    split at h
    · rename_i s c
      obtain ⟨v, u, rfl, r1, r2⟩ := SRs.two sv
      split at h
      · rename_i b hb
        obtain ⟨t, h1, h2⟩ := Option.bind_eq_some_iff.mp hb
        obtain ⟨d, h3, h4⟩ := Option.bind_eq_some_iff.mp h1
        have fin := h.at (Ext.refl w) hr (v := .bl b) rfl
        cases t with
        | nm a =>
          have ha := tyD_names h4
          have tx := ty_rel ok h3 hr r1 h4 (fun c z => by cases z)
          cases c with
          | ty T =>
            cases r2
            unfold isiD at h2
            dsimp only at h2
            cases hT : tyNames.contains T with
            | false => rw [hT] at h2; cases h2
            | true =>
              rw [hT] at h2
              cases h2
              exact ⟨v, .ty T, _, .type T, _, rfl, .ty T, tx, kit_ty (isT_kit a ha T (List.contains_iff_mem.mp hT)), fin⟩
          | fn m =>
            cases r2
            unfold isiD at h2
            dsimp only at h2
            cases hT : kc.contains m with
            | false => rw [hT] at h2; cases h2
            | true =>
              rw [hT] at h2
              cases h2
              exact ⟨v, .ref (Y.Γ.fn m), _, .ref (Y.Γ.fn m), _, rfl, .own _, tx, ok.nk m (List.contains_iff_mem.mp hT) a ha, fin⟩
          | _ => cases h2
        | cl c' =>
          cases c with
          | ty T =>
            cases r2
            unfold isiD at h2
            dsimp only at h2
            cases hT : (oc.contains c' && tyNames.contains T) with
            | false => rw [hT] at h2; cases h2
            | true =>
              rw [hT] at h2
              cases h2
              obtain ⟨q1, q2⟩ := Bool.and_eq_true_iff.mp hT
              have q1 := List.contains_iff_mem.mp q1
              exact ⟨v, .ty T, _, .type T, _, rfl, .ty T, ty_rel ok h3 hr r1 h4 (fun c z => by cases z; exact q1), ok.on c' q1 T (List.contains_iff_mem.mp q2), fin⟩
          | fn m =>
            cases r2
            unfold isiD at h2
            dsimp only at h2
            cases hT : (oc.contains c' && kc.contains m) with
            | false => rw [hT] at h2; cases h2
            | true =>
              rw [hT] at h2
              cases h2
              obtain ⟨q1, q2⟩ := Bool.and_eq_true_iff.mp hT
              have q1 := List.contains_iff_mem.mp q1
              exact ⟨v, .ref (Y.Γ.fn m), _, .ref (Y.Γ.fn m), _, rfl, .own _, ty_rel ok h3 hr r1 h4 (fun c z => by cases z; exact q1), ok.ok c' q1 m (List.contains_iff_mem.mp q2), fin⟩
          | _ => cases h2
      · exact h.elim
    · exact h.elim
  · unfold cIsi at h
    split at h
    · split at h <;> cases h
    · cases h
end
end Fw
set_option Elab.async false
set_option linter.all false
set_option maxRecDepth 100000
set_option maxHeartbeats 4000000
/-! Fw14: an own exception is made: super().__init__(text), then its fields. -/
namespace PySem
namespace FwX
open PySem.W PySem.Calls PyProof.Rows PySem.HandSPX

inductive FldStmts : List Stmt → List (Str × Str) → Prop where
  | nil : FldStmts [] []
  | cons {f x : Str} {q1 q2 q3 q4 : Pos} {ss : List Stmt} {fs : List (Str × Str)} (r : FldStmts ss fs) : FldStmts (.Assign [.Attribute (.Name "self" q1) f q2] (.Name x q3) q4 :: ss) ((f, x) :: fs)
def supStmt (text : Str) (j : Nat) (p0 p1 p2 p3 p4 p5 : Pos) : Stmt := .Expr (.Call (.Attribute (.Call (.Name "super" p0) [] [] p1) "__init__" p2) [.Constant (.str text) j p3] [] p4) p5

/-- what the written part says of the class at C, its __init__ at fI, the cell of __class__ at cc, the code object at cda -/
structure ExTxt (prog : Program) (K : Frag) (C fI cc cda : Addr) (qual : Str) (params : Arguments) (body : List Stmt) (scope : Scope) (fs : List (Str × Str)) : Prop where
  cls : ∃ nm q N bs bm sn sub ab col dd k0 k1 k2 k3 k5, K.lookup C = some (excClassObj nm q C N bs bm true sn sub ab col dd k0 k1 k2 k3 k5 "ValueError.__new__") ∧ refsVE bm = true
  sa : findIn K (.ref C) "__setattr__" = some (some (.builtin "object.__setattr__"))
  iC : findIn K (.ref C) "__init__" = some (some (.ref fI))
  tC : typeIn K (.ref fI) = some (.type "function")
  kC : keepIn K (.ref C) = true
  exC : subIn K (.ref C) (.type "BaseException") = some true
  tyC : typeIn K (.ref C) = some (.type "type")
  mro : mroIn K C (.ref C) = some true
  ve : subIn K (.ref C) (.type "ValueError") = some true
  sup : ks_superIn K C C "__init__" = some (some (.builtin "ValueError.__init__"))
  ini : excInitIn K C veTail "ValueError.__new__" = true
  any : nsIn K cStatics "thirdparty.any" = some none
  cell : ∃ cl cld csl, K.lookup cc = some ⟨cl, cld, .cell (some (.ref C)), csl⟩
  code : ∃ ccl cdd vs ccs file tf, K.lookup cda = some ⟨ccl, cdd, .fields vs, ccs⟩ ∧ vs[2]? = some (.str file tf) ∧ ((prog.main.file : Str) == file) = true
  top : (prog.main.scope.names.lookup ("super" : Str)).isSome = false
  fn : ∃ oc od kV doc pm an ct osl, K.lookup fI = some ⟨oc, od, .func (ksFn "__init__" qual params body scope .none kV doc pm an (.ref cda) ct cc), osl⟩ ∧ codeIn K (.ref cda) qual = true
  noN : ∀ p ∈ fs, findIn K (.ref C) p.1 = some none
/-- a def's scope that asks for __class__ -/
structure IniScope (scope : Scope) (ps : List Str) : Prop where
  kind : scope.kind = .function
  co : scope.isCoroutine = false
  gen : scope.isGenerator = false
  sup : scope.names.lookup ("super" : Str) = some .globalImplicit
  cls : scope.names.lookup ("__class__" : Str) = some .free
  par : ∀ x ∈ ps, scope.names.lookup x = some .local ∧ (x == ("__debug__" : Str)) = false
  nocell : ∀ x ∈ scope.names, x.2 ≠ .cell
  nd : ps.Nodup
/-- the heap while the fields are stored: done the stored ones, the last ahead -/
structure Sto (K : Frag) (hp : Heap) (C L x : Addr) (m : Str → Option Value) (done : List (Str × Value)) (h : Heap) : Prop where
  keep : ∀ b o, hp.get? b = some o → h.get? b = some o
  ns : h.Ns L m
  big : hp.objs.size ≤ L
  nx : x ≠ L
  xbig : hp.objs.size ≤ x
  ob : ∃ t1 dv, h.get? x = some { cls := .ref C, dict := dv, data := .fields #[.ref t1, .none, .none, .none, .bool false, .none] } ∧
    ((done = [] ∧ dv = none) ∨ (done ≠ [] ∧ ∃ dx, dv = some dx ∧ hp.objs.size ≤ dx ∧ dx ≠ x ∧ dx ≠ L ∧ h.Ns1 dx fun y => done.lookup y))
theorem lookup_fun {n : Str} {v : Value} {done : List (Str × Value)} : (fun y => if y = n then some v else done.lookup y) = fun y => ((n, v) :: done).lookup y := by
  funext y
  rw [List.lookup_cons]
  by_cases e : y = n
  · subst e; simp
  · have : (y == n) = false := beq_eq_false_iff_ne.mpr e
    rw [if_neg e, this]
theorem within_lookup : ∀ done : List (Str × Value), Within (fun y => done.lookup y) (done.map (·.1))
  | [] => fun y hy => absurd rfl hy
  | (n, v) :: r => by
    rw [← lookup_fun]
    exact Within.cons n v (within_lookup r)
section
variable {prog : Program} {w : World} {A : Around} {E : Value → Shared → Prop} {R : Result → Shared → Prop} {s : Shared} {K : Frag} {hp : Heap} {C fI cc cda L x : Addr} {qual : Str} {params : Arguments} {body : List Stmt} {scope : Scope} {m : Str → Option Value} {fs0 : List (Str × Str)} {ps : List Str} {ann : Option Expr} {pa : Pos} {args' : List Arg} {t0 : Addr}
theorem Frag.high {K : Frag} {hp : Heap} (X : K.In hp) {x : Addr} (hx : hp.objs.size ≤ x) : K.lookup x = none := by
  cases e : K.lookup x with
  | none => rfl
  | some o => exact absurd (Heap.lt_size (X _ _ e)) (Nat.not_lt.mpr hx)
theorem flds_ok (T : ExTxt prog K C fI cc cda qual params body scope fs0) (X : K.In hp) (hk : scope.kind = .function) (hs : scope.names.lookup ("self" : Str) = some .local) (hsv : m "self" = some (.ref x)) {Q : Flow → Shared → Prop} :
    ∀ {ss : List Stmt} {fs : List (Str × Str)} {done : List (Str × Value)} {s : Shared}, FldStmts ss fs → Sto K hp C L x m done s.heap → done.length + fs.length ≤ 900 →
      (∀ p ∈ fs, findIn K (.ref C) p.1 = some none ∧ scope.names.lookup p.2 = some .local ∧ (p.2 == ("__debug__" : Str)) = false ∧ ∃ v, m p.2 = some v) →
      (∀ h' tk' vs, vs.length = fs.length → (∀ (i : Nat) p v, fs[i]? = some p → vs[i]? = some v → m p.2 = some v) → Sto K hp C L x m (((fs.map (·.1)).zip vs).reverse ++ done) h' → Q .next { s with heap := h', toks := tk' }) →
      wpAny (model prog w) A (execs ss (ksEnv qual scope L fI (.ref cda) cc)) Q E s
  | _, _, done, s, .nil, st, _, _, hq => wpAny_execs_nil (hq s.heap s.toks [] rfl (fun i p v h => by simp at h) st)
  | _, _, done, s, .cons (f := f) (x := a) (ss := ss) (fs := fs) r, st, hl, hf, hq => by
    obtain ⟨f1, f2, f3, v, f4⟩ := hf _ List.mem_cons_self
    obtain ⟨nm, q, N, bs, bm, sn, sub, ab, col, dd, k0, k1, k2, k3, k5, hC, hbm⟩ := T.cls
    have hcl : clsIn K C = some { name := nm, bases := bs, mro := .ref C :: bm, ns := N, qualname := q, hasDict := true, slotNames := sn, subclasses := sub, abstract := ab, collection := col, hasDel := false } := by unfold clsIn; rw [hC] <;> rfl
    have X₁ : K.In s.heap := X.keeps st.keep
    have nxK := Frag.high X st.xbig
    refine wpAny_execs_cons (plainObj_wpAny_Assign_Attribute ?_ rfl)
    refine wpAny_Name (wpAny_loadName_local hk f2 st.ns f4 ?_) f3
    refine wpAny_Name (wpAny_loadName_local hk hs st.ns hsv ?_) (by decide)
    obtain ⟨t1, dv, hx, hd⟩ := st.ob
    have nxt : ∀ {h' : Heap} {tk' : Nat}, Sto K hp C L x m ((f, v) :: done) h' → wpAny (model prog w) A (execs ss (ksEnv qual scope L fI (.ref cda) cc)) Q E { s with heap := h', toks := tk' } := fun {h' tk'} st' => by
      refine flds_ok T X hk hs hsv (s := { s with heap := h', toks := tk' }) r st' (by simp only [List.length_cons] at hl ⊢; omega) (fun p hp => hf p (List.mem_cons_of_mem _ hp)) fun h2 tk2 vs l2 v2 st2 => ?_
      refine hq h2 tk2 (v :: vs) (by simp [l2]) (fun i p u h1 h2 => ?_) ?_
      · cases i with
        | zero => simp at h1 h2; subst h1 h2; exact f4
        | succ i => exact v2 i p u (by simpa using h1) (by simpa using h2)
      · simpa [List.zip_cons_cons, List.reverse_cons, List.append_assoc] using st2
    rcases hd with ⟨rfl, rfl⟩ | ⟨_, dx, rfl, dbig, dne, dL, hns⟩
    · refine set_plain X₁ (ox := { cls := .ref C, data := .fields #[.ref t1, .none, .none, .none, .bool false, .none] }) (od := none) ⟨hx, rfl, rfl, trivial⟩ T.sa ?_
      refine exc_osa (hp := s.heap) X₁ hx hcl (show refsVE (.ref C :: bm) = true from hbm) rfl f1 (fun h₃ tk₃ dx k₃ dn dne hx₃ hn₃ => ?_)
      refine nxt ⟨fun b o e => k₃ b o (Nat.ne_of_lt (Nat.lt_of_lt_of_le (Heap.lt_size e) st.xbig)) (st.keep b o e), ?_, st.big, st.nx, st.xbig, t1, some dx, hx₃, .inr ⟨by simp, dx, rfl, ?_, dne, ?_, ?_⟩⟩
      · exact st.ns.at fun o e => k₃ L o (Ne.symm st.nx) e
      · exact Nat.le_trans st.big (Nat.le_trans (Nat.le_of_lt st.ns.lt) dn)
      · exact Nat.ne_of_gt (Nat.lt_of_lt_of_le st.ns.lt dn)
      · rw [show (fun y => List.lookup y [(f, v)]) = fun y => if y = f then some v else List.lookup y [] from lookup_fun.symm]
        exact hn₃
    · obtain ⟨oD, esD, epD, hoD, hdD, _⟩ := hns.count (within_lookup done)
      refine set_plain X₁ (ox := { cls := .ref C, dict := some dx, data := .fields #[.ref t1, .none, .none, .none, .bool false, .none] }) (od := some oD) ⟨hx, rfl, rfl, hoD⟩ T.sa ?_
      refine OEX.osa_old (hp := s.heap) X₁ hx hns (within_lookup done) (by rw [List.length_map]; omega) hcl (show refsVE (.ref C :: bm) = true from hbm) rfl f1 (fun h₃ tk₃ k₃ hn₃ => ?_)
      refine nxt ⟨fun b o e => k₃ b o (Nat.ne_of_lt (Nat.lt_of_lt_of_le (Heap.lt_size e) dbig)) (st.keep b o e), ?_, st.big, st.nx, st.xbig, t1, some dx, ?_, .inr ⟨by simp, dx, rfl, dbig, dne, dL, ?_⟩⟩
      · exact st.ns.at fun o e => k₃ L o (Ne.symm dL) e
      · exact k₃ x _ (Ne.symm dne) hx
      · rw [← lookup_fun]; exact hn₃
/-- a made exception -/
structure Made (h h' : Heap) (e C : Addr) (done : List (Str × Value)) : Prop where
  keep : ∀ b o, h.get? b = some o → h'.get? b = some o
  new : h.objs.size ≤ e
  ob : ∃ oe vs dv, h'.get? e = some oe ∧ oe.cls = .ref C ∧ oe.dict = dv ∧ oe.data = .fields vs ∧ vs[1]? = some .none ∧
    ((done = [] ∧ dv = none) ∨ (done ≠ [] ∧ ∃ dx, dv = some dx ∧ h.objs.size ≤ dx ∧ dx ≠ e ∧ h'.Ns1 dx fun y => done.lookup y))
/-- how the model reads super().__init__(text) in this scope: by rfl -/
def SupEv (qual : Str) (scope : Scope) (fI cda cc : Addr) (pl : Sem Bool) (text : Str) (j : Nat) (p0 p1 p2 p3 p4 : Pos) : Prop :=
  ∀ L : Addr, eval (.Call (.Attribute (.Call (.Name "super" p0) [] [] p1) "__init__" p2) [.Constant (.str text) j p3] [] p4) (ksEnv qual scope L fI (.ref cda) cc) = (do
    let ov ← attributeBase (.Call (.Name "super" p0) [] [] p1) "__init__" (ksEnv qual scope L fI (.ref cda) cc) (eval (.Call (.Name "super" p0) [] [] p1) (ksEnv qual scope L fI (.ref cda) cc))
    standAt p2.atName
    let (f, first) ← holding [ov] (getMethod ov "__init__" pl)
    callWith p4 f first (backTo p4 (starEach [.Constant (.str text) j p3] (ksEnv qual scope L fI (.ref cda) cc))) [])
/-- the frame of __init__ begins: super().__init__(text) -/
theorem sup_ok (T : ExTxt prog K C fI cc cda qual params body scope fs0) (X : K.In hp) (S : IniScope scope ps) (ha : params.posonlyargs ++ params.args = { arg := "self", annotation := ann, pos := pa } :: args') {mg mb : Str → Option Value} (hG : hp.Ns mainGlobals mg) (hmg : mg "super" = none) (hB : hp.Ns builtinsNs mb) (hmb : mb "super" = some (.type "super"))
    (F : Fr hp L s.heap m) (N : News hp L s.heap [(x, excObj C t0 none .none)]) (hxb : hp.objs.size ≤ x) (hv : m "self" = some (.ref x)) (hself : ("self" : Str) ∈ ps) {text : Str} {j : Nat} {p0 p1 p2 p3 p4 p5 : Pos} {pl : Sem Bool} (he : SupEv qual scope fI cda cc pl text j p0 p1 p2 p3 p4) {Q : Flow → Shared → Prop}
    (hq : ∀ h' tk', Sto K hp C L x m [] h' → Q .next { s with heap := h', toks := tk' }) :
    _root_.PySem.wpAt (model prog w) A (.func body (ksEnv qual scope L fI (.ref cda) cc)) (exec (supStmt text j p0 p1 p2 p3 p4 p5) (ksEnv qual scope L fI (.ref cda) cc)) Q E s := by
  have X₁ : K.In s.heap := X.keeps F.keep
  obtain ⟨oc, od, kV, doc, pm, an, ct, osl, hf, hcd⟩ := T.fn
  obtain ⟨cl, cld, csl, hcell⟩ := T.cell
  obtain ⟨ccl, cdd, vs, ccs, file, tf, hcode, hvs, hfile⟩ := T.code
  obtain ⟨nm, q, Nn, bs, bm, sn, sub, ab, col, dd, k0, k1, k2, k3, k5, hC, hbm⟩ := T.cls
  obtain ⟨hh, g, d, t, os⟩ := s
  unfold supStmt
  refine ks_wpAt_Expr_any (ks_wpAt_MethodCall (pl := pl) ?_ (he L)) (by simp [interactive, S.kind]) rfl
  refine ks_wpAt_super_base (env := ksEnv qual scope L fI (.ref cda) cc) S.sup S.cls (by decide) rfl (X₁ _ _ hf) rfl (ar := { arg := "self", annotation := ann, pos := pa }) (by show (params.posonlyargs ++ params.args).head? = _; rw [ha]; rfl) rfl (X₁ _ _ hcode) rfl hvs hfile T.top ?_
  refine ks_loadName_global S.kind S.sup (Calls.loadGlobal_builtin (hG.keeps F.keep) hmg (hB.keeps F.keep) hmb ⟨rfl, ?_⟩)
  refine wpAny_loadName_free S.kind S.cls rfl ⟨_, X₁ _ _ hcell, rfl⟩ ?_
  refine wpAny_loadName_local S.kind (S.par "self" hself).1 F.ns hv ?_
  refine ks_wpAny_isType_cls (X₁ _ _ hC) rfl ⟨rfl, ?_⟩
  refine ks_wpAny_call_super (X₁ _ _ hC) rfl (N _ List.mem_cons_self).1 rfl (fun c e => by cases e) (looks_mroIn X₁ T.mro) (fun h' e k => ?_)
  obtain ⟨F1, N1, l1⟩ := ks_newsPush (s := ⟨hh, g, d, t, os⟩) F N rfl e k
  refine kxs_method (s := ⟨h', g, d, t, os⟩) kxs_ValueError F1 X N1 List.mem_cons_self (InstAt.of_exc0 N1 (List.mem_cons_of_mem _ List.mem_cons_self)) T.any T.sup T.ve (by decide) fun q h2 F2 N2 l2 => ?_
  refine kxs_callWith1 N2 List.mem_cons_self ?_
  refine Calls.spliced_cons (wpAny_Constant_str (k := j) (pos := p3) (Calls.spliced_nil ⟨kxs_at N2 List.mem_cons_self, ?_⟩))
  have m3 : (x, excObj C t0 none .none) ∈ [(q, kxs_mw "ValueError.__init__" x), (hh.objs.size, ks_superObj C x C), (x, excObj C t0 none .none)] := by simp
  have nq : q ≠ x := Ne.symm (Nat.ne_of_lt (l2 _ (List.mem_cons_of_mem _ List.mem_cons_self)))
  have nso : hh.objs.size ≠ x := Ne.symm (Nat.ne_of_lt (l1 _ List.mem_cons_self))
  refine kxs_call F2 X N2 PySem.F.excBase_ValueError T.ini List.mem_cons_self (.tail nq (.tail nso (.head (fun _ z => nomatch z)))) (by rw [sizeLine_eq]; exact (by decide : 1 ≤ 16777216)) fun t' h3 F3 N3 l3 => ?_
  have m4 := N3 (x, excObj C t' none .none) (by simp)
  exact hq h3 _ ⟨F3.keep, F3.ns, F3.above, m4.2.1, hxb, t', none, m4.1, .inl ⟨rfl, rfl⟩⟩
theorem zlk_none : ∀ {l : List (Str × Value)} {y : Str}, y ∉ l.map (·.1) → l.lookup y = none
  | [], _, _ => rfl
  | (n, v) :: l, y, h => by
    rw [List.lookup_cons]
    have : (y == n) = false := beq_eq_false_iff_ne.mpr fun z => h (by subst z; exact List.mem_cons_self)
    rw [this]
    exact zlk_none fun z => h (List.mem_cons_of_mem _ z)
theorem zlk : ∀ {ps : List Str} {us : List Value} {i : Nat} {y : Str} {u : Value}, ps.Nodup → ps[i]? = some y → us[i]? = some u → (ps.zip us).reverse.lookup y = some u
  | [], _, _, _, _, _, h, _ => by simp at h
  | _ :: _, [], _, _, _, _, _, h => by simp at h
  | p :: ps, v :: us, 0, y, u, nd, h1, h2 => by
    have e1 : p = y := by simpa using h1
    have e2 : v = u := by simpa using h2
    subst e1 e2
    have hn : (ps.zip us).reverse.lookup p = none := zlk_none fun z => (List.nodup_cons.mp nd).1 (by
      obtain ⟨w, hw, e⟩ := List.mem_map.mp z
      rw [← e]
      exact (List.of_mem_zip (List.mem_reverse.mp hw)).1)
    rw [List.zip_cons_cons, List.reverse_cons, List.lookup_append, hn, Option.none_or, List.lookup_cons, beq_self_eq_true]
  | p :: ps, v :: us, i + 1, y, u, nd, h1, h2 => by
    have e : (ps.zip us).reverse.lookup y = some u := zlk (i := i) (List.nodup_cons.mp nd).2 (by simpa using h1) (by simpa using h2)
    rw [List.zip_cons_cons, List.reverse_cons, List.lookup_append, e, Option.some_or]
theorem nst_self {v : Value} {us : List Value} {r : List Str} (nd : (("self" : Str) :: r).Nodup) : ((("self" : Str) :: r).zip (v :: us)).reverse.lookup ("self" : Str) = some v :=
  zlk (i := 0) nd rfl rfl
/-- C(..): made, __init__ run -/
theorem exc_made {fs : List (Str × Str)} {r : List Str} {ss : List Stmt} {text : Str} {j : Nat} {p0 p1 p2 p3 p4 p5 : Pos} {pl : Sem Bool} (T : ExTxt prog K C fI cc cda qual params (supStmt text j p0 p1 p2 p3 p4 p5 :: ss) scope fs) (X : K.In hp) (S : IniScope scope ("self" :: r))
    (ha : params.posonlyargs ++ params.args = { arg := "self", annotation := ann, pos := pa } :: args') (he : SupEv qual scope fI cda cc pl text j p0 p1 p2 p3 p4) {mg mb : Str → Option Value} (hG : hp.Ns mainGlobals mg) (hmg : mg "super" = none) (hB : hp.Ns builtinsNs mb) (hmb : mb "super" = some (.type "super"))
    (hss : FldStmts ss fs) (hfs : fs.map (·.2) = r) (hf9 : fs.length ≤ 900) (hlim : hp.NoLimit) {us : List Value} (hu : us.length = r.length) (hu9 : us.length ≤ sizeLine)
    (hbind : ∀ (kV doc pm : Value) (an : Option Addr) (ct : Value) (v : Value), bindArgs (ksFn "__init__" qual params (supStmt text j p0 p1 p2 p3 p4 p5 :: ss) scope .none kV doc pm an (.ref cda) ct cc) ⟨v :: us, []⟩ = pure ((("self" : Str) :: r).zip (v :: us)))
    (hroom : A.depth + 1 < recursionLimit) {g : Array GenState} {dr : Drawn} {tk : Nat} {os : OsState}
    (hq : ∀ h' tk' e, Made hp h' e C ((fs.map (·.1)).zip us).reverse → R (.ok (.ret (.ref e))) ⟨h', g, dr, tk', os⟩) :
    codeAny (model prog w) A (.call (.ref C) ⟨us, []⟩) R ⟨hp, g, dr, tk, os⟩ := by
  obtain ⟨nm, q, N, bs, bm, sn, sub, ab, col, dd, k0, k1, k2, k3, k5, hC, hbm⟩ := id T.cls
  obtain ⟨oc, od, kV, doc, pm, an, ct, osl, hf, hcd⟩ := id T.fn
  have k : ∀ b o, hp.get? b = some o → ((hp.push (kdv_tup us)).push (excO C hp.objs.size)).get? b = some o := fun b o e => Heap.get?_push_of_some _ (Heap.get?_push_of_some _ e)
  have hget : ((hp.push (kdv_tup us)).push (excO C hp.objs.size)).get? (hp.objs.size + 1) = some (excO C hp.objs.size) := by heap_get
  refine call_own PySem.F.excBase_ValueError (fun X => refsVE_contains X bm hbm) (X _ _ hC) (looks_findIn X T.iC) (fun self => bind_fn X self T.tC) hu9 ?_
  refine ks_codeAny_call_defAt (s := ⟨(hp.push (kdv_tup us)).push (excO C hp.objs.size), g, dr, tk, os⟩) (fd := ksFn "__init__" qual params (supStmt text j p0 p1 p2 p3 p4 p5 :: ss) scope .none kV doc pm an (.ref cda) ct cc) (body := supStmt text j p0 p1 p2 p3 p4 p5 :: ss)
    (binds := (("self" : Str) :: r).zip (.ref (hp.objs.size + 1) :: us)) ?_ ((X.keeps k) _ _ hf) rfl (hlim.keeps k) (codeRec_of (X.keeps k) hcd) rfl (BindsTo.of_eq (hbind kV doc pm an ct _)) S.nocell (fun y hy => (S.par y.1 (List.of_mem_zip hy).1).1) (fun h₁ hns hk₁ => ?_) S.co S.gen S.kind
  · show A.depth + 1 < recursionLimit
    exact hroom
  · have sz : ((hp.push (kdv_tup us)).push (excO C hp.objs.size)).objs.size = hp.objs.size + 1 + 1 := by simp [Heap.size_push]
    have hsv := nst_self (v := .ref (hp.objs.size + 1)) (us := us) S.nd
    have hL : hp.objs.size ≤ ((hp.push (kdv_tup us)).push (excO C hp.objs.size)).objs.size := by rw [sz]; omega
    refine ks_wpAt_execs_cons ?_
    refine sup_ok (t0 := hp.objs.size) (x := hp.objs.size + 1) (L := ((hp.push (kdv_tup us)).push (excO C hp.objs.size)).objs.size) T X S ha hG hmg hB hmb ⟨hns, fun b o e => hk₁ b o (k b o e), hL⟩ (fun p hp' => ?_) (Nat.le_succ _) hsv List.mem_cons_self he fun h2 tk2 st => ?_
    · rcases List.mem_singleton.mp hp' with rfl
      refine ⟨hk₁ _ _ hget, ?_, ?_⟩
      · show hp.objs.size + 1 ≠ _
        rw [sz]; omega
      · cases e : hp.get? (hp.objs.size + 1) with
        | none => rfl
        | some o => exact absurd (Heap.lt_size e) (Nat.not_lt.mpr (Nat.le_succ _))
    · refine wpAt_of_wpAny ?_
      refine flds_ok T X S.kind (S.par "self" List.mem_cons_self).1 hsv hss st (by simpa using hf9) (fun p hp => ?_) fun h' tk' vs lv hvs st' => ?_
      · have hm : p.2 ∈ r := by rw [← hfs]; exact List.mem_map_of_mem hp
        have hp2 := S.par p.2 (List.mem_cons_of_mem _ hm)
        refine ⟨T.noN p hp, hp2.1, hp2.2, ?_⟩
        obtain ⟨i, hi⟩ := List.getElem?_of_mem hm
        have hlt : i < us.length := by rw [hu]; exact (List.getElem?_eq_some_iff.mp hi).1
        exact ⟨us[i], zlk (i := i + 1) S.nd (by simpa using hi) (by simp [hlt])⟩
      · have ev : vs = us := by
          refine List.ext_getElem? fun i => ?_
          have l1 : vs.length = us.length := by rw [lv, hu, ← hfs, List.length_map]
          by_cases z : i < vs.length
          · have zf : i < fs.length := by rw [← lv]; exact z
            have zu : i < us.length := by rw [← l1]; exact z
            have hr : r[i]? = some fs[i].2 := by rw [← hfs, List.getElem?_map, List.getElem?_eq_getElem zf]; rfl
            have e1 := hvs i fs[i] vs[i] (List.getElem?_eq_getElem zf) (List.getElem?_eq_getElem z)
            have e2 := zlk (us := Value.ref (hp.objs.size + 1) :: us) (i := i + 1) (u := us[i]) S.nd (by simpa using hr) (by simp [zu])
            rw [e2] at e1
            rw [List.getElem?_eq_getElem z, List.getElem?_eq_getElem zu]
            exact e1.symm
          · rw [List.getElem?_eq_none (Nat.le_of_not_lt z), List.getElem?_eq_none (by rw [← l1]; exact Nat.le_of_not_lt z)]
        subst ev
        rw [List.append_nil] at st'
        obtain ⟨t1, dv, hx, hd⟩ := st'.ob
        refine ⟨rfl, hq h' tk' _ ⟨st'.keep, st'.xbig, _, _, dv, hx, rfl, rfl, rfl, rfl, ?_⟩⟩
        rcases hd with h | ⟨ne, dx, e, d1, d2, _, d3⟩
        · exact .inl h
        · exact .inr ⟨ne, dx, e, d1, d2, d3⟩
end
end FwX
end PySem
set_option Elab.async false
set_option linter.all false
set_option maxRecDepth 100000
set_option maxHeartbeats 4000000
/-! Fw15: raise; try. -/
namespace Fw
open PySem L2 PySem.Spec PyProof.Rows

/-! ### raise C(..) -/
theorem paired_append {α β : Type} {P : α → β → Prop} : ∀ {a c : List α} {b d : List β}, Paired P a b → Paired P c d → Paired P (a ++ c) (b ++ d)
  | _, _, _, _, .nil, h => h
  | _, _, _, _, .cons x y, h => .cons x (paired_append y h)
theorem paired_rev {α β : Type} {P : α → β → Prop} : ∀ {a : List α} {b : List β}, Paired P a b → Paired P a.reverse b.reverse
  | _, _, .nil => .nil
  | _, _, .cons x y => by
    rw [List.reverse_cons, List.reverse_cons]
    exact paired_append (paired_rev y) (.cons x .nil)
theorem zip_rev {α β : Type} : ∀ {a : List α} {b : List β}, a.length = b.length → (a.zip b).reverse = a.reverse.zip b.reverse
  | [], [], _ => rfl
  | [], _ :: _, h => by simp at h
  | _ :: _, [], h => by simp at h
  | x :: a, y :: b, h => by
    have hl : a.length = b.length := by simpa using h
    rw [List.zip_cons_cons, List.reverse_cons, zip_rev hl, List.reverse_cons, List.reverse_cons, List.zip_append (by simp [hl])]
    rfl
theorem relO_zip : ∀ {fs : List Str} {vs : List V} {us : List Value} (f : Str), Vals vs us → RelO ((fs.zip vs).lookup f) ((fs.zip us).lookup f)
  | [], _, _, f, _ => by simp [RelO]
  | a :: fs, _, _, f, .nil => by simp [RelO]
  | a :: fs, _, _, f, .cons r t => by
    rw [List.zip_cons_cons, List.zip_cons_cons, List.lookup_cons, List.lookup_cons]
    cases f == a with
    | true => exact r
    | false => exact relO_zip f t
theorem DRs.rev {K : PySem.W.Frag} {Γ : G} {F : Hp} : ∀ {ds : List D} {vs : List V}, DRs K Γ F ds vs → DRs K Γ F ds.reverse vs.reverse
  | [], _, h => by cases h; rfl
  | d :: ds, _, h => by
    obtain ⟨x, r, rfl, h2, h3⟩ := h
    rw [List.reverse_cons, List.reverse_cons]
    exact (DRs.rev h3).append ⟨x, [], rfl, h2, rfl⟩
/-- all that a class that is raised must have; fl its fields as stored -/
structure ExcOk (prog : Program) (K : PySem.W.Frag) (mgl : Str → Option Value) (x : Str) (C : Addr) (fl : List Str) : Prop where
  mg : mgl x = some (.ref C)
  ex : ∃ (fI cc cda : Addr) (qual : Str) (params : Arguments) (scope : Scope) (fs : List (Str × Str)) (r : List Str) (ss : List Stmt) (text : Str) (j : Nat) (p0 p1 p2 p3 p4 p5 pa : Pos) (pl : Sem Bool) (ann : Option Expr) (args' : List Arg),
    FwX.ExTxt prog K C fI cc cda qual params (FwX.supStmt text j p0 p1 p2 p3 p4 p5 :: ss) scope fs ∧ FwX.IniScope scope ("self" :: r) ∧ params.posonlyargs ++ params.args = { arg := "self", annotation := ann, pos := pa } :: args' ∧
    FwX.SupEv qual scope fI cda cc pl text j p0 p1 p2 p3 p4 ∧ FwX.FldStmts ss fs ∧ fs.map (·.2) = r ∧ fs.map (·.1) = fl ∧ fs.length ≤ 900 ∧
    ∀ (us : List Value), us.length = r.length → ∀ (kV doc pm : Value) (an : Option Addr) (ct : Value) (v : Value), bindArgs (PySem.W.ksFn "__init__" qual params (FwX.supStmt text j p0 p1 p2 p3 p4 p5 :: ss) scope .none kV doc pm an (.ref cda) ct cc) ⟨v :: us, []⟩ = pure ((("self" : Str) :: r).zip (v :: us))
  sup : mgl "super" = none
def tMkX (C : Addr) (fl : List Str) (t : TA) : L2.St → Hp → XK → Prop := fun σ H Q => t σ H fun vs H1 => vs.length = fl.length ∧ (fl = [] → Q (.ref C) none H1) ∧ (fl ≠ [] → ∀ d, H1 d = none → Q (.ref C) (some d) (upd H1 d (.xd (fl.reverse.zip vs.reverse))))
section
variable {Y : Cy} {w w1 w2 : Wd} {σ : L2.St} {H H1 H2 : Hp} {env : Env} {ms ms1 ms2 : Ms} {Ed : Ends} {es : List Expr} {m : Env → Ms → R (List S)} {n k : Nat} {x : Str} {C : Addr} {fl : List Str} {np pos p1 : Pos}
theorem pmk_x {t : TA} (hr : Room k Y.X.A) (e : ExcOk Y.X.prog Y.X.K Y.X.mg x C fl) (hg : Gl Y.X x) (ha : PC Y.X es [] n [] t) (hdb : (x == ("__debug__" : Str)) = false := by decide) : PMk Y.X (.Call (.Name x np) es [] pos) (tMkX C fl t) := by
  intro pins s σ H Q I h
  obtain ⟨fI, cc, cda, qual, params, scope, fs, r, ss, text, j, p0, p1, p2, p3, p4, p5, pa, pl, ann, args', T, S, hpa, he, hss, hr2, hfl, h9, hbind⟩ := e.ex
  refine wpAny_Call_Name_kw (ld_glob I hg e.mg ?_ hdb)
  refine PySem.W.callWith_of (ha.plain pos) (PySem.W.keeps_K T.kC) (thn (ha.run pos _ pins s σ H _ I h) fun a s1 hh => ?_)
  obtain ⟨us, ws, vs, H1, ea, l1, l2, I1, rv, hl, q0, q1⟩ := hh
  subst ea
  have ws0 : ws = [] := List.length_eq_zero_iff.mp l2
  subst ws0
  rw [List.append_nil] at rv
  refine ⟨I1.kIn, ?_⟩
  show wpAny _ _ (call (.ref C) us) _ _ _
  have hlim := I1.nolimit
  obtain ⟨mb, hb1, hb2⟩ := I1.mod.blt
  have hb3 : mb "super" = some (.type "super") := (hb2 "super" (by decide)).trans (by decide +kernel)
  have hus : us.length = r.length := by rw [← rv.length, hl, ← hfl, ← hr2, List.length_map, List.length_map]
  have hG := I1.mod.glob.keeps I1.bk
  have hB := hb1.keeps I1.bk
  have kIn := I1.kIn
  have lr : r.length ≤ 900 := by rw [← hr2, List.length_map]; exact h9
  obtain ⟨hp, g, dr, tk, os⟩ := s1
  refine wpAny_call (FwX.exc_made T kIn S hpa he hG e.sup hB hb3 hss hr2 h9 hlim hus (by rw [sizeLine_eq]; omega) (hbind us hus) (by have := hr.dp; omega) fun h' tk' ea M => ?_)
  show MkP Y.X pins σ Q (.ref ea) ⟨h', g, dr, tk', os⟩
  obtain ⟨oe, fv, dv, hoe, hc, hd, hdat, h1, hcase⟩ := M.ob
  obtain ⟨G', g1, g2⟩ := restrict h' fun b => decide (b ≠ ea)
  have gk : ∀ b, b ≠ ea → G'.get? b = h'.get? b := fun b hb => g1 b (decide_eq_true hb)
  have ge : G'.get? ea = none := g2 ea (by simp)
  have old : ∀ b o, hp.get? b = some o → G'.get? b = some o := fun b o q => (gk b (Nat.ne_of_lt (Nat.lt_of_lt_of_le (Heap.lt_size q) M.new))).trans (M.keep b o q)
  have back : ∀ b o, G'.get? b = some o → h'.get? b = some o := fun b o q => by
    by_cases hb : b = ea
    · rw [hb, ge] at q; cases q
    · exact (gk b hb).symm.trans q
  have rse := raises_own (X := Y.X) T.exC T.tyC
  rw [hfl] at hcase
  rcases hcase with ⟨he0, hdv⟩ | ⟨hne, dx, hdv, dbig, dne, hns⟩
  · have fl0 : fl = [] := by
      cases fl with
      | nil => rfl
      | cons a fl =>
        cases us with
        | nil => rw [rv.length] at hl; simp at hl
        | cons u us => simp at he0
    subst hdv
    have J : Inv Y.X pins σ H1 ⟨G', g, dr, tk', os⟩ := I1.kept (t' := tk') old
    exact ⟨ea, oe, fv, ⟨G', g, dr, tk', os⟩, _, .ref C, none, rfl, J, back, ge, hoe, ⟨hc, hd⟩, hdat, h1, I1.hok.fresh M.new, rfl, I1.bare, rse, q0 fl0⟩
  · subst hdv
    have fl1 : fl ≠ [] := fun z => by subst z; exact hne rfl
    have lus : fl.length = us.length := by rw [← hl, rv.length]
    have hfun : (fun y => (fl.zip us).reverse.lookup y) = fun y => (fl.reverse.zip us.reverse).lookup y := by rw [zip_rev lus]
    rw [hfun] at hns
    have ob : ObjOk Y.X.prog Y.X.w (upd H1 dx (.xd (fl.reverse.zip vs.reverse))) G' dx (.xd (fl.reverse.zip vs.reverse)) :=
      ⟨_, hns.at (fun o q => (gk dx dne).trans q), fun f => relO_zip f (paired_rev rv)⟩
    have J : Inv Y.X pins σ (upd H1 dx (.xd (fl.reverse.zip vs.reverse))) ⟨G', g, dr, tk', os⟩ := I1.laid (t' := tk') old dbig ob
    refine ⟨ea, oe, fv, ⟨G', g, dr, tk', os⟩, _, .ref C, some dx, rfl, J, back, ge, hoe, ⟨hc, hd⟩, hdat, h1, ?_, rfl, I1.bare, rse, q1 fl1 dx (I1.hok.fresh dbig)⟩
    rw [upd_ne (Ne.symm dne)]
    exact I1.hok.fresh M.new
/-- raise C(..) -/
def sRaise (c n : Nat) (ma : Env → Ms → R (List S)) : Env → Ms → T := fun env ms => T.ofE (ma env ms) env fun ss ms1 => match toDs ss with
  | some ds => match Nat.beq ds.length n with
    | true => .ex c ds.reverse env ms1
    | false => .bad
  | none => .bad
theorem s_raise {c l : Nat} (ok : CyOk Y k) (e : ExcOk Y.X.prog Y.X.K Y.X.mg x C fl) (hC : Y.Γ.cls c = C) (hf : Y.Γ.fld c = fl.reverse) (hg : Gl Y.X x) (ha : DC Y es [] n [] m) (hl : fl.length = l := by rfl) (hdb : (x == ("__debug__" : Str)) = false := by decide) :
    DS Y (.Raise (some (.Call (.Name x np) es [] p1)) none pos) (sRaise c l m) := by
  obtain ⟨t, pa, sa⟩ := ha.ex
  refine ⟨_, ps_raise ok.calm ok.tk (pmk_x ok.hr e hg pa hdb), fun w σ H env ms Ed er hr h => ?_⟩
  refine sa.goS er hr h fun ss ms1 w1 H1 vs e1 er1 hr1 sv h1 => ?_
  cases hd : toDs ss with
  | none => rw [hd] at h1; exact h1.elim
  | some ds =>
    rw [hd] at h1
    dsimp only at h1
    cases hb : Nat.beq ds.length l with
    | false => rw [hb] at h1; exact h1.elim
    | true =>
      rw [hb] at h1
      have r := toDs_rel hd sv
      have lv : vs.length = fl.length := by rw [← DRs.length r, hl]; exact Nat.eq_of_beq_eq_true hb
      subst hC
      refine ⟨lv, fun z => ?_, fun z d hdn => ?_⟩
      · subst z
        have vs0 : vs = [] := List.length_eq_zero_iff.mp lv
        subst vs0
        have ds0 : ds = [] := List.length_eq_zero_iff.mp (DRs.length r)
        subst ds0
        exact h1 w1 H1 σ none (Ext.refl w1) hr1 er1 (.inl ⟨by rw [hf]; rfl, rfl, rfl⟩)
      · obtain ⟨hr2, e2⟩ := hr1.froz (o := .xd (fl.reverse.zip vs.reverse)) hdn
        refine h1 _ _ σ (some d) e2 hr2 (er1.mono e2) (.inr ⟨d, vs.reverse, rfl, by rw [hf]; exact upd_same, by rw [hf, List.length_reverse, List.length_reverse, lv], DRs.mono e2.F _ _ r.rev⟩)
end
end Fw
set_option Elab.async false
set_option linter.all false
set_option maxRecDepth 100000
set_option maxHeartbeats 4000000
/-! Fw16: try with several clauses, each with a name for the exception or without. -/
namespace Fw
open PySem L2 PySem.Spec PyProof.Rows

abbrev HdE := Value × Option Nat × (Addr → Value → Option Addr → TS)
def dSl (D : Ends) : Option Nat → Ends
  | none => D
  | some i => { nx := fun σ' H' => D.nx (σ'.set i none) H', rt := D.rt, bk := fun σ' H' => D.bk (σ'.set i none) H', ct := fun σ' H' => D.ct (σ'.set i none) H' }
def eSl (a : Addr) (σ : L2.St) : Option Nat → L2.St
  | none => σ
  | some i => σ.set i (some (.ref a))
/-- the wish of an exception, clause by clause -/
def wAny (K : PySem.W.Frag) (Wo : WX) (D : Ends) : List HdE → WX
  | [] => Wo
  | (c, sl, ts) :: r => fun cls d σ H => ∃ b, PySem.W.exmOne K cls c = some b ∧ (b = true → ∀ a, H a = none → ts a cls d (dSl D sl) (eSl a σ sl) H) ∧ (b = false → wAny K Wo D r cls d σ H)
inductive HdsA (Z : Cx) : List ExceptHandler → List HdE → Prop
  | nil : HdsA Z [] []
  | plain {x : Str} {c : Value} {ts : Addr → Value → Option Addr → TS} {b₀ : Stmt} {suite : List Stmt} {np ph : Pos} {hds : List ExceptHandler} {l : List HdE} (hc : Names Z x c)
      (hsu : ∀ (a : Addr) (oe : Obj) (cls : Value) (d : Option Addr) (pn : List (Addr × Obj)), Zc cls d oe → (∃ vs, oe.data = .fields vs) → PSs (Z.suite a ((a, oe) :: pn)) (b₀ :: suite) (ts a cls d)) (r : HdsA Z hds l) :
      HdsA Z (.ExceptHandler (some (.Name x np)) none (b₀ :: suite) ph :: hds) ((c, none, ts) :: l)
  | named {x n : Str} {i : Nat} {c : Value} {ts : Addr → Value → Option Addr → TS} {b₀ : Stmt} {suite : List Stmt} {np ph : Pos} {hds : List ExceptHandler} {l : List HdE} (hc : Names Z x c) (hi : Z.N[i]? = some n) (hln : Z.env.kindOf n = some .local)
      (hsu : ∀ (a : Addr) (oe : Obj) (cls : Value) (d : Option Addr) (pn : List (Addr × Obj)), Zc cls d oe → (∃ vs, oe.data = .fields vs) → PSs (Z.suite a ((a, oe) :: pn)) (b₀ :: suite) (ts a cls d)) (r : HdsA Z hds l) :
      HdsA Z (.ExceptHandler (some (.Name x np)) (some n) (b₀ :: suite) ph :: hds) ((c, some i, ts) :: l)
section
variable {Z : Cx} {body : List Stmt} {h₀ : ExceptHandler} {hds : List ExceptHandler} {l : List HdE} {pos : Pos} {tb : WX → TS} {Wo : WX}
/-- the clauses are asked -/
theorem hds_run {pins : List (Addr × Obj)} {σ1 : L2.St} {H1 : Hp} {sI s0 : Shared} {D : Ends} {a : Addr} {B : Heap} {cls : Value} {d : Option Addr} {h3 : Heap} (ok : Z.Ok) (nd : Z.N.Nodup) (stk : Z.stack = Z.env :: Z.outer) (frm : Z.env.frame = some Z.env.locals) (hfr : Z.A.frames = some (Z.env :: Z.outer)) (tk : Takes Z Wo)
    (J : Inv Z pins σ1 H1 sI) (nb : ∀ b o, sI.heap.get? b = some o → b ∉ frs Z.stack → B.get? b = some o) (up : sI.heap.UpToSlots h3) (os : s0.os = sI.os) (ag : AllBare s0.gens) (na : H1 a = none) (nL : a ≠ Z.env.locals) (nF : a ∉ Z.fs) (fly : HandSPX.FlyingZ B (Z.env :: Z.outer) a (Zc cls d) h3) :
    ∀ {hd2 : List ExceptHandler} {l2 : List HdE}, HdsA Z hd2 l2 → wAny Z.K Wo D l2 cls d σ1 H1 → wpAny (model Z.prog Z.w) Z.A (handleBy (.ref a) Z.env hd2) (SP Z pins D) Z.xe { s0 with heap := h3 } := by
  have J3 : Inv Z pins σ1 H1 { s0 with heap := h3 } := J.landed nb fly.1 up os ag
  obtain ⟨oe3, vs3, he3, hz3, hd3⟩ := fly.there
  have S3 := J3.suite he3 hd3 na nL nF
  have LT : PySem.W.Looks (model Z.prog Z.w) h3 (typeOf (.ref a)) cls := fun A Q E s k q => wpAny_typeOf_ref (k _ _ he3) (by rw [hz3.1]; exact q)
  have ask : ∀ {x : Str} {c : Value} {np : Pos} {Q : Value → Shared → Prop} {E : Value → Shared → Prop}, Names Z x c → Q c { s0 with heap := h3 } → wpAny (model Z.prog Z.w) (Z.A.mark (some (.ref a))) (eval (.Name x np) Z.env) Q E { s0 with heap := h3 } := fun {x c np Q E} hc q => by
    obtain ⟨hg, hdbg, hm | ⟨hm, hv, hnn⟩⟩ := hc
    · exact ld_glob (X := Z.suite a ((a, oe3) :: (Z.pn ++ pins))) S3 hg hm q hdbg
    · exact ld_blt (X := Z.suite a ((a, oe3) :: (Z.pn ++ pins))) S3 hg hm hv q hnn hdbg
  intro hd2 l2 hk
  induction hk with
  | nil =>
    intro wsh
    refine wpAny_handleBy_nil ?_
    obtain ⟨_, _, _, oe, vs, tbk, _, _, he, _, hd, e1, _⟩ := id fly
    unfold PySem.passOn
    refine wpAny_bind (wpAny_field he hd e1 ?_)
    rw [if_neg (show ¬ ((Value.ref tbk == Value.none) = true) from by simp)]
    have fin : wpAny (model Z.prog Z.w) Z.A (setFlight (.ref a) Z.env.frame) (fun _ s4 => wpAny (model Z.prog Z.w) Z.A (throw (.ref a) : Sem Flow) (SP Z pins D) Z.xe s4) Z.xe { s0 with heap := h3 } := by
      rw [frm]
      refine HandSPX.setFlight_upZ fly fun h4 held up4 => wpAny_throw (tk _ _ ?_)
      exact ⟨a, B, sI, pins, σ1, H1, cls, d, rfl, J, nb, up.trans up4, .inr (.inr (by rw [stk]; exact held)), na, os, ag, wsh⟩
    first
      | exact wpAny_bind (wpAny_pure (wpAny_bind fin))
      | exact wpAny_bind fin
  | @plain x c ts b₀ suite np ph hds2 l2 hc hsu r ih =>
    intro wsh
    obtain ⟨b, hb1, hyes, hno⟩ := wsh
    refine wpAny_handleBy_cons (codeAny_handlers_test ?_) (fun q => by cases q)
    have LM := PySem.W.exm_one (M := model Z.prog Z.w) J3.kIn LT hb1
    refine ask hc (LM.here ?_)
    cases b with
    | false =>
      show wpAny _ Z.A (handleBy (.ref a) Z.env hds2) _ _ _
      exact ih (hno rfl)
    | true =>
      refine codeAny_handlers_suite (HandSPX.lands_againZ fly fun h4 fl4 up4 => ?_)
      have J4 : Inv Z pins σ1 H1 { s0 with heap := h4 } := J.landed nb fl4.1 (up.trans up4) os ag
      obtain ⟨oe4, vs4, he4, hz4, hd4⟩ := fl4.there
      refine wpAny_mono ((hsu a oe4 cls d (Z.pn ++ pins) hz4 ⟨_, hd4⟩).run [] _ _ H1 _ (J4.suite he4 hd4 na nL nF) (hyes rfl a na)) (fun f s6 hsp => ?_) (fun _ _ z => z.elim)
      cases f with
      | ret u => obtain ⟨v6, σ6, H6, S6, r6, q6⟩ := hsp; exact ⟨_, _, _, S6.unsuite ok, r6, q6⟩
      | next => obtain ⟨σ6, H6, S6, q6⟩ := hsp; exact ⟨_, _, S6.unsuite ok, q6⟩
      | brk => obtain ⟨σ6, H6, S6, q6⟩ := hsp; exact ⟨_, _, S6.unsuite ok, q6⟩
      | cont => obtain ⟨σ6, H6, S6, q6⟩ := hsp; exact ⟨_, _, S6.unsuite ok, q6⟩
  | @named x n i c ts b₀ suite np ph hds2 l2 hc hi hln hsu r ih =>
    intro wsh
    obtain ⟨b, hb1, hyes, hno⟩ := wsh
    refine wpAny_handleBy_cons (codeAny_handlers_test ?_) (fun q => by cases q)
    have LM := PySem.W.exm_one (M := model Z.prog Z.w) J3.kIn LT hb1
    refine ask hc (LM.here ?_)
    cases b with
    | false =>
      show wpAny _ Z.A (handleBy (.ref a) Z.env hds2) _ _ _
      exact ih (hno rfl)
    | true =>
      refine codeAny_handlers_suite_as (HandSPX.lands_againZ fly fun h4 fl4 up4 => ?_)
      have J4 : Inv Z pins σ1 H1 { s0 with heap := h4 } := J.landed nb fl4.1 (up.trans up4) os ag
      obtain ⟨oe4, vs4, he4, hz4, hd4⟩ := fl4.there
      refine store_ok (X := Z.suite a ((a, oe4) :: (Z.pn ++ pins))) (v := .ref a) (J4.suite he4 hd4 na nL nF) nd hi (.inl hln) rfl (fun s5 S5 => ?_) (.inr hln)
      refine wpAny_mono ((hsu a oe4 cls d (Z.pn ++ pins) hz4 ⟨_, hd4⟩).run [] s5 _ H1 _ S5 (hyes rfl a na)) (fun f s6 hsp => ?_) (fun _ _ z => z.elim)
      have gone : ∀ {σ6 : L2.St} {H6 : Hp} {Q : Shared → Prop}, Inv (Z.suite a ((a, oe4) :: (Z.pn ++ pins))) [] σ6 H6 s6 → (∀ s7, Inv Z pins (σ6.set i none) H6 s7 → Q s7) →
          wpAny (model Z.prog Z.w) Z.A (do bindName Z.env n .none; unbindBehindTheSuite Z.env n ph) (fun _ s7 => Q s7) Z.xe s6 := fun {σ6 H6 Q} S6 hq => gone_ok (S6.unsuite ok) nd hi hln hq
      cases f with
      | ret u => obtain ⟨v6, σ6, H6, S6, r6, q6⟩ := hsp; exact gone S6 fun s7 J7 => ⟨_, _, _, J7, r6, q6⟩
      | next => obtain ⟨σ6, H6, S6, q6⟩ := hsp; exact gone S6 fun s7 J7 => ⟨_, _, J7, q6⟩
      | brk => obtain ⟨σ6, H6, S6, q6⟩ := hsp; exact gone S6 fun s7 J7 => ⟨_, _, J7, q6⟩
      | cont => obtain ⟨σ6, H6, S6, q6⟩ := hsp; exact gone S6 fun s7 J7 => ⟨_, _, J7, q6⟩
theorem ps_try_any (stk : Z.stack = Z.env :: Z.outer) (frm : Z.env.frame = some Z.env.locals) (nd : Z.N.Nodup) (tk : Takes Z Wo)
    (hb : ∀ (W : WX) (pn : List (Addr × Obj)) (xe : Value → Shared → Prop), Takes (Z.tr pn xe) W → PassesOwn (model Z.prog Z.w) Z.A Z.env xe → PSs (Z.tr pn xe) body (tb W))
    (hh : HdsA Z (h₀ :: hds) l) : PS Z (.Try body (h₀ :: hds) [] [] pos) (fun D σ H => tb (wAny Z.K Wo D l) D σ H) := by
  refine ⟨fun pins s σ H D I h => ?_⟩
  have ok := I.ok
  have hfr : Z.A.frames = some (Z.env :: Z.outer) := by rw [ok.frames, stk]
  refine wpAny_Try_except ?_
  refine wpAny_mono ((hb (wAny Z.K Wo D l) (Z.pn ++ pins) (fun e s₁ => wpAny (model Z.prog Z.w) Z.A (noteFrame e Z.env) (fun _ s₂ => wpAny (model Z.prog Z.w) Z.A (setFlight e none) (fun _ s₃ =>
    wpAny (model Z.prog Z.w) Z.A (handleBy e Z.env (h₀ :: hds)) (SP Z pins D) Z.xe s₃) Z.xe s₂) Z.xe s₁) (fun u s1 xx => ?_) PassesOwn.looking).run [] s σ H D (I.toTry _) h) (fun f s1 hsp => ?_) (fun e s1 he => he)
  · obtain ⟨a, B, sI, pins', σ1, H1, cls, d, rfl, Jt, nb, up, sky, na, os, ag, wsh⟩ := xx
    have J : Inv Z pins σ1 H1 sI := Jt.ofTry ok
    have sky2 : Sky B (Z.env :: Z.outer) a (Zc cls d) Z.env.locals s1.heap := by rw [← stk]; exact sky
    show wpAny (model Z.prog Z.w) Z.A (noteFrame (.ref a) Z.env) _ _ _
    refine Sky.land Zc.steady hfr frm sky2 fun h3 fly up3 => ?_
    obtain ⟨oe3, vs3, he3, _, hd3⟩ := fly.there
    have nfr : a ∉ frs (Z.env :: Z.outer) := fun hm => by
      obtain ⟨_, o2, e2, hnf⟩ := fly.2.2.1.mem hm
      rw [he3] at e2; cases e2
      exact hnf _ hd3
    refine hds_run ok nd stk frm hfr tk J nb (up.trans up3) os ag na (fun z => nfr (List.mem_filterMap.mpr ⟨Z.env, List.mem_cons_self, by rw [frm, z]⟩)) (fun hm => ?_) fly hh wsh
    obtain ⟨e, he, q⟩ := List.mem_filterMap.mp hm
    exact nfr (List.mem_filterMap.mpr ⟨e, List.mem_cons_of_mem _ he, q⟩)
  · cases f with
    | ret u => obtain ⟨v, σ2, H2, Jt, r, q⟩ := hsp; exact ⟨v, σ2, H2, Jt.ofTry ok, r, q⟩
    | next => obtain ⟨σ2, H2, Jt, q⟩ := hsp; exact wpAny_execs_nil ⟨σ2, H2, Jt.ofTry ok, q⟩
    | brk => obtain ⟨σ2, H2, Jt, q⟩ := hsp; exact ⟨σ2, H2, Jt.ofTry ok, q⟩
    | cont => obtain ⟨σ2, H2, Jt, q⟩ := hsp; exact ⟨σ2, H2, Jt.ofTry ok, q⟩
end
end Fw
set_option Elab.async false
set_option linter.all false
set_option maxRecDepth 100000
set_option maxHeartbeats 4000000
/-! Fw17: try, what it computes; the caught exception's fields and class. -/
namespace Fw
open PySem L2 PySem.Spec PyProof.Rows

abbrev HdM := (Nat → Option Bool) × Option Nat × (Env → Ms → T)
def envNoX (env : Env) : Bool := env.all fun o => match o with
  | some s => s.noX
  | none => true
def finT (t : T) : T := match t with
  | .nx e ms => match envNoX e with
    | true => .nx e ms
    | false => .bad
  | .bk e ms => match envNoX e with
    | true => .bk e ms
    | false => .bad
  | .ct e ms => match envNoX e with
    | true => .ct e ms
    | false => .bad
  | .rt s ms => match s.noX with
    | true => .rt s ms
    | false => .bad
  | _ => .bad
def unsetT (sl : Option Nat) (t : T) : T := match sl with
  | none => t
  | some i => match t with
    | .nx e ms => .nx (e.set i none) ms
    | .bk e ms => .bk (e.set i none) ms
    | .ct e ms => .ct (e.set i none) ms
    | t => t
def setX (sl : Option Nat) (c : Nat) (ds : List D) (e : Env) : Env := match sl with
  | none => e
  | some i => e.set i (some (.exn c ds))
def hdl : List HdM → Nat → List D → Env → Ms → T
  | [], c, ds, e, ms => .ex c ds e ms
  | (tst, sl, su) :: r, c, ds, e, ms => match tst c with
    | some false => hdl r c ds e ms
    | some true => match envNoX e with
      | true => finT (unsetT sl (su (setX sl c ds e) ms))
      | false => .bad
    | none => .bad
def sTry (mb : Env → Ms → T) (hds : List HdM) : Env → Ms → T := fun env ms => match mb env ms with
  | .ex c ds e ms1 => hdl hds c ds e ms1
  | t => t
abbrev Cy.tr (Y : Cy) (W : WX) (pn : List (Addr × Obj)) (xe : Value → Shared → Prop) : Cy := ⟨Y.X.tr pn xe, Y.Γ, W, Y.ea, Y.ed, Y.ec⟩
abbrev Cy.suite (Y : Cy) (a : Addr) (oe : Obj) (cls : Value) (d : Option Addr) (pn : List (Addr × Obj)) : Cy := ⟨Y.X.suite a ((a, oe) :: pn), Y.Γ, fun _ _ _ _ => False, a, d, cls⟩
abbrev Cy.wW (Y : Cy) (W : WX) : Cy := ⟨Y.X, Y.Γ, W, Y.ea, Y.ed, Y.ec⟩
abbrev Cy.su0 (Y : Cy) (a : Addr) (cls : Value) (d : Option Addr) : Cy := ⟨Y.X, Y.Γ, fun _ _ _ _ => False, a, d, cls⟩
theorem CyOk.tr {Y : Cy} {k : Nat} (ok : CyOk Y k) {W : WX} {pn : List (Addr × Obj)} {xe : Value → Shared → Prop} (tk : Takes (Y.X.tr pn xe) W) (own : PassesOwn (model Y.X.prog Y.X.w) Y.X.A Y.X.env xe) : CyOk (Y.tr W pn xe) k :=
  ⟨ok.hr, ok.gd, tk, own, ok.calm, ok.nd⟩
theorem DefOk.tr {Y : Cy} (ok : DefOk Y) {W : WX} {pn : List (Addr × Obj)} {xe : Value → Shared → Prop} : DefOk (Y.tr W pn xe) := ⟨ok.stk, ok.frm⟩
section
variable {Y : Cy} {w w1 w2 : Wd} {σ : L2.St} {H H1 H2 : Hp} {env : Env} {ms ms1 ms2 : Ms} {Ed : Ends}
theorem ER.conv {Y1 Y2 : Cy} (h : ∀ w s v, SR Y1 w s v → SR Y2 w s v) (e : ER Y1 w σ env) : ER Y2 w σ env := ⟨e.len, fun i s hs => let ⟨v, h1, h2⟩ := e.slot i s hs; ⟨v, h1, h w s v h2⟩⟩
/-- readings out of semantics -/
def semS (Y : Cy) (m : Env → Ms → T) : TS := fun Ed σ H => ∃ w env ms, ER Y w σ env ∧ HR Y w H ms ∧ tP Y w Ed (m env ms)
theorem wW_tr {W : WX} {pn : List (Addr × Obj)} {xe : Value → Shared → Prop} : ∀ w s v, SR (Y.wW W) w s v → SR (Y.tr W pn xe) w s v := fun w s v h => by cases s <;> exact h
theorem tr_wW {W : WX} {pn : List (Addr × Obj)} {xe : Value → Shared → Prop} : ∀ w s v, SR (Y.tr W pn xe) w s v → SR (Y.wW W) w s v := fun w s v h => by cases s <;> exact h
theorem su0_su {a : Addr} {oe : Obj} {cls : Value} {d : Option Addr} {pn : List (Addr × Obj)} : ∀ w s v, SR (Y.su0 a cls d) w s v → SR (Y.suite a oe cls d pn) w s v := fun w s v h => by cases s <;> exact h
theorem su_su0 {a : Addr} {oe : Obj} {cls : Value} {d : Option Addr} {pn : List (Addr × Obj)} : ∀ w s v, SR (Y.suite a oe cls d pn) w s v → SR (Y.su0 a cls d) w s v := fun w s v h => by cases s <;> exact h
theorem wW_self {W : WX} : ∀ w s v, SR (Y.wW W) w s v → SR Y w s v := fun w s v h => by cases s <;> exact h
theorem self_wW {W : WX} : ∀ w s v, SR Y w s v → SR (Y.wW W) w s v := fun w s v h => by cases s <;> exact h
theorem tr_pss {body : List Stmt} {mb : Env → Ms → T} {W : WX} {pn : List (Addr × Obj)} {xe : Value → Shared → Prop} (h : DSs (Y.tr W pn xe) body mb) : PSs (Y.X.tr pn xe) body (semS (Y.wW W) mb) := by
  obtain ⟨t, p, sd⟩ := h.ex
  refine ⟨fun pins s σ H Ed I ⟨w, env, ms, er, hr, q⟩ => p.run pins s σ H Ed I (sd w σ H env ms Ed (er.conv wW_tr) hr ?_)⟩
  exact T.post_mono q (fun _ _ z w' H' σ' e hr' er' => z w' H' σ' e hr' (er'.conv tr_wW)) (fun _ _ z w' H' v e hr' sv => z w' H' v e hr' (tr_wW _ _ _ sv)) (fun _ _ z w' H' σ' e hr' er' => z w' H' σ' e hr' (er'.conv tr_wW)) (fun _ _ z w' H' σ' e hr' er' => z w' H' σ' e hr' (er'.conv tr_wW))
    fun _ _ _ _ z w' H' σ' dd e hr' er' xd => z w' H' σ' dd e hr' (er'.conv tr_wW) xd
theorem su_pss {body : List Stmt} {mb : Env → Ms → T} {a : Addr} {oe : Obj} {cls : Value} {d : Option Addr} {pn : List (Addr × Obj)} (h : DSs (Y.suite a oe cls d pn) body mb) : PSs (Y.X.suite a ((a, oe) :: pn)) body (semS (Y.su0 a cls d) mb) := by
  obtain ⟨t, p, sd⟩ := h.ex
  refine ⟨fun pins s σ H Ed I ⟨w, env, ms, er, hr, q⟩ => p.run pins s σ H Ed I (sd w σ H env ms Ed (er.conv su0_su) hr ?_)⟩
  exact T.post_mono q (fun _ _ z w' H' σ' e hr' er' => z w' H' σ' e hr' (er'.conv su_su0)) (fun _ _ z w' H' v e hr' sv => z w' H' v e hr' (su_su0 _ _ _ sv)) (fun _ _ z w' H' σ' e hr' er' => z w' H' σ' e hr' (er'.conv su_su0)) (fun _ _ z w' H' σ' e hr' er' => z w' H' σ' e hr' (er'.conv su_su0))
    fun _ _ _ _ z w' H' σ' dd e hr' er' xd => z w' H' σ' dd e hr' (er'.conv su_su0) xd
inductive DHds (Y : Cy) : List ExceptHandler → List HdM → Prop
  | nil : DHds Y [] []
  | plain {x : Str} {cv : Value} {tst : Nat → Option Bool} {su : Env → Ms → T} {b₀ : Stmt} {suite : List Stmt} {np ph : Pos} {hds : List ExceptHandler} {r : List HdM} (hc : Names Y.X x cv) (ht : ∀ c b, tst c = some b → PySem.W.exmOne Y.X.K (.ref (Y.Γ.cls c)) cv = some b)
      (hs : ∀ (a : Addr) (oe : Obj) (cls : Value) (d : Option Addr) (pn : List (Addr × Obj)), Zc cls d oe → (∃ vs, oe.data = .fields vs) → DSs (Y.suite a oe cls d pn) (b₀ :: suite) su) (t : DHds Y hds r) :
      DHds Y (.ExceptHandler (some (.Name x np)) none (b₀ :: suite) ph :: hds) ((tst, none, su) :: r)
  | named {x n : Str} {i : Nat} {cv : Value} {tst : Nat → Option Bool} {su : Env → Ms → T} {b₀ : Stmt} {suite : List Stmt} {np ph : Pos} {hds : List ExceptHandler} {r : List HdM} (hc : Names Y.X x cv) (hi : Y.X.N[i]? = some n) (hln : Y.X.env.kindOf n = some .local) (ht : ∀ c b, tst c = some b → PySem.W.exmOne Y.X.K (.ref (Y.Γ.cls c)) cv = some b)
      (hs : ∀ (a : Addr) (oe : Obj) (cls : Value) (d : Option Addr) (pn : List (Addr × Obj)), Zc cls d oe → (∃ vs, oe.data = .fields vs) → DSs (Y.suite a oe cls d pn) (b₀ :: suite) su) (t : DHds Y hds r) :
      DHds Y (.ExceptHandler (some (.Name x np)) (some n) (b₀ :: suite) ph :: hds) ((tst, some i, su) :: r)
theorem envNoX_at (h : envNoX env = true) {i : Nat} {s : S} (e : env[i]? = some (some s)) : s.noX = true := List.all_eq_true.mp h _ (List.mem_of_getElem? e)
/-- without a caught exception, the slots mean the same in every suite -/
theorem ER.noX {Y2 : Cy} (hK : Y2.X.K = Y.X.K) (hG : Y2.Γ = Y.Γ) (h : envNoX env = true) (er : ER Y w σ env) : ER Y2 w σ env := by
  refine ⟨er.len, fun i s hs => ?_⟩
  obtain ⟨v, h1, h2⟩ := er.slot i s hs
  have := envNoX_at h hs
  refine ⟨v, h1, ?_⟩
  cases s with
  | d x => exact (show DR Y2.X.K Y2.Γ w.F x v by rw [hK, hG]; exact h2)
  | loc n => exact h2
  | exn c ds => cases this
theorem SR.noX' {Y2 : Cy} (hK : Y2.X.K = Y.X.K) (hG : Y2.Γ = Y.Γ) {s : S} {v : V} (h : s.noX = true) (sv : SR Y w s v) : SR Y2 w s v := by
  cases s with
  | d x => exact (show DR Y2.X.K Y2.Γ w.F x v by rw [hK, hG]; exact sv)
  | loc n => exact sv
  | exn c ds => cases h
/-- a suite's ends -/
theorem suite_ends {a : Addr} {cls : Value} {d : Option Addr} {sl : Option Nat} {t : T} (h : tP Y w Ed (finT (unsetT sl t))) : tP (Y.su0 a cls d) w (dSl Ed sl) t := by
  have nxc : ∀ {e : Env} {m : Ms} {Q : L2.St → Hp → Prop}, envNoX e = true → nxP Y w Q e m → nxP (Y.su0 a cls d) w Q e m := fun hx z w' H' σ' e' hr' er' => z w' H' σ' e' hr' (ER.noX (Y := Y.su0 a cls d) (Y2 := Y) rfl rfl hx er')
  have nxs : ∀ {i : Nat} {e : Env} {m : Ms} {Q : L2.St → Hp → Prop}, envNoX (e.set i none) = true → nxP Y w Q (e.set i none) m → nxP (Y.su0 a cls d) w (fun σ' H' => Q (σ'.set i none) H') e m := fun hx z w' H' σ' e' hr' er' =>
    z w' H' _ e' hr' (ER.noX (Y := Y.su0 a cls d) (Y2 := Y) rfl rfl hx (er'.unset _ none))
  cases t with
  | bad => cases sl <;> exact h.elim
  | ex c ds e m => cases sl <;> exact h.elim
  | rt s m =>
    have h : tP Y w Ed (finT (.rt s m)) := by cases sl <;> exact h
    unfold finT at h
    cases b : s.noX with
    | false => simp only [b] at h; exact h.elim
    | true =>
      simp only [b] at h
      have h : okP Y w Ed.rt s m := h
      have : okP (Y.su0 a cls d) w Ed.rt s m := fun w' H' v e hr' sv => h w' H' v e hr' (SR.noX' (Y := Y.su0 a cls d) (Y2 := Y) rfl rfl b sv)
      cases sl <;> exact this
  | nx e m =>
    cases sl with
    | none =>
      unfold finT unsetT at h
      cases b : envNoX e with
      | false => simp only [b] at h; exact h.elim
      | true => simp only [b] at h; exact nxc b h
    | some i =>
      unfold finT unsetT at h
      cases b : envNoX (e.set i none) with
      | false => simp only [b] at h; exact h.elim
      | true => simp only [b] at h; exact nxs b h
  | bk e m =>
    cases sl with
    | none =>
      unfold finT unsetT at h
      cases b : envNoX e with
      | false => simp only [b] at h; exact h.elim
      | true => simp only [b] at h; exact nxc b h
    | some i =>
      unfold finT unsetT at h
      cases b : envNoX (e.set i none) with
      | false => simp only [b] at h; exact h.elim
      | true => simp only [b] at h; exact nxs b h
  | ct e m =>
    cases sl with
    | none =>
      unfold finT unsetT at h
      cases b : envNoX e with
      | false => simp only [b] at h; exact h.elim
      | true => simp only [b] at h; exact nxc b h
    | some i =>
      unfold finT unsetT at h
      cases b : envNoX (e.set i none) with
      | false => simp only [b] at h; exact h.elim
      | true => simp only [b] at h; exact nxs b h
theorem suite_go {sl : Option Nat} {su : Env → Ms → T} {c : Nat} {ds : List D} {dd : Option Addr} {a : Addr} (hx : envNoX env = true) (er : ER Y w σ env) (hr : HR Y w H ms) (xd : XD Y.X.K Y.Γ w.F c ds dd) (h : tP Y w Ed (finT (unsetT sl (su (setX sl c ds env) ms)))) :
    semS (Y.su0 a (.ref (Y.Γ.cls c)) dd) su (dSl Ed sl) (eSl a σ sl) H := by
  refine ⟨w, setX sl c ds env, ms, ?_, hr, suite_ends h⟩
  have e0 : ER (Y.su0 a (.ref (Y.Γ.cls c)) dd) w σ env := ER.noX (Y := Y) (Y2 := Y.su0 a (.ref (Y.Γ.cls c)) dd) rfl rfl hx er
  cases sl with
  | none => exact e0
  | some i => exact e0.set (show SR (Y.su0 a (.ref (Y.Γ.cls c)) dd) w (.exn c ds) (.ref a) from ⟨⟨rfl, rfl⟩, xd⟩) i
theorem hd_list {hds : List ExceptHandler} {hm : List HdM} (h : DHds Y hds hm) : ∃ l, HdsA Y.X hds l ∧ ∀ (w : Wd) (Ed : Ends) (c : Nat) (ds : List D) (e : Env) (ms : Ms), tP Y w Ed (hdl hm c ds e ms) →
    ∀ w' H' σ' dd, Ext w w' → HR Y w' H' ms → ER Y w' σ' e → XD Y.X.K Y.Γ w'.F c ds dd → wAny Y.X.K Y.W Ed l (.ref (Y.Γ.cls c)) dd σ' H' := by
  induction h with
  | nil => exact ⟨[], .nil, fun w Ed c ds e ms q w' H' σ' dd ex hr er xd => q w' H' σ' dd ex hr er xd⟩
  | @plain x cv tst su b₀ suite np ph hds r hc ht hs t ih =>
    obtain ⟨l, hl, hw⟩ := ih
    refine ⟨(cv, none, fun a cls d => semS (Y.su0 a cls d) su) :: l, .plain hc (fun a oe cls d pn hz hf => su_pss (hs a oe cls d pn hz hf)) hl, fun w Ed c ds e ms q w' H' σ' dd ex hr er xd => ?_⟩
    unfold hdl at q
    cases hb : tst c with
    | none => rw [hb] at q; exact q.elim
    | some b =>
      rw [hb] at q
      refine ⟨b, ht c b hb, fun z a na => ?_, fun z => ?_⟩
      · subst z
        dsimp only at q
        cases hx : envNoX e with
        | false => rw [hx] at q; exact q.elim
        | true => rw [hx] at q; exact suite_go (sl := none) hx er hr xd (tP.ext ex q)
      · subst z
        exact hw w Ed c ds e ms q w' H' σ' dd ex hr er xd
  | @named x n i cv tst su b₀ suite np ph hds r hc hi hln ht hs t ih =>
    obtain ⟨l, hl, hw⟩ := ih
    refine ⟨(cv, some i, fun a cls d => semS (Y.su0 a cls d) su) :: l, .named hc hi hln (fun a oe cls d pn hz hf => su_pss (hs a oe cls d pn hz hf)) hl, fun w Ed c ds e ms q w' H' σ' dd ex hr er xd => ?_⟩
    unfold hdl at q
    cases hb : tst c with
    | none => rw [hb] at q; exact q.elim
    | some b =>
      rw [hb] at q
      refine ⟨b, ht c b hb, fun z a na => ?_, fun z => ?_⟩
      · subst z
        dsimp only at q
        cases hx : envNoX e with
        | false => rw [hx] at q; exact q.elim
        | true => rw [hx] at q; exact suite_go (sl := some i) hx er hr xd (tP.ext ex q)
      · subst z
        exact hw w Ed c ds e ms q w' H' σ' dd ex hr er xd
theorem s_try {k : Nat} {body : List Stmt} {h₀ : ExceptHandler} {hds : List ExceptHandler} {mb : Env → Ms → T} {hm : List HdM} {pos : Pos} (ok : CyOk Y k) (dk : DefOk Y)
    (hb : ∀ (W : WX) (pn : List (Addr × Obj)) (xe : Value → Shared → Prop), CyOk (Y.tr W pn xe) k → DSs (Y.tr W pn xe) body mb) (hh : DHds Y (h₀ :: hds) hm) : DS Y (.Try body (h₀ :: hds) [] [] pos) (sTry mb hm) := by
  obtain ⟨l, hl, hw⟩ := hd_list hh
  refine ⟨_, ps_try_any (tb := fun W => semS (Y.wW W) mb) dk.stk dk.frm ok.nd ok.tk (fun W pn xe tk own => tr_pss (hb W pn xe (ok.tr tk own))) hl, fun w σ H env ms Ed er hr h => ⟨w, env, ms, er.conv self_wW, hr, ?_⟩⟩
  unfold sTry at h
  have nxc : ∀ {e : Env} {m : Ms} {W : WX} {Q : L2.St → Hp → Prop}, nxP Y w Q e m → nxP (Y.wW W) w Q e m := fun z w' H' σ' e' hr' er' => z w' H' σ' e' hr' (er'.conv wW_self)
  cases hm' : mb env ms with
  | bad => rw [hm'] at h; exact h.elim
  | nx e m => rw [hm'] at h; exact nxc h
  | bk e m => rw [hm'] at h; exact nxc h
  | ct e m => rw [hm'] at h; exact nxc h
  | rt s m => rw [hm'] at h; exact fun w' H' v e hr' sv => h w' H' v e hr' (wW_self _ _ _ sv)
  | ex c ds e m =>
    rw [hm'] at h
    exact fun w' H' σ' dd ex hr' er' xd => hw w Ed c ds e m h w' H' σ' dd ex hr' (er'.conv wW_self) xd
/-! ### the caught exception -/
/-- e.f -/
def mXat (tab : List (Nat × Nat)) (me : Env → Ms → R S) : Env → Ms → R S := fun env ms => match me env ms with
  | .ok (.exn c ds) ms1 => match tab.lookup c with
    | some i => match ds[i]? with
      | some d => .ok (.d d) ms1
      | none => .bad
    | none => .bad
  | _ => .bad
structure XatOk (Y : Cy) (fl : Str) (c i : Nat) : Prop where
  xf : XfC Y.X.K (Y.Γ.cls c)
  no : PySem.W.findIn Y.X.K (.ref (Y.Γ.cls c)) fl = some none
  at_ : (Y.Γ.fld c)[i]? = some fl
  fst : ((Y.Γ.fld c).take i).contains fl = false
theorem e_xat {a : Addr} {oe : Obj} {cls : Value} {d : Option Addr} {pn : List (Addr × Obj)} {tab : List (Nat × Nat)} {e : Expr} {me : Env → Ms → R S} {fl : Str} {pos : Pos} (hz : Zc cls d oe) (hf : ∃ vs, oe.data = .fields vs) (he : DE (Y.suite a oe cls d pn) e me)
    (ht : Tab (XatOk (Y.suite a oe cls d pn) fl) tab) (hb : attributeBase e fl (Y.suite a oe cls d pn).X.env (eval e (Y.suite a oe cls d pn).X.env) = eval e (Y.suite a oe cls d pn).X.env := by rfl) :
    DE (Y.suite a oe cls d pn) (.Attribute e fl pos) (mXat tab me) := by
  obtain ⟨t, p, sd⟩ := he.ex
  refine ⟨fun σ H Q => ∃ c i, tab.lookup c = some i ∧ tXf a cls d (Y.Γ.cls c) fl t σ H Q, ⟨fun pins s σ H Q I ⟨c, i, hl, h⟩ => ?_⟩, fun w σ H env ms Q er hr h => ?_⟩
  · have k := ht.at_ hl
    exact (pe_xf (X := Y.X) k.xf k.no hz hf p hb).run pins s σ H Q I h
  · have key := h
    unfold mXat at h
    cases hm : me env ms with
    | bad => rw [hm] at h; exact h.elim
    | ex c ds ms1 => rw [hm] at h; exact h.elim
    | ok x ms1 =>
      rw [hm] at h
      cases x with
      | d x => exact h.elim
      | loc n => exact h.elim
      | exn c ds =>
        dsimp only at h
        cases hl : tab.lookup c with
        | none => rw [hl] at h; exact h.elim
        | some i =>
          rw [hl] at h
          dsimp only at h
          cases hd : ds[i]? with
          | none => rw [hd] at h; exact h.elim
          | some dd =>
            rw [hd] at h
            refine ⟨c, i, hl, sd w σ H env ms _ er hr ?_⟩
            rw [hm]
            intro w1 H1 v e1 hr1 sv
            obtain ⟨⟨rfl, ec⟩, xd⟩ := sv
            have k := ht.at_ hl
            refine ⟨rfl, ec, ?_⟩
            rcases xd with ⟨f0, _⟩ | ⟨ad, xs, ed, k1, k2, k3⟩
            · have := k.at_
              rw [f0] at this
              simp at this
            · obtain ⟨v, hv, rv⟩ := DRs.get k3 hd
              refine ⟨ad, _, v, ed, hr1.sub _ _ k1, zip_at k.at_ (fun j hj z => ?_) hv, h w1 H1 v e1 hr1 rv⟩
              have : fl ∈ ((Y.suite a oe cls d pn).Γ.fld c).take i := List.mem_of_getElem? (i := j) (by rw [List.getElem?_take, if_pos hj]; exact z)
              have z2 := List.contains_iff_mem.mpr this
              rw [k.fst] at z2
              cases z2
/-- isinstance(e, C), C a class of the module -/
theorem exc_kitx {K : PySem.W.Frag} {x D : Addr} {od : Option Obj} {ox : Obj} (k : ExcC K D) : True := trivial
end
end Fw
set_option Elab.async false
set_option linter.all false
set_option maxRecDepth 100000
set_option maxHeartbeats 4000000
/-! Fw18: isinstance of the caught exception. -/
namespace PySem.FwX
open PySem.W PySem.Calls PyProof.Rows PySem.Spec L2
section
variable {prog : Program} {w : World} {A : Around} {E : Value → Shared → Prop} {s : Shared} {K : Frag} {x D : Addr} {ox : Obj} {od : Option Obj}
theorem find_class {a g : Value} {name : Str} (hc : (clsIn K D).isSome = true) (ha : findIn K (.ref D) name = some (some a)) (hg : specialIn K a "__get__" = some (some g)) (ht : takesIn K a = some true) : findObj K D od name = some (.bind g a) := by
  cases od with
  | some o => exact findObj_data hc ha hg ht
  | none => exact findObj_dataN hc ha hg ht
theorem class_of_exc {Q : Option Value → Shared → Prop} (k : ExcC K D) (X : K.In s.heap) (I : InstAt s.heap x ox D od) (h : Q (some (.ref D)) { s with toks := s.toks + 1 }) : wpAny (model prog w) A (getAttr? (.ref x) "__class__") Q E s := by
  have hcl : (clsIn K D).isSome = true := by obtain ⟨cd, e, _⟩ := any_some k.hd; rw [e]; rfl
  have ff := find_class (od := od) hcl k.ha k.hn k.ht
  obtain ⟨h0, g0, d0, t0, o0⟩ := s
  have lt := I.type (M := model prog w)
  have lg := looks_findIn (M := model prog w) X k.hg
  have la := looks_findIn (M := model prog w) X k.hk
  have lf := looks_find (M := model prog w) X I ff
  have lb : Looks (model prog w) h0 (isInstance (.ref x) (.type "BaseException")) true := lt.andThen (looks_subIn X k.hs)
  have ne : (Value.builtin "BaseException.__getattribute__" == Value.builtin "object.__getattribute__") = false := by decide +kernel
  have ne2 : (onTheHeap (Value.ref D) && Value.builtin "BaseException.__getattribute__" == Value.builtin "object.__getattribute__") = false := by rw [ne]; rfl
  unfold getAttr? getAttrBy? getAttrBy
  refine wpAny_bind (wpAny_mkText (wpAny_bind (wpAny_attempt (wpAny_holding (wpAny_bind (lt.at (wpAny_bind (lg.at ?_))))))))
  show wpAny _ _ (if (onTheHeap (Value.ref D) && Value.builtin "BaseException.__getattribute__" == Value.builtin "object.__getattribute__") = true then _ else _) _ _ _
  rw [ne2, if_neg Bool.false_ne_true]
  unfold getAttrByItsOwn hookBefore
  refine wpAny_bind ?_
  rw [if_pos (show onTheHeap (Value.ref D) = true from rfl)]
  refine la.at (wpAny_bind (wpAny_attempt (wpAny_holding ?_)))
  unfold callGetattribute
  rw [show (false && onTheHeap (Value.builtin "BaseException.__getattribute__")) = false from rfl, if_neg Bool.false_ne_true]
  unfold boundAndCalled
  rw [PySem.F.excAttr_ValueError.ga.bind (.ref x)]
  refine wpAny_bind (wpAny_pure ?_)
  show wpAny _ _ (call (.builtin "BaseException.__getattribute__") [.ref x, .str "__class__" t0]) _ _ _
  refine wpAny_call (codeAny_call_builtin PySem.F.excAttr_ValueError.ga.plain PySem.F.entry_bexc_ga ?_)
  refine @check_slot (model prog w) _ _ ⟨h0, g0, d0, t0 + 1, o0⟩ "BaseException.__getattribute__" "BaseException" "__getattribute__" (.ref x) [.str "__class__" t0] [] _ (by decide +kernel) (by decide +kernel) lb (PySem.F.args_bexc_ga (.ref x) (.str "__class__" t0)) ?_
  unfold Builtin.«object.__getattribute__»
  refine wpAny_bind (wpAny_of_eq (a := ((Value.ref x : Value), [Value.str "__class__" t0])) (by first | rfl | (simp only [slotArgs]; rfl)) ?_)
  refine wpAny_bind (wpAny_pure (wpAny_bind (lt.at (wpAny_bind (lf.at ?_)))))
  show wpAny _ _ (holding [Value.builtin "object.__class__"] (call (.builtin "getset_descriptor.__get__") [.builtin "object.__class__", .ref x, .ref D]) >>= ret) _ _ _
  refine wpAny_bind (wpAny_holding (wpAny_call (class_get (s := ⟨h0, g0, d0, t0 + 1, o0⟩) (ox := ox) (od := od) X I k.hm ?_)))
  refine wpAny_pure ?_
  show wpAny _ _ (handedOut (.ref D)) _ _ _
  rw [handedOut_of (v := .ref D) rfl]
  first
    | exact wpAny_pure (wpAny_pure h)
    | exact wpAny_pure h
    | exact wpAny_pure (wpAny_bind (wpAny_pure (wpAny_pure h)))
theorem kitX_exc (k : ExcC K D) (od : Option Obj) : KitX K (.ref x) (.ref D) (fun h => InstAt h x ox D od) where
  ty := fun _ _ _ I => I.type
  it := fun _ _ X _ => by
    obtain ⟨cdD, hcD, _⟩ := any_some k.hd
    unfold clsIn at hcD
    split at hcD
    · rename_i c2 d2 cd2 sl2 ho
      intro A2 Q2 E2 s2 kp q
      unfold isType loadHead
      exact wpAny_bind (wpAny_loadPart (kp _ _ (X _ _ ho)) (wpAny_pure q))
    · cases hcD
  ne := fun h tp dd its n sl X htp => by
    obtain ⟨cdD, hcD, _⟩ := any_some k.hd
    refine Bool.eq_false_iff.mpr fun q => ?_
    have e : D = tp := Value.ref.inj (beq_iff_eq.mp q)
    subst e
    unfold clsIn at hcD
    split at hcD
    · rename_i c2 d2 cd2 sl2 ho
      have z := (X _ _ ho).symm.trans htp
      cases z
    · cases hcD
  ca := fun X I q => class_of_exc k X I q
end
end PySem.FwX
namespace Fw
open PySem L2 PySem.Spec PyProof.Rows
section
variable {Y : Cy} {w w1 w2 : Wd} {σ : L2.St} {H H1 H2 : Hp} {env : Env} {ms ms1 ms2 : Ms}
structure XisOk (Y : Cy) (xc kc : List Nat) (sub : Nat → Nat → Bool) : Prop where
  cls : ∀ c ∈ xc, ExcC Y.X.K (Y.Γ.cls c)
  sub : ∀ c ∈ xc, ∀ m ∈ kc, PySem.W.kitOne Y.X.K (.ref (Y.Γ.cls c)) (.ref (Y.Γ.fn m)) = some (sub c m)
def cXis (xc kc : List Nat) (sub : Nat → Nat → Bool) : List S → Ms → R S := fun ss ms => match ss with
  | [.exn c _, .d (.fn m)] => match xc.contains c && kc.contains m with
    | true => .ok (.d (.bl (sub c m))) ms
    | false => .bad
  | _ => .bad
theorem cd_xis {a : Addr} {oe : Obj} {cls : Value} {d : Option Addr} {pn : List (Addr × Obj)} {xc kc : List Nat} {sub : Nat → Nat → Bool} (hz : Zc cls d oe) (hf : ∃ vs, oe.data = .fields vs) (ok : XisOk (Y.suite a oe cls d pn) xc kc sub) : CallD (Y.suite a oe cls d pn) (.builtin "isinstance") (cXis xc kc sub) := by
  refine ⟨⟨fun xs H Q => ∃ (c m : Nat), xs = [.ref a, .ref (Y.Γ.fn m)] ∧ cls = .ref (Y.Γ.cls c) ∧ c ∈ xc ∧ m ∈ kc ∧ (∀ dd, d = some dd → ∃ fs, H dd = some (.xd fs)) ∧ Q (.bl (sub c m)) H, fun pins s σ H xs us Q I r h => ?_, fun w H ms ss vs Q hr sv h => ?_⟩, fun ss ms c ds ms' h => ?_⟩
  · obtain ⟨c, m, rfl, ec, hc, hm, hd, q⟩ := h
    cases r with
    | cons rx rr =>
      cases rr with
      | cons rt rr =>
        cases rr
        cases rx
        cases rt
        obtain ⟨hget, _⟩ := I.pin (a, oe) (List.mem_append.mpr (.inl List.mem_cons_self))
        obtain ⟨vs, hv⟩ := hf
        have J : ∃ od, PySem.W.InstAt s.heap a oe (Y.Γ.cls c) od := by
          cases d with
          | none =>
            obtain ⟨oc, odd, oda, osl⟩ := oe
            obtain ⟨h1, h2⟩ := hz
            dsimp only at h1 h2 hv
            subst h1 h2 hv
            exact ⟨none, hget, ec, rfl, trivial⟩
          | some dd =>
            obtain ⟨fs, hfs⟩ := hd dd rfl
            have hx : ObjOk Y.X.prog Y.X.w H s.heap dd (.xd fs) := I.hok dd _ hfs
            obtain ⟨mA, hns, _⟩ := hx
            obtain ⟨od, ho, _⟩ := lookIn_ns hns
            exact ⟨some od, hget, hz.1.trans ec, by unfold PySem.W.notCls; rw [hv] <;> rfl, by rw [hz.2]; exact ho⟩
        obtain ⟨od, J⟩ := J
        exact PySem.W.kia_one (PySem.FwX.kitX_exc (ok.cls c hc) od) I.kIn J (ok.sub c hc m hm) (fun z => nomatch z) fun tk => ⟨.bl (sub c m), H, I.kept (t' := tk) fun _ _ z => z, rfl, q⟩
  · unfold cXis at h
    split at h
    · rename_i c ds m
      obtain ⟨v, u, rfl, r1, r2⟩ := SRs.two sv
      obtain ⟨⟨rfl, ec⟩, xd⟩ := r1
      cases r2
      cases hb : (xc.contains c && kc.contains m) with
      | false => rw [hb] at h; exact h.elim
      | true =>
        rw [hb] at h
        obtain ⟨b1, b2⟩ := Bool.and_eq_true_iff.mp hb
        refine ⟨c, m, rfl, ec, List.contains_iff_mem.mp b1, List.contains_iff_mem.mp b2, fun dd hd => ?_, h.at (Ext.refl w) hr rfl⟩
        rcases xd with ⟨_, _, e⟩ | ⟨ad, xs, e, k1, _⟩
        · have e : d = none := e
          rw [e] at hd; cases hd
        · have e : d = some ad := e
          rw [e] at hd; cases hd
          exact ⟨_, hr.sub _ _ k1⟩
    · exact h.elim
  · unfold cXis at h
    split at h
    · split at h <;> cases h
    · cases h
end
end Fw
set_option Elab.async false
set_option linter.all false
set_option maxRecDepth 100000
set_option maxHeartbeats 4000000
/-! Fw19: str and repr of own instances; f-strings. -/
namespace Fw
open PySem L2 PySem.Spec PyProof.Rows

section
variable {Y : Cy} {w w1 w2 : Wd} {σ : L2.St} {H H1 H2 : Hp} {env : Env} {ms ms1 ms2 : Ms} {k n : Nat} {e : Expr} {es : List Expr} {me : Env → Ms → R S} {pos : Pos}
/-- a special method of a class, n values behind self -/
structure SpOk (Y : Cy) (k : Nat) (mth : Str) (n c : Nat) (g : List S → Ms → R S) : Prop where
  ex : ∃ (f : Addr) (fd : FuncData) (ps : List Str) (sem : List S → Ms → R S) (pk : List Nat) (dvs : List V) (cs : List S) (j : Nat), PySem.W.findIn Y.X.K (.ref (Y.Γ.cls c)) mth = some (some (.ref f)) ∧ PySem.W.isFn Y.X.K (.ref f) = true ∧ DFY Y j f fd ps sem ∧ j + 3 ≤ k ∧
    Bd Y.X.K fd ps (n + 1) [] pk dvs ∧ (∀ w, SRs Y w cs dvs) ∧ g = bndS sem pk cs
theorem callSem_nox {sem : List S → Ms → R S} {ss : List S} {Q : VK} (h : (noEx (callSem sem ss ms)).post (okP Y w Q) (fun _ _ _ => False)) : (callSem sem ss ms).post (okP Y.nox w Q) (exP Y.nox w σ) := by
  cases hc : callSem sem ss ms with
  | bad => rw [hc] at h; exact h
  | ex _ _ _ => rw [hc] at h; exact h.elim
  | ok s' ms' =>
    rw [hc] at h
    intro w' H' v e' hr' sv
    refine h w' H' v e' hr' ?_
    cases s' <;> exact sv
/-- it runs, within a frame of the machine -/
theorem sp_run {A : Around} {j : Nat} {f : Addr} {fd : FuncData} {ps : List Str} {sem : List S → Ms → R S} {pk : List Nat} {dvs : List V} {cs : List S} {pins : List (Addr × Obj)} {s : Shared} {Q : VK} {E : Value → Shared → Prop} {us : List Value} {vs : List V} {ss : List S} (hr : Room j A) (gd : A.guards = some []) (F : DFY Y j f fd ps sem)
    (hb : Bd Y.X.K fd ps n [] pk dvs) (hcs : ∀ w, SRs Y w cs dvs) (I : Inv Y.X pins σ H s) (e0 : Env0 Y.X.prog Y.X.w Y.X.K Y.X.mg Y.X.base A Y.X.stack s H) (hl : us.length = n) (r : Vals vs us) (hh : HR Y w H ms) (sv : SRs Y w ss vs)
    (h : (noEx (bndS sem pk cs ss ms)).post (okP Y w Q) (fun _ _ _ => False)) : wpAny (model Y.X.prog Y.X.w) A (call (.ref f) us) (EP Y.X pins σ Q) E s := by
  obtain ⟨dl, rd, to⟩ := hb.to
  have sv0 : SRs Y.nox w (ss ++ cs) (vs ++ dvs) := Paired.mapP (sv.append (hcs w)) fun x v z => by cases x <;> exact z
  have r2 : Vals (pick pk (vs ++ dvs)) (pick pk (us ++ [] ++ dl)) := pick_paired (by rw [List.append_nil]; exact r.append rd) pk
  have l4 : (pick pk (vs ++ dvs)).length = ps.length := by
    rw [pick_len, hb.len]
    intro i hi
    have := hb.rng i hi
    have l5 : vs.length = n := by rw [r.length, hl]
    rw [List.length_append, l5]
    simpa using this
  refine wpAny_call (codeAny_mono (code_dfA (Y := Y.nox) takes_none5 hr gd F (to s us [] I.kIn hl rfl) l4 (I.wish _) e0 r2 hh (pick_rel sv0) (callSem_nox h)) fun rr s' hq => ?_)
  cases rr with
  | error er => exact False.elim hq
  | ok fw =>
    cases fw with
    | ret u =>
      obtain ⟨v, H', I3, rv, q3⟩ := hq
      exact ⟨v, H', I3.unwish, rv, q3⟩
    | next => exact False.elim hq
    | brk => exact False.elim hq
    | cont => exact False.elim hq
/-- the answer is a text -/
def asStr (r : R S) : R S := match r with
  | .ok (.d (.str y)) ms => .ok (.d (.str y)) ms
  | _ => .bad
def cOwn (tab : MTab) : List S → Ms → R S := fun ss ms => match ss with
  | [.d (.obj c ds)] => match tab.lookup c with
    | some g => asStr (g [.d (.obj c ds)] ms)
    | none => .bad
  | _ => .bad
theorem asStr_ne {r : R S} : ∀ c ds ms', asStr r ≠ .ex c ds ms' := by
  intro c ds ms' h
  unfold asStr at h
  split at h <;> cases h
theorem cOwn_ne {tab : MTab} : ∀ ss ms c ds ms', cOwn tab ss ms ≠ .ex c ds ms' := by
  intro ss ms c ds ms' h
  unfold cOwn at h
  split at h
  · split at h
    · exact asStr_ne _ _ _ h
    · cases h
  · cases h
theorem asStr_post {r : R S} {Q : VK} (h : (asStr r).post (okP Y w Q) (fun _ _ _ => False)) : (noEx r).post (okP Y w fun v H' => ∃ y, v = .str y ∧ Q v H') (fun _ _ _ => False) := by
  unfold asStr at h
  split at h
  · rename_i y ms'
    intro w' H' v e' hr' sv
    exact ⟨y, sv, h w' H' v e' hr' sv⟩
  · exact h.elim
/-- what such a call is read as -/
def rOwn (Y : Cy) (k : Nat) (mth : Str) : List V → Hp → VK → Prop := fun xs H Q => ∃ a c dx fs ds w ms g, xs = [.ref a] ∧ H a = some (.ins (Y.Γ.cls c) dx fs) ∧ SpOk Y k mth 0 c g ∧ HR Y w H ms ∧ SR Y w (.d (.obj c ds)) (.ref a) ∧ (asStr (g [.d (.obj c ds)] ms)).post (okP Y w Q) (fun _ _ _ => False)
theorem snd_own {mth : Str} {tab : MTab} (ht : Tab (SpOk Y k mth 0) tab) : SndC Y (rOwn Y k mth) (cOwn tab) := by
  intro w H ms ss vs Q hr sv h
  unfold cOwn at h
  split at h
  · rename_i c ds
    obtain ⟨v, rfl, r⟩ := SRs.one sv
    split at h
    · rename_i g hl
      have r0 := r
      obtain ⟨a, dx, xs, rfl, k1, k2, k3⟩ := r
      exact ⟨a, c, dx, _, ds, w, ms, g, rfl, hr.sub _ _ k1, ht.at_ hl, hr, r0, h⟩
    · exact h.elim
  · exact h.elim
theorem cd_strOwn {tab : MTab} (ok : CyOk Y k) (ht : Tab (SpOk Y k "__str__" 0) tab) : CallD Y (.type "str") (cOwn tab) := by
  refine ⟨⟨rOwn Y k "__str__", fun pins s σ H xs us Q I r h => ?_, snd_own ht⟩, cOwn_ne⟩
  obtain ⟨a, c, dx, fs, ds, w, ms, g, rfl, ea, sp, hr, sr, q⟩ := h
  obtain ⟨u, rfl, ru⟩ := vals1 r
  obtain rfl : u = Value.ref a := ru
  obtain ⟨f, fd, ps, sem, pk, dvs, cs, j, e1, e2, F, hj, hb, hcs, rfl⟩ := sp.ex
  obtain ⟨mA, O, _, _, _, _⟩ := ins_get I.hok ea
  obtain ⟨od, J, _⟩ := O.look
  have hk : Room (j + 1 + 1 + 1) Y.X.A := ok.hr.mono hj
  have hu := hk.in1.in1.units
  refine PySem.W.kso_call (by omega) I.kIn J e1 e2 (wpAny_mono (sp_run (Q := fun v H' => ∃ y, v = .str y ∧ Q v H') (hk.in1.in1.mono (Nat.le_succ j)) ok.gd F hb hcs I I.env0.in1.in1 rfl r hr (.cons sr .nil) (asStr_post q)) (fun v s' hv => ?_) fun _ _ z => z)
  obtain ⟨v', H', I', rv, y, ey, q'⟩ := hv
  subst ey
  obtain ⟨t, rfl⟩ := rv
  exact ⟨.str y, H', I', ⟨t, rfl⟩, q'⟩
theorem frame_of {pins : List (Addr × Obj)} {s : Shared} (I : Inv Y.X pins σ H s) : ∃ m, Fr Y.X.base Y.X.env.locals s.heap m := by
  obtain ⟨m, hn, _⟩ := I.loc
  exact ⟨m, hn, I.bk, Nat.le_trans I.ok.bsz I.ok.above⟩
theorem cd_reprOwn {tab : MTab} (ok : CyOk Y k) (ht : Tab (SpOk Y k "__repr__" 0) tab) : CallD Y (.builtin "repr") (cOwn tab) := by
  refine ⟨⟨rOwn Y k "__repr__", fun pins s σ H xs us Q I r h => ?_, snd_own ht⟩, cOwn_ne⟩
  obtain ⟨a, c, dx, fs, ds, w, ms, g, rfl, ea, sp, hr, sr, q⟩ := h
  obtain ⟨u, rfl, ru⟩ := vals1 r
  obtain rfl : u = Value.ref a := ru
  obtain ⟨f, fd, ps, sem, pk, dvs, cs, j, e1, e2, F, hj, hb, hcs, rfl⟩ := sp.ex
  obtain ⟨mA, O, _, _, _, _⟩ := ins_get I.hok ea
  obtain ⟨od, J, _⟩ := O.look
  have hk : Room (j + 1 + 1 + 1) Y.X.A := ok.hr.mono hj
  have hu := hk.in1.in1.units
  have hu1 := hk.in1.units
  obtain ⟨m, Fr0⟩ := frame_of I
  refine PySem.W.repr_K (by omega) Fr0 I.mod.kin J e1 e2 (wpAny_mono (sp_run (Q := fun v H' => ∃ y, v = .str y ∧ Q v H') (hk.in1.mono (Nat.le_trans (Nat.le_succ j) (Nat.le_succ _))) ok.gd F hb hcs I I.env0.in1 rfl r hr (.cons sr .nil) (asStr_post q)) (fun v s' hv => ?_) fun _ _ z => z)
  obtain ⟨v', H', I', rv, y, ey, q'⟩ := hv
  subst ey
  obtain ⟨t, rfl⟩ := rv
  exact ⟨.str y, H', I', ⟨t, rfl⟩, q'⟩

/-! ### f'..' -/
def fmtS (s : S) (ms : Ms) : R S := match s with
  | .d (.str y) => match few y.length with
    | true => .ok (.d (.str y)) ms
    | false => .bad
  | .d (.int i) => match showI i with
    | true => .ok (.d (.str (toString i))) ms
    | false => .bad
  | _ => .bad
def mFmt (me : Env → Ms → R S) : Env → Ms → R S := fun env ms => (me env ms).bind fmtS
theorem e_fmt (h : DE Y e me) : DE Y (.FormattedValue e (-1) none pos) (mFmt me) := by
  obtain ⟨t, p, s⟩ := h.ex
  refine ⟨_, pe_fmt p, fun w σ H env ms Q er hr h => ?_⟩
  refine s.go er hr h fun x ms1 w1 H1 v e1 er1 hr1 sv h1 => ?_
  unfold fmtS at h1
  cases x with
  | loc n => exact h1.elim
  | exn c ds => exact h1.elim
  | d x =>
    cases x with
    | str y =>
      cases sv
      dsimp only at h1
      cases f : few y.length with
      | false => rw [f] at h1; exact h1.elim
      | true => rw [f] at h1; exact .inl ⟨y, rfl, few_ok f, h1.at e1 hr1 rfl⟩
    | int i =>
      cases sv
      dsimp only at h1
      cases f : showI i with
      | false => rw [f] at h1; exact h1.elim
      | true => rw [f] at h1; exact .inr ⟨i, rfl, showI_ok f, h1.at e1 hr1 rfl⟩
    | _ => exact h1.elim
def mJs : List (Env → Ms → R S) → Str → Env → Ms → R S
  | [], acc, _, ms => .ok (.d (.str acc)) ms
  | m :: r, acc, env, ms => (m env ms).bind fun s ms1 => match s with
    | .d (.str y) => match few (acc ++ y).length with
      | true => mJs r (acc ++ y) env ms1
      | false => .bad
    | _ => .bad
inductive DJ (Y : Cy) : List Expr → List (Env → Ms → R S) → Prop where
  | nil : DJ Y [] []
  | cons {e : Expr} {m : Env → Ms → R S} {es : List Expr} {r : List (Env → Ms → R S)} (h : DE Y e m) (t : DJ Y es r) : DJ Y (e :: es) (m :: r)
theorem js_ok {ms0 : List (Env → Ms → R S)} (h : DJ Y es ms0) : ∃ ts, PJ Y.X es ts ∧ ∀ (acc : Str) (w : Wd) (σ : L2.St) (H : Hp) (env : Env) (ms : Ms) (Q : VK), ER Y w σ env → HR Y w H ms → (mJs ms0 acc env ms).post (okP Y w Q) (exP Y w σ) → tJs ts acc σ H fun out H1 => Q (.str out) H1 := by
  induction h with
  | nil => exact ⟨[], .nil, fun acc w σ H env ms Q er hr q => q.at (Ext.refl w) hr rfl⟩
  | @cons e m es r h t ih =>
    obtain ⟨tt, p, s⟩ := h.ex
    obtain ⟨ts, pt, ht⟩ := ih
    refine ⟨tt :: ts, .cons p pt, fun acc w σ H env ms Q er hr q => ?_⟩
    refine s.go er hr q fun x ms1 w1 H1 v e1 er1 hr1 sv h1 => ?_
    cases x with
    | loc n => exact h1.elim
    | exn c ds => exact h1.elim
    | d x =>
      cases x with
      | str y =>
        cases sv
        dsimp only at h1
        cases f : few (acc ++ y).length with
        | false => rw [f] at h1; exact h1.elim
        | true =>
          rw [f] at h1
          exact ⟨y, rfl, few_ok f, ht (acc ++ y) w1 σ H1 env ms1 Q er1 hr1 (R.post_mono h1 (fun _ _ z => z.ext e1) fun _ _ _ z => z)⟩
      | _ => exact h1.elim
theorem e_joined {v1 v2 : Expr} {rest : List Expr} {ms0 : List (Env → Ms → R S)} (h : DJ Y (v1 :: v2 :: rest) ms0) : DE Y (.JoinedStr (v1 :: v2 :: rest) pos) (mJs ms0 Str.empty) := by
  obtain ⟨ts, p, s⟩ := js_ok h
  exact ⟨_, pe_joined p, fun w σ H env ms Q er hr q => s Str.empty w σ H env ms Q er hr q⟩
theorem e_joined1 (h : DE Y e me) : DE Y (.JoinedStr [e] pos) me := by
  obtain ⟨t, p, s⟩ := h.ex
  exact ⟨_, pe_joined1 p, s⟩
end
end Fw
set_option Elab.async false
set_option linter.all false
set_option maxRecDepth 100000
set_option maxHeartbeats 4000000
/-! Fw20: the law's call; the head's facts. -/
namespace Fw
open PySem L2 PySem.Spec PyProof.Rows

/-- the script, as the law's def is handed it -/
def scr (ns : List Int) : S := .d (.frz (ns.map .int))
theorem drs_ints {K : PySem.W.Frag} {Γ : G} {F : Hp} : ∀ ns : List Int, DRs K Γ F (ns.map .int) (ns.map V.int)
  | [] => rfl
  | n :: ns => ⟨_, _, rfl, rfl, drs_ints ns⟩
theorem law_df {P : Program} {w : World} {K : PySem.W.Frag} {mg mb : Str → Option Value} {Γ : G} {k : Nat} {fa a : Addr} {fd : FuncData} {x : Str} {sem : List S → Ms → R S} {s1 : Shared} {vs : List Value} {ns : List Int}
    (KX : K.In s1.heap) (hg : s1.heap.Ns mainGlobals mg) (hb : s1.heap.Ns builtinsNs mb) (hbb : ∀ x : Str, x ≠ "__name__" → mb x = bootBuiltins x) (hlim : s1.heap.NoLimit) (h0 : s1.gens = #[])
    (ha : s1.heap.get? a = some { cls := .type "list", data := .seq vs.toArray }) (hi : IntsAre vs ns) (hl : ns.length ≤ sizeLine) (hr : Room k callerA)
    (F : ∀ base : Heap, K.In base → base.Ns mainGlobals mg → DF P w K mg base Γ k fa fd [x] sem) (hbind : ∀ (s : Shared) (u : Value), BindsTo s fd ⟨[u], []⟩ [(x, u)])
    (hs : ∃ ms', sem [scr ns] [] = .ok (.d (.bl true)) ms') :
    codeAny (model P w) callerA (.call (.ref fa) ⟨[.ref a], []⟩) (fun r s' => r = .ok (.ret (.bool true)) ∧ OldK s1.heap s'.heap ∧ s'.os = s1.os ∧ AllBare s'.gens) s1 := by
  have rv := vals_ints hi
  have lv := hi.length
  have core : ∀ H : Hp, Only H → SqL K H a (ns.map V.int) → HOk P w H s1.heap → (∀ b, H b ≠ none → b = a) → (H a ≠ none → K.lookup a = none) →
      codeAny (model P w) callerA (.call (.ref fa) ⟨[.ref a], []⟩) (fun r s' => r = .ok (.ret (.bool true)) ∧ OldK s1.heap s'.heap ∧ s'.os = s1.os ∧ AllBare s'.gens) s1 := by
    intro H only hS hok hA hK
    have at_a : ∀ {b : Addr} {u : HO}, H b = some u → b = a := fun {b u} q => hA b (by rw [q]; simp)
    have noDict : ∀ {b : Addr} {o : Obj} {es : Array DictEntry} {ep : Nat}, s1.heap.get? b = some o → o.data = .dict es ep → H b = none := fun {b o es ep} e d => by
      cases q : H b with
      | none => rfl
      | some u =>
        have z := at_a q
        subst z
        rw [ha] at e; cases e
        have d2 : Data.seq vs.toArray _ = Data.dict es ep := d
        cases d2
    have keepNs : ∀ {b : Addr} {m : Str → Option Value}, s1.heap.Ns b m → (hidT s1.heap H).Ns b m := fun {b m} ⟨o, es, ep, e, d, r⟩ => ⟨o, es, ep, hidT_get e (noDict e d), d, r⟩
    have kb : K.In (hidT s1.heap H) := fun b o e => hidT_get (KX b o e) (by
      cases q : H b with
      | none => rfl
      | some u =>
        have z := at_a q
        subst z
        rw [hK (by rw [q]; simp)] at e; cases e)
    have md : Mod K mg (hidT s1.heap H) := ⟨kb, keepNs hg, ⟨mb, keepNs hb, hbb⟩, let ⟨mc, q1, q2⟩ := hlim; ⟨mc, keepNs q1, q2⟩⟩
    have e0 : Env0 P w K mg (hidT s1.heap H) callerA [] s1 H := ⟨rfl, md, fun b o e => of_hidT e, Nat.le_of_eq (hidT_size _ _), trivial, fun b z => absurd (show b ∈ ([] : List Addr) from z) (by simp), hok, .of_eq h0⟩
    have hr0 : HR0 K Γ ⟨H, fun _ => none, []⟩ H [] := ⟨fun _ _ e => e, fun _ _ e => (nomatch e), fun _ _ e => (nomatch e), rfl, fun i j a c c' e => by simp at e, fun n a c e => by simp at e, fun n a c e => by simp at e⟩
    have sr0 : SRs0 K Γ ⟨H, fun _ => none, []⟩ [scr ns] [.ref a] := .cons ⟨a, _, rfl, hS, drs_ints ns⟩ .nil
    obtain ⟨ms', hs'⟩ := hs
    refine codeAny_mono ((F _ kb (keepNs hg)).run callerA [] s1 H ⟨[.ref a], []⟩ [.ref a] [.ref a] [scr ns] [] ⟨H, fun _ => none, []⟩ (fun v _ => v = .bl true) (fun _ _ _ => False) hr rfl e0 (hbind s1 (.ref a)) (.cons rfl .nil) rfl hr0 sr0 (by rw [hs']; exact fun w' H' v _ _ sv => sv)) fun r s' h => ?_
    cases r with
    | error e =>
      obtain ⟨_, _, _, _, _, _, _, _, _, _, _, _, z⟩ := h
      exact z.elim
    | ok fl =>
      cases fl with
      | next => exact False.elim h
      | brk => exact False.elim h
      | cont => exact False.elim h
      | ret u =>
        obtain ⟨v, H', os, bare, un, hok', r', q⟩ := h
        have q2 : v = .bl true := q
        subst q2
        obtain rfl : u = Value.bool true := r'
        refine ⟨rfl, OldK.of_keep fun b o e => ?_, os, bare⟩
        cases q : H b with
        | none => exact un.keep b o e q (by intro z; exact absurd (show b ∈ ([] : List Addr) from z) (by simp)) (by simp)
        | some u =>
          rcases only b with z | ⟨ob, xs, z⟩
          · rw [q] at z; cases z
          · have z2 := un.frzs b ob _ z
            obtain ⟨e1, _⟩ := hok b _ z
            obtain ⟨e2, _⟩ := hok' b _ z2
            rw [e] at e1; cases e1
            exact e2
  cases hk : K.lookup a with
  | some o =>
    have e := KX a o hk
    rw [ha] at e
    cases e
    exact core (fun _ => none) (fun _ => .inl rfl) (.inr ⟨_, vs.toArray, _, hk, rfl, rfl, rfl, by rw [List.size_toArray, lv]; exact hl, by simpa using rv⟩) (fun b u z => (nomatch (show (none : Option HO) = some u from z))) (fun b z => absurd rfl z) fun z => absurd rfl z
  | none =>
    refine core (fun b => if b = a then some (.frz { cls := .type "list", data := .seq vs.toArray } (.lst (ns.map V.int))) else none) (fun b => ?_) (.inl (.inr ⟨{ cls := .type "list", data := .seq vs.toArray }, if_pos rfl⟩)) (fun b u z => ?_) (fun b z => ?_) fun _ => hk
    · by_cases hb : b = a
      · exact .inr ⟨_, _, if_pos hb⟩
      · exact .inl (if_neg hb)
    · by_cases hb : b = a
      · have z2 := (if_pos hb).symm.trans z
        cases z2
        subst hb
        exact ⟨ha, by rw [List.length_map]; exact hl, vs, _, rv, ha⟩
      · have z2 := (if_neg hb).symm.trans z
        cases z2
    · exact Classical.byContradiction fun hb => z (if_neg hb)
theorem walk_df {l : PySem.W.OpenLaw} {n k : Nat} {q : Program} {loose : List Str} {XP : (Str → Option Value) → Heap → Prop} {YP : World → Heap → Prop} {d : DefRec} {x : Str} (hn : l.most = some n) (hn2 : n ≤ sizeLine) (hdf : d.params.defaults = []) (hr : Room k callerA)
    (F : ∀ (w : World) (mg : Str → Option Value) (fa : Addr) (h : Heap), YP w h → h.Ns mainGlobals mg → mg d.name = some (.ref fa) →
      ∃ (K : PySem.W.Frag) (Γ : G) (fd : FuncData) (sem : List S → Ms → R S), K.In h ∧ (∀ (s : Shared) (u : Value), BindsTo s fd ⟨[u], []⟩ [(x, u)]) ∧ (∀ ns : List Int, ns.length ≤ n → ∃ ms', sem [scr ns] [] = .ok (.d (.bl true)) ms') ∧
        ∀ base : Heap, K.In base → base.Ns mainGlobals mg → DF l.prog w K mg base Γ k fa fd [x] sem) :
    PySem.W.WalkO q loose XP YP l.row.toRowW d [] (fun f vs => PySem.call f vs) := by
  refine Att.attach_call hn hdf fun w s0 s1 mg mb fa o pm cd doc a vs ns G Y ho hd hcd hmg hobj hints hlen hg => ?_
  obtain ⟨K, Γ, fd, sem, KX, hb, hs, hF⟩ := F w mg fa _ Y G.T.g hmg
  exact law_df KX G.T.g G.T.b G.T.builtins G.T.nolimit hg hobj hints (Nat.le_trans hlen hn2) hr hF hb (hs ns hlen)
end Fw
set_option Elab.async false
set_option linter.all false
set_option maxRecDepth 100000
set_option maxHeartbeats 4000000
/-! Fw21: facts of the written part by Bools; names as values; calls of a held class. -/
namespace Fw
open PySem L2 PySem.Spec PyProof.Rows

/-! ### the Hook -/
abbrev FnX : Type := Option (Str × Str × Arguments × FuncBody × Scope × Addr × List Str × Addr)
def fnX (K : PySem.W.Frag) (a : Addr) : FnX := match K.lookup a with
  | some ⟨_, _, .func fd, _⟩ => some (fd.name, fd.qualname, fd.params, fd.body, fd.scope, fd.globals, fd.closure.map (·.1), fd.builtins)
  | _ => none
structure DefX where
  at_ : PySem.W.Frag → Addr
  name : Str
  qual : Str
  params : Arguments
  body : List Stmt
  scope : Scope
  dfl : List He.Dv := []
  clo : List Str := []
def DefX.val (d : DefX) : FnX := some (d.name, d.qual, d.params, .stmts d.body, d.scope, mainGlobals, d.clo, builtinsNs)
def DefX.dvs (K : PySem.W.Frag) (d : DefX) : List V := d.dfl.map (He.Dv.v K)
def DefX.ok (K : PySem.W.Frag) (d : DefX) : Bool := PySem.W.keepIn K (.ref (d.at_ K)) && (match K.lookup (d.at_ K) with
  | some ⟨_, _, .func fd, _⟩ => PySem.W.codeIn K fd.code d.qual && He.dflB K fd.defaults (d.dvs K)
  | _ => false)
abbrev AlX : Type := Bool × List FnX
def obsX (fa : List (PySem.W.Frag → Bool)) (fn : List DefX) (K : PySem.W.Frag) : AlX := ((fa.all fun f => f K) && fn.all fun d => d.ok K, fn.map fun d => fnX K (d.at_ K))
def valX (fn : List DefX) : AlX := (true, fn.map DefX.val)
def SaysX (fa : List (PySem.W.Frag → Bool)) (fn : List DefX) (K : PySem.W.Frag) : Prop := obsX fa fn K = valX fn
/-- from the module's names and the statics on -/
def asX (g : Addr → Option Obj) : Nat → List Addr
  | 0 => [mainGlobals, PySem.cStatics]
  | n + 1 => He.growD g (asX g n)
def obsXG (n : Nat) (fa : List (PySem.W.Frag → Bool)) (fn : List DefX) (g : Addr → Option Obj) : AlX := obsX fa fn (He.frG g (asX g n))
def hookX (n : Nat) (fa : List (PySem.W.Frag → Bool)) (fn : List DefX) : PySem.W.Hook where
  α := AlX
  obs := fun s => obsXG n fa fn s.heap.get?
  val := fun _ => valX fn
  says := fun _ h => ∃ K : PySem.W.Frag, K.In h ∧ SaysX fa fn K
  of := fun _ _ e => ⟨_, He.frG_in, e⟩
  keeps := fun _ _ _ ⟨K, hK, c⟩ k => ⟨K, PySem.W.Frag.In.keeps hK k, c⟩
theorem obsXG_eq {n : Nat} {fa : List (PySem.W.Frag → Bool)} {fn : List DefX} {g : Addr → Option Obj} {s : Shared} (h : ∀ a, g a = s.heap.get? a) : obsXG n fa fn g = (hookX n fa fn).obs s := by
  have e : g = s.heap.get? := funext h
  rw [e] <;> rfl
section
variable {fa : List (PySem.W.Frag → Bool)} {fn : List DefX} {K : PySem.W.Frag}
theorem SaysX.fact (c : SaysX fa fn K) (i : Nat) {f : PySem.W.Frag → Bool} (h : fa[i]? = some f := by rfl) : f K = true := by
  have c1 := (Bool.and_eq_true_iff.mp (show ((fa.all fun f => f K) && fn.all fun d => d.ok K) = true from congrArg (fun z : AlX => z.1) c)).1
  exact List.all_eq_true.mp c1 f (List.mem_of_getElem? h)
theorem SaysX.def0 (c : SaysX fa fn K) (i : Nat) {d : DefX} (h : fn[i]? = some d := by rfl) : fnX K (d.at_ K) = d.val ∧ d.ok K = true := by
  have c2 := (Bool.and_eq_true_iff.mp (show ((fa.all fun f => f K) && fn.all fun d => d.ok K) = true from congrArg (fun z : AlX => z.1) c)).2
  have e : fn.map (fun d => fnX K (d.at_ K)) = fn.map DefX.val := congrArg (fun z : AlX => z.2) c
  have e2 : (fn.map fun d => fnX K (d.at_ K))[i]? = (fn.map DefX.val)[i]? := by rw [e]
  rw [List.getElem?_map, List.getElem?_map, h] at e2
  exact ⟨Option.some.inj e2, List.all_eq_true.mp c2 d (List.mem_of_getElem? h)⟩
theorem DefX.funD {d : DefX} (e : fnX K (d.at_ K) = d.val) (c : d.ok K = true) (h0 : d.clo = []) : ∃ fd, FunD K d.name d.qual d.params d.body d.scope (d.dvs K) [] (d.at_ K) fd := by
  obtain ⟨kp, c2⟩ := Bool.and_eq_true_iff.mp c
  unfold fnX at e
  cases q : K.lookup (d.at_ K) with
  | none => rw [q] at c2; cases c2
  | some o =>
    obtain ⟨oc, od, dt, osl⟩ := o
    rw [q] at c2 e
    cases dt with
    | func fd =>
      obtain ⟨n1, n2, n3, n4, n5, n6, n7, n8, n9, n10, n11, n12, n13, n14, n15⟩ := fd
      have e2 : (some (n1, n2, n3, n4, n5, n6, n7.map (·.1), n15) : FnX) = some (d.name, d.qual, d.params, .stmts d.body, d.scope, mainGlobals, d.clo, builtinsNs) := e
      simp only [Option.some.injEq, Prod.mk.injEq] at e2
      obtain ⟨h1, h2, h3, h4, h5, h6, h7, h8⟩ := e2
      rw [h0] at h7
      have h7 : n7 = [] := List.map_eq_nil_iff.mp h7
      subst h1 h2 h3 h4 h5 h6 h7 h8
      have c3 : (PySem.W.codeIn K n13 d.qual && He.dflB K n8 (d.dvs K)) = true := c2
      obtain ⟨k1, k3⟩ := Bool.and_eq_true_iff.mp c3
      exact ⟨_, ⟨oc, od, n8, n9, n10, n11, n12, n13, n14, osl, rfl, q, k1, He.dflB_ok k3, .inl rfl⟩, kp⟩
    | _ => cases c2
theorem SaysX.def_ (c : SaysX fa fn K) (i : Nat) {d : DefX} (h : fn[i]? = some d := by rfl) (h0 : d.clo = [] := by rfl) : ∃ fd, FunD K d.name d.qual d.params d.body d.scope (d.dvs K) [] (d.at_ K) fd :=
  let z := c.def0 i h
  DefX.funD z.1 z.2 h0
end
/-- how a def without defaults binds n values and the names ks -/
theorem bd_of {K : PySem.W.Frag} {x qual : Str} {params : Arguments} {body : List Stmt} {scope : Scope} {f : Addr} {fd : FuncData} {ps : List Str} {n : Nat} {ks : List Str} {pk : List Nat} (F : FunD K x qual params body scope [] [] f fd) (hl : pk.length = ps.length) (hr : ∀ i ∈ pk, i < n + ks.length + 0)
    (h : ∀ (kV doc pm : Value) (an : Option Addr) (cdv ct : Value) (us ws : List Value), us.length = n → ws.length = ks.length → bindArgs (PySem.W.fnOf x qual params body scope .none kV doc pm an cdv ct) ⟨us, ks.zip ws⟩ = pure (ps.zip (pick pk (us ++ ws)))) : Bd K fd ps n ks pk [] := by
  obtain ⟨oc, od, dV, kV, doc, pm, an, cdv, ct, osl, rfl, _, _, hD, _⟩ := F.ex
  have hd : dV = .none := hD.elim (fun z => z.2) (fun z => absurd rfl z.1)
  subst hd
  exact ⟨⟨[], .nil, fun s us ws _ l1 l2 => .of_eq (by rw [List.append_nil]; exact h kV doc pm an cdv ct us ws l1 l2)⟩, hl, hr⟩
/-- addresses -/
def gA (x : Str) (K : PySem.W.Frag) : Addr := He.ga K x
def mA (x m : Str) (K : PySem.W.Frag) : Addr := He.ma K (He.ga K x) m
def recA (kind : String) (p : PySem.W.Frag → Addr) (K : PySem.W.Frag) : Addr := match PySem.W.recIn K (p K) kind with
  | some (.ref g :: _) => g
  | _ => 0

/-! ### names as values -/
section
variable {Y : Cy} {w w1 w2 : Wd} {σ : L2.St} {H H1 H2 : Hp} {env : Env} {ms ms1 ms2 : Ms} {x : Str} {pos p apos : Pos} {k n : Nat} {es : List Expr} {kws : List Keyword} {ks : List Str} {f : Addr} {m : Env → Ms → R (List S)} {g : List S → Ms → R S} {e o : Expr} {mo me : Env → Ms → R S}
theorem e_gstr {z : Str} (hg : Gl Y.X x) (hm : ∃ t, Y.X.mg x = some (.str z t)) (hd : (x == ("__debug__" : Str)) = false := by decide) : DE Y (.Name x pos) (mC (.d (.str z))) := by
  obtain ⟨t, hm⟩ := hm
  exact e_glob (v := .str z) hg hm ⟨t, rfl⟩ (fun _ => rfl) hd
theorem e_gint {i : Int} (hg : Gl Y.X x) (hm : ∃ t, Y.X.mg x = some (.int i t)) (hd : (x == ("__debug__" : Str)) = false := by decide) : DE Y (.Name x pos) (mC (.d (.int i))) := by
  obtain ⟨t, hm⟩ := hm
  exact e_glob (v := .int i) hg hm ⟨t, rfl⟩ (fun _ => rfl) hd
theorem e_gfn (i : Nat) (hg : Gl Y.X x) (hm : Y.X.mg x = some (.ref (Y.Γ.fn i))) (hd : (x == ("__debug__" : Str)) = false := by decide) : DE Y (.Name x pos) (mC (.d (.fn i))) :=
  e_glob hg hm (show RelV (.ref (Y.Γ.fn i)) (.ref (Y.Γ.fn i)) from rfl) (fun _ => rfl) hd
theorem e_bty {T : String} (hg : Gl Y.X x) (hm : Y.X.mg x = none) (hv : bootBuiltins x = some (.type T)) (hn : x ≠ "__name__" := by decide) (hd : (x == ("__debug__" : Str)) = false := by decide) : DE Y (.Name x pos) (mC (.d (.ty T))) :=
  ⟨_, pe_bltn (v := .ty T) hg hm hv rfl hn hd, fun w _ _ _ _ _ _ hr q => q.at (Ext.refl w) hr rfl⟩
/-- a call of what a name holds: a class or a def of the module -/
structure VcOk (Y : Cy) (n : Nat) (ks : List Str) (c : Nat) (g : List S → Ms → R S) : Prop where
  kp : PySem.W.keepIn Y.X.K (.ref (Y.Γ.fn c)) = true
  cal : Cal Y (Y.Γ.fn c) n ks g
def mCallV (tab : MTab) (mo : Env → Ms → R S) (m : Env → Ms → R (List S)) : Env → Ms → R S := fun env ms => (mo env ms).bind fun x ms1 => match x with
  | .d (.fn c) => match tab.lookup c with
    | some g => (m env ms1).bind g
    | none => .bad
  | _ => .bad
theorem e_callV {tab : MTab} (ho : DE Y (.Name x p) mo) (ht : Tab (VcOk Y n ks) tab) (ha : DC Y es kws n ks m) : DE Y (.Call (.Name x p) es kws pos) (mCallV tab mo m) := by
  obtain ⟨to, po, so⟩ := ho.ex
  obtain ⟨t, pa, sa⟩ := ha.ex
  refine ⟨fun σ H Q => to σ H fun v H1 => ∃ c g, v = .ref (Y.Γ.fn c) ∧ VcOk Y n ks c g ∧ t σ H1 fun vs H2 => ∃ (ss : List S) (ms : Ms) (w : Wd), HR Y w H2 ms ∧ SRs Y w ss vs ∧ (g ss ms).post (okP Y w Q) (exP Y w σ), ⟨fun pins s σ H Q I h => ?_⟩, fun w σ H env ms Q er hr h => ?_⟩
  · refine wpAny_Call_Name_kw (thn (po.run pins s σ H _ I h) fun u s1 ⟨v, H1, I1, rx, c, g, ev, vc, q⟩ => ?_)
    subst ev
    obtain rfl : u = Value.ref (Y.Γ.fn c) := rx
    refine PySem.W.callWith_of (pa.plain pos) (PySem.W.keeps_K vc.kp) (thn (pa.run pos _ pins s1 σ H1 _ I1 q) fun a s2 ⟨us, ws, vs, H2, ea, l1, l2, I2, r, ss, ms, w, hr, sv, q2⟩ => ?_)
    subst ea
    exact ⟨I2.kIn, cal_wp (vc.cal.run I2 l1 l2 r hr sv q2)⟩
  · refine so.go er hr h fun y ms1 w1 H1 v e1 er1 hr1 sv h1 => ?_
    cases y with
    | loc i => exact h1.elim
    | exn c ds => exact h1.elim
    | d y =>
      cases y with
      | fn c =>
        cases sv
        dsimp only at h1
        cases hl : tab.lookup c with
        | none => rw [hl] at h1; exact h1.elim
        | some g =>
          rw [hl] at h1
          refine ⟨c, g, rfl, ht.at_ hl, ?_⟩
          refine sa.go er1 hr1 h1 fun ss ms2 w2 H2 vs e2 er2 hr2 svs h2 => ?_
          exact ⟨ss, ms2, w2, hr2, svs, R.post_mono h2 (fun _ _ z => z.ext (e1.trans e2)) fun _ _ _ z => z⟩
      | _ => exact h1.elim
end
/-- nothing computed: nothing promised -/
theorem DF.bad {P : Program} {w : World} {K : PySem.W.Frag} {mg : Str → Option Value} {base : Heap} {Γ : G} {k : Nat} {f : Addr} {fd : FuncData} {ps : List Str} : DF P w K mg base Γ k f fd ps (fun _ _ => .bad) :=
  ⟨fun _ _ _ _ _ _ _ _ _ _ _ _ _ _ _ _ _ _ _ _ h => h.elim⟩
end Fw
set_option Elab.async false
set_option linter.all false
set_option maxRecDepth 100000
set_option maxHeartbeats 4000000
/-! Fw22: Bools of the written part, and what they say. -/
namespace Fw
open PySem L2 PySem.Spec PyProof.Rows
variable {K : PySem.W.Frag} {C D p g : Addr} {x f m : Str}
def bOO (a b : Option (Option Value)) : Bool := decide (a = b)
/-- a property -/
def bProp (C : Addr) (f : Str) (p g : Addr) (K : PySem.W.Frag) : Bool := bOO (PySem.W.findIn K (.ref C) f) (some (some (.ref p))) && (bOO (PySem.W.specialIn K (.ref p) "__get__") (some (some (.builtin "property.__get__"))) && (decide (PySem.W.takesIn K (.ref p) = some true) &&
  (match PySem.W.recIn K p "property" with
    | some (.ref a :: _) => decide (a = g)
    | _ => false)))
theorem prop_ok (h : bProp C f p g K = true) : PropOf K C f p g := by
  unfold bProp at h
  simp only [Bool.and_eq_true] at h
  obtain ⟨h1, h2, h3, h4⟩ := h
  refine ⟨of_decide_eq_true h1, of_decide_eq_true h2, of_decide_eq_true h3, ?_⟩
  split at h4
  · rename_i a r e
    rw [← of_decide_eq_true h4]
    exact ⟨r, e⟩
  · cases h4
/-- a classmethod -/
def bCm (C : Addr) (m : Str) (p g : Addr) (K : PySem.W.Frag) : Bool := PySem.W.readsIn K C (.type "type") && (bOO (PySem.W.specialIn K (.ref C) "__getattribute__") (some (some (.builtin "type.__getattribute__"))) && ((match PySem.W.findCls K (.ref C) (.type "type") m with
    | some (.get (.builtin b) (.ref q) .none (.ref c)) => decide (b = "classmethod.__get__") && (decide (q = p) && decide (c = C))
    | _ => false) && ((match PySem.W.recIn K p "classmethod" with
    | some (.ref a :: _) => decide (a = g)
    | _ => false) && PySem.W.fnIn K g)))
theorem cm_ok (h : bCm C m p g K = true) : ClX.CRead K C (.type "type") ∧ ClX.CMet K C (.type "type") m p g := by
  unfold bCm at h
  simp only [Bool.and_eq_true] at h
  obtain ⟨h1, h2, h3, h4, h5⟩ := h
  refine ⟨⟨h1, of_decide_eq_true h2⟩, ?_, ?_, h5⟩
  · split at h3
    · rename_i b q c e
      simp only [Bool.and_eq_true] at h3
      obtain ⟨e1, e2, e3⟩ := h3
      rw [e, of_decide_eq_true e1, of_decide_eq_true e2, of_decide_eq_true e3]
    · cases h3
  · split at h4
    · rename_i a r e
      rw [← of_decide_eq_true h4]
      exact ⟨r, e⟩
    · cases h4
/-- a special method -/
def bSp (C : Addr) (m : Str) (g : Addr) (K : PySem.W.Frag) : Bool := bOO (PySem.W.findIn K (.ref C) m) (some (some (.ref g))) && PySem.W.isFn K (.ref g)
theorem sp_ok (h : bSp C m g K = true) : PySem.W.findIn K (.ref C) m = some (some (.ref g)) ∧ PySem.W.isFn K (.ref g) = true := by
  obtain ⟨h1, h2⟩ := Bool.and_eq_true_iff.mp h
  exact ⟨of_decide_eq_true h1, h2⟩
def bKit (a b : Value) (r : Bool) (K : PySem.W.Frag) : Bool := decide (PySem.W.kitOne K a b = some r)
theorem kit_ok {a b : Value} {r : Bool} (h : bKit a b r K = true) : PySem.W.kitOne K a b = some r := of_decide_eq_true h
/-- for isinstance: of an instance's class -/
def bIns (C : Addr) (K : PySem.W.Frag) : Bool := bOO (PySem.W.findIn K (.ref C) "__class__") (some (some (.builtin "object.__class__"))) && decide (PySem.W.mroIn K C (.type "object") = some true)
theorem ins_ok (h : bIns C K = true) : PySem.W.findIn K (.ref C) "__class__" = some (some (.builtin "object.__class__")) ∧ PySem.W.mroIn K C (.type "object") = some true := by
  obtain ⟨h1, h2⟩ := Bool.and_eq_true_iff.mp h
  exact ⟨of_decide_eq_true h1, of_decide_eq_true h2⟩
def bGet (K : PySem.W.Frag) : Bool := bOO (PySem.W.specialIn K (.builtin "object.__class__") "__get__") (some (some (.builtin "getset_descriptor.__get__"))) && decide (PySem.W.takesIn K (.builtin "object.__class__") = some true)
theorem get_ok (h : bGet K = true) : PySem.W.specialIn K (.builtin "object.__class__") "__get__" = some (some (.builtin "getset_descriptor.__get__")) ∧ PySem.W.takesIn K (.builtin "object.__class__") = some true := by
  obtain ⟨h1, h2⟩ := Bool.and_eq_true_iff.mp h
  exact ⟨of_decide_eq_true h1, of_decide_eq_true h2⟩
/-- a class that isinstance is asked of: no built-in's instance is one of it -/
def bNk (C : Addr) (K : PySem.W.Frag) : Bool := tyNames.all fun a => bKit (.type a) (.ref C) false K
theorem nk_ok (h : bNk C K = true) : ∀ a ∈ tyNames, PySem.W.kitOne K (.type a) (.ref C) = some false := fun a ha => kit_ok (List.all_eq_true.mp h a ha)
def bOn (C : Addr) (K : PySem.W.Frag) : Bool := tyNames.all fun a => bKit (.ref C) (.type a) false K
theorem on_ok (h : bOn C K = true) : ∀ a ∈ tyNames, PySem.W.kitOne K (.ref C) (.type a) = some false := fun a ha => kit_ok (List.all_eq_true.mp h a ha)
/-- a caught exception's class -/
def bExc (C : Addr) (K : PySem.W.Frag) : Bool := xfB K C && (bIns C K && bGet K)
theorem exc_ok (h : bExc C K = true) : XfC K C ∧ ExcC K C := by
  unfold bExc at h
  simp only [Bool.and_eq_true] at h
  obtain ⟨h1, h2, h3⟩ := h
  have x := xfB_ok h1
  have i := ins_ok h2
  have g := get_ok h3
  exact ⟨x, ⟨x.ga, x.gg, x.exC, x.hdC, i.1, g.1, g.2, i.2⟩⟩
def bNo (C : Addr) (f : Str) (K : PySem.W.Frag) : Bool := bOO (PySem.W.findIn K (.ref C) f) (some none)
theorem no_ok (h : bNo C f K = true) : PySem.W.findIn K (.ref C) f = some none := of_decide_eq_true h
def bExm (C D : Addr) (b : Bool) (K : PySem.W.Frag) : Bool := decide (PySem.W.exmOne K (.ref C) (.ref D) = some b)
theorem exm_ok {b : Bool} (h : bExm C D b K = true) : PySem.W.exmOne K (.ref C) (.ref D) = some b := of_decide_eq_true h

/-! ### an exception class that is raised -/
def clA (f : Addr) (K : PySem.W.Frag) : Addr := match K.lookup f with
  | some ⟨_, _, .func fd, _⟩ => (match fd.closure with
    | (_, c) :: _ => c
    | _ => 0)
  | _ => 0
def cdA (f : Addr) (K : PySem.W.Frag) : Addr := match K.lookup f with
  | some ⟨_, _, .func fd, _⟩ => (match fd.code with
    | .ref c => c
    | _ => 0)
  | _ => 0
def bXcls (C : Addr) (K : PySem.W.Frag) : Bool := match K.lookup C with
  | some ⟨.type t, _, .cls cd, sl⟩ => t == "type" && (match cd.mro, sl.toList with
    | .ref C2 :: bm, [_, _, _, _, some (.builtin n), _] => decide (C2 = C) && (decide (n = "ValueError.__new__") && (!cd.hasDel && (cd.hasDict && PySem.HandSPX.refsVE bm)))
    | _, _ => false)
  | _ => false
theorem xcls_ok (h : bXcls C K = true) : ∃ nm q N bs bm sn sub ab col dd k0 k1 k2 k3 k5, K.lookup C = some (excClassObj nm q C N bs bm true sn sub ab col dd k0 k1 k2 k3 k5 "ValueError.__new__") ∧ PySem.HandSPX.refsVE bm = true := by
  unfold bXcls at h
  split at h
  · rename_i t dd cd sl ho
    obtain ⟨ht, h⟩ := Bool.and_eq_true_iff.mp h
    have ht2 : t = "type" := beq_iff_eq.mp ht
    subst ht2
    split at h
    · rename_i C2 bm k0 k1 k2 k3 n k5 hm hs
      simp only [Bool.and_eq_true, decide_eq_true_eq, Bool.not_eq_true'] at h
      obtain ⟨_, rfl, rfl, hdel, hdict, hv⟩ := h
      obtain ⟨nm, bs, mro, ns, qn, hd, sn, sub, ab, col, del⟩ := cd
      dsimp only at hm hdel hdict
      subst hm hdel hdict
      have hsl : sl = #[k0, k1, k2, k3, some (.builtin "ValueError.__new__"), k5] := by
        obtain ⟨l⟩ := sl
        simp only at hs
        rw [hs]
      subst hsl
      exact ⟨nm, qn, ns, bs, bm, sn, sub, ab, col, dd, k0, k1, k2, k3, k5, ho, hv⟩
    · cases h
  · cases h
def fileIs (file : Str) (o : Option Value) : Bool := match o with
  | some (.str z _) => file == z
  | _ => false
def bX (file : Str) (C fI : Addr) (fs : List Str) (K : PySem.W.Frag) : Bool :=
  bXcls C K && (bOO (PySem.W.findIn K (.ref C) "__setattr__") (some (some (.builtin "object.__setattr__"))) && (bOO (PySem.W.findIn K (.ref C) "__init__") (some (some (.ref fI))) && (decide (PySem.W.typeIn K (.ref fI) = some (.type "function")) && (PySem.W.keepIn K (.ref C) &&
  (decide (PySem.W.subIn K (.ref C) (.type "BaseException") = some true) && (decide (PySem.W.typeIn K (.ref C) = some (.type "type")) && (decide (PySem.W.mroIn K C (.ref C) = some true) && (decide (PySem.W.subIn K (.ref C) (.type "ValueError") = some true) &&
  (bOO (PySem.W.ks_superIn K C C "__init__") (some (some (.builtin "ValueError.__init__"))) && (PySem.W.excInitIn K C PySem.HandSPX.veTail "ValueError.__new__" && (bOO (PySem.W.nsIn K PySem.cStatics "thirdparty.any") (some none) &&
  ((match K.lookup (clA fI K) with
    | some ⟨_, _, .cell (some (.ref D)), _⟩ => decide (D = C)
    | _ => false) && ((match K.lookup (cdA fI K) with
    | some ⟨_, _, .fields vs, _⟩ => fileIs file vs[2]?
    | _ => false) && (fs.all fun f => bNo C f K))))))))))))))
theorem x_ok {prog : Program} {C fI : Addr} {d : DefX} {text : Str} {j : Nat} {p0 p1 p2 p3 p4 p5 : Pos} {ss : List Stmt} {fs : List (Str × Str)} (hf : fI = d.at_ K) (h : bX prog.main.file C fI (fs.map (·.1)) K = true) (e : fnX K (d.at_ K) = d.val) (c : d.ok K = true)
    (hn : d.name = "__init__") (hc : d.clo = [("__class__" : Str)]) (hb : d.body = FwX.supStmt text j p0 p1 p2 p3 p4 p5 :: ss) (hz : d.dfl = []) (ht : (prog.main.scope.names.lookup ("super" : Str)).isSome = false) :
    FwX.ExTxt prog K C fI (clA fI K) (cdA fI K) d.qual d.params (FwX.supStmt text j p0 p1 p2 p3 p4 p5 :: ss) d.scope fs := by
  unfold bX at h
  simp only [Bool.and_eq_true] at h
  obtain ⟨h1, h2, h3, h4, h5, h6, h7, h8, h9, h10, h11, h12, h13, h14, h15⟩ := h
  refine ⟨xcls_ok h1, of_decide_eq_true h2, of_decide_eq_true h3, of_decide_eq_true h4, h5, of_decide_eq_true h6, of_decide_eq_true h7, of_decide_eq_true h8, of_decide_eq_true h9, of_decide_eq_true h10, h11, of_decide_eq_true h12, ?_, ?_, ht, ?_, ?_⟩
  · split at h13
    · rename_i a b D sl ho
      have := of_decide_eq_true h13
      subst this
      exact ⟨a, b, sl, ho⟩
    · cases h13
  · split at h14
    · rename_i a b vs sl ho
      unfold fileIs at h14
      split at h14
      · rename_i z t hv
        exact ⟨a, b, vs, sl, z, t, ho, hv, h14⟩
      · cases h14
    · cases h14
  · subst hf
    obtain ⟨kp, c2⟩ := Bool.and_eq_true_iff.mp c
    unfold fnX at e
    cases q : K.lookup (d.at_ K) with
    | none => rw [q] at c2; cases c2
    | some o =>
      obtain ⟨oc, od, dt, osl⟩ := o
      rw [q] at c2 e
      cases dt with
      | func fd =>
        obtain ⟨n1, n2, n3, n4, n5, n6, n7, n8, n9, n10, n11, n12, n13, n14, n15⟩ := fd
        have e2 : (some (n1, n2, n3, n4, n5, n6, n7.map (·.1), n15) : FnX) = some (d.name, d.qual, d.params, .stmts d.body, d.scope, mainGlobals, d.clo, builtinsNs) := e
        simp only [Option.some.injEq, Prod.mk.injEq] at e2
        obtain ⟨g1, g2, g3, g4, g5, g6, g7, g8⟩ := e2
        rw [hc] at g7
        cases n7 with
        | nil => cases g7
        | cons pr n7 =>
          obtain ⟨cn, cc⟩ := pr
          have g9 : cn = "__class__" ∧ n7 = [] := by
            have := List.cons.inj (show cn :: n7.map (·.1) = [("__class__" : Str)] from g7)
            exact ⟨this.1, List.map_eq_nil_iff.mp this.2⟩
          obtain ⟨rfl, rfl⟩ := g9
          rw [hn] at g1
          rw [hb] at g4
          subst g1 g2 g3 g4 g5 g6 g8
          have e3 : clA (d.at_ K) K = cc := by unfold clA; rw [q]
          have c3 : (PySem.W.codeIn K n13 d.qual && He.dflB K n8 (d.dvs K)) = true := c2
          obtain ⟨k1, k3⟩ := Bool.and_eq_true_iff.mp c3
          have e4 : n13 = .ref (cdA (d.at_ K) K) := by
            cases n13 with
            | ref cda => unfold cdA; rw [q]
            | _ => unfold PySem.W.codeIn at k1; cases k1
          have e5 : n8 = .none := by
            have k4 := He.dflB_ok k3
            unfold DefX.dvs at k4
            rw [hz] at k4
            exact k4.elim (fun z => z.2) (fun z => absurd rfl z.1)
          rw [e3]
          subst e4 e5
          exact ⟨oc, od, n9, n10, n11, n12, n14, osl, rfl, k1⟩
      | _ => cases c2
  · intro p hp
    exact no_ok (List.all_eq_true.mp h15 p.1 (List.mem_map_of_mem hp))
end Fw
set_option Elab.async false
set_option linter.all false
set_option maxRecDepth 100000
set_option maxHeartbeats 4000000
/-! Fw23: what the Bools say of a whole table. -/
namespace Fw
open PySem L2 PySem.Spec PyProof.Rows
def bIsi (Γ : PySem.W.Frag → G) (oc kc : List Nat) (sub : Nat → Nat → Bool) (K : PySem.W.Frag) : Bool :=
  (kc.all fun m => bNk ((Γ K).fn m) K) && ((oc.all fun c => bOn ((Γ K).cls c) K && (bIns ((Γ K).cls c) K && (He.Fa.cls Str.empty).ok K || true) && bIns ((Γ K).cls c) K) && ((oc.all fun c => kc.all fun m => bKit (.ref ((Γ K).cls c)) (.ref ((Γ K).fn m)) (sub c m) K) && (oc.isEmpty || bGet K)))
def bCls (C : Addr) (K : PySem.W.Frag) : Bool := PySem.W.plainGet K C Str.empty && (PySem.W.hasDictIn K C && (PySem.W.plainOver K C && bOO (PySem.W.findIn K (.ref C) "__setattr__") (some (some (.builtin "object.__setattr__")))))
theorem cls_ok {K : PySem.W.Frag} {C : Addr} (h : bCls C K = true) : Cls K C := by
  unfold bCls at h
  simp only [Bool.and_eq_true] at h
  obtain ⟨h1, h2, h3, h4⟩ := h
  exact ⟨h1, h2, h3, of_decide_eq_true h4⟩
theorem isi_ok {Γ : PySem.W.Frag → G} {Y : Cy} {oc kc : List Nat} {sub : Nat → Nat → Bool} (hG : Y.Γ = Γ Y.X.K) (h : bIsi Γ oc kc sub Y.X.K = true) (hc : ∀ c ∈ oc, bCls (Y.Γ.cls c) Y.X.K = true) : IsiOk Y oc kc sub := by
  unfold bIsi at h
  simp only [Bool.and_eq_true] at h
  obtain ⟨h1, h2, h3, h4⟩ := h
  rw [← hG] at h1 h2 h3
  refine ⟨fun m hm => nk_ok (List.all_eq_true.mp h1 m hm), fun c hc' => ?_, fun c hc' m hm => kit_ok (List.all_eq_true.mp (List.all_eq_true.mp h3 c hc') m hm), fun c hc' => ?_, fun ne => ?_⟩
  · have := List.all_eq_true.mp h2 c hc'
    simp only [Bool.and_eq_true] at this
    exact on_ok this.1.1
  · have := List.all_eq_true.mp h2 c hc'
    simp only [Bool.and_eq_true] at this
    exact ⟨cls_ok (hc c hc'), (ins_ok this.2).1, (ins_ok this.2).2⟩
  · cases oc with
    | nil => exact absurd rfl ne
    | cons a r => exact get_ok (by simpa using h4)
def bXis (Γ : PySem.W.Frag → G) (xc kc : List Nat) (sub : Nat → Nat → Bool) (K : PySem.W.Frag) : Bool := (xc.all fun c => bExc ((Γ K).cls c) K) && (xc.all fun c => kc.all fun m => bKit (.ref ((Γ K).cls c)) (.ref ((Γ K).fn m)) (sub c m) K)
theorem xis_ok {Γ : PySem.W.Frag → G} {Y : Cy} {xc kc : List Nat} {sub : Nat → Nat → Bool} (hG : Y.Γ = Γ Y.X.K) (h : bXis Γ xc kc sub Y.X.K = true) : XisOk Y xc kc sub := by
  unfold bXis at h
  simp only [Bool.and_eq_true] at h
  obtain ⟨h1, h2⟩ := h
  rw [← hG] at h1 h2
  exact ⟨fun c hc => (exc_ok (List.all_eq_true.mp h1 c hc)).2, fun c hc m hm => kit_ok (List.all_eq_true.mp (List.all_eq_true.mp h2 c hc) m hm)⟩
/-- which exceptions a clause takes -/
def bTst (Γ : PySem.W.Frag → G) (tab : List (Nat × Bool)) (D : PySem.W.Frag → Addr) (K : PySem.W.Frag) : Bool := tab.all fun p => bExm ((Γ K).cls p.1) (D K) p.2 K
theorem lookup_mem {α : Type} {c : Nat} {b : α} : ∀ {l : List (Nat × α)}, l.lookup c = some b → (c, b) ∈ l
  | [], h => by cases h
  | (n, a) :: r, h => by
    rw [List.lookup_cons] at h
    cases q : c == n with
    | true => rw [q] at h; cases h; rw [beq_iff_eq.mp q]; exact List.mem_cons_self
    | false => rw [q] at h; exact List.mem_cons_of_mem _ (lookup_mem h)
theorem tst_ok {Γ : PySem.W.Frag → G} {Y : Cy} {tab : List (Nat × Bool)} {D : PySem.W.Frag → Addr} (hG : Y.Γ = Γ Y.X.K) (h : bTst Γ tab D Y.X.K = true) : ∀ c b, tab.lookup c = some b → PySem.W.exmOne Y.X.K (.ref (Y.Γ.cls c)) (.ref (D Y.X.K)) = some b := fun c b e => by
  have := List.all_eq_true.mp h (c, b) (lookup_mem e)
  rw [hG]
  exact exm_ok this
theorem names_own {X : Cx} {x : Str} {C : Addr} (hg : Gl X x) (hm : X.mg x = some (.ref C)) (hd : (x == ("__debug__" : Str)) = false := by decide) : Names X x (.ref C) := ⟨hg, hd, .inl hm⟩
theorem xat_ok {Y : Cy} {fl : Str} {c i : Nat} (h : bExc (Y.Γ.cls c) Y.X.K = true) (h2 : bNo (Y.Γ.cls c) fl Y.X.K = true) (h3 : (Y.Γ.fld c)[i]? = some fl) (h4 : ((Y.Γ.fld c).take i).contains fl = false) : XatOk Y fl c i := ⟨(exc_ok h).1, no_ok h2, h3, h4⟩
end Fw
set_option Elab.async false
set_option linter.all false
set_option maxRecDepth 100000
set_option maxHeartbeats 1000000
/-! Fw24: what the combinators give, step by step (plain Lean). -/
namespace Fw
open PySem
section
variable {env e1 : Env} {ms ms1 ms2 : Ms} {s s1 s2 : S} {m m1 m2 k : Env → Ms → T} {me ma mb : Env → Ms → R S} {mc md : Env → Ms → R Bool} {i j n : Nat} {b : Bool} {ss : List S}
theorem cons_nx (h : m env ms = .nx e1 ms1) : sCons m k env ms = k e1 ms1 := by unfold sCons; rw [h]; rfl
theorem cons_rt (h : m env ms = .rt s ms1) : sCons m k env ms = .rt s ms1 := by unfold sCons; rw [h]; rfl
theorem cons_ex {c : Nat} {ds : List D} (h : m env ms = .ex c ds e1 ms1) : sCons m k env ms = .ex c ds e1 ms1 := by unfold sCons; rw [h]; rfl
theorem set_ok (h : me env ms = .ok s ms1) : sSet i me env ms = .nx (env.set i (some s)) ms1 := by unfold sSet; rw [h]; rfl
theorem set_ex {c : Nat} {ds : List D} (h : me env ms = .ex c ds ms1) : sSet i me env ms = .ex c ds env ms1 := by unfold sSet; rw [h]; rfl
theorem ret_ok (h : me env ms = .ok s ms1) : sRet me env ms = .rt s ms1 := by unfold sRet; rw [h]; rfl
theorem ret_ex {c : Nat} {ds : List D} (h : me env ms = .ex c ds ms1) : sRet me env ms = .ex c ds env ms1 := by unfold sRet; rw [h]; rfl
theorem if_t (h : mc env ms = .ok true ms1) : sIf mc m k env ms = m env ms1 := by unfold sIf; rw [h]; rfl
theorem if_f (h : mc env ms = .ok false ms1) : sIf mc m k env ms = k env ms1 := by unfold sIf; rw [h]; rfl
theorem op_ok {g : S → S → Ms → R S} (h1 : ma env ms = .ok s1 ms1) (h2 : mb env ms1 = .ok s2 ms2) : mOp g ma mb env ms = g s1 s2 ms2 := by unfold mOp; rw [h1]; show (mb env ms1).bind _ = _; rw [h2]; rfl
theorem mB_ok (h : me env ms = .ok (.d (.bl b)) ms1) : mB me env ms = .ok b ms1 := by unfold mB; rw [h]; rfl
theorem and_t (h : mc env ms = .ok true ms1) : mAnd mc md env ms = md env ms1 := by unfold mAnd; rw [h]; rfl
theorem and_f (h : mc env ms = .ok false ms1) : mAnd mc md env ms = .ok false ms1 := by unfold mAnd; rw [h]; rfl
theorem or_t (h : mc env ms = .ok true ms1) : mOr mc md env ms = .ok true ms1 := by unfold mOr; rw [h]; rfl
theorem or_f (h : mc env ms = .ok false ms1) : mOr mc md env ms = md env ms1 := by unfold mOr; rw [h]; rfl
theorem not_ok (h : mc env ms = .ok b ms1) : mNot mc env ms = .ok (!b) ms1 := by unfold mNot; rw [h]; rfl
theorem acons_ok {al : Env → Ms → R (List S)} (h : me env ms = .ok s ms1) (h2 : al env ms1 = .ok ss ms2) : aCons me al env ms = .ok (s :: ss) ms2 := by unfold aCons; rw [h]; show (al env ms1).bind _ = _; rw [h2]; rfl
theorem callN_ok {g : List S → Ms → R S} {al : Env → Ms → R (List S)} (h : al env ms = .ok ss ms1) : mCallN g al env ms = g ss ms1 := by unfold mCallN; rw [h]; rfl
theorem b1_ok {g : List S → Ms → R S} {al : Env → Ms → R (List S)} (h : al env ms = .ok ss ms1) : mB1 g al env ms = g ss ms1 := by unfold mB1; rw [h]; rfl
theorem len_ok {al : Env → Ms → R (List S)} (h : al env ms = .ok ss ms1) (hn : ss.length = n) : mLen n al env ms = .ok ss ms1 := by
  unfold mLen lenIs
  rw [h]
  show (match Nat.beq ss.length n with
    | true => R.ok ss ms1
    | false => .bad) = _
  rw [hn, Nat.beq_refl]
theorem fn_rt {ss : List S} (h : m (start0 n ss) ms = .rt (.d d0) ms1) : fnSem n m ss ms = .ok (.d d0) ms1 := by unfold fnSem; rw [h]; rfl
theorem for_ok {mi : Env → Ms → R (List S × Option (Nat × Cell))} {g : S → Env → Ms → Option Env} {xs : List S} (h : mi env ms = .ok (xs, none) ms1) : sFor mi g m env ms = forL none g m xs env ms1 := by unfold sFor; rw [h]; rfl
theorem forL_nil {g : S → Env → Ms → Option Env} : forL none g m [] env ms = .nx env ms := rfl
theorem forL_cons {g : S → Env → Ms → Option Env} {x : S} {xs : List S} (hg : g x env ms = some e1) : forL none g m (x :: xs) env ms = (match m e1 ms with
    | .nx e m' => forL none g m xs e m'
    | .ct e m' => forL none g m xs e m'
    | .bk e m' => .nx e m'
    | .rt s m' => .rt s m'
    | .ex c ds e m' => .ex c ds e m'
    | .bad => .bad) := by
  show (match g x env ms with
    | none => T.bad
    | some env1 => _) = _
  rw [hg]
  all_goals rfl
theorem forL_inv {g : S → Env → Ms → Option Env} (P : Env → Ms → Prop) : ∀ {xs : List S} {env : Env} {ms : Ms}, (∀ x ∈ xs, ∀ e ms, P e ms → ∃ e1 e2 m2, g x e ms = some e1 ∧ m e1 ms = .nx e2 m2 ∧ P e2 m2) → P env ms → ∃ e2 m2, forL none g m xs env ms = .nx e2 m2 ∧ P e2 m2
  | [], env, ms, _, p => ⟨env, ms, rfl, p⟩
  | x :: xs, env, ms, h, p => by
    obtain ⟨e1, e2, m2, h1, h2, p2⟩ := h x List.mem_cons_self env ms p
    obtain ⟨e3, m3, h3, p3⟩ := forL_inv P (xs := xs) (fun y hy => h y (List.mem_cons_of_mem _ hy)) p2
    exact ⟨e3, m3, by rw [forL_cons h1, h2]; exact h3, p3⟩
theorem gIx_lst {l : List D} {r : Int} (h0 : 0 ≤ r) (h1 : r < l.length) : ∃ v ∈ l, gIx (.d (.lst l)) (.d (.int r)) ms = .ok (.d v) ms := by
  have hr : r.toNat < l.length := by omega
  refine ⟨l[r.toNat], List.getElem_mem hr, ?_⟩
  have e : L2.atI l r = some l[r.toNat] := by
    unfold L2.atI L2.ixN
    rw [if_pos h0, if_pos h1]
    simp [hr]
  show (match (some (D.lst l)).bind (ixD · r) with
    | some d => R.ok (S.d d) ms
    | none => .bad) = _
  show (match L2.atI l r with
    | some d => R.ok (S.d d) ms
    | none => .bad) = _
  rw [e]
/-- a call that is handed one cell and data -/
theorem call_one {sem : List S → Ms → R S} {xs : List D} {c c' : Cell} {y : D} (hc : ms[n]? = some c) (h : sem (.loc 0 :: xs.map .d) [c] = .ok (.d y) [c']) : callSem sem (.loc n :: xs.map .d) ms = .ok (.d y) (ms.set n c') := by
  have l0 : ∀ xs : List D, locsOf (xs.map S.d) = [] := fun xs => by
    induction xs with
    | nil => rfl
    | cons x xs ih => exact ih
  have l1 : locsOf (.loc n :: xs.map .d) = [n] := by show n :: locsOf (xs.map S.d) = [n]; rw [l0]
  have nx : ∀ xs : List D, (xs.map S.d).all S.noX = true := fun xs => by
    induction xs with
    | nil => rfl
    | cons x xs ih => exact ih
  have r0 : ∀ (ls : List Nat) (xs : List D), (xs.map S.d).map (renS ls) = xs.map S.d := fun ls xs => by
    induction xs with
    | nil => rfl
    | cons x xs ih => show S.d x :: (xs.map S.d).map (renS ls) = _; rw [ih]; rfl
  have e : callSem sem (.loc n :: xs.map .d) ms = callEnd [n] ms (sem ((S.loc n :: xs.map .d).map (renS [n])) ([n].map (getC ms))) := by
    unfold callSem
    rw [l1]
    have : ((S.loc n :: xs.map .d).all S.noX && nodupB [n]) = true := by
      show ((true && (xs.map S.d).all S.noX) && nodupB [n]) = true
      rw [nx]; rfl
    rw [this]
  rw [e]
  have e2 : (S.loc n :: xs.map .d).map (renS [n]) = .loc 0 :: xs.map .d := by
    show renS [n] (.loc n) :: (xs.map S.d).map (renS [n]) = _
    rw [r0]
    show S.loc ([n].idxOf n) :: _ = _
    simp
  have e3 : [n].map (getC ms) = [c] := by show [getC ms n] = [c]; rw [getC_eq hc]
  rw [e2, e3, h]
  rfl
/-- a call that is handed data only -/
theorem call_data {sem : List S → Ms → R S} {xs : List D} {y : D} {m0 : Ms} (h : sem (xs.map .d) [] = .ok (.d y) m0) : callSem sem (xs.map .d) ms = .ok (.d y) ms := by
  have l0 : ∀ xs : List D, locsOf (xs.map S.d) = [] := fun xs => by
    induction xs with
    | nil => rfl
    | cons x xs ih => exact ih
  have nx : ∀ xs : List D, (xs.map S.d).all S.noX = true := fun xs => by
    induction xs with
    | nil => rfl
    | cons x xs ih => exact ih
  have r0 : ∀ (ls : List Nat) (xs : List D), (xs.map S.d).map (renS ls) = xs.map S.d := fun ls xs => by
    induction xs with
    | nil => rfl
    | cons x xs ih => show S.d x :: (xs.map S.d).map (renS ls) = _; rw [ih]; rfl
  unfold callSem
  rw [l0, nx]
  show callEnd [] ms (sem ((xs.map S.d).map (renS [])) []) = _
  rw [r0, h]
  rfl
theorem chain_ok {g g' : S → S → Ms → R S} {mc' : Env → Ms → R S} {p q : Bool} {s3 : S} (h1 : ma env ms = .ok s1 ms) (h2 : mb env ms = .ok s2 ms) (h3 : mc' env ms = .ok s3 ms) (e1 : g s1 s2 ms = .ok (.d (.bl p)) ms) (e2 : g' s2 s3 ms = .ok (.d (.bl q)) ms) :
    mChain g g' ma mb mc' env ms = .ok (.d (.bl (p && q))) ms := by
  cases p with
  | true => simp only [mChain, h1, h2, h3, e1, e2, R.bind, asB, Bool.true_and]
  | false => simp only [mChain, h1, h2, h3, e1, e2, R.bind, asB, Bool.false_and]
theorem fn_nx {ss : List S} (h : m (start0 n ss) ms = .nx e1 ms1) : fnSem n m ss ms = .ok (.d .non) ms1 := by unfold fnSem; rw [h]
theorem fn_ex {ss : List S} {c : Nat} {ds : List D} (h : m (start0 n ss) ms = .ex c ds e1 ms1) : fnSem n m ss ms = .ex c ds ms1 := by unfold fnSem; rw [h]
/-- a call that is handed one cell and data, and raises -/
theorem call_ex {sem : List S → Ms → R S} {xs : List D} {c c' : Cell} {k : Nat} {ds : List D} (hc : ms[n]? = some c) (h : sem (.loc 0 :: xs.map .d) [c] = .ex k ds [c']) : callSem sem (.loc n :: xs.map .d) ms = .ex k ds (ms.set n c') := by
  have l0 : ∀ xs : List D, locsOf (xs.map S.d) = [] := fun xs => by
    induction xs with
    | nil => rfl
    | cons x xs ih => exact ih
  have l1 : locsOf (.loc n :: xs.map .d) = [n] := by show n :: locsOf (xs.map S.d) = [n]; rw [l0]
  have nx : ∀ xs : List D, (xs.map S.d).all S.noX = true := fun xs => by
    induction xs with
    | nil => rfl
    | cons x xs ih => exact ih
  have r0 : ∀ (ls : List Nat) (xs : List D), (xs.map S.d).map (renS ls) = xs.map S.d := fun ls xs => by
    induction xs with
    | nil => rfl
    | cons x xs ih => show S.d x :: (xs.map S.d).map (renS ls) = _; rw [ih]; rfl
  have e : callSem sem (.loc n :: xs.map .d) ms = callEnd [n] ms (sem ((S.loc n :: xs.map .d).map (renS [n])) ([n].map (getC ms))) := by
    unfold callSem
    rw [l1]
    have : ((S.loc n :: xs.map .d).all S.noX && nodupB [n]) = true := by
      show ((true && (xs.map S.d).all S.noX) && nodupB [n]) = true
      rw [nx]; rfl
    rw [this]
  rw [e]
  have e2 : (S.loc n :: xs.map .d).map (renS [n]) = .loc 0 :: xs.map .d := by
    show renS [n] (.loc n) :: (xs.map S.d).map (renS [n]) = _
    rw [r0]
    show S.loc ([n].idxOf n) :: _ = _
    simp
  have e3 : [n].map (getC ms) = [c] := by show [getC ms n] = [c]; rw [getC_eq hc]
  rw [e2, e3, h]
  rfl
/-- .. data only, and raises -/
theorem call_dataX {sem : List S → Ms → R S} {xs : List D} {k : Nat} {ds : List D} {m0 : Ms} (h : sem (xs.map .d) [] = .ex k ds m0) : callSem sem (xs.map .d) ms = .ex k ds ms := by
  have l0 : ∀ xs : List D, locsOf (xs.map S.d) = [] := fun xs => by
    induction xs with
    | nil => rfl
    | cons x xs ih => exact ih
  have nx : ∀ xs : List D, (xs.map S.d).all S.noX = true := fun xs => by
    induction xs with
    | nil => rfl
    | cons x xs ih => exact ih
  have r0 : ∀ (ls : List Nat) (xs : List D), (xs.map S.d).map (renS ls) = xs.map S.d := fun ls xs => by
    induction xs with
    | nil => rfl
    | cons x xs ih => show S.d x :: (xs.map S.d).map (renS ls) = _; rw [ih]; rfl
  unfold callSem
  rw [l0, nx]
  show callEnd [] ms (sem ((xs.map S.d).map (renS [])) []) = _
  rw [r0, h]
  rfl
end
end Fw
set_option Elab.async false
set_option linter.all false
set_option maxRecDepth 100000
set_option maxHeartbeats 1000000
/-! Fw25: two texts, equal or not, whatever they hold. -/
namespace Fw
open PySem L2 PySem.Spec PyProof.Rows
section
variable {Y : Cy} {k : Nat}
def gEqS (neg : Bool) : S → S → Ms → R S := fun x y ms => match x, y with
  | .d (.str a), .d (.str b) => .ok (.d (.bl (if neg then a != b else a == b))) ms
  | _, _ => .bad
theorem gEqS_ne {neg : Bool} : ∀ x y ms c ds ms', gEqS neg x y ms ≠ .ex c ds ms' := by
  intro x y ms c ds ms' h
  unfold gEqS at h
  split at h <;> cases h
theorem op_eqStr : OpR Y.X (compareOp .Eq) (fun x y H Q => ∃ a b, x = .str a ∧ y = .str b ∧ Q (.bl (if false then a != b else a == b)) H) := by
  intro pins s σ H x y v u Q I rx ry h
  obtain ⟨a, b, rfl, rfl, q⟩ := h
  obtain ⟨t, rfl⟩ := rx
  obtain ⟨t', rfl⟩ := ry
  exact PyProof.Rows.eq_str ⟨.bl _, H, I, rfl, q⟩
theorem op_neStr : OpR Y.X (compareOp .NotEq) (fun x y H Q => ∃ a b, x = .str a ∧ y = .str b ∧ Q (.bl (if true then a != b else a == b)) H) := by
  intro pins s σ H x y v u Q I rx ry h
  obtain ⟨a, b, rfl, rfl, q⟩ := h
  obtain ⟨t, rfl⟩ := rx
  obtain ⟨t', rfl⟩ := ry
  exact PyProof.Rows.ne_str ⟨.bl _, H, I, rfl, q⟩
theorem snd_eqS {neg : Bool} : SndR2 Y (fun x y H Q => ∃ a b, x = .str a ∧ y = .str b ∧ Q (.bl (if neg then a != b else a == b)) H) (gEqS neg) := by
  intro w H ms x y u v Q hr sx sy h
  unfold gEqS at h
  split at h
  · rename_i a b
    cases sx
    cases sy
    exact ⟨a, b, rfl, rfl, h.at (Ext.refl w) hr rfl⟩
  · exact h.elim
def gEq (neg : Bool) := gOr (gEqS neg) (gEqD neg)
theorem o_eq (ok : CyOk Y k) : OpD Y (compareOp .Eq) (gEq false) := (show OpD Y (compareOp .Eq) (gEqS false) from ⟨⟨_, op_eqStr, snd_eqS⟩, gEqS_ne⟩).or (o_eqD ok)
theorem o_ne (ok : CyOk Y k) : OpD Y (compareOp .NotEq) (gEq true) := (show OpD Y (compareOp .NotEq) (gEqS true) from ⟨⟨_, op_neStr, snd_eqS⟩, gEqS_ne⟩).or (o_neD ok)
end
end Fw
set_option Elab.async false
set_option linter.all false
set_option maxRecDepth 100000
set_option maxHeartbeats 1000000
/-! Fw26: int of a text; a sign in a text. -/
namespace Fw
open PySem L2 PySem.Spec PyProof.Rows
section
variable {Y : Cy} {k : Nat}
def intS : D → Option D
  | .str a => match decide (a.length ≤ 640) with
    | true => (PySem.intText? a).map D.int
    | false => none
  | _ => none
theorem cd_intS : CallD Y (.type "int") (c1 intS) := by
  refine ⟨⟨_, call_int_str, fun w H ms ss vs Q hr sv h => ?_⟩, c1_ne⟩
  obtain ⟨s, d, d', rfl, h1, h2, q⟩ := c1_inv h
  obtain ⟨v, rfl, r⟩ := SRs.one sv
  cases d with
  | str a =>
    unfold intS at h2
    dsimp only at h2
    cases f : decide (a.length ≤ 640) with
    | false => rw [f] at h2; cases h2
    | true =>
      rw [f] at h2
      dsimp only at h2
      cases g : PySem.intText? a with
      | none => rw [g] at h2; cases h2
      | some n =>
        rw [g] at h2
        cases h2
        cases view_notlist h1 (by intro ds z; cases z) r
        exact ⟨a, n, rfl, g, of_decide_eq_true f, q.at (Ext.refl w) hr rfl⟩
  | _ => cases h2
/-- one sign in a text -/
def gInS (neg : Bool) : S → S → Ms → R S := fun x y ms => match x, y with
  | .d (.str a), .d (.str z) => match a.cps with
    | ⟨[c]⟩ => .ok (.d (.bl (if neg then !decide (c ∈ z.cps.toList) else decide (c ∈ z.cps.toList)))) ms
    | _ => .bad
  | _, _ => .bad
theorem gInS_ne {neg : Bool} : ∀ x y ms c ds ms', gInS neg x y ms ≠ .ex c ds ms' := by
  intro x y ms c ds ms' h
  unfold gInS at h
  split at h
  · split at h <;> cases h
  · cases h
theorem snd_inS {neg : Bool} : SndR2 Y (fun x y H Q => ∃ (c : Nat) (z : Str), x = .str ⟨#[c]⟩ ∧ y = .str z ∧ Q (.bl (if neg then !decide (c ∈ z.cps.toList) else decide (c ∈ z.cps.toList))) H) (gInS neg) := by
  intro w H ms x y u v Q hr sx sy h
  unfold gInS at h
  split at h
  · rename_i a z
    split at h
    · rename_i c e
      cases sx
      cases sy
      obtain ⟨cps⟩ := a
      dsimp only at e
      subst e
      exact ⟨c, z, rfl, rfl, h.at (Ext.refl w) hr rfl⟩
    · exact h.elim
  · exact h.elim
theorem o_inS : OpD Y (compareOp .In) (gInS false) := ⟨⟨_, op_in_sign, snd_inS (neg := false)⟩, gInS_ne⟩
theorem o_notInS : OpD Y (compareOp .NotIn) (gInS true) := ⟨⟨_, op_notIn_sign, snd_inS (neg := true)⟩, gInS_ne⟩
end
end Fw
set_option Elab.async false
set_option linter.all false
set_option maxRecDepth 100000
set_option maxHeartbeats 1000000
/-! Fw27: methods of texts and lists, slices, minus, in, order of tuples, all/any/sum/max/min of lists. -/
namespace Fw
open PySem L2 PySem.Spec PyProof.Rows
section
variable {Y : Cy} {w w1 w2 : Wd} {σ : L2.St} {H H1 H2 : Hp} {env : Env} {ms ms1 ms2 : Ms} {k : Nat}

/-! ### methods -/
inductive BT where
  | str | list
def BT.nm : BT → String
  | .str => "str"
  | .list => "list"
def tyS (b : BT) (s : S) (ms : Ms) : Bool := match b, s with
  | .str, .d (.str _) => true
  | .list, .d (.lst _) => true
  | .list, .d (.frz _) => true
  | .list, .loc n => match ms[n]? with
    | some (.lst _) => true
    | _ => false
  | _, _ => false
theorem tyS_rel {b : BT} {s : S} {v : V} (h : tyS b s ms = true) (hr : HR Y w H ms) (sv : SR Y w s v) : L2.tyV Y.X.K b.nm v H := by
  cases s with
  | exn c ds => cases b <;> cases h
  | loc n =>
    cases b with
    | str => cases h
    | list =>
      unfold tyS at h
      dsimp only at h
      obtain ⟨a, ha, rfl⟩ := sv
      split at h
      · rename_i ds e
        obtain ⟨xs, q, _⟩ := hr.cel n a _ ha e
        exact .inl ⟨rfl, xs, SqL.of q⟩
      · cases h
  | d x =>
    cases b with
    | str =>
      cases x with
      | str z => cases sv; rfl
      | _ => cases h
    | list =>
      cases x with
      | lst ds => obtain ⟨a, xs, rfl, q, _⟩ := sv; exact .inl ⟨rfl, xs, SqL.of (hr.sub _ _ q)⟩
      | frz ds => obtain ⟨a, xs, rfl, q, _⟩ := sv; exact .inl ⟨rfl, xs, sqL_mono q hr.sub⟩
      | _ => cases h
def SndM (Y : Cy) (r : V → List V → Hp → VK → Prop) (g : S → List S → Ms → R S) : Prop :=
  ∀ (w : Wd) (H : Hp) (ms : Ms) (x : S) (xs : List S) (u : V) (vs : List V) (Q : VK), HR Y w H ms → SR Y w x u → SRs Y w xs vs → (g x xs ms).post (okP Y w Q) (fun _ _ _ => False) → r u vs H Q
structure MtD (Y : Cy) (id : String) (g : S → List S → Ms → R S) : Prop where
  ex : ∃ r, MtR Y.X id r ∧ SndM Y r g
  ne : ∀ x xs ms c ds ms', g x xs ms ≠ .ex c ds ms'
def mOr2 (g g' : S → List S → Ms → R S) : S → List S → Ms → R S := fun x xs ms => match g x xs ms with
  | .bad => g' x xs ms
  | r => r
theorem MtD.or {id : String} {g g' : S → List S → Ms → R S} (h : MtD Y id g) (h' : MtD Y id g') : MtD Y id (mOr2 g g') := by
  obtain ⟨r, p, s⟩ := h.ex
  obtain ⟨r', p', s'⟩ := h'.ex
  refine ⟨⟨_, p.or p', fun w H ms x xs u vs Q hr sx sv q => ?_⟩, fun x xs ms c ds ms' e => ?_⟩
  · unfold mOr2 at q
    split at q
    · exact .inr (s' w H ms x xs u vs Q hr sx sv q)
    · exact .inl (s w H ms x xs u vs Q hr sx sv q)
  · unfold mOr2 at e
    split at e
    · exact h'.ne _ _ _ _ _ _ e
    · exact h.ne _ _ _ _ _ _ e
theorem ne_post {r : R S} {Q : VK} (hne : ∀ c ds ms', r ≠ .ex c ds ms') (e1 : Ext w w1) (h : r.post (okP Y w Q) (exP Y w1 σ)) : r.post (okP Y w1 Q) (fun _ _ _ => False) := by
  cases r with
  | ok z ms' => exact h.ext e1
  | ex c ds ms' => exact absurd rfl (hne c ds ms')
  | bad => exact h
def mBM (b : BT) (g : S → List S → Ms → R S) (mo : Env → Ms → R S) (ma : Env → Ms → R (List S)) : Env → Ms → R S := fun env ms => (mo env ms).bind fun x ms1 => match tyS b x ms1 with
  | true => (ma env ms1).bind fun xs ms2 => g x xs ms2
  | false => .bad
variable {o e : Expr} {es : List Expr} {mo : Env → Ms → R S} {ma : Env → Ms → R (List S)} {name : Str} {apos cpos : Pos} {id : String} {g : S → List S → Ms → R S} {b : BT}
theorem e_bm0 (pa : PlainAttrs b.nm) (slot : Slot b.nm name id) (hty : typeOf (.builtin id) = pure (.type "method_descriptor")) (hm : MtD Y id g) (ho : DE Y o mo)
    (hbase : attributeBase o name Y.X.env (eval o Y.X.env) = eval o Y.X.env := by rfl) (hline : (apos.endLine == cpos.line) = true := by rfl) : DE Y (.Call (.Attribute o name apos) [] [] cpos) (mBM b g mo aNil) := by
  obtain ⟨r, pr, sr⟩ := hm.ex
  obtain ⟨to, po, so⟩ := ho.ex
  refine ⟨_, pe_bm0 pa slot hty pr po hbase hline, fun w σ H env ms Q er hr h => ?_⟩
  refine so.go er hr h fun x ms1 w1 H1 v e1 er1 hr1 sv h1 => ?_
  cases ht : tyS b x ms1 with
  | false => rw [ht] at h1; exact h1.elim
  | true =>
    rw [ht] at h1
    exact ⟨tyS_rel ht hr1 sv, sr w1 H1 ms1 x [] v [] Q hr1 sv .nil (ne_post (hm.ne x [] ms1) e1 h1)⟩
theorem e_bm (pa : PlainAttrs b.nm) (slot : Slot b.nm name id) (hty : typeOf (.builtin id) = pure (.type "method_descriptor")) (hm : MtD Y id g) (ho : DE Y o mo) (ha : DA Y (e :: es) ma)
    (hbase : attributeBase o name Y.X.env (eval o Y.X.env) = eval o Y.X.env := by rfl)
    (hfew : ((backTo cpos (starEach (e :: es) Y.X.env)).all (fun x => !x.1) && (backToKw cpos (keywordEach [] Y.X.env)).all (fun x => x.1.isSome)
      && decide ((e :: es).length + ([] : List Keyword).length + (if ([] : List Keyword).isEmpty then 0 else 1) < 30)) = true := by rfl)
    (hline : (apos.endLine == cpos.line) = true := by rfl) (hs : starEach (e :: es) Y.X.env = (false, eval e Y.X.env) :: starEach es Y.X.env := by rfl) (hplain : (backTo cpos (starEach es Y.X.env)).any (·.1) = false := by rfl) :
    DE Y (.Call (.Attribute o name apos) (e :: es) [] cpos) (mBM b g mo ma) := by
  obtain ⟨r, pr, sr⟩ := hm.ex
  obtain ⟨to, po, so⟩ := ho.ex
  obtain ⟨ta, pa', sa⟩ := ha.ex
  refine ⟨_, pe_bm pa slot hty pr po pa' hbase hfew hline hs hplain, fun w σ H env ms Q er hr h => ?_⟩
  refine so.go er hr h fun x ms1 w1 H1 v e1 er1 hr1 sv h1 => ?_
  cases ht : tyS b x ms1 with
  | false => rw [ht] at h1; exact h1.elim
  | true =>
    rw [ht] at h1
    refine ⟨tyS_rel ht hr1 sv, ?_⟩
    refine sa.go er1 hr1 h1 fun xs ms2 w2 H2 vs e2 er2 hr2 svs h2 => ?_
    exact sr w2 H2 ms2 x xs v vs Q hr2 (sv.mono e2) svs (ne_post (hm.ne x xs ms2) (e1.trans e2) h2)
/-! texts -/
def dStrs (l : List Str) : List D := l.map .str
theorem drs_dStrs {K : PySem.W.Frag} {Γ : G} {F : Hp} : ∀ l : List Str, DRs K Γ F (dStrs l) (l.map V.str)
  | [] => rfl
  | x :: l => ⟨_, _, rfl, rfl, drs_dStrs l⟩
def ofStrs : List D → Option (List Str)
  | [] => some []
  | .str x :: r => (ofStrs r).map (x :: ·)
  | _ :: _ => none
theorem ofStrs_rel {K : PySem.W.Frag} {Γ : G} {F : Hp} : ∀ {ds : List D} {l : List Str} {vs : List V}, ofStrs ds = some l → DRs K Γ F ds vs → vs = l.map V.str
  | [], l, vs, h, r => by cases h; cases r; rfl
  | .str x :: ds, l, vs, h, r => by
    simp only [ofStrs, Option.map_eq_some_iff] at h
    obtain ⟨l', h1, rfl⟩ := h
    obtain ⟨v, t, rfl, r1, r2⟩ := r
    cases r1
    rw [ofStrs_rel h1 r2]; rfl
  | .non :: _, _, _, h, _ => by cases h
  | .bl _ :: _, _, _, h, _ => by cases h
  | .int _ :: _, _, _, h, _ => by cases h
  | .tup _ :: _, _, _, h, _ => by cases h
  | .lst _ :: _, _, _, h, _ => by cases h
  | .frz _ :: _, _, _, h, _ => by cases h
  | .obj _ _ :: _, _, _, h, _ => by cases h
  | .dic _ _ :: _, _, _, h, _ => by cases h
  | .dit _ _ :: _, _, _, h, _ => by cases h
  | .fn _ :: _, _, _, h, _ => by cases h
  | .ty _ :: _, _, _, h, _ => by cases h
theorem ofStrs_dStrs : ∀ l : List Str, ofStrs (dStrs l) = some l
  | [] => rfl
  | x :: l => by show (ofStrs (dStrs l)).map _ = _; rw [ofStrs_dStrs l]; rfl
def gPart : S → List S → Ms → R S := fun x xs ms => match x, xs with
  | .d (.str a), [.d (.str b)] => match !(b.length == 0) && few a.length with
    | true => .ok (.d (.tup [.str (Txt.partition a b).1, .str (Txt.partition a b).2.1, .str (Txt.partition a b).2.2])) ms
    | false => .bad
  | _, _ => .bad
theorem SRs.nil_inv {vs : List V} (h : SRs Y w [] vs) : vs = [] := by cases h; rfl
theorem md_partition : MtD Y "str.partition" gPart := by
  refine ⟨⟨_, mt_partition, fun w H ms x xs u vs Q hr sx sv h => ?_⟩, fun x xs ms c ds ms' h => ?_⟩
  · unfold gPart at h
    split at h
    · rename_i a b
      split at h
      · rename_i f
        obtain ⟨f1, f2⟩ := Bool.and_eq_true_iff.mp f
        obtain ⟨v, rfl, r⟩ := SRs.one sv
        cases sx
        cases r
        refine ⟨a, b, rfl, rfl, by simpa using f1, few_ok f2, fun p hp => ?_⟩
        obtain ⟨hr2, e⟩ := hr.froz (o := .tup [.str (Txt.partition a b).1, .str (Txt.partition a b).2.1, .str (Txt.partition a b).2.2]) hp
        exact h.at e hr2 ⟨p, _, rfl, SqT.of upd_same, drs_dStrs [(Txt.partition a b).1, (Txt.partition a b).2.1, (Txt.partition a b).2.2]⟩
      · exact h.elim
    · exact h.elim
  · unfold gPart at h
    split at h
    · split at h <;> cases h
    · cases h
def gSplit : S → List S → Ms → R S := fun x xs ms => match x, xs with
  | .d (.str a), [.d (.str b)] => match !(b.length == 0) && few (a.length + 2) with
    | true => .ok (.d (.lst (dStrs (Txt.split a b)))) ms
    | false => .bad
  | _, _ => .bad
theorem md_split : MtD Y "str.split" gSplit := by
  refine ⟨⟨_, mt_split, fun w H ms x xs u vs Q hr sx sv h => ?_⟩, fun x xs ms c ds ms' h => ?_⟩
  · unfold gSplit at h
    split at h
    · rename_i a b
      split at h
      · rename_i f
        obtain ⟨f1, f2⟩ := Bool.and_eq_true_iff.mp f
        obtain ⟨v, rfl, r⟩ := SRs.one sv
        cases sx
        cases r
        refine ⟨a, b, rfl, rfl, by simpa using f1, few_ok f2, fun p hp => ?_⟩
        obtain ⟨hr2, e⟩ := hr.froz (o := .lst ((Txt.split a b).map V.str)) hp
        exact h.at e hr2 ⟨p, _, rfl, upd_same, drs_dStrs _⟩
      · exact h.elim
    · exact h.elim
  · unfold gSplit at h
    split at h
    · split at h <;> cases h
    · cases h
def gJoin : S → List S → Ms → R S := fun x xs ms => match x, xs with
  | .d (.str a), [s] => match (match view s ms with
      | some (.lst ds) => ofStrs ds
      | some (.tup ds) => ofStrs ds
      | _ => none) with
    | some l => match few ((l.map (·.length)).sum + l.length * a.length) with
      | true => .ok (.d (.str (Txt.join a l))) ms
      | false => .bad
    | none => .bad
  | _, _ => .bad
theorem md_join : MtD Y "str.join" gJoin := by
  refine ⟨⟨_, mt_join, fun w H ms x xs u vs Q hr sx sv h => ?_⟩, fun x xs ms c ds ms' h => ?_⟩
  · unfold gJoin at h
    split at h
    · rename_i a s
      obtain ⟨v, rfl, r⟩ := SRs.one sv
      cases sx
      have key : ∀ ds l, (view s ms = some (.lst ds) ∨ view s ms = some (.tup ds)) → ofStrs ds = some l → few ((l.map (·.length)).sum + l.length * a.length) = true → okP Y w Q (.d (.str (Txt.join a l))) ms →
          ∃ a1 p, ∃ ys : List Str, V.str a = .str a1 ∧ [v] = [V.ref p] ∧ (SqL Y.X.K H p (ys.map V.str) ∨ SqT Y.X.K H p (ys.map V.str)) ∧ (ys.map (·.length)).sum + ys.length * a1.length ≤ 16777216 ∧ Q (.str (Txt.join a1 ys)) H := by
        intro ds l e1 e2 f q
        obtain ⟨p, zs, rfl, k1, k2⟩ := seq_inv e1 hr r
        have := ofStrs_rel e2 k2
        subst this
        refine ⟨a, p, l, rfl, rfl, k1, ?_, q.at (Ext.refl w) hr rfl⟩
        have : (l.map (·.length)).sum + l.length * a.length ≤ 1000000 := Nat.le_of_ble_eq_true f
        omega
      split at h
      · rename_i l e
        split at h
        · rename_i f
          split at e
          · rename_i ds e1
            exact key ds l (.inl e1) e f h
          · rename_i ds e1
            exact key ds l (.inr e1) e f h
          · cases e
        · exact h.elim
      · exact h.elim
    · exact h.elim
  · unfold gJoin at h
    split at h
    · split at h
      · split at h <;> cases h
      · cases h
    · cases h
/-! lists -/
def cellL (s : S) (ms : Ms) : Option (Nat × List D) := match s with
  | .loc n => match ms[n]? with
    | some (.lst ds) => some (n, ds)
    | _ => none
  | _ => none
theorem cellL_inv {s : S} {n : Nat} {ds : List D} (h : cellL s ms = some (n, ds)) : s = .loc n ∧ ms[n]? = some (.lst ds) := by
  unfold cellL at h
  split at h
  · split at h
    · rename_i e; cases h; exact ⟨rfl, e⟩
    · cases h
  · cases h
theorem cellL_rel {s : S} {v : V} {n : Nat} {ds : List D} (h : cellL s ms = some (n, ds)) (hr : HR Y w H ms) (sv : SR Y w s v) : ∃ a xs, v = .ref a ∧ w.mu[n]? = some a ∧ ms[n]? = some (.lst ds) ∧ H a = some (.lst xs) ∧ DRs Y.X.K Y.Γ w.F ds xs := by
  obtain ⟨rfl, e⟩ := cellL_inv h
  obtain ⟨a, ha, rfl⟩ := sv
  obtain ⟨xs, q, r⟩ := hr.cel n a _ ha e
  exact ⟨a, xs, rfl, ha, e, q, r⟩
theorem HR0.putL {n : Nat} {a : Addr} {c : Cell} {ds : List D} {xs : List V} (hr : HR Y w H ms) (ha : w.mu[n]? = some a) (hc : ms[n]? = some c) (hd : c ≠ .dead) (r : DRs Y.X.K Y.Γ w.F ds xs) : HR Y w (upd H a (.lst xs)) (ms.set n (.lst ds)) :=
  hr.write ha hc hd ⟨xs, upd_same, r⟩
def gAppend : S → List S → Ms → R S := fun x xs ms => match cellL x ms, xs with
  | some (n, ds), [.d y] => match few ds.length with
    | true => .ok (.d .non) (ms.set n (.lst (ds ++ [y])))
    | false => .bad
  | _, _ => .bad
theorem few_lt {n : Nat} (h : few n = true) : n < sizeLine := by
  have : n ≤ 1000000 := Nat.le_of_ble_eq_true h
  rw [sizeLine_eq]; omega
theorem md_append : MtD Y "list.append" gAppend := by
  refine ⟨⟨_, mt_append, fun w H ms x xs u vs Q hr sx sv h => ?_⟩, fun x xs ms c ds ms' h => ?_⟩
  · unfold gAppend at h
    split at h
    · rename_i n ds y e
      split at h
      · rename_i f
        obtain ⟨a, zs, rfl, ha, hc, q, r⟩ := cellL_rel e hr sx
        obtain ⟨v, rfl, ry⟩ := SRs.one sv
        refine ⟨a, zs, v, rfl, rfl, q, by rw [← DRs.length r]; exact few_lt f, ?_⟩
        exact h.at (Ext.refl w) (hr.putL ha hc (by intro z; cases z) (DRs.append r ⟨v, [], rfl, ry, rfl⟩)) rfl
      · exact h.elim
    · exact h.elim
  · unfold gAppend at h
    split at h
    · split at h <;> cases h
    · cases h
def gExtend : S → List S → Ms → R S := fun x xs ms => match cellL x ms, xs with
  | some (n, ds), [s] => match view s ms with
    | some (.lst es) => match few (ds.length + es.length) with
      | true => .ok (.d .non) (ms.set n (.lst (ds ++ es)))
      | false => .bad
    | _ => .bad
  | _, _ => .bad
theorem md_extend : MtD Y "list.extend" gExtend := by
  refine ⟨⟨_, mt_extend, fun w H ms x xs u vs Q hr sx sv h => ?_⟩, fun x xs ms c ds ms' h => ?_⟩
  · unfold gExtend at h
    split at h
    · rename_i n ds s e
      split at h
      · rename_i es e2
        split at h
        · rename_i f
          obtain ⟨a, zs, rfl, ha, hc, q, r⟩ := cellL_rel e hr sx
          obtain ⟨v, rfl, ry⟩ := SRs.one sv
          obtain ⟨b, ys, rfl, k1, k2⟩ := view_list e2 hr ry
          refine ⟨a, b, zs, ys, rfl, rfl, q, k1, by rw [← DRs.length r, ← DRs.length k2]; exact few_ok f, ?_⟩
          exact h.at (Ext.refl w) (hr.putL ha hc (by intro z; cases z) (DRs.append r k2)) rfl
        · exact h.elim
      · exact h.elim
    · exact h.elim
  · unfold gExtend at h
    split at h
    · split at h
      · split at h <;> cases h
      · cases h
    · cases h
theorem DRs.dropLast {K : PySem.W.Frag} {Γ : G} {F : Hp} {ds : List D} {vs : List V} (h : DRs K Γ F ds vs) : DRs K Γ F ds.dropLast vs.dropLast := by
  rw [List.dropLast_eq_take, List.dropLast_eq_take, ← DRs.length h]
  exact DRs.take _ h
def gPop : S → List S → Ms → R S := fun x xs ms => match cellL x ms, xs with
  | some (n, ds), [] => match ds[ds.length - 1]? with
    | some y => .ok (.d y) (ms.set n (.lst ds.dropLast))
    | none => .bad
  | _, _ => .bad
theorem md_pop : MtD Y "list.pop" gPop := by
  refine ⟨⟨_, mt_pop, fun w H ms x xs u vs Q hr sx sv h => ?_⟩, fun x xs ms c ds ms' h => ?_⟩
  · unfold gPop at h
    split at h
    · rename_i n ds e
      split at h
      · rename_i y hy
        obtain ⟨a, zs, rfl, ha, hc, q, r⟩ := cellL_rel e hr sx
        have := SRs.nil_inv sv
        subst this
        obtain ⟨v, hv, rv⟩ := DRs.get r hy
        refine ⟨a, zs, v, rfl, rfl, q, by rw [← DRs.length r]; exact hv, ?_⟩
        exact h.at (Ext.refl w) (hr.putL ha hc (by intro z; cases z) (DRs.dropLast r)) rv
      · exact h.elim
    · exact h.elim
  · unfold gPop at h
    split at h
    · split at h <;> cases h
    · cases h
theorem DRs.erase {K : PySem.W.Frag} {Γ : G} {F : Hp} : ∀ {ds : List D} {vs : List V} (k : Nat), DRs K Γ F ds vs → DRs K Γ F (ds.eraseIdx k) (vs.eraseIdx k)
  | [], _, _, h => by cases h; rfl
  | d :: ds, _, 0, h => by obtain ⟨x, r, rfl, h2, h3⟩ := h; exact h3
  | d :: ds, _, k + 1, h => by obtain ⟨x, r, rfl, h2, h3⟩ := h; exact ⟨x, r.eraseIdx k, rfl, h2, DRs.erase k h3⟩
noncomputable def gPopAt : S → List S → Ms → R S := fun x xs ms => match cellL x ms, xs with
  | some (n, ds), [.d (.int i)] => match inR i, seqIndex? i ds.length with
    | true, some k => match ds[k]? with
      | some y => .ok (.d y) (ms.set n (.lst (ds.eraseIdx k)))
      | none => .bad
    | _, _ => .bad
  | _, _ => .bad
theorem md_popAt : MtD Y "list.pop" gPopAt := by
  refine ⟨⟨_, mt_popAt, fun w H ms x xs u vs Q hr sx sv h => ?_⟩, fun x xs ms c ds ms' h => ?_⟩
  · unfold gPopAt at h
    split at h
    · rename_i n ds i e
      split at h
      · rename_i k b1 b2
        split at h
        · rename_i y hy
          obtain ⟨a, zs, rfl, ha, hc, q, r⟩ := cellL_rel e hr sx
          obtain ⟨vi, rfl, ri⟩ := SRs.one sv
          cases ri
          obtain ⟨v, hv, rv⟩ := DRs.get r hy
          have bi := inR_of b1
          refine ⟨a, zs, i, k, v, rfl, rfl, q, by omega, by omega, by rw [← DRs.length r]; exact b2, hv, ?_⟩
          exact h.at (Ext.refl w) (hr.putL ha hc (by intro z; cases z) (DRs.erase k r)) rv
        · exact h.elim
      · exact h.elim
    · exact h.elim
  · unfold gPopAt at h
    split at h
    · split at h
      · split at h <;> cases h
      · cases h
    · cases h
def gClear : S → List S → Ms → R S := fun x xs ms => match cellL x ms, xs with
  | some (n, _), [] => .ok (.d .non) (ms.set n (.lst []))
  | _, _ => .bad
theorem md_clear : MtD Y "list.clear" gClear := by
  refine ⟨⟨_, mt_clear, fun w H ms x xs u vs Q hr sx sv h => ?_⟩, fun x xs ms c ds ms' h => ?_⟩
  · unfold gClear at h
    split at h
    · rename_i n ds e
      obtain ⟨a, zs, rfl, ha, hc, q, r⟩ := cellL_rel e hr sx
      have := SRs.nil_inv sv
      subst this
      exact ⟨a, zs, rfl, rfl, q, h.at (Ext.refl w) (hr.putL ha hc (by intro z; cases z) rfl) rfl⟩
    · exact h.elim
  · unfold gClear at h
    split at h <;> cases h
end
end Fw
set_option Elab.async false
set_option linter.all false
set_option maxRecDepth 100000
set_option maxHeartbeats 1000000
/-! Fw28: slices, minus, in, order of tuples, all/any/sum/max/min of lists, list of a text. -/
namespace Fw
open PySem L2 PySem.Spec PyProof.Rows
section
variable {Y : Cy} {w w1 w2 : Wd} {σ : L2.St} {H H1 H2 : Hp} {env : Env} {ms ms1 ms2 : Ms} {k : Nat} {o e : Expr} {mo me : Env → Ms → R S} {pos p2 : Pos}
/-! ### slices -/
def SndO (Y : Cy) (t : TO) (m : Env → Ms → R (Option Int)) : Prop :=
  ∀ (w : Wd) (σ : L2.St) (H : Hp) (env : Env) (ms : Ms) (Q : Option Int → Hp → Prop), ER Y w σ env → HR Y w H ms → (m env ms).post (fun i ms' => ∀ w' H', Ext w w' → HR Y w' H' ms' → Q i H') (exP Y w σ) → t σ H Q
structure DO (Y : Cy) (e : Option Expr) (m : Env → Ms → R (Option Int)) : Prop where
  ex : ∃ t, PO Y.X e t ∧ SndO Y t m
def pNo : Env → Ms → R (Option Int) := fun _ ms => .ok none ms
def asO (s : S) (ms : Ms) : R (Option Int) := match s with
  | .d (.int i) => .ok (some i) ms
  | _ => .bad
def pAt (m : Env → Ms → R S) : Env → Ms → R (Option Int) := fun env ms => (m env ms).bind asO
theorem d_no : DO Y none pNo := ⟨_, po_none, fun w σ H env ms Q er hr h => h w H (Ext.refl w) hr⟩
theorem d_at (h : DE Y e me) : DO Y (some e) (pAt me) := by
  obtain ⟨t, p, s⟩ := h.ex
  refine ⟨_, po_some p, fun w σ H env ms Q er hr hw => ?_⟩
  refine s.go er hr hw fun x ms1 w1 H1 v e1 er1 hr1 sv h1 => ?_
  unfold asO at h1
  split at h1
  · cases sv; exact ⟨_, rfl, h1 w1 H1 e1 hr1⟩
  · exact h1.elim
theorem SndO.go {t : TO} {m : Env → Ms → R (Option Int)} (h : SndO Y t m) {β : Type} {f : Option Int → Ms → R β} {P : β → Ms → Prop} {k : Option Int → Hp → Prop} (er : ER Y w σ env) (hr : HR Y w H ms)
    (hp : ((m env ms).bind f).post P (exP Y w σ)) (hk : ∀ b ms1 w1 H1, Ext w w1 → ER Y w1 σ env → HR Y w1 H1 ms1 → (f b ms1).post P (exP Y w1 σ) → k b H1) : t σ H k := by
  refine h w σ H env ms k er hr (R.post_mono (R.post_bind hp) (fun s ms1 q => ?_) fun _ _ _ q => q)
  intro w1 H1 e1 hr1
  exact hk s ms1 w1 H1 e1 (er.mono e1) hr1 (R.post_mono q (fun _ _ z => z) fun _ _ _ z => z.ext e1)
def cutD (xs : List D) (lo hi : Option Int) : List D := (xs.drop (HT.sIx xs.length 0 lo)).take (HT.sIx xs.length xs.length hi - HT.sIx xs.length 0 lo)
theorem cut_rel {K : PySem.W.Frag} {Γ : G} {F : Hp} {ds : List D} {xs : List V} (r : DRs K Γ F ds xs) (lo hi : Option Int) : DRs K Γ F (cutD ds lo hi) (cutV xs lo hi) := by
  unfold cutD cutV
  rw [DRs.length r]
  exact DRs.take _ (DRs.drop _ r)
/-- x[lo:hi] of a text, a tuple, a list: frozen -/
def slD (d : D) (lo hi : Option Int) : Option D := match d with
  | .str z => match few z.length with
    | true => some (.str (cutS z lo hi))
    | false => none
  | .tup ds => some (.tup (cutD ds lo hi))
  | .lst ds => some (.lst (cutD ds lo hi))
  | .frz ds => some (.lst (cutD ds lo hi))
  | _ => none
def gSl (x : S) (lo hi : Option Int) (ms : Ms) : R S := match (view x ms).bind fun d => slD d lo hi with
  | some d => .ok (.d d) ms
  | none => .bad
def mSl (mo : Env → Ms → R S) (ml mh : Env → Ms → R (Option Int)) : Env → Ms → R S := fun env ms => (mo env ms).bind fun x ms1 => (ml env ms1).bind fun l ms2 => (mh env ms2).bind fun u ms3 => gSl x l u ms3
theorem HT_sIx_le (n d : Nat) (o : Option Int) (h : d ≤ n) : HT.sIx n d o ≤ n := HT.sIx_le n d h o
theorem e_sl {lo hi : Option Expr} {ml mh : Env → Ms → R (Option Int)} (ho : DE Y o mo) (hl : DO Y lo ml) (hh : DO Y hi mh) : DE Y (.Subscript o (.Slice lo hi none p2) pos) (mSl mo ml mh) := by
  obtain ⟨to, po, so⟩ := ho.ex
  obtain ⟨tl, pl, sl⟩ := hl.ex
  obtain ⟨th, ph, sh⟩ := hh.ex
  refine ⟨_, pe_slice (SlR.or (SlR.or sl_list sl_str) sl_tupA) po pl ph, fun w σ H env ms Q er hr h => ?_⟩
  refine so.go er hr h fun x ms1 w1 H1 v e1 er1 hr1 sv h1 => ?_
  refine sl.go er1 hr1 h1 fun l ms2 w2 H2 e2 er2 hr2 h2 => ?_
  refine sh.go er2 hr2 h2 fun u ms3 w3 H3 e3 er3 hr3 h3 => ?_
  have sv3 : SR Y w3 x v := (sv.mono e2).mono e3
  have e13 : Ext w w3 := e1.trans (e2.trans e3)
  unfold gSl at h3
  split at h3
  · rename_i d hd
    obtain ⟨dx, k1, k2⟩ := Option.bind_eq_some_iff.mp hd
    cases dx with
    | str z =>
      cases view_notlist k1 (by intro ds z; cases z) sv3
      unfold slD at k2
      dsimp only at k2
      cases f : few z.length with
      | false => rw [f] at k2; cases k2
      | true =>
        rw [f] at k2
        cases k2
        exact .inl (.inr ⟨z, rfl, few_ok f, h3.at e13 hr3 rfl⟩)
    | lst ds =>
      cases k2
      obtain ⟨a, xs, rfl, q1, q2⟩ := view_list k1 hr3 sv3
      refine .inl (.inl ⟨a, xs, rfl, SqL.of q1, fun p hp => ?_⟩)
      obtain ⟨hr4, ex⟩ := hr3.froz (o := .lst (cutV xs l u)) hp
      exact h3.at (e13.trans ex) hr4 ⟨p, _, rfl, upd_same, DRs.mono ex.F _ _ (cut_rel q2 l u)⟩
    | frz ds =>
      cases k2
      obtain ⟨a, xs, rfl, q1, q2⟩ := view_notlist k1 (by intro ds z; cases z) sv3
      refine .inl (.inl ⟨a, xs, rfl, sqL_mono q1 hr3.sub, fun p hp => ?_⟩)
      obtain ⟨hr4, ex⟩ := hr3.froz (o := .lst (cutV xs l u)) hp
      exact h3.at (e13.trans ex) hr4 ⟨p, _, rfl, upd_same, DRs.mono ex.F _ _ (cut_rel q2 l u)⟩
    | tup ds =>
      cases k2
      obtain ⟨a, xs, rfl, q1, q2⟩ := view_notlist k1 (by intro ds z; cases z) sv3
      refine .inr ⟨a, xs, rfl, sqT_mono q1 hr3.sub, fun z => ?_, fun z p hp => ?_⟩
      · refine h3.at e13 hr3 ⟨a, xs, rfl, q1, ?_⟩
        have : cutV xs l u = xs := by unfold cutV; rw [z.1, z.2]; simp
        rw [← this]
        exact cut_rel q2 l u
      · obtain ⟨hr4, ex⟩ := hr3.froz (o := .tup (cutV xs l u)) hp
        exact h3.at (e13.trans ex) hr4 ⟨p, _, rfl, SqT.of upd_same, DRs.mono ex.F _ _ (cut_rel q2 l u)⟩
    | _ => cases k2
  · exact h3.elim
/-! ### -e -/
def negS (s : S) (ms : Ms) : R S := match s with
  | .d (.int i) => .ok (.d (.int (-i))) ms
  | _ => .bad
def mNeg (m : Env → Ms → R S) : Env → Ms → R S := fun env ms => (m env ms).bind negS
theorem e_neg (h : DE Y e me) : DE Y (.UnaryOp .USub e pos) (mNeg me) := by
  obtain ⟨t, p, s⟩ := h.ex
  refine ⟨_, pe_un un_neg p, fun w σ H env ms Q er hr hw => ?_⟩
  refine s.go er hr hw fun x ms1 w1 H1 v e1 er1 hr1 sv h1 => ?_
  unfold negS at h1
  split at h1
  · cases sv; exact ⟨_, rfl, h1.at e1 hr1 rfl⟩
  · exact h1.elim
/-! ### in, not in -/
def inF (d : D) (ds : List D) : Bool := inV (flatOf d) (ds.map flatOf)
theorem flats_rel {K : PySem.W.Frag} {Γ : G} {F : Hp} : ∀ {ds : List D} {vs : List V}, ds.all flatD = true → DRs K Γ F ds vs → vs = ds.map flatOf
  | [], vs, _, r => by cases r; rfl
  | d :: ds, vs, h, r => by
    obtain ⟨x, t, rfl, r1, r2⟩ := r
    rw [List.all_cons, Bool.and_eq_true] at h
    rw [(flat_rel h.1).mp r1, flats_rel h.2 r2]; rfl
theorem flatV_of {d : D} (h : flatD d = true) : flatV (flatOf d) = true := by cases d <;> first | rfl | cases h
theorem flatVs_of : ∀ {ds : List D}, ds.all flatD = true → (ds.map flatOf).all flatV = true
  | [], _ => rfl
  | d :: ds, h => by
    rw [List.all_cons, Bool.and_eq_true] at h
    rw [List.map_cons, List.all_cons, flatV_of h.1, flatVs_of h.2]; rfl
def seqD (s : S) (ms : Ms) : Option (List D) := match view s ms with
  | some (.lst ds) => some ds
  | some (.tup ds) => some ds
  | _ => none
theorem seqD_inv {s : S} {v : V} {ds : List D} (h : seqD s ms = some ds) (hr : HR Y w H ms) (sv : SR Y w s v) : ∃ a xs, v = .ref a ∧ (SqL Y.X.K H a xs ∨ SqT Y.X.K H a xs) ∧ DRs Y.X.K Y.Γ w.F ds xs := by
  unfold seqD at h
  split at h
  · rename_i e; cases h; exact seq_inv (.inl e) hr sv
  · rename_i e; cases h; exact seq_inv (.inr e) hr sv
  · cases h
def gInF (neg : Bool) : S → S → Ms → R S := fun x y ms => match x, seqD y ms with
  | .d d, some ds => match flatD d && ds.all flatD with
    | true => .ok (.d (.bl (if neg then !inF d ds else inF d ds))) ms
    | false => .bad
  | _, _ => .bad
theorem gInF_ne {neg : Bool} : ∀ x y ms c ds ms', gInF neg x y ms ≠ .ex c ds ms' := by
  intro x y ms c ds ms' h
  unfold gInF at h
  split at h
  · split at h <;> cases h
  · cases h
theorem snd_inF {neg : Bool} : SndR2 Y (rIn Y.X.K neg) (gInF neg) := by
  intro w H ms x y u v Q hr sx sy h
  unfold gInF at h
  split at h
  · rename_i d ds e
    split at h
    · rename_i f
      obtain ⟨f1, f2⟩ := Bool.and_eq_true_iff.mp f
      obtain ⟨a, xs, rfl, k1, k2⟩ := seqD_inv e hr sy
      have e1 : u = flatOf d := (flat_rel f1).mp sx
      have e2 := flats_rel f2 k2
      subst e1 e2
      exact ⟨a, _, rfl, k1, flatV_of f1, flatVs_of f2, h.at (Ext.refl w) hr rfl⟩
    · exact h.elim
  · exact h.elim
/-- data in a list, at any depth -/
def gInD (neg : Bool) : S → S → Ms → R S := fun x y ms => match (view x ms).bind shapedD, (view y ms).bind shapedD with
  | some p, some (.list qs) => .ok (.d (.bl (if neg then !(qs.any fun z => PyData.eqv z p) else qs.any fun z => PyData.eqv z p))) ms
  | _, _ => .bad
theorem gInD_ne {neg : Bool} : ∀ x y ms c ds ms', gInD neg x y ms ≠ .ex c ds ms' := by
  intro x y ms c ds ms' h
  unfold gInD at h
  split at h <;> cases h
theorem inD_inv {neg : Bool} {x y : S} {P : S → Ms → Prop} {E : Nat → List D → Ms → Prop} (h : (gInD neg x y ms).post P E) : ∃ d e p qs, view x ms = some d ∧ view y ms = some e ∧ toP d = some p ∧ toP e = some (.list qs) ∧ SeqAt.shaped p = true ∧ SeqAt.shaped (.list qs) = true ∧ P (.d (.bl (if neg then !(qs.any fun z => PyData.eqv z p) else qs.any fun z => PyData.eqv z p))) ms := by
  unfold gInD at h
  split at h
  · rename_i p qs e1 e2
    obtain ⟨d, h1, h2⟩ := Option.bind_eq_some_iff.mp e1
    obtain ⟨e, h3, h4⟩ := Option.bind_eq_some_iff.mp e2
    obtain ⟨k1, k2⟩ := shapedD_inv h2
    obtain ⟨k3, k4⟩ := shapedD_inv h4
    exact ⟨d, e, p, qs, h1, h3, k1, k3, k2, k4, h⟩
  · exact h.elim
theorem o_inD (ok : CyOk Y k) : OpD Y (compareOp .In) (gInD false) := by
  refine ⟨⟨_, op_inD (by have := ok.hr.un; omega), fun w H ms x y u v Q hr sx sy h => ?_⟩, gInD_ne⟩
  obtain ⟨d, e, p, q, h1, h2, h3, h4, h5, h6, hq⟩ := inD_inv h
  exact ⟨p, q, view_rel h1 hr sx h3, view_rel h2 hr sy h4, h5, h6, hq.at (Ext.refl w) hr rfl⟩
theorem o_notInD (ok : CyOk Y k) : OpD Y (compareOp .NotIn) (gInD true) := by
  refine ⟨⟨_, op_notInD (by have := ok.hr.un; omega), fun w H ms x y u v Q hr sx sy h => ?_⟩, gInD_ne⟩
  obtain ⟨d, e, p, q, h1, h2, h3, h4, h5, h6, hq⟩ := inD_inv h
  exact ⟨p, q, view_rel h1 hr sx h3, view_rel h2 hr sy h4, h5, h6, hq.at (Ext.refl w) hr rfl⟩
def gIn (neg : Bool) := gOr (gInS neg) (gOr (gInF neg) (gInD neg))
theorem o_in (ok : CyOk Y k) : OpD Y (compareOp .In) (gIn false) := o_inS.or ((show OpD Y (compareOp .In) (gInF false) from ⟨⟨_, op_in_seq, snd_inF⟩, gInF_ne⟩).or (o_inD ok))
theorem o_notIn (ok : CyOk Y k) : OpD Y (compareOp .NotIn) (gIn true) := o_notInS.or ((show OpD Y (compareOp .NotIn) (gInF true) from ⟨⟨_, op_notIn_seq, snd_inF⟩, gInF_ne⟩).or (o_notInD ok))
end
end Fw
set_option Elab.async false
set_option linter.all false
set_option maxRecDepth 100000
set_option maxHeartbeats 1000000
/-! Fw29: order of tuples; all, any, sum, max, min of lists; list of a text; freezing. -/
namespace Fw
open PySem L2 PySem.Spec PyProof.Rows
section
variable {Y : Cy} {w w1 w2 : Wd} {σ : L2.St} {H H1 H2 : Hp} {env : Env} {ms ms1 ms2 : Ms} {k : Nat} {o e : Expr} {mo me : Env → Ms → R S} {pos p2 : Pos}
/-! ### order of tuples of ints and texts -/
def ltV : V → V → Bool
  | .int i, .int j => decide (i < j)
  | .str a, .str b => decide (a.cps.toList < b.cps.toList)
  | _, _ => false
def cmpV : V → V → Bool
  | .int _, .int _ => true
  | .str _, .str _ => true
  | _, _ => false
def zipV : List V → List V → Bool
  | x :: xs, y :: ys => cmpV x y && zipV xs ys
  | _, _ => true
def lexV : List V → List V → Bool
  | [], [] => false
  | [], _ :: _ => true
  | _ :: _, [] => false
  | x :: xs, y :: ys => if eqV x y = true then lexV xs ys else ltV x y
theorem lexAt_shift {e r : Nat → Bool} {z : Bool} : ∀ (k i : Nat), Ob.lexAt e r z (i + 1) k = Ob.lexAt (fun j => e (j + 1)) (fun j => r (j + 1)) z i k
  | 0, _ => rfl
  | k + 1, i => by rw [Ob.lexAt_succ, Ob.lexAt_succ, lexAt_shift k (i + 1)]
theorem lexAt_lexV : ∀ xs ys : List V, Ob.lexAt (fun j => eqV (xs.getD j .non) (ys.getD j .non)) (fun j => ltV (xs.getD j .non) (ys.getD j .non)) (decide (xs.length < ys.length)) 0 (min xs.length ys.length) = lexV xs ys
  | [], [] => rfl
  | [], y :: ys => by rw [show min ([] : List V).length (y :: ys).length = 0 by simp]; simp [Ob.lexAt, lexV]
  | x :: xs, [] => by rw [show min (x :: xs).length ([] : List V).length = 0 by simp]; simp [Ob.lexAt, lexV]
  | x :: xs, y :: ys => by
    have ih := lexAt_lexV xs ys
    have e : min (x :: xs).length (y :: ys).length = min xs.length ys.length + 1 := by simp only [List.length_cons]; omega
    rw [e, Ob.lexAt_succ, lexAt_shift]
    have e2 : decide ((x :: xs).length < (y :: ys).length) = decide (xs.length < ys.length) := by simp
    rw [e2]
    show (if eqV x y = true then Ob.lexAt (fun j => eqV (xs.getD j .non) (ys.getD j .non)) (fun j => ltV (xs.getD j .non) (ys.getD j .non)) _ 0 _ else ltV x y) = _
    rw [ih]; rfl
theorem zipV_at : ∀ {xs ys : List V}, zipV xs ys = true → ∀ (j : Nat), j < xs.length → j < ys.length → cmpV (xs.getD j .non) (ys.getD j .non) = true
  | x :: xs, y :: ys, h, 0, _, _ => by unfold zipV at h; exact (Bool.and_eq_true_iff.mp h).1
  | x :: xs, y :: ys, h, j + 1, h1, h2 => by
    unfold zipV at h
    simpa using zipV_at (Bool.and_eq_true_iff.mp h).2 j (by simpa using h1) (by simpa using h2)
theorem vals_at : ∀ {xs : List V} {us : List Value}, Vals xs us → ∀ (j : Nat) (h : j < us.toArray.size), j < xs.length ∧ RelV (xs.getD j .non) us.toArray[j]
  | _, _, .nil, j, h => by simp at h
  | _, _, .cons a b, 0, h => ⟨Nat.succ_pos _, a⟩
  | x :: xs, u :: us, .cons a b, j + 1, h => by
    have := vals_at b j (by simpa using h)
    exact ⟨Nat.succ_lt_succ this.1, by simpa using this.2⟩
def rLtF (K : PySem.W.Frag) : R2 := fun x y H Q => ∃ a b xs ys, x = .ref a ∧ y = .ref b ∧ SqT K H a xs ∧ SqT K H b ys ∧ zipV xs ys = true ∧ Q (.bl (lexV xs ys)) H
theorem op_ltF (hu : Y.X.A.units < cLine) : OpR Y.X (compareOp .Lt) (rLtF Y.X.K) := by
  intro pins s σ H x y v u Q I rx ry h
  obtain ⟨a, b, xs, ys, rfl, rfl, ha, hb, hz, q⟩ := h
  cases rx
  cases ry
  obtain ⟨its, r1, p1, _⟩ := I.tuple ha
  obtain ⟨its2, r2, p2, _⟩ := I.tuple hb
  have l1 := r1.length
  have l2 := r2.length
  have R := Ob.RcOp.tuples_lt (A := Y.X.A) (s := s) (e := fun j => eqV (xs.getD j .non) (ys.getD j .non)) (r := fun j => ltV (xs.getD j .non) (ys.getD j .non)) p1 p2 hu (fun j h1 h2 => by
    obtain ⟨k1, k2⟩ := vals_at r1 j h1
    obtain ⟨k3, k4⟩ := vals_at r2 j h2
    have c := zipV_at hz j k1 k3
    have f1 : flatV (xs.getD j .non) = true := by
      generalize xs.getD j .non = p at c ⊢
      generalize ys.getD j .non = q at c
      cases p <;> first | rfl | (cases q <;> cases c)
    have f2 : flatV (ys.getD j .non) = true := by
      generalize xs.getD j .non = p at c
      generalize ys.getD j .non = q at c ⊢
      cases q <;> first | rfl | (cases p <;> cases c)
    exact eqAt_V k2 k4 f1 f2) (fun j h1 h2 _ => by
    obtain ⟨k1, k2⟩ := vals_at r1 j h1
    obtain ⟨k3, k4⟩ := vals_at r2 j h2
    have c := zipV_at hz j k1 k3
    generalize xs.getD j .non = p at c k2 ⊢
    generalize ys.getD j .non = q at c k4 ⊢
    generalize its.toArray[j] = u1 at k2 ⊢
    generalize its2.toArray[j] = u2 at k4 ⊢
    cases p <;> cases q <;> first | cases c | skip
    · obtain ⟨t, rfl⟩ := k2
      obtain ⟨t', rfl⟩ := k4
      exact fun _ _ _ _ h => PyProof.Rows.lt_int h
    · obtain ⟨t, rfl⟩ := k2
      obtain ⟨t', rfl⟩ := k4
      exact fun _ _ _ _ h => PyProof.Rows.lt_str h)
  have e : Ob.lexAt (fun j => eqV (xs.getD j .non) (ys.getD j .non)) (fun j => ltV (xs.getD j .non) (ys.getD j .non)) (decide (its.toArray.size < its2.toArray.size)) 0 (min its.toArray.size its2.toArray.size) = lexV xs ys := by
    rw [List.size_toArray, List.size_toArray, ← l1, ← l2]
    exact lexAt_lexV xs ys
  rw [e] at R
  exact R Y.X.prog Y.X.w _ _ ⟨.bl _, H, I, rfl, q⟩
def gLtT : S → S → Ms → R S := fun x y ms => match x, y with
  | .d (.tup a), .d (.tup b) => match a.all flatD && b.all flatD && zipV (a.map flatOf) (b.map flatOf) with
    | true => .ok (.d (.bl (lexV (a.map flatOf) (b.map flatOf)))) ms
    | false => .bad
  | _, _ => .bad
theorem gLtT_ne : ∀ x y ms c ds ms', gLtT x y ms ≠ .ex c ds ms' := by
  intro x y ms c ds ms' h
  unfold gLtT at h
  split at h
  · split at h <;> cases h
  · cases h
theorem o_ltT (ok : CyOk Y k) : OpD Y (compareOp .Lt) gLtT := by
  refine ⟨⟨_, op_ltF (by have := ok.hr.un; omega), fun w H ms x y u v Q hr sx sy h => ?_⟩, gLtT_ne⟩
  unfold gLtT at h
  split at h
  · split at h
    · rename_i f
      simp only [Bool.and_eq_true] at f
      obtain ⟨⟨f1, f2⟩, f3⟩ := f
      obtain ⟨a, xs, rfl, k1, k2⟩ := sx
      obtain ⟨b, ys, rfl, k3, k4⟩ := sy
      have e1 := flats_rel f1 k2
      have e2 := flats_rel f2 k4
      subst e1 e2
      exact ⟨a, b, _, _, rfl, rfl, sqT_mono k1 hr.sub, sqT_mono k3 hr.sub, f3, h.at (Ext.refl w) hr rfl⟩
    · exact h.elim
  · exact h.elim
def gLtA := gOr gLt gLtT
theorem o_ltA (ok : CyOk Y k) : OpD Y (compareOp .Lt) gLtA := o_lt.or (o_ltT ok)

/-! ### all, any, sum, max, min -/
def ofBls : List D → Option (List Bool)
  | [] => some []
  | .bl x :: r => (ofBls r).map (x :: ·)
  | _ :: _ => none
def ofInts : List D → Option (List Int)
  | [] => some []
  | .int x :: r => (ofInts r).map (x :: ·)
  | _ :: _ => none
theorem ofBls_rel {K : PySem.W.Frag} {Γ : G} {F : Hp} : ∀ {ds : List D} {l : List Bool} {vs : List V}, ofBls ds = some l → DRs K Γ F ds vs → vs = l.map V.bl
  | [], l, vs, h, r => by cases h; cases r; rfl
  | d :: ds, l, vs, h, r => by
    cases d with
    | bl x =>
      simp only [ofBls, Option.map_eq_some_iff] at h
      obtain ⟨l', h1, rfl⟩ := h
      obtain ⟨v, t, rfl, r1, r2⟩ := r
      cases r1
      rw [ofBls_rel h1 r2]; rfl
    | _ => cases h
theorem ofInts_rel {K : PySem.W.Frag} {Γ : G} {F : Hp} : ∀ {ds : List D} {l : List Int} {vs : List V}, ofInts ds = some l → DRs K Γ F ds vs → vs = l.map V.int
  | [], l, vs, h, r => by cases h; cases r; rfl
  | d :: ds, l, vs, h, r => by
    cases d with
    | int x =>
      simp only [ofInts, Option.map_eq_some_iff] at h
      obtain ⟨l', h1, rfl⟩ := h
      obtain ⟨v, t, rfl, r1, r2⟩ := r
      cases r1
      rw [ofInts_rel h1 r2]; rfl
    | _ => cases h
theorem ofBls_map : ∀ l : List Bool, ofBls (l.map .bl) = some l
  | [] => rfl
  | x :: l => by show (ofBls (l.map .bl)).map _ = _; rw [ofBls_map l]; rfl
theorem ofInts_map : ∀ l : List Int, ofInts (l.map .int) = some l
  | [] => rfl
  | x :: l => by show (ofInts (l.map .int)).map _ = _; rw [ofInts_map l]; rfl
def seqL (s : S) (ms : Ms) : Option (List D) := match view s ms with
  | some (.lst ds) => some ds
  | _ => none
theorem seqL_inv {s : S} {v : V} {ds : List D} (h : seqL s ms = some ds) (hr : HR Y w H ms) (sv : SR Y w s v) : ∃ a xs, v = .ref a ∧ SqL Y.X.K H a xs ∧ DRs Y.X.K Y.Γ w.F ds xs := by
  unfold seqL at h
  split at h
  · rename_i e
    cases h
    obtain ⟨a, xs, rfl, k1, k2⟩ := view_list e hr sv
    exact ⟨a, xs, rfl, SqL.of k1, k2⟩
  · cases h
def cSeq (f : List D → Option D) : List S → Ms → R S := fun ss ms => match ss with
  | [s] => match (seqL s ms).bind f with
    | some d => .ok (.d d) ms
    | none => .bad
  | _ => .bad
theorem cSeq_ne {f : List D → Option D} : ∀ ss ms c ds ms', cSeq f ss ms ≠ .ex c ds ms' := by
  intro ss ms c ds ms' h
  unfold cSeq at h
  split at h
  · split at h <;> cases h
  · cases h
theorem cSeq_inv {f : List D → Option D} {ss : List S} {P : S → Ms → Prop} {E : Nat → List D → Ms → Prop} (h : (cSeq f ss ms).post P E) : ∃ s ds d, ss = [s] ∧ seqL s ms = some ds ∧ f ds = some d ∧ P (.d d) ms := by
  unfold cSeq at h
  split at h
  · rename_i s
    split at h
    · rename_i d e
      obtain ⟨ds, h1, h2⟩ := Option.bind_eq_some_iff.mp e
      exact ⟨s, ds, d, rfl, h1, h2, h⟩
    · exact h.elim
  · exact h.elim
def allD (ds : List D) : Option D := (ofBls ds).map fun l => .bl (l.all id)
def anyD (ds : List D) : Option D := (ofBls ds).map fun l => .bl (l.any id)
def sumD (ds : List D) : Option D := (ofInts ds).map fun l => .int l.sum
def maxL : List Int → Option Int
  | [] => none
  | x :: l => some (l.foldl max x)
def minL : List Int → Option Int
  | [] => none
  | x :: l => some (l.foldl min x)
def maxD (ds : List D) : Option D := (ofInts ds).bind fun l => (maxL l).map .int
def minD (ds : List D) : Option D := (ofInts ds).bind fun l => (minL l).map .int
theorem foldl_max : ∀ (l : List Int) (x : Int), x ≤ l.foldl max x ∧ (∀ y ∈ l, y ≤ l.foldl max x) ∧ (l.foldl max x = x ∨ l.foldl max x ∈ l)
  | [], x => ⟨Int.le_refl _, fun y h => (nomatch h), .inl rfl⟩
  | a :: l, x => by
    obtain ⟨h1, h2, h3⟩ := foldl_max l (max x a)
    refine ⟨by rw [List.foldl_cons]; omega, fun y hy => ?_, ?_⟩
    · rw [List.foldl_cons]
      rcases List.mem_cons.mp hy with rfl | hy
      · omega
      · exact h2 y hy
    · rw [List.foldl_cons]
      rcases h3 with h3 | h3
      · rw [h3]
        by_cases c : x ≤ a
        · exact .inr (by rw [Int.max_eq_right c]; exact List.mem_cons_self)
        · exact .inl (Int.max_eq_left (by omega))
      · exact .inr (List.mem_cons_of_mem _ h3)
theorem foldl_min : ∀ (l : List Int) (x : Int), l.foldl min x ≤ x ∧ (∀ y ∈ l, l.foldl min x ≤ y) ∧ (l.foldl min x = x ∨ l.foldl min x ∈ l)
  | [], x => ⟨Int.le_refl _, fun y h => (nomatch h), .inl rfl⟩
  | a :: l, x => by
    obtain ⟨h1, h2, h3⟩ := foldl_min l (min x a)
    refine ⟨by rw [List.foldl_cons]; omega, fun y hy => ?_, ?_⟩
    · rw [List.foldl_cons]
      rcases List.mem_cons.mp hy with rfl | hy
      · omega
      · exact h2 y hy
    · rw [List.foldl_cons]
      rcases h3 with h3 | h3
      · rw [h3]
        by_cases c : x ≤ a
        · exact .inl (Int.min_eq_left c)
        · exact .inr (by rw [Int.min_eq_right (by omega)]; exact List.mem_cons_self)
      · exact .inr (List.mem_cons_of_mem _ h3)
theorem maxL_spec {l : List Int} {m : Int} (h : maxL l = some m) : m ∈ l ∧ ∀ y ∈ l, y ≤ m := by
  cases l with
  | nil => cases h
  | cons x l =>
    cases h
    obtain ⟨h1, h2, h3⟩ := foldl_max l x
    refine ⟨?_, fun y hy => ?_⟩
    · rcases h3 with h3 | h3
      · rw [h3]; exact List.mem_cons_self
      · exact List.mem_cons_of_mem _ h3
    · rcases List.mem_cons.mp hy with rfl | hy
      · exact h1
      · exact h2 y hy
theorem minL_spec {l : List Int} {m : Int} (h : minL l = some m) : m ∈ l ∧ ∀ y ∈ l, m ≤ y := by
  cases l with
  | nil => cases h
  | cons x l =>
    cases h
    obtain ⟨h1, h2, h3⟩ := foldl_min l x
    refine ⟨?_, fun y hy => ?_⟩
    · rcases h3 with h3 | h3
      · rw [h3]; exact List.mem_cons_self
      · exact List.mem_cons_of_mem _ h3
    · rcases List.mem_cons.mp hy with rfl | hy
      · exact h1
      · exact h2 y hy
theorem cd_all (hc : Y.X.calm = true) : CallD Y (.builtin "all") (cSeq allD) := by
  refine ⟨⟨_, cr_all hc, fun w H ms ss vs Q hr sv h => ?_⟩, cSeq_ne⟩
  obtain ⟨s, ds, d, rfl, h1, h2, q⟩ := cSeq_inv h
  obtain ⟨v, rfl, r⟩ := SRs.one sv
  obtain ⟨a, xs, rfl, k1, k2⟩ := seqL_inv h1 hr r
  obtain ⟨l, e1, rfl⟩ := Option.map_eq_some_iff.mp h2
  have := ofBls_rel e1 k2
  subst this
  exact ⟨a, l, rfl, k1, q.at (Ext.refl w) hr rfl⟩
theorem cd_any (hc : Y.X.calm = true) : CallD Y (.builtin "any") (cSeq anyD) := by
  refine ⟨⟨_, cr_any hc, fun w H ms ss vs Q hr sv h => ?_⟩, cSeq_ne⟩
  obtain ⟨s, ds, d, rfl, h1, h2, q⟩ := cSeq_inv h
  obtain ⟨v, rfl, r⟩ := SRs.one sv
  obtain ⟨a, xs, rfl, k1, k2⟩ := seqL_inv h1 hr r
  obtain ⟨l, e1, rfl⟩ := Option.map_eq_some_iff.mp h2
  have := ofBls_rel e1 k2
  subst this
  exact ⟨a, l, rfl, k1, q.at (Ext.refl w) hr rfl⟩
theorem cd_sum (hc : Y.X.calm = true) : CallD Y (.builtin "sum") (cSeq sumD) := by
  refine ⟨⟨_, cr_sum hc, fun w H ms ss vs Q hr sv h => ?_⟩, cSeq_ne⟩
  obtain ⟨s, ds, d, rfl, h1, h2, q⟩ := cSeq_inv h
  obtain ⟨v, rfl, r⟩ := SRs.one sv
  obtain ⟨a, xs, rfl, k1, k2⟩ := seqL_inv h1 hr r
  obtain ⟨l, e1, rfl⟩ := Option.map_eq_some_iff.mp h2
  have := ofInts_rel e1 k2
  subst this
  exact ⟨a, l, rfl, k1, q.at (Ext.refl w) hr rfl⟩
theorem cd_maxL (hc : Y.X.calm = true) : CallD Y (.builtin "max") (cSeq maxD) := by
  refine ⟨⟨_, cr_max hc, fun w H ms ss vs Q hr sv h => ?_⟩, cSeq_ne⟩
  obtain ⟨s, ds, d, rfl, h1, h2, q⟩ := cSeq_inv h
  obtain ⟨v, rfl, r⟩ := SRs.one sv
  obtain ⟨a, xs, rfl, k1, k2⟩ := seqL_inv h1 hr r
  obtain ⟨l, e1, h2⟩ := Option.bind_eq_some_iff.mp h2
  obtain ⟨m, e2, rfl⟩ := Option.map_eq_some_iff.mp h2
  have := ofInts_rel e1 k2
  subst this
  obtain ⟨z1, z2⟩ := maxL_spec e2
  refine ⟨a, l, rfl, k1, List.length_pos_of_mem z1, fun m' h1 h2 => ?_⟩
  have : m' = m := Int.le_antisymm (z2 m' h1) (h2 m z1)
  subst this
  exact q.at (Ext.refl w) hr rfl
theorem cd_minL (hc : Y.X.calm = true) : CallD Y (.builtin "min") (cSeq minD) := by
  refine ⟨⟨_, cr_min hc, fun w H ms ss vs Q hr sv h => ?_⟩, cSeq_ne⟩
  obtain ⟨s, ds, d, rfl, h1, h2, q⟩ := cSeq_inv h
  obtain ⟨v, rfl, r⟩ := SRs.one sv
  obtain ⟨a, xs, rfl, k1, k2⟩ := seqL_inv h1 hr r
  obtain ⟨l, e1, h2⟩ := Option.bind_eq_some_iff.mp h2
  obtain ⟨m, e2, rfl⟩ := Option.map_eq_some_iff.mp h2
  have := ofInts_rel e1 k2
  subst this
  obtain ⟨z1, z2⟩ := minL_spec e2
  refine ⟨a, l, rfl, k1, List.length_pos_of_mem z1, fun m' h1 h2 => ?_⟩
  have : m' = m := Int.le_antisymm (h2 m z1) (z2 m' h1)
  subst this
  exact q.at (Ext.refl w) hr rfl

/-! ### list(text), frozen -/
def signs (z : Str) : List D := z.cps.toList.map fun c => .str ⟨#[c]⟩
def rListS' : List V → Hp → VK → Prop := fun xs H Q => ∃ z : Str, xs = [.str z] ∧ z.length ≤ sizeLine ∧ ∀ l, H l = none → Q (.ref l) (upd H l (.lst (z.cps.toList.map fun c => V.str ⟨#[c]⟩)))
theorem call_listStr (hc : Y.X.calm = true) : CallR Y.X (.type "list") rListS' := by
  intro pins s σ H xs us Q I r h
  obtain ⟨z, rfl, hz, q⟩ := h
  obtain ⟨u, rfl, t, rfl⟩ := vals1 r
  refine PySem.call_list_str (I.ok.hd hc) z t (fun h' tk acc' c' hk e' hi => ?_) hz
  have vs : Vals (z.cps.toList.map fun c => V.str ⟨#[c]⟩) acc'.toList := by
    refine vals_of_at (by rw [List.length_map, Array.length_toList, Array.length_toList, hi.1]) fun j x u h1 h2 => ?_
    obtain ⟨c, tk', e1, e2⟩ := hi.2 j u (by rw [← h2, Array.getElem?_toList])
    rw [List.getElem?_map, Array.getElem?_toList, e1] at h1
    cases h1
    exact ⟨tk', e2⟩
  refine ⟨.ref s.heap.objs.size, upd H s.heap.objs.size (.lst _), I.laid (fun b o e => hk b o e) (Nat.le_refl _) ⟨?_, acc'.toList, c', vs, ?_⟩, rfl, q _ (I.hok.fresh (Nat.le_refl _))⟩
  · rw [List.length_map, Array.length_toList]; exact hz
  · rw [Array.toArray_toList]; exact e'
theorem drs_signs {K : PySem.W.Frag} {Γ : G} {F : Hp} : ∀ l : List Nat, DRs K Γ F (l.map fun c => .str ⟨#[c]⟩) (l.map fun c => V.str ⟨#[c]⟩)
  | [] => rfl
  | x :: l => ⟨_, _, rfl, rfl, drs_signs l⟩
def cLstS : List S → Ms → R S := fun ss ms => match ss with
  | [.d (.str z)] => match few z.length with
    | true => .ok (.d (.lst (signs z))) ms
    | false => .bad
  | _ => .bad
theorem cd_listS (hc : Y.X.calm = true) : CallD Y (.type "list") cLstS := by
  refine ⟨⟨_, call_listStr hc, fun w H ms ss vs Q hr sv h => ?_⟩, fun ss ms c ds ms' h => ?_⟩
  · unfold cLstS at h
    split at h
    · rename_i z
      split at h
      · rename_i f
        obtain ⟨v, rfl, r⟩ := SRs.one sv
        cases r
        refine ⟨z, rfl, few_ok f, fun l hl => ?_⟩
        obtain ⟨hr2, ex⟩ := hr.froz (o := .lst (z.cps.toList.map fun c => V.str ⟨#[c]⟩)) hl
        exact h.at ex hr2 ⟨l, _, rfl, upd_same, drs_signs _⟩
      · exact h.elim
    · exact h.elim
  · unfold cLstS at h
    split at h
    · split at h <;> cases h
    · cases h

/-! ### a cell that nobody writes any more becomes data -/
def frzS (s : S) (ms : Ms) : R S := match s with
  | .loc n => match ms[n]? with
    | some (.lst ds) => .ok (.d (.lst ds)) (ms.set n .dead)
    | _ => .bad
  | s => .ok s ms
def mFrz (m : Env → Ms → R S) : Env → Ms → R S := fun env ms => (m env ms).bind frzS
theorem HR0.freezeAt {K : PySem.W.Frag} {Γ : G} {n : Nat} {a : Addr} {c : Cell} {o : HO} (h : HR0 K Γ w H ms) (ha : w.mu[n]? = some a) (hc : ms[n]? = some c) (hd : c ≠ .dead) (ho : H a = some o) : HR0 K Γ ⟨upd w.F a o, w.P, w.mu⟩ H (ms.set n .dead) ∧ Ext w ⟨upd w.F a o, w.P, w.mu⟩ := by
  obtain ⟨nF, nP⟩ := h.sep n a c ha hc hd
  have hn : n < ms.length := (List.getElem?_eq_some_iff.mp hc).1
  have ex : ∀ b u, w.F b = some u → upd w.F a o b = some u := fun b u e => by
    have : b ≠ a := fun z => by subst z; rw [nF] at e; cases e
    rw [upd_ne this]; exact e
  have at_ : ∀ {i : Nat} {k : Cell}, (ms.set n .dead)[i]? = some k → k ≠ .dead → i ≠ n ∧ ms[i]? = some k := fun {i k} e hk => by
    by_cases z : i = n
    · subst z; rw [List.getElem?_set_self hn] at e; cases e; exact absurd rfl hk
    · rw [List.getElem?_set_ne (Ne.symm z)] at e; exact ⟨z, e⟩
  refine ⟨⟨fun b u e => ?_, h.prot, fun b u e => ?_, by rw [h.len]; simp, fun i j b c1 c2 e1 e2 k1 k2 d1 d2 => ?_, fun i b k e q z => ?_, fun i b k e q => ?_⟩, ⟨ex, fun _ _ z => z, rfl⟩⟩
  · by_cases z : b = a
    · subst z
      have e : upd w.F b o b = some u := e
      rw [upd_same] at e; rw [← e]; exact ho
    · have e : upd w.F a o b = some u := e
      rw [upd_ne z] at e; exact h.sub b u e
  · have : b ≠ a := fun z => by subst z; rw [nP] at e; cases e
    show upd w.F a o b = none
    rw [upd_ne this]; exact h.dis b u e
  · exact h.inj i j b c1 c2 e1 e2 (at_ k1 d1).2 (at_ k2 d2).2 d1 d2
  · obtain ⟨z1, z2⟩ := at_ q z
    refine ⟨?_, (h.sep i b k e z2 z).2⟩
    have : b ≠ a := fun y => by
      subst y
      exact z1 (h.inj i n b k c e ha z2 hc z hd)
    show upd w.F a o b = none
    rw [upd_ne this]
    exact (h.sep i b k e z2 z).1
  · cases k with
    | dead => trivial
    | lst ds =>
      obtain ⟨xs, y1, y2⟩ := h.cel i b _ e (at_ q (by intro z; cases z)).2
      exact ⟨xs, y1, DRs.mono ex _ _ y2⟩
    | ins c' fs =>
      obtain ⟨dx, xs, y1, y2⟩ := h.cel i b _ e (at_ q (by intro z; cases z)).2
      exact ⟨dx, xs, y1, DRs.mono ex _ _ y2⟩
theorem e_frz (h : DE Y e me) : DE Y e (mFrz me) := by
  obtain ⟨t, p, s⟩ := h.ex
  refine ⟨t, p, fun w σ H env ms Q er hr hw => ?_⟩
  refine s.go er hr hw fun x ms1 w1 H1 v e1 er1 hr1 sv h1 => ?_
  unfold frzS at h1
  split at h1
  · rename_i n
    split at h1
    · rename_i ds hc
      obtain ⟨a, ha, rfl⟩ := sv
      obtain ⟨xs, q, r⟩ := hr1.cel n a _ ha hc
      obtain ⟨hr2, e2⟩ := hr1.freezeAt ha hc (by intro z; cases z) q
      exact h1.at (e1.trans e2) hr2 ⟨a, xs, rfl, upd_same, DRs.mono e2.F _ _ r⟩
    · exact h1.elim
  · exact h1.at e1 hr1 sv
end
end Fw
set_option Elab.async false
set_option linter.all false
set_option maxRecDepth 100000
set_option maxHeartbeats 1000000
/-! Fw30: == of own instances. -/
namespace Fw
open PySem L2 PySem.Spec PyProof.Rows
section
variable {Y : Cy} {w w1 w2 : Wd} {σ : L2.St} {H H1 H2 : Hp} {env : Env} {ms ms1 ms2 : Ms} {k : Nat} {o e : Expr} {mo me : Env → Ms → R S} {pos p2 : Pos}
/-- the types that an operand may have beside an own instance -/
def tyE (d : D) : Option Ty := match d with
  | .dic _ _ => none
  | .dit _ _ => none
  | d => tyD d
theorem look_of {M : Model} {pins : List (Addr × Obj)} {st : Shared} {s : S} {v : V} {u : Value} {d : D} {t : Ty} (h : view s ms = some d) (ht : tyE d = some t) (hr : HR Y w H ms) (sv : SR Y w s v) (I : Inv Y.X pins σ H st) (ru : RelV v u) : PySem.W.Looks M st.heap (typeOf u) (tyV Y t) := by
  have lst : ∀ {a : Addr} {xs : List V}, SqL Y.X.K H a xs → PySem.W.Looks M st.heap (typeOf (.ref a)) (.type "list") := fun {a xs} q => by
    obtain ⟨its, _, p, _⟩ := I.list q
    obtain ⟨o, n, e1, e2, _⟩ := p
    exact fun A Q E s k q => PySem.wpAny_typeOf_ref (k _ _ e1) (by rw [e2]; exact q)
  have tup : ∀ {a : Addr} {xs : List V}, SqT Y.X.K H a xs → PySem.W.Looks M st.heap (typeOf (.ref a)) (.type "tuple") := fun {a xs} q => by
    obtain ⟨its, _, p, _⟩ := I.tuple q
    obtain ⟨o, e1, e2, _⟩ := p
    exact fun A Q E s k q => PySem.wpAny_typeOf_ref (k _ _ e1) (by rw [e2]; exact q)
  cases d with
  | non => cases ht; cases view_notlist h (by intro ds z; cases z) sv; cases ru; exact .of_pure rfl
  | bl b => cases ht; cases view_notlist h (by intro ds z; cases z) sv; cases ru; exact .of_pure rfl
  | int i => cases ht; cases view_notlist h (by intro ds z; cases z) sv; obtain ⟨t, rfl⟩ := ru; exact .of_pure rfl
  | str x => cases ht; cases view_notlist h (by intro ds z; cases z) sv; obtain ⟨t, rfl⟩ := ru; exact .of_pure rfl
  | tup ds =>
    cases ht
    obtain ⟨a, xs, rfl, e1, e2⟩ := view_notlist h (by intro ds z; cases z) sv
    cases ru
    exact tup (sqT_mono e1 hr.sub)
  | lst ds =>
    cases ht
    obtain ⟨a, xs, rfl, e1, e2⟩ := view_list h hr sv
    cases ru
    exact lst (SqL.of e1)
  | frz ds =>
    cases ht
    obtain ⟨a, xs, rfl, e1, e2⟩ := view_notlist h (by intro ds z; cases z) sv
    cases ru
    exact lst (sqL_mono e1 hr.sub)
  | obj c ds =>
    cases ht
    obtain ⟨a, dx, xs, rfl, e1, e2⟩ := view_notlist h (by intro ds z; cases z) sv
    cases ru
    obtain ⟨mA, O, _, _, _, _⟩ := ins_get I.hok (hr.sub _ _ e1)
    obtain ⟨od, J, _⟩ := O.look
    exact J.type
  | dic ks vs => cases ht
  | dit ks vs => cases ht
  | fn n => cases ht
  | ty n => cases ht
/-- own __eq__ -/
structure EqOk (Y : Cy) (k : Nat) (oc : List Nat) (mth : Str) (c : Nat) (g : List S → Ms → R S) : Prop where
  sp : SpOk Y k mth 1 c g
  nf : ∀ T ∈ tyNames, PySem.W.notFirst Y.X.K (Y.Γ.cls c) (.type T) = true
  no : ∀ c' ∈ oc, PySem.W.notFirst Y.X.K (Y.Γ.cls c) (.ref (Y.Γ.cls c')) = true
def tyIn (oc : List Nat) (t : Ty) : Bool := match t with
  | .nm a => tyNames.contains a
  | .cl c => oc.contains c
def asBl (r : R S) : R S := match r with
  | .ok (.d (.bl y)) ms => .ok (.d (.bl y)) ms
  | _ => .bad
def gEqO (oc : List Nat) (tab : MTab) : S → S → Ms → R S := fun x y ms => match x with
  | .d (.obj c ds) => match tab.lookup c, (view y ms).bind tyE with
    | some g, some t => match tyIn oc t with
      | true => asBl (g [.d (.obj c ds), y] ms)
      | false => .bad
    | _, _ => .bad
  | _ => .bad
theorem asBl_ne {r : R S} : ∀ c ds ms', asBl r ≠ .ex c ds ms' := by
  intro c ds ms' h
  unfold asBl at h
  split at h <;> cases h
theorem gEqO_ne {oc : List Nat} {tab : MTab} : ∀ x y ms c ds ms', gEqO oc tab x y ms ≠ .ex c ds ms' := by
  intro x y ms c ds ms' h
  unfold gEqO at h
  split at h
  · split at h
    · split at h
      · exact asBl_ne _ _ _ h
      · cases h
    · cases h
  · cases h
theorem asBl_post {r : R S} {Q : VK} (h : (asBl r).post (okP Y w Q) (fun _ _ _ => False)) : (noEx r).post (okP Y w fun v H' => ∃ y, v = .bl y ∧ Q v H') (fun _ _ _ => False) := by
  unfold asBl at h
  split at h
  · rename_i y ms'
    intro w' H' v e' hr' sv
    exact ⟨y, sv, h w' H' v e' hr' sv⟩
  · exact h.elim
def rEqO (Y : Cy) (k : Nat) (oc : List Nat) (mth : Str) : R2 := fun x y H Q => ∃ a c dx fs ds w ms g s d t, x = .ref a ∧ H a = some (.ins (Y.Γ.cls c) dx fs) ∧ EqOk Y k oc mth c g ∧ HR Y w H ms ∧ SR Y w (.d (.obj c ds)) (.ref a) ∧ SR Y w s y ∧ view s ms = some d ∧ tyE d = some t ∧ tyIn oc t = true ∧
  (asBl (g [.d (.obj c ds), s] ms)).post (okP Y w Q) (fun _ _ _ => False)
theorem snd_eqO {oc : List Nat} {mth : Str} {tab : MTab} (ht : Tab (EqOk Y k oc mth) tab) : SndR2 Y (rEqO Y k oc mth) (gEqO oc tab) := by
  intro w H ms x y u v Q hr sx sy h
  unfold gEqO at h
  split at h
  · rename_i c ds
    split at h
    · rename_i g t hl hv
      split at h
      · rename_i hi
        obtain ⟨d, h1, h2⟩ := Option.bind_eq_some_iff.mp hv
        have s0 := sx
        obtain ⟨a, dx, xs, rfl, k1, k2, k3⟩ := sx
        exact ⟨a, c, dx, _, ds, w, ms, g, y, d, t, rfl, hr.sub _ _ k1, ht.at_ hl, hr, s0, sy, h1, h2, hi, h⟩
      · exact h.elim
    · exact h.elim
  · exact h.elim
theorem op_eqO {oc : List Nat} (ok : CyOk Y k) : OpR Y.X (compareOp .Eq) (rEqO Y k oc "__eq__") := by
  intro pins s σ H x y v u Q I rx ry h
  obtain ⟨a, c, dx, fs, ds, w, ms, g, sl, d, t, rfl, ea, eo, hr, sr, sy, hv, ht, hi, q⟩ := h
  obtain rfl : v = Value.ref a := rx
  obtain ⟨f, fd, ps, sem, pk, dvs, cs, j, e1, e2, F, hj, hb, hcs, rfl⟩ := eo.sp.ex
  obtain ⟨mA, O, _, _, _, _⟩ := ins_get I.hok ea
  obtain ⟨od, J, _⟩ := O.look
  obtain ⟨m, Fr0⟩ := frame_of I
  have lk := look_of (M := model Y.X.prog Y.X.w) hv ht hr sy I ry
  have nf : PySem.W.notFirst Y.X.K (Y.Γ.cls c) (tyV Y t) = true := by
    cases t with
    | nm T => exact eo.nf T (List.contains_iff_mem.mp hi)
    | cl c' => exact eo.no c' (List.contains_iff_mem.mp hi)
  show wpAny _ _ (richCompare .Eq _ _) _ _ _
  refine PySem.W.cmp_K (op := .Eq) ok.hr.units0 Fr0 I.mod.kin J lk nf e1 e2 ?_
  refine wpAny_mono (sp_run (Q := fun v H' => ∃ y, v = .bl y ∧ Q v H') (ok.hr.mono (by omega)) ok.gd F hb hcs I I.env0 rfl (show Vals [V.ref a, y] [Value.ref a, u] from .cons rfl (.cons ry .nil)) hr (.cons sr (.cons sy .nil)) (asBl_post q)) (fun v s' hv => ?_) fun _ _ z => z
  obtain ⟨v', H', I', rv, y, ey, q'⟩ := hv
  subst ey
  exact SlX.cmpback rv ⟨_, H', I', rv, q'⟩
theorem o_eqO {oc : List Nat} {tab : MTab} (ok : CyOk Y k) (ht : Tab (EqOk Y k oc "__eq__") tab) : OpD Y (compareOp .Eq) (gEqO oc tab) := ⟨⟨_, op_eqO ok, snd_eqO ht⟩, gEqO_ne⟩
/-! the facts -/
def bEqF (oc : List Addr) (C : Addr) (K : PySem.W.Frag) : Bool := tyNames.all (fun T => PySem.W.notFirst K C (.type T)) && oc.all (fun c => PySem.W.notFirst K C (.ref c))
theorem eqF_ok {K : PySem.W.Frag} {Γ : G} {oc : List Nat} {C : Addr} (h : bEqF (oc.map Γ.cls) C K = true) : (∀ T ∈ tyNames, PySem.W.notFirst K C (.type T) = true) ∧ ∀ c' ∈ oc, PySem.W.notFirst K C (.ref (Γ.cls c')) = true := by
  obtain ⟨h1, h2⟩ := Bool.and_eq_true_iff.mp h
  exact ⟨fun T hT => List.all_eq_true.mp h1 T hT, fun c hc => List.all_eq_true.mp h2 _ (List.mem_map_of_mem hc)⟩
end
end Fw
set_option Elab.async false
set_option linter.all false
set_option maxRecDepth 100000
set_option maxHeartbeats 1000000
/-! Fw31: small helps for the generator. -/
namespace Fw
open PySem L2 PySem.Spec PyProof.Rows
theorem all_nil {α : Type} {P : α → Prop} : ∀ x ∈ ([] : List α), P x := fun _ h => nomatch h
theorem all_cons {α : Type} {P : α → Prop} {a : α} {l : List α} (h : P a) (t : ∀ x ∈ l, P x) : ∀ x ∈ a :: l, P x := fun x hx => by
  rcases List.mem_cons.mp hx with rfl | hx
  · exact h
  · exact t x hx
end Fw
set_option Elab.async false
set_option linter.all false
set_option maxRecDepth 100000
set_option maxHeartbeats 1000000
/-! Fw32: more to walk over: texts; one of several kinds. -/
namespace Fw
open PySem L2 PySem.Spec PyProof.Rows
section
variable {Y : Cy} {w w1 w2 : Wd} {σ : L2.St} {H H1 H2 : Hp} {env : Env} {ms ms1 ms2 : Ms} {k : Nat} {tg l : Expr} {m : Env → Ms → R S}
abbrev MI := Env → Ms → R (List S × Option (Nat × Cell))
def iOr (mi mi' : MI) : MI := fun env ms => match mi env ms with
  | .bad => mi' env ms
  | r => r
theorem DI.or {mi mi' : MI} (h : DI Y tg l mi) (h' : DI Y tg l mi') : DI Y tg l (iOr mi mi') := by
  obtain ⟨wi, p, s⟩ := h.ex
  obtain ⟨wi', p', s'⟩ := h'.ex
  refine ⟨fun σ H Rr => wi σ H Rr ∨ wi' σ H Rr, ⟨fun pins st σ H Rr I q => ?_⟩, fun w σ H env ms Rr er hr q => ?_⟩
  · rcases q with q | q
    · exact p.run pins st σ H Rr I q
    · exact p'.run pins st σ H Rr I q
  · unfold iOr at q
    split at q
    · exact .inr (s' w σ H env ms Rr er hr q)
    · exact .inl (s w σ H env ms Rr er hr q)
def itS (s : S) (ms : Ms) : R (List S × Option (Nat × Cell)) := match s with
  | .d (.str z) => .ok ((signs z).map S.d, none) ms
  | _ => .bad
def iTxt (m : Env → Ms → R S) : MI := fun env ms => (m env ms).bind itS
theorem signs_get {z : Str} {i : Nat} {d : D} (h : (signs z)[i]? = some d) : ∃ c, z.cps[i]? = some c ∧ d = .str ⟨#[c]⟩ := by
  unfold signs at h
  rw [List.getElem?_map, Array.getElem?_toList] at h
  cases e : z.cps[i]? with
  | none => rw [e] at h; cases h
  | some c => rw [e] at h; cases h; exact ⟨c, rfl, rfl⟩
theorem yields_str {z : Str} : Yields Y w ((signs z).map S.d) none (Its z) := by
  intro w' H' ms' e' hr' _
  refine ⟨by show z.cps.size ≤ _; simp [signs], fun i s hs => ?_⟩
  obtain ⟨d, hd, rfl⟩ := map_get hs
  obtain ⟨c, hc, rfl⟩ := signs_get hd
  refine ⟨by show i < z.cps.size; exact (Array.getElem?_eq_some_iff.mp hc).1, fun x H2 y => ?_⟩
  obtain ⟨rfl, c', h1, rfl⟩ := y
  rw [hc] at h1
  cases h1
  exact ⟨w', Ext.refl w', hr', rfl⟩
theorem i_str (h : DE Y l m) : DI Y tg l (iTxt m) := by
  obtain ⟨t, p, s⟩ := h.ex
  refine ⟨_, pi_str p, fun w σ H env ms Rr er hr h => ?_⟩
  refine s.go er hr h fun x ms1 w1 H1 v e1 er1 hr1 sv h1 => ?_
  unfold itS at h1
  split at h1
  · rename_i z
    cases sv
    exact ⟨z, rfl, h1 w1 H1 _ e1 hr1 yields_str (fun _ _ e => nomatch e)⟩
  · exact h1.elim
/-- over a list, a tuple or a text -/
def iSeq (m : Env → Ms → R S) : MI := iOr (iList m) (iOr (iTup m) (iTxt m))
theorem i_seq (h : DE Y l m) : DI Y tg l (iSeq m) := (i_list h).or ((i_tup h).or (i_str h))
end
end Fw
set_option Elab.async false
set_option linter.all false
set_option maxRecDepth 100000
set_option maxHeartbeats 1000000
/-! Fw33: enumerate over a list or a tuple, from any count. -/
namespace PySem
/-- enumerate with one argument, whatever kind is walked -/
theorem newEnum1 {seq : Value} {ito : Obj} {St0 : Heap → Prop} (Bg : Begins seq ito St0) :
    Meets (Builtin.«enumerate.__new__» ⟨[.type "enumerate", seq], []⟩) (fun _ Rz sh => St0 sh.heap ∧
      Rz (.ok (.ret (.ref (sh.heap.push ito).objs.size))) { sh with heap := (sh.heap.push ito).push { cls := .type "enumerate", data := .fields #[.none, .bool false, .ref sh.heap.objs.size, rawInt 0, .none, .none] } }) :=
  .of_wp fun pr wd Ar Rz sh hh => by
    obtain ⟨h0, gl, dd, tks, osl⟩ := sh
    obtain ⟨hs0, hh⟩ := hh
    have hsu := sub_enumerate
    have begun : ∀ {A2 : Around} {E2 : Value → Shared → Prop} {Q2 : Value → Shared → Prop}, Q2 (.ref h0.objs.size) ⟨h0.push ito, gl, dd, tks, osl⟩ → wpAny (model pr wd) A2 (pyIter seq) Q2 E2 ⟨h0, gl, dd, tks, osl⟩ :=
      fun z => Bg.iter pr wd _ _ ⟨h0, gl, dd, tks, osl⟩ _ hs0 z
    wp_walk using begun
    refine wpAny_stack_any fun _ => wpAny_pure ?_
    split
    · rename_i cl _ _ _ _ _
      cases (cl == Value.type "enumerate")
      · wp_walk using begun
        exact ⟨_, rfl, hh⟩
      · wp_walk using begun
        exact ⟨_, rfl, hh⟩
    · wp_walk using begun
      exact ⟨_, rfl, hh⟩
theorem enum_begins1 {pr : Program} {wd : World} {Ar : Around} {E2 : Value → Shared → Prop} {sh : Shared} {seq : Value} {ito : Obj} {St0 : Heap → Prop} {Q2 : Value → Shared → Prop} (Bg : Begins seq ito St0) (hs0 : St0 sh.heap)
    (hh : ∀ h2, IsEnum h2 (sh.heap.objs.size + 1) sh.heap.objs.size 0 .none → h2.get? sh.heap.objs.size = some ito → h2.objs.size = sh.heap.objs.size + 2 →
      (∀ b ob, sh.heap.get? b = some ob → h2.get? b = some ob) → Q2 (.ref (sh.heap.objs.size + 1)) { sh with heap := h2 }) :
    wpAny (model pr wd) Ar (call (.type "enumerate") [seq]) Q2 E2 sh := by
  refine callType_new F.called_enumerate (by decide) (F.typeCall_enumerate_1 _) (F.newCall_enumerate_1 _) (fun obj => F.args_object_init_2 obj _) F.entry_enumerate_new (newEnum1 Bg) ⟨hs0, ?_⟩
  have sz : (sh.heap.push ito).objs.size = sh.heap.objs.size + 1 := Heap.size_push ..
  show _ ∧ _
  rw [sz]
  have en : IsEnum ((sh.heap.push ito).push { cls := .type "enumerate", data := .fields #[.none, .bool false, .ref sh.heap.objs.size, rawInt 0, .none, .none] }) (sh.heap.objs.size + 1) sh.heap.objs.size 0 .none := by
    have z := Heap.get?_push_size (sh.heap.push ito) (o := { cls := .type "enumerate", data := .fields #[.none, .bool false, .ref sh.heap.objs.size, rawInt 0, .none, .none] }) rfl
    rwa [sz] at z
  exact ⟨⟨_, en, rfl⟩, hh _ en (Heap.get?_push_of_some _ (Heap.get?_push_size _ Bg.free)) (by rw [Heap.size_push, sz]) fun b ob z => Heap.get?_push_of_some _ (Heap.get?_push_of_some _ z)⟩
end PySem
namespace Fw
open PySem L2 PySem.Spec PyProof.Rows
/-- a list (false) or a tuple (true) -/
def SqB (K : PySem.W.Frag) (tu : Bool) (H : Hp) (a : Addr) (xs : List V) : Prop := match tu with
  | true => SqT K H a xs
  | false => SqL K H a xs
def ItB (tu : Bool) (h : Heap) (it a : Addr) (i : Nat) : Prop := match tu with
  | true => h.IsTupleIter it a i
  | false => h.IsListIter it a i
theorem ItB.live {tu : Bool} {h : Heap} {it a : Addr} {i : Nat} (z : ItB tu h it a i) : ∃ o, h.get? it = some o ∧ ∀ v, o.data ≠ .cell v := by
  cases tu with
  | true => exact let ⟨o, h1, _, h3⟩ := z; ⟨o, h1, fun v q => by rw [h3] at q; cases q⟩
  | false => exact let ⟨o, h1, _, h3⟩ := z; ⟨o, h1, fun v q => by rw [h3] at q; cases q⟩
theorem ItB.kept {tu : Bool} {h h' : Heap} {it a : Addr} {i : Nat} (z : ItB tu h it a i) (k : ∀ o, h.get? it = some o → h'.get? it = some o) : ItB tu h' it a i := by
  cases tu with
  | true => exact Heap.IsTupleIter.at z fun o q => k o q
  | false => exact Heap.IsListIter.at z fun o q => k o q
theorem SqB.inj {X : Cx} {pins : List (Addr × Obj)} {σ : L2.St} {H : Hp} {s : Shared} {tu : Bool} {a : Addr} {xs ys : List V} (I : Inv X pins σ H s) (h1 : SqB X.K tu H a xs) (h2 : SqB X.K tu H a ys) : xs = ys := by
  cases tu with
  | true => exact I.tuple_inj h1 h2
  | false => exact I.list_inj h1 h2
/-- what is drawn from it, one state after the other -/
theorem SqB.draws {X : Cx} {pins : List (Addr × Obj)} {σ : L2.St} {H : Hp} {s : Shared} {tu : Bool} {a it : Addr} {xs : List V} {i : Nat} (A : Around) (hd : A.handled = none) (I : Inv X pins σ H s) (hq : SqB X.K tu H a xs) (hit : ItB tu s.heap it a i) :
    ∃ (its : List Value) (St : Nat → Heap → Prop) (fp : List Addr), Vals xs its ∧ Draws X.prog X.w A it fp its.length (fun i v => its[i]? = some v) St ∧ St i s.heap ∧ (∀ j h, St j h → ItB tu h it a j) ∧ ∀ e, e ≠ it → e ≠ a → e ∉ fp := by
  cases tu with
  | true =>
    obtain ⟨its, rv, p, _⟩ := I.tuple hq
    have ne : a ≠ it := fun z => by
      subst z
      obtain ⟨o, z1, z2, _⟩ := id p
      obtain ⟨o', z3, z4, _⟩ := id hit
      rw [z1] at z3; cases z3
      rw [z2] at z4; exact absurd z4 (by decide)
    refine ⟨its, fun i h => h.IsTupleIter it a i ∧ h.IsTuple a its.toArray, [it, a], rv, ?_, ⟨hit, p⟩, fun j h z => z.1, fun e h1 h2 h3 => ?_⟩
    · have := Draws.tuple (prog := X.prog) (w := X.w) hd it a ne its.toArray
      simpa using this
    · rcases List.mem_cons.mp h3 with z | z
      · exact h1 z
      · exact h2 (List.mem_singleton.mp z)
  | false =>
    obtain ⟨its, rv, p, _⟩ := I.list hq
    have ne : a ≠ it := fun z => by
      subst z
      obtain ⟨o, n, z1, z2, _⟩ := id p
      obtain ⟨o', z3, z4, _⟩ := id hit
      rw [z1] at z3; cases z3
      rw [z2] at z4; exact absurd z4 (by decide)
    refine ⟨its, fun i h => h.IsListIter it a i ∧ h.IsList a its.toArray, [it, a], rv, ?_, ⟨hit, p.isList⟩, fun j h z => z.1, fun e h1 h2 h3 => ?_⟩
    · have := Draws.list (prog := X.prog) (w := X.w) hd it a ne its.toArray
      simpa using this
    · rcases List.mem_cons.mp h3 with z | z
      · exact h1 z
      · exact h2 (List.mem_singleton.mp z)
/-- what stands at a at each turn, each item in a new pair behind its number -/
def IteG (K : PySem.W.Frag) (tu : Bool) (a : Addr) (from_ : Int) : It :=
  ⟨fun i H => ∃ (xs : List V) (x : V), SqB K tu H a xs ∧ xs[i]? = some x,
    fun i H v H' => ∃ T x, v = .ref T ∧ H T = none ∧ H' = upd H T (.tup [.int (from_ + (i : Nat)), x]) ∧ ∀ xs, SqB K tu H a xs → xs[i]? = some x,
    fun i H => ∃ xs : List V, SqB K tu H a xs ∧ xs.length = i⟩
theorem turnEnum {P : Program} {wd : World} {K : PySem.W.Frag} {tgs : List Expr} {jj : Nat} {tpos : Pos} (tu : Bool) (a e it : Addr) (from_ : Int) :
    Turn P wd K (.Tuple tgs jj tpos) (IteG K tu a from_) [e, it] e (fun i h => (∃ old, IsEnum h e it (from_ + ((i : Nat) : Int)) old) ∧ ItB tu h it a i ∧ e ≠ it ∧ e ≠ a) where
  mem := by simp
  obj := fun i h st b hb => by
    obtain ⟨⟨old, en⟩, hit, _⟩ := st
    rcases List.mem_cons.mp hb with z | z
    · subst z; exact ⟨_, en, fun v q => nomatch q⟩
    · cases List.mem_singleton.mp z; exact hit.live
  keep := fun i h h' st k => by
    obtain ⟨⟨old, en⟩, hit, r⟩ := st
    exact ⟨⟨old, k e (by simp) _ en⟩, hit.kept fun o q => k it (by simp) o q, r⟩
  item := by
    intro X e1 e2 e3 calm i pins sh σ H Er I free st hg
    subst e1 e2 e3
    obtain ⟨⟨old, en⟩, hit, nei, nea⟩ := st
    obtain ⟨xs, x, hq, hx⟩ := hg
    obtain ⟨its, St, fp, rv, dr, st0, back, nfp⟩ := SqB.draws X.A.in1 (I.ok.hd calm) I hq hit
    obtain ⟨u, hu, ru⟩ := rv.get hx
    have il : i < its.length := (List.getElem?_eq_some_iff.mp hu).1
    have el : e < sh.heap.objs.size := Heap.lt_size en
    obtain ⟨oi, hoi, _⟩ := hit.live
    have itl : it < sh.heap.objs.size := Heap.lt_size hoi
    refine wpAny_pyNext_enum_itemC dr en st0 il nei (nfp e nei nea) fun u' h1 tk hu' out st1 newT szT kept => ?_
    cases hu.symm.trans hu'
    refine ⟨_, rfl, wpAny_letOwnedTupleGo_enum (s := { sh with heap := h1, toks := tk + 1 }) out fun h2 en2 same => ?_⟩
    have T2 : h2.get? sh.heap.objs.size = some { cls := .type "tuple", data := .seq #[.int (from_ + (i : Nat)) tk, u] } := (same.2 _ (Nat.ne_of_gt el)).trans newT
    have made : ObjOk X.prog X.w (upd H sh.heap.objs.size (.tup [.int (from_ + (i : Nat)), x])) h2 sh.heap.objs.size (.tup [.int (from_ + (i : Nat)), x]) :=
      ⟨by show 2 ≤ sizeLine; decide, [.int (from_ + (i : Nat)) tk, u], .cons ⟨_, rfl⟩ (.cons ru .nil), ⟨_, T2, rfl, _, rfl⟩⟩
    have I2 : Inv X pins σ (upd H sh.heap.objs.size (.tup [.int (from_ + (i : Nat)), x])) { sh with heap := h2, toks := tk + 1 } :=
      I.turnedNew (ch := [e, it]) (fun b ob nb z => (same.2 b fun q => nb (by simp [q])).trans (kept b ob (fun q => nb (by simp [q])) (fun q => nb (by simp [q])) z)) free (Nat.le_refl _) made
    refine ⟨.ref sh.heap.objs.size, _, I2, rfl, ⟨_, x, rfl, I.hok.fresh (Nat.le_refl _), rfl, fun ys hy => by rw [SqB.inj I hy hq]; exact hx⟩,
      ⟨⟨u, ?_⟩, (back _ _ st1).kept fun o q => (same.2 it (Ne.symm nei)).trans q, nei, nea⟩, fun b hb => ?_⟩
    · have ee : from_ + ((i + 1 : Nat) : Int) = from_ + (i : Int) + 1 := by omega
      rw [ee]; exact en2
    · have hlt : b < sh.heap.objs.size := by
        rcases List.mem_cons.mp hb with z | z
        · rw [z]; exact el
        · rw [List.mem_singleton.mp z]; exact itl
      rw [upd_ne (Nat.ne_of_lt hlt)]
      exact (free b hb).1
  done := by
    intro X e1 e2 e3 calm i pins sh σ H Er I free st hg
    subst e1 e2 e3
    obtain ⟨⟨old, en⟩, hit, nei, nea⟩ := st
    obtain ⟨xs, hq, hx⟩ := hg
    obtain ⟨f0, f1, f2, f3, f4, f5⟩ := free it (by simp)
    obtain ⟨its, St, fp, rv, dr, st0, back, nfp⟩ := SqB.draws X.A.in1 (I.ok.hd calm) I hq hit
    have len : i = its.length := hx.symm.trans rv.length
    rw [len] at st0
    exact wpAny_pyNext_enum_endD dr en st0 fun h1 x1 => ⟨rfl, I.turned (t' := sh.toks) (fun b o nb z => x1 b o nb z) f0 f1 f3 f4 f5⟩
  self := fun A i sh Q E st h => let ⟨⟨_, en⟩, _⟩ := st; wpAny_pyIter_enum en h
def iEnumG (K : PySem.W.Frag) (ta : TA) : TI := fun σ H R => ta σ H fun vs H1 => ∃ (tu : Bool) (a : Addr) (xs : List V), vs = [.ref a] ∧ SqB K tu H1 a xs ∧ R (IteG K tu a 0) H1
def iEnumS (K : PySem.W.Frag) (ta tk : TA) : TI := fun σ H R => ta σ H fun vs H1 => tk σ H1 fun ks H2 => ∃ (tu : Bool) (a : Addr) (xs : List V) (n : Int), vs = [.ref a] ∧ ks = [.int n] ∧ -(2 ^ 62) ≤ n ∧ n < 2 ^ 62 ∧ SqB K tu H2 a xs ∧ R (IteG K tu a n) H2
section
variable {X : Cx} {e : Expr} {ta tk : TA} {p pos tpos : Pos} {elts : List Expr} {kk : Nat}
theorem SqB.it0 {pins : List (Addr × Obj)} {σ : L2.St} {H : Hp} {s : Shared} {tu : Bool} {a : Addr} {xs : List V} (I : Inv X pins σ H s) (hq : SqB X.K tu H a xs) :
    ∃ (o : Obj) (St0 : Heap → Prop), Begins (.ref a) o St0 ∧ St0 s.heap ∧ a < s.heap.objs.size ∧ ∀ (h : Heap) (it : Addr), h.get? it = some o → ItB tu h it a 0 := by
  cases tu with
  | true =>
    obtain ⟨its, rv, p, _⟩ := I.tuple hq
    obtain ⟨o, z, _⟩ := id p
    exact ⟨_, _, begins_tuple a its.toArray, p, Heap.lt_size z, fun h it z => ⟨_, z, rfl, rfl⟩⟩
  | false =>
    obtain ⟨its, rv, p, _⟩ := I.list hq
    exact ⟨_, _, begins_list a its.toArray, p.isList, p.lt, fun h it z => ⟨_, z, rfl, rfl⟩⟩
theorem enumPIE {pins : List (Addr × Obj)} {σ : L2.St} {H : Hp} {s1 : Shared} {tu : Bool} {a : Addr} {R : It → Hp → Prop} {n : Int} {h' : Heap} (I1 : Inv X pins σ H s1) (la : a < s1.heap.objs.size)
    (en : IsEnum h' (s1.heap.objs.size + 1) s1.heap.objs.size n .none) (hi : ItB tu h' s1.heap.objs.size a 0) (kept : ∀ b ob, s1.heap.get? b = some ob → h'.get? b = some ob) (q : R (IteG X.K tu a n) H) :
    PIE X pins σ (.Tuple elts kk tpos) R (.ref (s1.heap.objs.size + 1)) { s1 with heap := h' } := by
  refine ⟨s1.heap.objs.size + 1, [s1.heap.objs.size + 1, s1.heap.objs.size], _, _, H, rfl, I1.kept (t' := s1.toks) kept, turnEnum tu a _ _ n, ⟨⟨.none, ?_⟩, hi, Nat.succ_ne_self _, ?_⟩, fun b hb => ?_, q⟩
  · have : n + ((0 : Nat) : Int) = n := by omega
    rw [this]; exact en
  · exact Nat.ne_of_gt (Nat.lt_succ_of_lt la)
  · have hle : s1.heap.objs.size ≤ b := by
      rcases List.mem_cons.mp hb with z | z
      · rw [z]; exact Nat.le_add_right _ _
      · rw [List.mem_singleton.mp z]; exact Nat.le_refl _
    exact I1.fpOk hle (I1.hok.fresh hle)
theorem piEnum (hg : Gl X "enumerate") (hm : X.mg "enumerate" = none) (ha : PA X [e] ta) (hs : starEach [e] X.env = [(false, eval e X.env)] := by rfl) :
    PI X (.Tuple elts kk tpos) (.Call (.Name "enumerate" p) [e] [] pos) (iEnumG X.K ta) := by
  refine ⟨fun pins s σ H R I h => ?_⟩
  refine Call_ (ld_blt I hg hm boot_enumerate (PyProof.Rows.callWith_type1 (thn (ha.run pos pins s σ H _ I h) fun us s1 ⟨vs, H1, I1, r1, tu, a, xs, ev, hq, q⟩ => ?_) hs rfl))
  subst ev
  cases r1 with
  | cons r rr =>
    cases rr
    cases r
    obtain ⟨o, St0, bg, st0, la, hit⟩ := SqB.it0 I1 hq
    exact enum_begins1 bg st0 fun h' en ho _ kept => wpAny_pyIter_enum en (enumPIE I1 la en (hit _ _ ho) kept q)
end
section
variable {Y : Cy} {w w1 w2 : Wd} {H H1 H2 : Hp} {ms ms1 ms2 : Ms}
/-- each one in a pair behind its number, from k on -/
def numbered (n : Int) (ds : List D) : List D := (ds.zipIdx).map fun p => .tup [.int (n + (p.2 : Nat)), p.1]
theorem numbered_len {n : Int} {ds : List D} : (numbered n ds).length = ds.length := by simp [numbered]
theorem numbered_get {n : Int} {ds : List D} {i : Nat} {s : S} (h : ((numbered n ds).map S.d)[i]? = some s) : ∃ d, ds[i]? = some d ∧ s = .d (.tup [.int (n + (i : Nat)), d]) := by
  obtain ⟨d, h1, rfl⟩ := map_get h
  unfold numbered at h1
  rw [List.getElem?_map, List.getElem?_zipIdx] at h1
  cases e : ds[i]? with
  | none => rw [e] at h1; cases h1
  | some x => rw [e] at h1; cases h1; exact ⟨x, rfl, by simp⟩
/-- the numbered ones of what stands at a -/
theorem yields_enum {tu : Bool} {a : Addr} {ds : List D} {kp : Option (Nat × Cell)} {n : Int}
    (at_ : ∀ (w' : Wd) (H' : Hp) (ms' : Ms), w.Sub w' → HR Y w' H' ms' → keptC kp ms' → ∃ xs, SqB Y.X.K tu H' a xs ∧ DRs Y.X.K Y.Γ w'.F ds xs) :
    Yields Y w ((numbered n ds).map S.d) kp (IteG Y.X.K tu a n) := by
  intro w' H' ms' sub hr kc
  obtain ⟨xs, hq, r⟩ := at_ w' H' ms' sub hr kc
  refine ⟨⟨xs, hq, by rw [List.length_map, numbered_len, DRs.length r]⟩, fun i s hs => ?_⟩
  obtain ⟨d, hd, rfl⟩ := numbered_get hs
  obtain ⟨v, hv, rv⟩ := DRs.get r hd
  refine ⟨⟨xs, v, hq, hv⟩, fun x H2 y => ?_⟩
  obtain ⟨T, x', rfl, hT, rfl, y⟩ := y
  have : v = x' := Option.some.inj (hv.symm.trans (y xs hq))
  subst this
  obtain ⟨hr2, e2⟩ := hr.froz (o := .tup [.int (n + (i : Nat)), v]) hT
  exact ⟨_, e2, hr2, T, [.int (n + (i : Nat)), v], rfl, SqT.of upd_same, ⟨_, _, rfl, rfl, _, _, rfl, DR.mono e2.F _ _ rv, rfl⟩⟩
def itE (n : Int) (ss : List S) (ms : Ms) : R (List S × Option (Nat × Cell)) := match ss with
  | [.d (.tup ds)] => .ok ((numbered n ds).map S.d, none) ms
  | [.d (.lst ds)] => .ok ((numbered n ds).map S.d, none) ms
  | [.d (.frz ds)] => .ok ((numbered n ds).map S.d, none) ms
  | [.loc j] => match ms[j]? with
    | some (.lst ds) => .ok ((numbered n ds).map S.d, some (j, .lst ds)) ms
    | _ => .bad
  | _ => .bad
def iEnu (ma : Env → Ms → R (List S)) : MI := fun env ms => (ma env ms).bind (itE 0)
/-- what itE tells, from any count -/
theorem itE_use {n : Int} {ss : List S} {vs : List V} {P : List S × Option (Nat × Cell) → Ms → Prop} {Ex : Nat → List D → Ms → Prop} (hr : HR Y w H ms) (sv : SRs Y w ss vs) (h : (itE n ss ms).post P Ex) :
    ∃ (tu : Bool) (a : Addr) (xs : List V) (ds : List D) (kp : Option (Nat × Cell)), vs = [.ref a] ∧ SqB Y.X.K tu H a xs ∧ Yields Y w ((numbered n ds).map S.d) kp (IteG Y.X.K tu a n) ∧ keptC kp ms ∧ P ((numbered n ds).map S.d, kp) ms := by
  unfold itE at h
  split at h
  · rename_i ds
    cases sv with
    | cons q r =>
      cases r
      obtain ⟨a, xs, rfl, h2, h3⟩ := q
      exact ⟨true, a, xs, ds, none, rfl, sqT_mono h2 hr.sub, yields_enum fun w' H' ms' sub hr' _ => ⟨xs, sqT_mono (sqT_mono h2 sub.F) hr'.sub, DRs.mono sub.F _ _ h3⟩, fun _ _ z => (nomatch z), h⟩
  · rename_i ds
    cases sv with
    | cons q r =>
      cases r
      obtain ⟨a, xs, rfl, h2, h3⟩ := q
      exact ⟨false, a, xs, ds, none, rfl, SqL.of (hr.sub _ _ h2), yields_enum fun w' H' ms' sub hr' _ => ⟨xs, SqL.of (hr'.sub _ _ (sub.F _ _ h2)), DRs.mono sub.F _ _ h3⟩, fun _ _ z => (nomatch z), h⟩
  · rename_i ds
    cases sv with
    | cons q r =>
      cases r
      obtain ⟨a, xs, rfl, h2, h3⟩ := q
      exact ⟨false, a, xs, ds, none, rfl, sqL_mono h2 hr.sub, yields_enum fun w' H' ms' sub hr' _ => ⟨xs, sqL_mono (sqL_mono h2 sub.F) hr'.sub, DRs.mono sub.F _ _ h3⟩, fun _ _ z => (nomatch z), h⟩
  · rename_i j
    split at h
    · rename_i ds hc
      cases sv with
      | cons q r =>
        cases r
        obtain ⟨a, ha, rfl⟩ := q
        obtain ⟨xs, q, r⟩ := hr.cel j a _ ha hc
        exact ⟨false, a, xs, ds, some (j, .lst ds), rfl, SqL.of q, yields_enum fun w' H' ms' sub hr' kc => by
          obtain ⟨xs', q', r'⟩ := hr'.cel j a _ (sub.mu j a ha) (kc j _ rfl)
          exact ⟨xs', SqL.of q', r'⟩, fun _ _ z => by cases z; exact hc, h⟩
    · exact h.elim
  · exact h.elim
variable {e : Expr} {ma mk : Env → Ms → R (List S)} {p pos tpos : Pos} {elts : List Expr} {kk : Nat}
theorem i_enum (hg : Gl Y.X "enumerate") (hm : Y.X.mg "enumerate" = none) (ha : DA Y [e] ma) (hs : starEach [e] Y.X.env = [(false, eval e Y.X.env)] := by rfl) : DI Y (.Tuple elts kk tpos) (.Call (.Name "enumerate" p) [e] [] pos) (iEnu ma) := by
  obtain ⟨t, pa, s⟩ := ha.ex
  refine ⟨_, piEnum hg hm pa hs, fun w σ H env ms Rr er hr h => ?_⟩
  refine s.go er hr h fun ss ms1 w1 H1 vs e1 er1 hr1 sv h1 => ?_
  obtain ⟨tu, a, xs, ds, kp, ev, hq, yl, kc, h2⟩ := itE_use hr1 sv h1
  exact ⟨tu, a, xs, ev, hq, h2 w1 H1 _ e1 hr1 yl kc⟩
end
end Fw
set_option Elab.async false
set_option linter.all false
set_option maxRecDepth 100000
set_option maxHeartbeats 1000000
/-! Fw34: x[::-1] of tuples and lists; list * int, tuple * int. -/
namespace Fw
open PySem L2 PySem.Spec PyProof.Rows
theorem adjBack (n : Nat) : Builtin.Slice.sliceAdjust none none (-1) (n : Int) = ((n : Int) - 1, -1) := by
  simp [Builtin.Slice.sliceAdjust]
theorem placesBack (n : Nat) : Builtin.Slice.slicePlaces ((n : Int) - 1) (-1) (-1) = n := by
  simp [Builtin.Slice.slicePlaces]
  omega
theorem pickBack (xs : Array Value) : ((List.range xs.size).filterMap fun (m : Nat) => xs[(((xs.size : Int) - 1) + (m : Int) * -1).toNat]?).toArray = xs.toList.reverse.toArray := by
  congr 1
  have e : (fun (m : Nat) => xs[(((xs.size : Int) - 1) + (m : Int) * -1).toNat]?) = fun m => xs.toList[xs.size - 1 - m]? := by
    funext m
    have : (((xs.size : Int) - 1) + (m : Int) * -1).toNat = xs.size - 1 - m := by omega
    rw [this]; simp
  rw [e]
  have key : ∀ l : List Value, (List.range l.length).filterMap (fun m => l[l.length - 1 - m]?) = l.reverse := by
    intro l
    have : ∀ k, k ≤ l.length → (List.range k).filterMap (fun m => l[l.length - 1 - m]?) = (l.drop (l.length - k)).reverse := by
      intro k
      induction k with
      | zero => intro _; simp
      | succ k ih =>
        intro hk
        rw [List.range_succ, List.filterMap_append, ih (by omega)]
        have h1 : l.length - (k + 1) < l.length := by omega
        have h2 : l.drop (l.length - (k + 1)) = l[l.length - (k + 1)] :: l.drop (l.length - k) := by
          rw [List.drop_eq_getElem_cons h1]
          congr 2; omega
        rw [h2, List.reverse_cons]
        congr 1
        have h3 : l.length - 1 - k = l.length - (k + 1) := by omega
        simp [h3, h1]
    have := this l.length (Nat.le_refl _)
    simpa using this
  have := key xs.toList
  simpa using this
section
variable {prog : Program} {w : World} {A : Around} {E : Value → Shared → Prop} {s : Shared}
theorem getBackT {t sl : Addr} {items : Array Value} {vl vu vs : Value} {Q : Value → Shared → Prop} (ht : IsTup s.heap t items) (hs : s.heap.IsSliceOf sl vl vu vs) (pl : IsPart vl none) (pu : IsPart vu none) (ps : IsPart vs (some (-1)))
    (h : Q (.ref s.heap.objs.size) { s with heap := s.heap.push { cls := .type "tuple", data := .seq items.toList.reverse.toArray } })
    (hsz : items.size ≤ sizeLine) : wpAny (model prog w) A (getItem (.ref t) (.ref sl)) Q E s := by
  have fits : sizeOk (.seq items.toList.reverse.toArray) := by
    show items.toList.reverse.toArray.size ≤ sizeLine
    rw [List.size_toArray, List.length_reverse, Array.length_toList]
    exact hsz
  obtain ⟨os, hos, hcs, hds⟩ := id hs
  have tys : s.TypeIs (.ref sl) "slice" := ⟨os, hos, hcs⟩
  cases pl
  cases pu
  cases ps with
  | int _ tk =>
  unfold getItem
  try with_reducible refine wpAny_holding ?_
  first | refine wpAny_bind (wpAny_pure ?_) | skip
  refine wpAny_bind (wpAny_sequenceKey ht.typeIs (by decide) ?_)
  refine wpAny_bind (wpAny_callSpecial?_slot (name := Str.ofString "__getitem__") ht.typeIs PyProof.Rows.slot_tuple_getitem
    (wpAny_call_entry PyProof.Rows.slot_tuple_getitem ht.typeIs entry_tuple_getitem ?_ (args_tuple_getitem _ _)))
  show wpAny _ _ (Builtin.Tuple.tupleItemsOf (.ref t) >>= _) _ _ s
  refine wpAny_bind (tupleItemsOf_ ht ?_)
  refine wpAny_bind (wpAny_typeOf tys ?_)
  rw [if_pos (by decide)]
  have app : ∀ {Q2 : Int × Int × Nat → Shared → Prop} {A2 : Around} {E2 : Value → Shared → Prop}, Q2 (((items.size : Int) - 1), -1, items.size) s → wpAny (model prog w) A2 (Builtin.Slice.sliceApplied (.ref sl) (pure (items.size : Int))) Q2 E2 s := by
    intro Q2 A2 E2 z
    unfold Builtin.Slice.sliceApplied Builtin.Slice.sliceFields
    refine wpAny_bind (wpAny_bind (wpAny_field hos hds (x := .none) rfl (wpAny_bind (wpAny_field hos hds (x := .none) rfl (wpAny_bind (wpAny_field hos hds (x := .int (-1) tk) rfl (wpAny_pure ?_)))))))
    refine wpAny_bind (slicePart_int ?_)
    show wpAny _ _ (if ((-1 : Int) == 0) = true then _ else _) _ _ s
    rw [if_neg (by decide)]
    refine wpAny_bind (slicePart_none (wpAny_bind (slicePart_none (wpAny_bind (wpAny_pure ?_)))))
    show wpAny _ _ (match Builtin.Slice.sliceAdjust none none (-1) (items.size : Int) with | (lo, hi) => pure (lo, (-1 : Int), Builtin.Slice.slicePlaces lo hi (-1))) _ _ s
    rw [adjBack]
    show wpAny _ _ (pure (((items.size : Int) - 1), (-1 : Int), Builtin.Slice.slicePlaces ((items.size : Int) - 1) (-1) (-1))) _ _ s
    rw [placesBack]
    exact wpAny_pure z
  refine wpAny_bind (app ?_)
  show wpAny _ _ (if (((items.size : Int) - 1) == 0 && (-1 : Int) == 1 && items.size == items.size) = true then _ else _) _ _ s
  rw [if_neg (by simp), pickBack]
  first
    | exact wpAny_bind (m := Builtin.Tuple.tupleExact _) (wpAny_newObj_type (wpAny_pure ⟨_, rfl, wpAny_pure h⟩) fits)
    | exact wpAny_bind (m := Builtin.Tuple.tupleExact _) (wpAny_newObj_type (wpAny_bind (wpAny_pure (wpAny_pure ⟨_, rfl, wpAny_pure h⟩))) fits)
    | exact wpAny_bind (wpAny_bind (m := Builtin.Tuple.tupleExact _) (wpAny_newObj_type (wpAny_pure (wpAny_pure ⟨_, rfl, wpAny_pure h⟩)) fits))
    | exact wpAny_bind (wpAny_bind (m := Builtin.Tuple.tupleExact _) (wpAny_newObj_type (wpAny_pure ⟨_, rfl, wpAny_pure h⟩) fits))
end
/-! ### x[::-1] -/
def tBack (K : PySem.W.Frag) (te : TE) : TE := fun σ H Q => te σ H fun x H1 => ∃ a xs, x = .ref a ∧ ((SqL K H1 a xs ∧ ∀ p, H1 p = none → Q (.ref p) (upd H1 p (.lst xs.reverse))) ∨ (SqT K H1 a xs ∧ ∀ p, H1 p = none → Q (.ref p) (upd H1 p (.tup xs.reverse))))
theorem peBack {X : Cx} {e : Expr} {te : TE} {k : Nat} {p1 p2 p3 pos : Pos} (he : PE X e te) : PE X (.Subscript e (.Slice none none (some (.UnaryOp .USub (.Constant (.int 1) k p1) p2)) p3) pos) (tBack X.K te) := by
  refine ⟨fun pins s σ H Q I h => ?_⟩
  refine Subscript_ (thn (he.run pins s σ H _ I h) fun v s1 ⟨x, H1, I1, r1, a, xs, ex, q1⟩ => ?_)
  subst ex
  cases r1
  have step : PO X (some (.UnaryOp .USub (.Constant (.int 1) k p1) p2)) (tPart (tUn (rU fun i => .int (-i)) (tC (.int 1)))) := po_some (pe_un un_neg pe_int)
  refine wpAny_Slice (thn (po_none.run pins s1 σ H1 (fun o H2 => o = none ∧ H2 = H1) I1 ⟨rfl, rfl⟩) fun lv s2 ⟨l, H2, I2, pl, e1, e2⟩ => ?_)
  subst e1 e2
  refine thn (po_none.run pins s2 σ H2 (fun o H3 => o = none ∧ H3 = H2) I2 ⟨rfl, rfl⟩) fun uv s3 ⟨u, H3, I3, pu, e1, e2⟩ => ?_
  subst e1 e2
  refine thn (step.run pins s3 σ H3 (fun o H4 => o = some (-1) ∧ H4 = H3) I3 ⟨1, rfl, -1, rfl, rfl, rfl⟩) fun sv s4 ⟨o, H4, I4, ps, e1, e2⟩ => ?_
  subst e1 e2
  have I5 : Inv X pins σ H4 { s4 with heap := s4.heap.push { cls := .type "slice", data := .fields #[lv, uv, sv] } } := I4.kept (t' := s4.toks) fun b ob z => Heap.get?_push_of_some _ z
  show wpAny (model X.prog X.w) X.A (subscriptTail e (.Slice none none (some (.UnaryOp .USub (.Constant (.int 1) k p1) p2)) p3) (.ref a) (.ref s4.heap.objs.size)) (EP X pins σ Q) X.xe { s4 with heap := s4.heap.push { cls := .type "slice", data := .fields #[lv, uv, sv] } }
  rcases q1 with ⟨hx, q⟩ | ⟨hx, q⟩
  · obtain ⟨its, r, ht, hz⟩ := I5.list hx
    have len := r.length
    refine tail_any (ops := [.ref a, .ref s4.heap.objs.size]) ht.isList.typeIs (PySem.slot_list_getitem.lookup) ?_ (by with_unfolding_all rfl)
    refine wpAny_getItem_list_slice ht.isList (Heap.IsSliceOf.new _ lv uv sv) pl pu ps (by decide) ?_ (by rw [List.size_toArray]; omega)
    rw [PySem.W.krv_pick]
    exact ⟨.ref _, _, I5.laid (t' := s4.toks) (o := .lst xs.reverse) (fun b ob z => Heap.get?_push_of_some _ z) (Nat.le_refl _) ⟨by rw [List.length_reverse]; exact hz, _, 0, r.reverse, Heap.get?_push_size _ rfl⟩, rfl, q _ (I5.hok.fresh (Nat.le_refl _))⟩
  · obtain ⟨its, r, ht, hz⟩ := I5.tuple hx
    have len := r.length
    refine tail_any (ops := [.ref a, .ref s4.heap.objs.size]) (T := "tuple") ht.typeIs (PyProof.Rows.slot_tuple_getitem.lookup) ?_ (by with_unfolding_all rfl)
    refine getBackT ht (Heap.IsSliceOf.new _ lv uv sv) pl pu ps ?_ (by rw [List.size_toArray]; omega)
    exact ⟨.ref _, _, I5.laid (t' := s4.toks) (o := .tup xs.reverse) (fun b ob z => Heap.get?_push_of_some _ z) (Nat.le_refl _) ⟨by rw [List.length_reverse]; exact hz, _, r.reverse, IsTup.new _ _⟩, rfl, q _ (I5.hok.fresh (Nat.le_refl _))⟩
theorem DRs.reverse {K : PySem.W.Frag} {Γ : G} {F : Hp} : ∀ {ds : List D} {xs : List V}, DRs K Γ F ds xs → DRs K Γ F ds.reverse xs.reverse
  | [], _, h => by cases h; rfl
  | d :: ds, _, ⟨x, r, e, h1, h2⟩ => by
    subst e
    rw [List.reverse_cons, List.reverse_cons]
    exact DRs.append (DRs.reverse h2) ⟨x, [], rfl, h1, rfl⟩
def gBack (x : S) (ms : Ms) : R S := match view x ms with
  | some (.lst ds) => .ok (.d (.lst ds.reverse)) ms
  | some (.frz ds) => .ok (.d (.lst ds.reverse)) ms
  | some (.tup ds) => .ok (.d (.tup ds.reverse)) ms
  | _ => .bad
def mBack (mo : Env → Ms → R S) : Env → Ms → R S := fun env ms => (mo env ms).bind gBack
section
variable {Y : Cy} {o : Expr} {mo : Env → Ms → R S}
theorem e_back {k : Nat} {p1 p2 p3 pos : Pos} (ho : DE Y o mo) : DE Y (.Subscript o (.Slice none none (some (.UnaryOp .USub (.Constant (.int 1) k p1) p2)) p3) pos) (mBack mo) := by
  obtain ⟨t, p, s⟩ := ho.ex
  refine ⟨_, peBack p, fun w σ H env ms Q er hr h => ?_⟩
  refine s.go er hr h fun x ms1 w1 H1 v e1 er1 hr1 sv h1 => ?_
  unfold gBack at h1
  split at h1
  · rename_i ds hv
    obtain ⟨a, xs, rfl, hq, r⟩ := view_list hv hr1 sv
    refine ⟨a, xs, rfl, .inl ⟨SqL.of hq, fun p hp => ?_⟩⟩
    obtain ⟨hr2, e2⟩ := hr1.froz (o := .lst xs.reverse) hp
    exact h1.at (e1.trans e2) hr2 ⟨p, _, rfl, upd_same, DRs.mono e2.F _ _ (DRs.reverse r)⟩
  · rename_i ds hv
    obtain ⟨a, xs, rfl, hq, r⟩ := view_notlist hv (by intro ds z; cases z) sv
    refine ⟨a, xs, rfl, .inl ⟨sqL_mono hq hr1.sub, fun p hp => ?_⟩⟩
    obtain ⟨hr2, e2⟩ := hr1.froz (o := .lst xs.reverse) hp
    exact h1.at (e1.trans e2) hr2 ⟨p, _, rfl, upd_same, DRs.mono e2.F _ _ (DRs.reverse r)⟩
  · rename_i ds hv
    obtain ⟨a, xs, rfl, hq, r⟩ := view_notlist hv (by intro ds z; cases z) sv
    refine ⟨a, xs, rfl, .inr ⟨sqT_mono hq hr1.sub, fun p hp => ?_⟩⟩
    obtain ⟨hr2, e2⟩ := hr1.froz (o := .tup xs.reverse) hp
    exact h1.at (e1.trans e2) hr2 ⟨p, _, rfl, SqT.of upd_same, DRs.mono e2.F _ _ (DRs.reverse r)⟩
  · exact h1.elim
/-! ### a list or a tuple some times -/
theorem DRs.rep {K : PySem.W.Frag} {Γ : G} {F : Hp} {ds : List D} {xs : List V} (r : DRs K Γ F ds xs) : ∀ n : Nat, DRs K Γ F (List.replicate n ds).flatten (List.replicate n xs).flatten
  | 0 => rfl
  | n + 1 => by
    rw [List.replicate_succ, List.replicate_succ, List.flatten_cons, List.flatten_cons]
    exact DRs.append r (DRs.rep r n)
noncomputable def gMulL : S → S → Ms → R S := fun x y ms => match x, y with
  | .d (.lst ds), .d (.int n) => match dec (-1000 ≤ n ∧ n ≤ 1000) && Nat.ble ds.length 1000 with
    | true => .ok (.d (.lst (List.replicate n.toNat ds).flatten)) ms
    | false => .bad
  | .d (.tup ds), .d (.int n) => match dec (2 ≤ n ∧ n ≤ 1000) && (Nat.ble 1 ds.length && Nat.ble ds.length 1000) with
    | true => .ok (.d (.tup (List.replicate n.toNat ds).flatten)) ms
    | false => .bad
  | _, _ => .bad
theorem o_mulL : OpD Y (binaryOp .Mult) gMulL := by
  refine ⟨⟨fun x y H Q => rRep x y H Q ∨ rRepT Y.X.K x y H Q, OpR.or op_rep op_repT, fun w H ms x y u v Q hr sx sy h => ?_⟩, fun x y ms c ds ms' h => ?_⟩
  · unfold gMulL at h
    split at h
    · rename_i ds n
      split at h
      · rename_i f
        obtain ⟨f1, f2⟩ := Bool.and_eq_true_iff.mp f
        have f1 := dec_of f1
        have f2 := Nat.ble_eq.mp f2
        obtain ⟨p, xs, rfl, e1, r1⟩ := sx
        cases sy
        refine .inl ⟨p, n, xs, rfl, rfl, hr.sub _ _ e1, by omega, by omega, ?_, fun l hl => ?_⟩
        · rw [← DRs.length r1]
          have : ds.length * n.toNat ≤ 1000 * 1000 := Nat.mul_le_mul f2 (by omega)
          rw [sizeLine_eq]; omega
        · obtain ⟨hr2, e⟩ := hr.froz (o := .lst (List.replicate n.toNat xs).flatten) hl
          exact h.at e hr2 ⟨l, _, rfl, upd_same, DRs.mono e.1 _ _ (DRs.rep r1 _)⟩
      · exact h.elim
    · rename_i ds n
      split at h
      · rename_i f
        obtain ⟨f1, f2⟩ := Bool.and_eq_true_iff.mp f
        obtain ⟨f2, f3⟩ := Bool.and_eq_true_iff.mp f2
        have f1 := dec_of f1
        have f2 := Nat.ble_eq.mp f2
        have f3 := Nat.ble_eq.mp f3
        obtain ⟨p, xs, rfl, e1, r1⟩ := sx
        cases sy
        have len := DRs.length r1
        refine .inr ⟨p, n, xs, rfl, rfl, sqT_mono e1 hr.sub, fun z => ?_, by omega, by omega, by omega, fun l hl => ?_⟩
        · rw [z, List.length_nil] at len; omega
        · obtain ⟨hr2, e⟩ := hr.froz (o := .tup (List.replicate n.toNat xs).flatten) hl
          exact h.at e hr2 ⟨l, _, rfl, SqT.of upd_same, DRs.mono e.1 _ _ (DRs.rep r1 _)⟩
      · exact h.elim
    · exact h.elim
  · unfold gMulL at h
    split at h
    · split at h <;> cases h
    · split at h <;> cases h
    · cases h
noncomputable def gMulA := gOr gMul gMulL
theorem o_mulA : OpD Y (binaryOp .Mult) gMulA := o_mul.or o_mulL
end
end Fw
set_option Elab.async false
set_option linter.all false
set_option maxRecDepth 100000
set_option maxHeartbeats 1000000
/-! Fw35: a[i], b[j] = x, y into cells; str of any data. -/
namespace Fw
open PySem L2 PySem.Spec PyProof.Rows
section
variable {Y : Cy} {w w1 w2 : Wd} {H H1 H2 : Hp} {ms ms1 ms2 : Ms} {e o o2 i i2 : Expr} {me mo mi mo2 mi2 : Env → Ms → R S} {pos : Pos} {k : Nat}
/-- o[i] = v, then on -/
def putC (mo mi : Env → Ms → R S) (y : S) (env : Env) (ms : Ms) (kk : Ms → T) : T := T.ofE (mo env ms) env fun x ms2 => T.ofE (mi env ms2) env fun i ms3 => match x, y, i with
  | .loc n, .d v, .d (.int i) => match ms3[n]? with
    | some (.lst ds) => match ixN ds.length i with
      | some j => kk (ms3.set n (.lst (ds.set j v)))
      | none => .bad
    | _ => .bad
  | _, _, _ => .bad
def sSub2 (me mo mi mo2 mi2 : Env → Ms → R S) : Env → Ms → T := fun env ms => T.ofE (me env ms) env fun y ms1 => match y with
  | .d (.tup [a, b]) => putC mo mi (.d a) env ms1 fun ms2 => putC mo2 mi2 (.d b) env ms2 fun ms3 => .nx env ms3
  | _ => .bad
theorem put_run {to ti : TE} (so : SndE Y to mo) (si : SndE Y ti mi) {w : Wd} {σ : L2.St} {H : Hp} {env : Env} {ms : Ms} {Ed : Ends} {y : D} {v : V} {kk : Ms → T} {N : L2.St → Hp → Prop} (er : ER Y w σ env) (hr : HR Y w H ms) (sv : SR Y w (.d y) v)
    (h : tP Y w Ed (putC mo mi (.d y) env ms kk))
    (next : ∀ (w3 : Wd) (H3 : Hp) (ms3 : Ms), Ext w w3 → HR Y w3 H3 ms3 → ER Y w3 σ env → tP Y w3 Ed (kk ms3) → N σ H3) :
    gSub to ti rSetL v σ H N := by
  unfold putC at h
  refine so.goS er hr h fun x ms2 w2 H2 u e2 er2 hr2 su h2 => ?_
  refine si.goS er2 hr2 h2 fun i ms3 w3 H3 iv e3 er3 hr3 si3 h3 => ?_
  split at h3
  · rename_i n v' i' hy
    cases hy
    cases si3
    obtain ⟨a, ha, rfl⟩ := su
    have ha := e3.mu n a ha
    split at h3
    · rename_i ds hn
      split at h3
      · rename_i j hj
        obtain ⟨xs, q1, q2⟩ := hr3.cel n a _ ha hn
        refine ⟨a, xs, i', j, rfl, rfl, q1, by rw [← DRs.length q2]; exact hj, ?_⟩
        refine next w3 _ _ (e2.trans e3) (hr3.write ha hn (by intro z; cases z) ?_) er3 h3
        exact ⟨_, upd_same, DRs.set (DR.mono (e2.trans e3).F _ _ sv) j q2⟩
      · exact h3.elim
    · exact h3.elim
  · exact h3.elim
theorem s_sub2 {pos' pos2 tpos : Pos} {kk : Nat} (hc : Y.X.calm = true) (he : DE Y e me) (ho : DE Y o mo) (hi : DE Y i mi) (ho2 : DE Y o2 mo2) (hi2 : DE Y i2 mi2)
    (ha : ∀ v, assign (.Subscript o i pos') Y.X.env v = (do
      let ov ← holding [v] (eval o Y.X.env)
      let iv ← holding [v, ov] (eval i Y.X.env)
      standAt pos'
      holding [v, ov, iv] (setItem ov iv v)
      release [v, ov, iv] []) := by intro _; rfl)
    (ha2 : ∀ v, assign (.Subscript o2 i2 pos2) Y.X.env v = (do
      let ov ← holding [v] (eval o2 Y.X.env)
      let iv ← holding [v, ov] (eval i2 Y.X.env)
      standAt pos2
      holding [v, ov, iv] (setItem ov iv v)
      release [v, ov, iv] []) := by intro _; rfl)
    (hn : (assignEach [.Subscript o i pos', .Subscript o2 i2 pos2] Y.X.env).length = 2 := by rfl) (hst : (assignEach [.Subscript o i pos', .Subscript o2 i2 pos2] Y.X.env).findIdx? (·.1) = none := by rfl)
    (hq1 : (assignEach (.Subscript o i pos' :: [.Subscript o2 i2 pos2]) Y.X.env).map (·.2) = assign (.Subscript o i pos') Y.X.env :: (assignEach [.Subscript o2 i2 pos2] Y.X.env).map (·.2) := by rfl)
    (hq2 : (assignEach (.Subscript o2 i2 pos2 :: []) Y.X.env).map (·.2) = assign (.Subscript o2 i2 pos2) Y.X.env :: (assignEach [] Y.X.env).map (·.2) := by rfl)
    (hs : swapsWithSole [.Tuple [.Subscript o i pos', .Subscript o2 i2 pos2] kk tpos] e pos.line Y.X.env = pure false := by rfl) (hw : swappedStores [.Tuple [.Subscript o i pos', .Subscript o2 i2 pos2] kk tpos] e Y.X.env = pure none := by rfl)
    (h1 : (assignEach [.Tuple [.Subscript o i pos', .Subscript o2 i2 pos2] kk tpos] Y.X.env).map (·.2) = [assign (.Tuple [.Subscript o i pos', .Subscript o2 i2 pos2] kk tpos) Y.X.env] := by rfl) :
    DS Y (.Assign [.Tuple [.Subscript o i pos', .Subscript o2 i2 pos2] kk tpos] e pos) (sSub2 me mo mi mo2 mi2) := by
  obtain ⟨te, pe, se⟩ := he.ex
  obtain ⟨to, po, so⟩ := ho.ex
  obtain ⟨ti, pi, si⟩ := hi.ex
  obtain ⟨to2, po2, so2⟩ := ho2.ex
  obtain ⟨ti2, pi2, si2⟩ := hi2.ex
  refine ⟨_, ps_asg pe (pg_tup hc (pgs_cons (pg_sub po pi set_list ha) (pgs_cons (pg_sub po2 pi2 set_list ha2) pgs_nil hq2) hq1) hn hst) hs hw h1, fun w σ H env ms Ed er hr h => ?_⟩
  refine se.goS er hr h fun y ms1 w1 H1 v e1 er1 hr1 sv h1 => ?_
  split at h1
  · rename_i a b
    obtain ⟨p, xs, rfl, q, x, r, rfl, r1, x2, r', rfl, r2, rfl⟩ := sv
    refine ⟨p, _, rfl, sqT_mono q hr1.sub, rfl, x, _, rfl, ?_⟩
    refine put_run so si er1 hr1 (y := a) r1 h1 fun w2 H2 ms2 e2 hr2 er2 h2 => ?_
    refine ⟨x2, [], rfl, ?_⟩
    refine put_run so2 si2 er2 hr2 (y := b) (DR.mono e2.F _ _ r2) h2 fun w3 H3 ms3 e3 hr3 er3 h3 => ?_
    exact ⟨rfl, h3 w3 H3 σ (Ext.refl w3) hr3 er3⟩
  · exact h1.elim
/-! ### str of any data -/
theorem call_strA (ok : CyOk Y k) : CallR Y.X (.type "str") (fun xs H Q => ∃ x p, xs = [x] ∧ Dp Y.X.K H x p ∧ (∀ z, x ≠ .str z) ∧ (∀ z, x ≠ .int z) ∧ p.showable = true ∧ p.depth ≤ 40 ∧ p.shown.length ≤ sizeLine ∧ p.hasDict = false ∧ Q (.str p.shown) H) := by
  intro pins s σ H xs us Q I r h
  obtain ⟨x, p, rfl, hd, n1, n2, h1, h2, h3, h4, q⟩ := h
  obtain ⟨u, rfl, ru⟩ := vals1 r
  obtain ⟨as, rd⟩ := Dp.reads I p x u hd ru
  have hu := ok.hr.units
  cases rd with
  | none => exact PySem.P.str_of_none ⟨.str _, H, I.tok _, ⟨_, rfl⟩, q⟩
  | bool b => exact PySem.P.str_of_bool ⟨.str _, H, I.tok _, ⟨_, rfl⟩, q⟩
  | int i t =>
    cases x with
    | int z => exact absurd rfl (n2 z)
    | _ => first | (obtain ⟨_, z⟩ := ru; cases z; done) | (cases ru; done)
  | str y t =>
    cases x with
    | str z => exact absurd rfl (n1 z)
    | _ => first | (obtain ⟨_, z⟩ := ru; cases z; done) | (cases ru; done)
  | list a1 a2 a3 a4 =>
    exact str_of_reads (Reads.list a1 a2 a3 a4) h1 (fun z => by rw [h4] at z; cases z) ok.gd (by omega) (fun _ _ z => z) (fun h' t tk kp => ⟨.str _, H, I.kept kp, ⟨_, rfl⟩, q⟩) h3
  | tuple a1 a2 a3 a4 =>
    exact str_of_reads (Reads.tuple a1 a2 a3 a4) h1 (fun z => by rw [h4] at z; cases z) ok.gd (by omega) (fun _ _ z => z) (fun h' t tk kp => ⟨.str _, H, I.kept kp, ⟨_, rfl⟩, q⟩) h3
  | dict a1 a2 a3 a4 a5 => cases h4
def strAD (d : D) : Option D := match d with
  | .str _ => none
  | .int _ => none
  | d => reprD d
theorem cd_strA (ok : CyOk Y k) : CallD Y (.type "str") (c1 strAD) := by
  refine ⟨⟨_, call_strA ok, fun w H ms ss vs Q hr sv h => ?_⟩, c1_ne⟩
  obtain ⟨s, d, d', rfl, h1, h2, q⟩ := c1_inv h
  obtain ⟨v, rfl, r⟩ := SRs.one sv
  have ns : (∀ z, d ≠ .str z) ∧ (∀ z, d ≠ .int z) := by
    constructor
    · rintro z rfl; cases h2
    · rintro z rfl; cases h2
  have h2 : reprD d = some d' := by
    unfold strAD at h2
    split at h2
    · cases h2
    · cases h2
    · exact h2
  unfold reprD at h2
  cases e : toP d with
  | none => rw [e] at h2; cases h2
  | some p =>
    rw [e] at h2
    dsimp only at h2
    split at h2
    · rename_i f
      cases h2
      simp only [Bool.and_eq_true] at f
      obtain ⟨⟨⟨f1, f2⟩, f3⟩, f4⟩ := f
      have dp := view_rel h1 hr r e
      refine ⟨v, p, rfl, dp, ?_, ?_, f1, of_decide_eq_true f2, few_ok f3, by simpa using f4, q.at (Ext.refl w) hr rfl⟩
      · rintro z rfl
        by_cases hl : ∃ ds, d = .lst ds
        · obtain ⟨ds, rfl⟩ := hl
          obtain ⟨a, xs, e1, _⟩ := view_list h1 hr r
          cases e1
        · have rr := view_notlist h1 (fun ds z => hl ⟨ds, z⟩) r
          cases d with
          | str y => exact ns.1 y rfl
          | _ => first | (cases rr; done) | (obtain ⟨_, _, z, _⟩ := rr; cases z; done) | (obtain ⟨_, _, _, z, _⟩ := rr; cases z)
      · rintro z rfl
        by_cases hl : ∃ ds, d = .lst ds
        · obtain ⟨ds, rfl⟩ := hl
          obtain ⟨a, xs, e1, _⟩ := view_list h1 hr r
          cases e1
        · have rr := view_notlist h1 (fun ds z => hl ⟨ds, z⟩) r
          cases d with
          | int y => exact ns.2 y rfl
          | _ => first | (cases rr; done) | (obtain ⟨_, _, z, _⟩ := rr; cases z; done) | (obtain ⟨_, _, _, z, _⟩ := rr; cases z)
    · cases h2
end
end Fw
set_option Elab.async false
set_option linter.all false
set_option maxRecDepth 100000
set_option maxHeartbeats 1000000
/-! Fw36: an own instance in a list of data, none of them equal to it. -/
namespace PySem
open PySem.W AutoSeq1 MeetsSeq MeetsSeq2 MeetsSeq3 SeqRoads2
section
variable {prog : Program} {w : World} {A : Around} {E : Value → Shared → Prop} {s : Shared} {K : Frag} {x C dx : Addr}
theorem intNo {i : Int} {t : Tok} {Q : Fin → Shared → Prop} (hx : s.heap.get? x = some (instObj C dx)) (q : Q (.done (.ret .notImplemented)) s) :
    wpAny (model prog w) A (Builtin.«int.__eq__» ⟨[.int i t, .ref x], []⟩) Q E s := by
  show wpAny _ _ (Builtin.Int.intBinary _ _ _ _) _ _ _
  unfold Builtin.Int.intBinary
  refine wpAny_bind (m := slotArgs "__eq__" 1 _) (wpAny_pure ?_)
  refine wpAny_bind (m := Builtin.Int.intOfSelf _) (wpAny_pure ?_)
  refine wpAny_bind (m := asInt? _) ?_
  show wpAny _ _ (asInt? (.ref x)) _ _ _
  unfold asInt?
  refine wpAny_bind (wpAny_load hx ?_)
  refine wpAny_pure ?_
  exact wpAny_bind (wpAny_rule (wpAny_pure q))
theorem boolNo {b : Bool} {Q : Fin → Shared → Prop} (hx : s.heap.get? x = some (instObj C dx)) (q : Q (.done (.ret .notImplemented)) s) :
    wpAny (model prog w) A (Builtin.«int.__eq__» ⟨[.bool b, .ref x], []⟩) Q E s := by
  show wpAny _ _ (Builtin.Int.intBinary _ _ _ _) _ _ _
  unfold Builtin.Int.intBinary
  refine wpAny_bind (m := slotArgs "__eq__" 1 _) (wpAny_pure ?_)
  refine wpAny_bind (m := Builtin.Int.intOfSelf _) (wpAny_pure ?_)
  refine wpAny_bind (m := asInt? _) ?_
  show wpAny _ _ (asInt? (.ref x)) _ _ _
  unfold asInt?
  refine wpAny_bind (wpAny_load hx ?_)
  refine wpAny_pure ?_
  exact wpAny_bind (wpAny_rule (wpAny_pure q))
theorem strNo {z : Str} {t : Tok} {Q : Fin → Shared → Prop} (hx : s.heap.get? x = some (instObj C dx)) (q : Q (.done (.ret .notImplemented)) s) :
    wpAny (model prog w) A (Builtin.«str.__eq__» ⟨[.str z t, .ref x], []⟩) Q E s := by
  show wpAny _ _ (Builtin.Str.strCompare _ _ _) _ _ _
  unfold Builtin.Str.strCompare
  refine wpAny_bind (m := Builtin.Str.strSlot "__eq__" _ _) (wpAny_pure ?_)
  refine wpAny_bind (m := asStr? _) ?_
  show wpAny _ _ (asStr? (.ref x)) _ _ _
  unfold asStr?
  refine wpAny_bind (wpAny_load hx ?_)
  refine wpAny_pure ?_
  exact wpAny_bind (wpAny_rule (wpAny_pure q))
theorem tupNo {a : Addr} {Q : Fin → Shared → Prop} (X : K.In s.heap) (hx : s.heap.get? x = some (instObj C dx)) (hm : mroIn K C (.type "tuple") = some false) (q : Q (.done (.ret .notImplemented)) s) :
    wpAny (model prog w) A (Builtin.«tuple.__eq__» ⟨[.ref a, .ref x], []⟩) Q E s := by
  have ty : s.TypeIs (.ref x) "tuple" ∨ True := .inr trivial
  show wpAny _ _ (slotArgs "__eq__" 1 _ >>= _) _ _ _
  refine wpAny_bind (m := slotArgs "__eq__" 1 _) (wpAny_pure ?_)
  refine wpAny_bind (m := isInstance _ _) ?_
  show wpAny _ _ (isInstance (.ref x) (.type "tuple")) _ _ _
  unfold isInstance
  refine wpAny_bind (wpAny_typeOf_ref hx ?_)
  refine (looks_mroIn X hm).here ?_
  exact wpAny_bind (wpAny_pure (wpAny_pure q))
theorem listNo {a : Addr} {Q : Fin → Shared → Prop} (X : K.In s.heap) (hx : s.heap.get? x = some (instObj C dx)) (hm : mroIn K C (.type "list") = some false) (q : Q (.done (.ret .notImplemented)) s) :
    wpAny (model prog w) A (Builtin.«list.__eq__» ⟨[.ref a, .ref x], []⟩) Q E s := by
  show wpAny _ _ (slotArgs "__eq__" 1 _ >>= _) _ _ _
  refine wpAny_bind (m := slotArgs "__eq__" 1 _) (wpAny_pure ?_)
  refine wpAny_bind (m := isInstance _ _) ?_
  show wpAny _ _ (isInstance (.ref x) (.type "list")) _ _ _
  unfold isInstance
  refine wpAny_bind (wpAny_typeOf_ref hx ?_)
  refine (looks_mroIn X hm).here ?_
  exact wpAny_bind (wpAny_pure (wpAny_pure q))
end
/-- data that says 'not implemented' to == with an instance -/
inductive Decl (K : Frag) (C : Addr) (s : Shared) : Value → String → Prop
  | non : Decl K C s .none "NoneType"
  | bl (b : Bool) : Decl K C s (.bool b) "bool"
  | int (i : Int) (t : Tok) : Decl K C s (.int i t) "int"
  | str (z : Str) (t : Tok) : Decl K C s (.str z t) "str"
  | tup (a : Addr) (h : s.TypeIs (.ref a) "tuple") : Decl K C s (.ref a) "tuple"
  | lst (a : Addr) (h : s.TypeIs (.ref a) "list") : Decl K C s (.ref a) "list"
section
variable {prog : Program} {w : World} {A : Around} {E : Value → Shared → Prop} {s : Shared} {K : Frag} {x C dx f : Addr} {u : Value} {T : String} {od : Option Obj}
theorem Decl.typed (d : Decl K C s u T) : s.TypeIs u T := by
  cases d with
  | non => rfl
  | bl b => exact typeIs_bool s b
  | int i t => exact typeIs_int s i t
  | str z t => exact typeIs_str s z t
  | tup a h => exact h
  | lst a h => exact h
theorem Decl.says (d : Decl K C s u T) (X : K.In s.heap) (hx : s.heap.get? x = some (instObj C dx)) (hm : mroIn K C (.type T) = some false) {Q : Option Value → Shared → Prop} (q : Q none s) :
    wpAny (model prog w) A (tryCompare u "__eq__" (.ref x)) Q E s := by
  have ty := d.typed
  cases d with
  | non => exact wpAny_tryCompare_declines ty F.slot_NoneType_eq (wpAny_call_entry F.slot_NoneType_eq ty F.entry_NoneType_eq (wpAny_pure ⟨_, rfl, rfl, q⟩) (F.args_NoneType_eq_2 _ _))
  | bl b => exact wpAny_tryCompare_declines ty F.slot_bool_eq_refl (wpAny_call_entry F.slot_bool_eq_refl ty F.entry_int_eq (boolNo hx ⟨_, rfl, rfl, q⟩) (F.args_int_eq_2 _ _))
  | int i t => exact wpAny_tryCompare_declines ty F.slot_int_eq_refl (wpAny_call_entry F.slot_int_eq_refl ty F.entry_int_eq (intNo hx ⟨_, rfl, rfl, q⟩) (F.args_int_eq_2 _ _))
  | str z t => exact wpAny_tryCompare_declines ty F.slot_str_eq_refl (wpAny_call_entry F.slot_str_eq_refl ty F.entry_str_eq (strNo hx ⟨_, rfl, rfl, q⟩) (F.args_str_eq_2 _ _))
  | tup a h => exact wpAny_tryCompare_declines ty F.slot_tuple_eq_refl (wpAny_call_entry F.slot_tuple_eq_refl ty F.entry_tuple_eq (tupNo X hx hm ⟨_, rfl, rfl, q⟩) (F.args_tuple_eq_2 _ _))
  | lst a h => exact wpAny_tryCompare_declines ty F.slot_list_eq_refl (wpAny_call_entry F.slot_list_eq_refl ty F.entry_list_eq (listNo X hx hm ⟨_, rfl, rfl, q⟩) (F.args_list_eq_2 _ _))
theorem rcBack {Q : Value → Shared → Prop} (hu : A.units < cLine) (X : K.In s.heap) (I : InstAt s.heap x (instObj C dx) C od) (d : Decl K C s u T) (hm : mroIn K C (.type T) = some false)
    (hs : findIn K (.ref C) "__eq__" = some (some (.ref f))) (hf : isFn K (.ref f) = true) (h : wpAny (model prog w) A (call (.ref f) [.ref x, u]) (CmpBack Q) E s) : wpAny (model prog w) A (richCompare .Eq u (.ref x)) Q E s := by
  have one : oneThing? .Eq u (.ref x) = none := by cases d <;> rfl
  have two : wpAny (model prog w) A (tryCompare (.ref x) "__eq__" u) (fun r s' => ∃ v, r = some v ∧ Q v s') E s := by
    unfold tryCompare
    refine wpAny_bind (ifBound_K X I hs hf (wpAny_mono h (fun v s' hv => ?_) fun _ _ e => e))
    cases v <;> first | exact hv.elim | exact wpAny_pure ⟨_, rfl, hv⟩
  have dif : (Value.type T != Value.ref C) = true := rfl
  simp only [richCompare, cmpInfo_Eq, one]
  refine wpAny_holding (wpAny_bind (wpAny_cRoomFor hu ?_))
  refine wpAny_bind (wpAny_typeOf d.typed ?_)
  refine wpAny_bind (I.type.here ?_)
  rw [if_pos dif]
  refine wpAny_bind ((looks_mroIn X hm).here ?_)
  simp only [Bool.false_eq_true, if_false, Bool.not_false, if_true]
  refine wpAny_bind (m := tryCompare u _ (.ref x)) (d.says X I.at_ hm ?_)
  refine wpAny_bind (m := tryCompare (.ref x) _ u) (wpAny_mono two (fun r s' z => ?_) fun _ _ e => e)
  obtain ⟨v, rfl, hq⟩ := z
  exact wpAny_pure hq
theorem eqBack {Q : Bool → Shared → Prop} (hu : A.units < cLine) (X : K.In s.heap) (I : InstAt s.heap x (instObj C dx) C od) (d : Decl K C s u T) (ne : u ≠ .ref x) (hm : mroIn K C (.type T) = some false)
    (hs : findIn K (.ref C) "__eq__" = some (some (.ref f))) (hf : isFn K (.ref f) = true) (h : wpAny (model prog w) A (call (.ref f) [.ref x, u]) (fun v s' => ∃ b, v = .bool b ∧ Q b s') E s) : wpAny (model prog w) A (eqBool u (.ref x)) Q E s := by
  unfold eqBool
  refine wpAny_holding ?_
  refine wpAny_ite_split (fun hab => absurd (eq_of_beq hab) ne) (fun _ => ?_)
  have main := rcBack (Q := fun v s' => ∃ b, v = .bool b ∧ Q b s') hu X I d hm hs hf (wpAny_mono h (fun v s' ⟨b, e, q⟩ => by subst e; exact ⟨b, rfl, q⟩) fun _ _ e => e)
  have fin : wpAny (model prog w) A (richCompare .Eq u (.ref x) >>= truthOfDropped) Q E s := wpAny_bind (wpAny_mono main (fun v s' ⟨b, e, q⟩ => by subst e; exact wpAny_truthy_bool q) fun _ _ e => e)
  cases d <;> exact fin
end
/-- no item of the list is equal to x; the list is read anew at each turn -/
def NoneIs (prog : Program) (w : World) (A : Around) (E : Value → Shared → Prop) (l : Addr) (x : Value) (N : Nat) (J : Nat → Shared → Prop) : Prop :=
  ∀ i s, J i s → ∃ (items : Array Value) (n : Nat) (dd : Option Addr) (sl : Array (Option Value)), s.heap.get? l = some { cls := .type "list", dict := dd, data := .seq items n, slots := sl } ∧ items.size = N ∧
    ∀ (h1 : i < items.size), wpAny (model prog w) A.in1 (eqBool items[i] x) (fun r s' => r = false ∧ J (i + 1) s') E s
theorem notInLoop {prog : Program} {w : World} {A : Around} {R : Result → Shared → Prop} (l : Addr) (x : Value) (N : Nat) (J : Nat → Shared → Prop) (tn : NoneIs prog w A (fun e s' => R (.error e) s') l x N J)
    (fin : ∀ s, J N s → R (.ok (.ret (.bool false))) s) (k : Nat) :
    ∀ i : Nat, N - i = k → i ≤ N → ∀ s, J i s →
      wpAny (model prog w) A.in1 (Builtin.«list.__contains__.loop» ⟨[.ref l, x, rawInt i], []⟩) (GQ.FinOf prog w A R) (fun e s' => R (.error e) s') s := by
  induction k with
  | zero =>
    intro i hk hi s h
    obtain ⟨items, n, dd, sl, hl, hs, _⟩ := tn _ _ h
    have e : i = N := by omega
    have hR : R (.ok (.ret (.bool false))) s := fin s (e ▸ h)
    obtain ⟨hp, g, d, tk, os⟩ := s
    wp_walk using wpAny_loadPart' hl
    have out : items[((i : Nat) : Int).toNat]? = none := by simp; omega
    rw [out]
    wp_walk
    exact hR
  | succ k ih =>
    intro i hk hi s h
    obtain ⟨items, n, dd, sl, hl, hs, turn⟩ := tn _ _ h
    have hlt : i < items.size := by omega
    have ht := turn hlt
    obtain ⟨hp, g, d, tk, os⟩ := s
    wp_walk using wpAny_loadPart' hl
    have here : items[((i : Nat) : Int).toNat]? = some items[i] := by simp [hlt]
    have nxt : ((i : Int) + 1) = ((i + 1 : Nat) : Int) := by omega
    rw [here]
    refine wpAny_bind (wpAny_mono ht (fun r s2 h2 => ?_) fun _ _ z => z)
    obtain ⟨hr, h2⟩ := h2
    subst hr
    have rec_ := ih (i + 1) (by omega) (by omega) s2 h2
    obtain ⟨hp2, g2, d2, tk2, os2⟩ := s2
    wp_walk
    rw [nxt]
    exact ⟨plainId_quiet plain_contains_loop _, codeAny_builtin entry_contains_loop (by
      rw [Around.under_plainId plain_contains_loop _]
      exact rec_)⟩
theorem notInList {prog : Program} {w : World} {A : Around} {E : Value → Shared → Prop} {s : Shared} {Q : Value → Shared → Prop} (l : Addr) (x : Value) (N : Nat) (J : Nat → Shared → Prop) (tn : NoneIs prog w A E l x N J)
    (fin : ∀ s, J N s → Q (.bool false) s) (h : J 0 s) : wpAny (model prog w) A (compareOp .In x (.ref l)) Q E s := by
  obtain ⟨items, n, dd, sl, hl, hs, _⟩ := tn _ _ h
  have ty : s.TypeIs (.ref l) "list" := ⟨_, hl, rfl⟩
  show wpAny _ A (do return .bool (← contains (.ref l) x)) Q E s
  refine wpAny_bind (wpAny_contains_slot ty F.slot_list_contains (wpAny_mono (Q := fun v s' => ∃ b, v = .bool b ∧ Q (.bool b) s') (GQ.call_here F.slot_list_contains ty F.entry_list_contains (F.args_list_contains_2 _ _) ?_) (fun v s' hv => ?_) fun _ _ e => e))
  · have rec_ := notInLoop (A := A) (R := wants (fun v s' => ∃ b, v = .bool b ∧ Q (.bool b) s') E) l x N J tn (fun s' q => ⟨false, rfl, fin s' q⟩) _ 0 rfl (Nat.zero_le _) s h
    obtain ⟨hp, g, d, tk, os⟩ := s
    wp_walk
    exact ⟨plainId_quiet plain_contains_loop _, codeAny_builtin entry_contains_loop (by
      rw [Around.under_plainId plain_contains_loop _]
      exact rec_)⟩
  · obtain ⟨b, rfl, hq⟩ := hv
    exact wpAny_truthy_bool (wpAny_pure hq)
end PySem
namespace Fw
open PySem L2 PySem.Spec PyProof.Rows
section
variable {Y : Cy} {w w1 w2 : Wd} {σ : L2.St} {H H1 H2 : Hp} {env : Env} {ms ms1 ms2 : Ms} {k : Nat} {o e : Expr} {mo me : Env → Ms → R S} {pos p2 : Pos}
def inTys : List String := ["NoneType", "bool", "int", "str", "tuple", "list"]
/-- own __eq__, asked from behind by data -/
structure InOk (Y : Cy) (k : Nat) (c : Nat) (g : List S → Ms → R S) : Prop where
  sp : SpOk Y k "__eq__" 1 c g
  no : ∀ T ∈ inTys, PySem.W.mroIn Y.X.K (Y.Γ.cls c) (.type T) = some false
def plainT (d : D) : Option String := match d with
  | .non => some "NoneType"
  | .bl _ => some "bool"
  | .int _ => some "int"
  | .str _ => some "str"
  | .tup _ => some "tuple"
  | .lst _ => some "list"
  | .frz _ => some "list"
  | _ => none
theorem plainT_in {d : D} {T : String} (h : plainT d = some T) : T ∈ inTys := by
  cases d <;> cases h <;> decide
theorem decl_of {pins : List (Addr × Obj)} {st : Shared} {d : D} {v : V} {u : Value} {T : String} {C : Addr} (h : plainT d = some T) (hr : HR Y w H ms) (sv : DR Y.X.K Y.Γ w.F d v) (I : Inv Y.X pins σ H st) (ru : RelV v u) : Decl Y.X.K C st u T := by
  cases d with
  | non => cases h; cases sv; cases ru; exact .non
  | bl b => cases h; cases sv; cases ru; exact .bl b
  | int i => cases h; cases sv; obtain ⟨t, rfl⟩ := ru; exact .int i t
  | str z => cases h; cases sv; obtain ⟨t, rfl⟩ := ru; exact .str z t
  | tup ds =>
    cases h
    obtain ⟨a, xs, rfl, e1, e2⟩ := sv
    cases ru
    obtain ⟨its, _, p, _⟩ := I.tuple (sqT_mono e1 hr.sub)
    exact .tup a p.typeIs
  | lst ds =>
    cases h
    obtain ⟨a, xs, rfl, e1, e2⟩ := sv
    cases ru
    obtain ⟨its, _, p, _⟩ := I.list (SqL.of (hr.sub _ _ e1))
    exact .lst a p.isList.typeIs
  | frz ds =>
    cases h
    obtain ⟨a, xs, rfl, e1, e2⟩ := sv
    cases ru
    obtain ⟨its, _, p, _⟩ := I.list (sqL_mono e1 hr.sub)
    exact .lst a p.isList.typeIs
  | _ => cases h
theorem decl_ne {K : PySem.W.Frag} {C C' x dx : Addr} {s : Shared} {u : Value} {T : String} (d : Decl K C s u T) (hx : s.heap.get? x = some (PySem.W.instObj C' dx)) : u ≠ .ref x := by
  intro z
  have ty := d.typed
  subst z
  obtain ⟨ob, h1, h2⟩ := ty
  rw [hx] at h1
  cases h1
  cases h2
def inO (g : List S → Ms → R S) (x : S) : List D → Ms → R S
  | [], ms => .ok (.d (.bl false)) ms
  | d :: ds, ms => match asBl (g [x, .d d] ms) with
    | .ok (.d (.bl false)) ms1 => inO g x ds ms1
    | _ => .bad
def gInO (tab : MTab) : S → S → Ms → R S := fun x y ms => match x, y with
  | .d (.obj c cs), .d (.lst ds) => match tab.lookup c, ds.all (fun d => (plainT d).isSome) with
    | some g, true => inO g (.d (.obj c cs)) ds ms
    | _, _ => .bad
  | _, _ => .bad
theorem inO_ne {g : List S → Ms → R S} {x : S} : ∀ {ds : List D} {ms : Ms} {c : Nat} {es : List D} {ms' : Ms}, inO g x ds ms ≠ .ex c es ms'
  | [], _, _, _, _ => fun h => by cases h
  | d :: ds, ms, _, _, _ => fun h => by
    unfold inO at h
    split at h
    · exact inO_ne h
    · cases h
theorem gInO_ne {tab : MTab} : ∀ x y ms c ds ms', gInO tab x y ms ≠ .ex c ds ms' := by
  intro x y ms c ds ms' h
  unfold gInO at h
  split at h
  · split at h
    · exact inO_ne h
    · cases h
  · cases h
def rInO (Y : Cy) (k : Nat) : R2 := fun x y H Q => ∃ a c dx fs cs w ms g l xs ds, x = .ref a ∧ H a = some (.ins (Y.Γ.cls c) dx fs) ∧ InOk Y k c g ∧ HR Y w H ms ∧ SR Y w (.d (.obj c cs)) (.ref a) ∧ y = .ref l ∧ w.F l = some (.lst xs) ∧ w.F a = some (.ins (Y.Γ.cls c) dx fs) ∧
  DRs Y.X.K Y.Γ w.F ds xs ∧ ds.all (fun d => (plainT d).isSome) = true ∧ (inO g (.d (.obj c cs)) ds ms).post (okP Y w Q) (fun _ _ _ => False)
theorem snd_inO {tab : MTab} (ht : Tab (InOk Y k) tab) : SndR2 Y (rInO Y k) (gInO tab) := by
  intro w H ms x y u v Q hr sx sy h
  unfold gInO at h
  split at h
  · rename_i c cs ds
    split at h
    · rename_i g hl ha
      have s0 := sx
      obtain ⟨a, dx, xs, rfl, k1, k2, k3⟩ := sx
      obtain ⟨l, ys, rfl, k4, k5⟩ := sy
      refine ⟨a, c, dx, _, cs, w, ms, g, l, ys, ds, rfl, hr.sub _ _ k1, ht.at_ hl, hr, s0, rfl, k4, k1, k5, ha, ?_⟩
      exact R.post_mono h (fun _ _ z => z) fun c' es ms' z => (by
        cases z)
    · exact h.elim
  · exact h.elim
theorem op_inO (ok : CyOk Y k) : OpR Y.X (compareOp .In) (rInO Y k) := by
  intro pins s σ H x y v u Q I rx ry h
  obtain ⟨a, c, dx, fs, cs, w, ms, g, l, xs, ds, rfl, ea, io, hr, sr, rfl, el, ef, rds, ha, q⟩ := h
  obtain rfl : v = Value.ref a := rx
  obtain rfl : u = Value.ref l := ry
  obtain ⟨f, fd, ps, sem, pk, dvs, cs', j, e1, e2, F, hj, hb, hcs, rfl⟩ := io.sp.ex
  let J : Nat → Shared → Prop := fun i s' => i ≤ ds.length ∧ ∃ (w' : Wd) (H' : Hp) (ms' : Ms), Ext w w' ∧ Inv Y.X pins σ H' s' ∧ HR Y w' H' ms' ∧ (inO (bndS sem pk cs') (.d (.obj c cs)) (ds.drop i) ms').post (okP Y w' Q) (fun _ _ _ => False)
  have len : ds.length = xs.length := DRs.length rds
  refine notInList l (.ref a) ds.length J ?_ ?_ ⟨Nat.zero_le _, w, H, ms, Ext.refl w, I, hr, q⟩
  · rintro i s' ⟨hi, w', H', ms', ew, I', hr', q'⟩
    have el' := ew.F _ _ el
    obtain ⟨z, its, n, rv, hl, e⟩ := I'.lstM (hr'.sub _ _ el')
    have lv := rv.length
    refine ⟨its.toArray, n, none, #[], e, by rw [List.size_toArray, len, lv], fun h1 => ?_⟩
    have hlt : i < ds.length := by rw [len, lv]; simpa using h1
    have hd : ds[i]? = some ds[i] := List.getElem?_eq_getElem hlt
    obtain ⟨vi, hvi, ri⟩ := DRs.get rds hd
    have ri' := DR.mono ew.F _ _ ri
    obtain ⟨ui, hui, rui⟩ := rv.get hvi
    have eu : its.toArray[i] = ui := by
      have := List.getElem?_eq_some_iff.mp hui
      obtain ⟨_, z⟩ := this
      simpa using z
    rw [eu]
    obtain ⟨T, hT⟩ : ∃ T, plainT ds[i] = some T := Option.isSome_iff_exists.mp (List.all_eq_true.mp ha _ (List.getElem_mem hlt))
    have dc := decl_of (C := Y.Γ.cls c) hT hr' ri' I' rui
    obtain ⟨mA, O, _, _, _, _⟩ := ins_get I'.hok (hr'.sub _ _ (ew.F _ _ ef))
    obtain ⟨od, Jn, _⟩ := O.look
    rw [List.drop_eq_getElem_cons hlt] at q'
    unfold inO at q'
    split at q'
    · rename_i ms1 hb1
      have post : (asBl (bndS sem pk cs' [.d (.obj c cs), .d ds[i]] ms')).post (okP Y w' fun v H2 => v = .bl false ∧ ∃ w2, Ext w' w2 ∧ HR Y w2 H2 ms1) (fun _ _ _ => False) := by
        rw [hb1]
        intro w2 H2 v2 e2 hr2 sv2
        exact ⟨sv2, w2, e2, hr2⟩
      refine eqBack (by have := ok.hr.units; show Y.X.A.units + 1 < cLine; omega) I'.kIn Jn dc (decl_ne dc Jn.at_) (io.no T (plainT_in hT)) e1 e2 ?_
      refine wpAny_mono (sp_run (A := Y.X.A.in1) (Q := fun v H' => ∃ y, v = .bl y ∧ (v = .bl false ∧ ∃ w2, Ext w' w2 ∧ HR Y w2 H' ms1)) ((ok.hr.mono (show j + 1 ≤ k by omega)).in1) ok.gd F hb hcs I' I'.env0.in1 rfl (show Vals [V.ref a, vi] [Value.ref a, ui] from .cons rfl (.cons rui .nil)) hr' (.cons (sr.mono ew) (.cons (show SR Y w' (.d ds[i]) vi from ri') .nil)) (asBl_post post)) (fun v2 s2 hv => ?_) fun _ _ z => z
      obtain ⟨v', H2, I2, rv2, y, ey, ey2, w2, e2', hr2⟩ := hv
      subst ey
      cases ey2
      cases rv2
      exact ⟨false, rfl, rfl, hlt, w2, H2, ms1, ew.trans e2', I2, hr2, R.post_mono q' (fun _ _ z => okP.ext e2' z) fun _ _ _ z => z⟩
    · exact q'.elim
  · rintro s' ⟨_, w', H', ms', ew, I', hr', q'⟩
    rw [List.drop_length] at q'
    exact ⟨.bl false, H', I', rfl, q' w' H' _ (Ext.refl w') hr' rfl⟩
theorem o_inO {tab : MTab} (ok : CyOk Y k) (ht : Tab (InOk Y k) tab) : OpD Y (compareOp .In) (gInO tab) := ⟨⟨_, op_inO ok, snd_inO ht⟩, gInO_ne⟩
def bInF (C : Addr) (K : PySem.W.Frag) : Bool := inTys.all fun T => PySem.W.mroIn K C (.type T) == some false
theorem inF_ok {K : PySem.W.Frag} {C : Addr} (h : bInF C K = true) : ∀ T ∈ inTys, PySem.W.mroIn K C (.type T) = some false := fun T hT => eq_of_beq (List.all_eq_true.mp h T hT)
end
end Fw
set_option Elab.async false
set_option linter.all false
set_option maxRecDepth 100000
set_option maxHeartbeats 1000000
/-! Fw37: the Hook again, the objects found level by level, each once (the seen ones as a number's bits). -/
namespace Fw
open PySem L2 PySem.Spec PyProof.Rows
def seenB (m a : Nat) : Bool := Nat.beq (Nat.land (Nat.shiftRight m a) 1) 1
def addB : List Addr → Nat → List Addr → Nat × List Addr
  | [], m, l => (m, l)
  | a :: r, m, l => match seenB m a with
    | true => addB r m l
    | false => addB r (Nat.lor m (Nat.shiftLeft 1 a)) (a :: l)
def lvlB (g : Addr → Option Obj) : List Addr → Nat → List Addr → Nat × List Addr
  | [], m, l => (m, l)
  | a :: r, m, l => match g a with
    | none => lvlB g r m l
    | some o => match addB (He.refsD o) m l with
      | (m', l') => lvlB g r m' l'
def reachB (g : Addr → Option Obj) : Nat → List Addr → Nat → List Addr
  | 0, fr, _ => fr
  | n + 1, fr, m => match lvlB g fr m [] with
    | (m', l') => fr ++ reachB g n l' m'
def obsYG (n : Nat) (fa : List (PySem.W.Frag → Bool)) (fn : List DefX) (g : Addr → Option Obj) : AlX := obsX fa fn (He.frG g (reachB g n [mainGlobals, PySem.cStatics] 0))
def hookY (n : Nat) (fa : List (PySem.W.Frag → Bool)) (fn : List DefX) : PySem.W.Hook where
  α := AlX
  obs := fun s => obsYG n fa fn s.heap.get?
  val := fun _ => valX fn
  says := fun _ h => ∃ K : PySem.W.Frag, K.In h ∧ SaysX fa fn K
  of := fun _ _ e => ⟨_, He.frG_in, e⟩
  keeps := fun _ _ _ ⟨K, hK, c⟩ k => ⟨K, PySem.W.Frag.In.keeps hK k, c⟩
theorem obsYG_eq {n : Nat} {fa : List (PySem.W.Frag → Bool)} {fn : List DefX} {g : Addr → Option Obj} {s : Shared} (h : ∀ a, g a = s.heap.get? a) : obsYG n fa fn g = (hookY n fa fn).obs s := by
  have e : g = s.heap.get? := funext h
  rw [e] <;> rfl
end Fw
set_option Elab.async false
set_option linter.all false
set_option maxRecDepth 100000
set_option maxHeartbeats 1000000
/-! Fw38: len of own instances. -/
namespace Fw
open PySem L2 PySem.Spec PyProof.Rows
section
variable {Y : Cy} {w w1 w2 : Wd} {σ : L2.St} {H H1 H2 : Hp} {ms ms1 ms2 : Ms} {k : Nat}
/-- the answer is a length -/
noncomputable def asLen (r : R S) : R S := match r with
  | .ok (.d (.int y)) ms => match dec (0 ≤ y ∧ y < 2 ^ 62) with
    | true => .ok (.d (.int y)) ms
    | false => .bad
  | _ => .bad
noncomputable def cOwnL (tab : MTab) : List S → Ms → R S := fun ss ms => match ss with
  | [.d (.obj c ds)] => match tab.lookup c with
    | some g => asLen (g [.d (.obj c ds)] ms)
    | none => .bad
  | _ => .bad
theorem asLen_ne {r : R S} : ∀ c ds ms', asLen r ≠ .ex c ds ms' := by
  intro c ds ms' h
  unfold asLen at h
  split at h
  · split at h <;> cases h
  · cases h
theorem cOwnL_ne {tab : MTab} : ∀ ss ms c ds ms', cOwnL tab ss ms ≠ .ex c ds ms' := by
  intro ss ms c ds ms' h
  unfold cOwnL at h
  split at h
  · split at h
    · exact asLen_ne _ _ _ h
    · cases h
  · cases h
theorem asLen_post {r : R S} {Q : VK} (h : (asLen r).post (okP Y w Q) (fun _ _ _ => False)) : (noEx r).post (okP Y w fun v H' => ∃ y : Int, v = .int y ∧ (0 ≤ y ∧ y < 2 ^ 62) ∧ Q v H') (fun _ _ _ => False) := by
  unfold asLen at h
  split at h
  · rename_i y ms'
    split at h
    · rename_i hd
      intro w' H' v e' hr' sv
      exact ⟨y, sv, dec_of hd, h w' H' v e' hr' sv⟩
    · exact h.elim
  · exact h.elim
def rOwnL (Y : Cy) (k : Nat) : List V → Hp → VK → Prop := fun xs H Q => ∃ a c dx fs ds w ms g, xs = [.ref a] ∧ H a = some (.ins (Y.Γ.cls c) dx fs) ∧ SpOk Y k "__len__" 0 c g ∧ HR Y w H ms ∧ SR Y w (.d (.obj c ds)) (.ref a) ∧ (asLen (g [.d (.obj c ds)] ms)).post (okP Y w Q) (fun _ _ _ => False)
theorem snd_ownL {tab : MTab} (ht : Tab (SpOk Y k "__len__" 0) tab) : SndC Y (rOwnL Y k) (cOwnL tab) := by
  intro w H ms ss vs Q hr sv h
  unfold cOwnL at h
  split at h
  · rename_i c ds
    obtain ⟨v, rfl, r⟩ := SRs.one sv
    split at h
    · rename_i g hl
      have r0 := r
      obtain ⟨a, dx, xs, rfl, k1, k2, k3⟩ := r
      exact ⟨a, c, dx, _, ds, w, ms, g, rfl, hr.sub _ _ k1, ht.at_ hl, hr, r0, h⟩
    · exact h.elim
  · exact h.elim
theorem cd_lenOwn {tab : MTab} (ok : CyOk Y k) (ht : Tab (SpOk Y k "__len__" 0) tab) : CallD Y (.builtin "len") (cOwnL tab) := by
  refine ⟨⟨rOwnL Y k, fun pins s σ H xs us Q I r h => ?_, snd_ownL ht⟩, cOwnL_ne⟩
  obtain ⟨a, c, dx, fs, ds, w, ms, g, rfl, ea, sp, hr, sr, q⟩ := h
  obtain ⟨u, rfl, ru⟩ := vals1 r
  obtain rfl : u = Value.ref a := ru
  obtain ⟨f, fd, ps, sem, pk, dvs, cs, j, e1, e2, F, hj, hb, hcs, rfl⟩ := sp.ex
  obtain ⟨mA, O, _, _, _, _⟩ := ins_get I.hok ea
  obtain ⟨od, J, _⟩ := O.look
  have hk : Room (j + 1 + 1 + 1) Y.X.A := ok.hr.mono hj
  obtain ⟨m, Fr0⟩ := frame_of I
  refine PySem.W.len_K Fr0 I.mod.kin J e1 e2 (wpAny_mono (sp_run (A := Y.X.A.in1) (Q := fun v H' => ∃ y : Int, v = .int y ∧ (0 ≤ y ∧ y < 2 ^ 62) ∧ Q v H') (hk.in1.mono (Nat.le_trans (Nat.le_succ j) (Nat.le_succ _))) ok.gd F hb hcs I I.env0.in1 rfl r hr (.cons sr .nil) (asLen_post q)) (fun v s' hv => ?_) fun _ _ z => z)
  obtain ⟨v', H', I', rv, y, ey, hy, q'⟩ := hv
  subst ey
  obtain ⟨t, rfl⟩ := rv
  exact ⟨⟨hy.1, by omega⟩, .int y, H', I'.tok _, ⟨_, rfl⟩, q'⟩
/-! lists, of cells too, put together -/
def gAddV : S → S → Ms → R S := fun x y ms => match view x ms, view y ms with
  | some (.lst a), some (.lst b) => match few (a.length + b.length) with
    | true => .ok (.d (.lst (a ++ b))) ms
    | false => .bad
  | _, _ => .bad
theorem o_addV : OpD Y (binaryOp .Add) gAddV := by
  refine ⟨⟨_, op_cat, fun w H ms x y u v Q hr sx sy h => ?_⟩, fun x y ms c ds ms' h => ?_⟩
  · unfold gAddV at h
    split at h
    · rename_i a b hx hy
      cases f : few (a.length + b.length) with
      | false => rw [f] at h; exact h.elim
      | true =>
        rw [f] at h
        obtain ⟨p, xs, rfl, e1, r1⟩ := view_list hx hr sx
        obtain ⟨q, ys, rfl, e2, r2⟩ := view_list hy hr sy
        refine ⟨p, q, xs, ys, rfl, rfl, e1, e2, by rw [← DRs.length r1, ← DRs.length r2]; exact few_ok f, fun l hl => ?_⟩
        obtain ⟨hr2, e⟩ := hr.froz (o := .lst (xs ++ ys)) hl
        exact h.at e hr2 ⟨l, _, rfl, upd_same, DRs.mono e.1 _ _ (DRs.append r1 r2)⟩
    · exact h.elim
  · unfold gAddV at h
    split at h
    · split at h <;> cases h
    · cases h
def gAddA := gOr gAdd gAddV
theorem o_addA : OpD Y (binaryOp .Add) gAddA := o_add.or o_addV
end
end Fw
set_option Elab.async false
set_option linter.all false
set_option maxRecDepth 100000
set_option maxHeartbeats 1000000
/-! Fw39: stars in displays, defs with a star parameter, lists unpacked, a list's index. -/
namespace Fw
open PySem L2 PySem.Spec PyProof.Rows
section
variable {Y : Cy} {w w1 w2 : Wd} {σ : L2.St} {H H1 H2 : Hp} {env : Env} {ms ms1 ms2 : Ms} {k : Nat} {e : Expr} {es : List Expr} {me : Env → Ms → R S} {m : Env → Ms → R (List S)} {p pos : Pos}
/-- a tuple's or a list's items -/
def itemsOf (s : S) (ms : Ms) : Option (List D) := match view s ms with
  | some (.lst ds) => some ds
  | some (.tup ds) => some ds
  | _ => none
theorem itemsOf_or {s : S} {ds : List D} (h : itemsOf s ms = some ds) : view s ms = some (.lst ds) ∨ view s ms = some (.tup ds) := by
  unfold itemsOf at h
  split at h
  · rename_i l e; cases h; exact .inl e
  · rename_i l e; cases h; exact .inr e
  · cases h
/-- *e, .. -/
def aStar (me : Env → Ms → R S) (m : Env → Ms → R (List S)) : Env → Ms → R (List S) := fun env ms => (me env ms).bind fun y ms1 => match itemsOf y ms1 with
  | some ds => (m env ms1).bind fun ss ms2 => .ok (ds.map S.d ++ ss) ms2
  | none => .bad
theorem a_star (h1 : DE Y e me) (h2 : DA Y es m) (hs : starEach (.Starred e p :: es) Y.X.env = (true, eval e Y.X.env) :: starEach es Y.X.env := by rfl) : DA Y (.Starred e p :: es) (aStar me m) := by
  obtain ⟨te, pe, se⟩ := h1.ex
  obtain ⟨ta, pa, sa⟩ := h2.ex
  refine ⟨_, StX.pa_star pe pa hs, fun w σ H env ms Q er hr h => ?_⟩
  refine se.go er hr h fun y ms1 w1 H1 v e1 er1 hr1 sv g1 => ?_
  cases hi : itemsOf y ms1 with
  | none => rw [hi] at g1; exact g1.elim
  | some ds =>
    rw [hi] at g1
    obtain ⟨a, xs, rfl, sq, r⟩ := seq_inv (itemsOf_or hi) hr1 sv
    refine ⟨a, xs, rfl, sq.symm, ?_⟩
    refine sa.go er1 hr1 g1 fun zs ms2 w2 H2 us e2 er2 hr2 svs g2 => ?_
    exact g2 w2 H2 (xs ++ us) (e1.trans e2) hr2 ((SRs_of_DRs (DRs.mono e2.F _ _ r)).append svs)

/-! ### unpacking a list -/
def gUnL (n : Nat) (gs : List S → Env → Ms → Option Env) : S → Env → Ms → Option Env := fun s env ms => match view s ms with
  | some (.lst ds) => match Nat.beq ds.length n with
    | true => gs (ds.map S.d) env ms
    | false => none
  | _ => none
theorem g_lst {n j : Nat} {gs : List S → Env → Ms → Option Env} (hc : Y.X.calm = true) (h : DGs Y es gs)
    (hn : (assignEach es Y.X.env).length = n := by rfl) (hst : (assignEach es Y.X.env).findIdx? (·.1) = none := by rfl) : DG Y (.Tuple es j pos) (gUnL n gs) := by
  obtain ⟨t, pt, st⟩ := h.ex
  refine ⟨_, pg_lst hc pt hn hst, fun w σ H env ms x v Q env' er hr sv he hq => ?_⟩
  unfold gUnL at he
  split at he
  · rename_i ds hv
    split at he
    · rename_i hl
      obtain ⟨a, xs, rfl, e1, r1⟩ := view_list hv hr sv
      refine ⟨a, xs, rfl, SqL.of e1, by rw [← DRs.length r1]; exact Nat.eq_of_beq_eq_true hl, ?_⟩
      exact st w σ H env ms _ xs Q env' er hr (SRs_of_DRs r1) he hq
    · cases he
  · cases he

/-! ### a list's index of a text -/
def idxS (z : Str) : List Str → Option Nat
  | [] => none
  | y :: l => if y = z then some 0 else (idxS z l).map (· + 1)
theorem idxS_ok {z : Str} : ∀ {l : List Str} {j : Nat}, idxS z l = some j → l[j]? = some z ∧ ∀ i, i < j → ∀ y, l[i]? = some y → y ≠ z
  | [], j, h => by cases h
  | y :: l, j, h => by
    unfold idxS at h
    split at h
    · rename_i q
      cases h
      exact ⟨by rw [q]; rfl, fun i hi => absurd hi (Nat.not_lt_zero i)⟩
    · rename_i q
      obtain ⟨i, h1, rfl⟩ := Option.map_eq_some_iff.mp h
      obtain ⟨g1, g2⟩ := idxS_ok h1
      refine ⟨g1, fun i hi u hu => ?_⟩
      cases i with
      | zero => cases hu; exact q
      | succ i => exact g2 i (Nat.lt_of_succ_lt_succ hi) u hu
def gIndex : S → List S → Ms → R S := fun x xs ms => match view x ms, xs with
  | some (.lst ds), [.d (.str z)] => match ofStrs ds with
    | some l => match idxS z l with
      | some j => .ok (.d (.int (j : Nat))) ms
      | none => .bad
    | none => .bad
  | _, _ => .bad
theorem eqV_strs {a b : Str} (h : a ≠ b) : eqV (.str a) (.str b) = false := by
  show (a == b) = false
  exact beq_false_of_ne h
theorem md_index : MtD Y "list.index" gIndex := by
  refine ⟨⟨_, mt_index, fun w H ms x xs u vs Q hr sx sv h => ?_⟩, fun x xs ms c ds ms' h => ?_⟩
  · unfold gIndex at h
    split at h
    · rename_i ds z hv
      split at h
      · rename_i l hl
        split at h
        · rename_i j hj
          obtain ⟨a, zs, rfl, q, r⟩ := view_list hv hr sx
          obtain ⟨v, rfl, rv⟩ := SRs.one sv
          cases rv
          have e := ofStrs_rel hl r
          obtain ⟨g1, g2⟩ := idxS_ok hj
          refine ⟨a, zs, .str z, j, .str z, rfl, rfl, SqL.of q, rfl, ?_, ?_, ?_, ?_, h.at (Ext.refl w) hr rfl⟩
          · rw [e]; exact flat_strs l
          · rw [e, List.getElem?_map, g1]; rfl
          · show (z == z) = true
            simp
          · intro i y hi hy
            rw [e, List.getElem?_map] at hy
            obtain ⟨t, ht, rfl⟩ := Option.map_eq_some_iff.mp hy
            exact eqV_strs (g2 i hi t ht)
        · exact h.elim
      · exact h.elim
    · exact h.elim
  · unfold gIndex at h
    split at h
    · split at h
      · split at h <;> cases h
      · cases h
    · cases h
end
end Fw
set_option Elab.async false
set_option linter.all false
set_option maxRecDepth 100000
set_option maxHeartbeats 1000000
/-! Fw40: defs with a star parameter. -/
namespace Fw
open PySem L2 PySem.Spec PyProof.Rows
/-- the np first arguments; the others in a tuple -/
def starS (np : Nat) (sem : List S → Ms → R S) (ss : List S) (ms : Ms) : R S := match toDs (ss.drop np) with
  | some ds => sem (ss.take np ++ [.d (.tup ds)]) ms
  | none => .bad
/-- the promise of such a def, called by position -/
structure DFS (P : Program) (w : World) (K : PySem.W.Frag) (mg : Str → Option Value) (base : Heap) (Γ : G) (k : Nat) (f : Addr) (np : Nat) (sem : List S → Ms → R S) : Prop where
  run : ∀ (A : Around) (outer : List PySem.Env) (s : Shared) (H : Hp) (us : List Value) (vs : List V) (ss : List S) (ms : Ms) (wd : Wd) (Q : VK) (E : XK), Room k A → A.guards = some [] → Env0 P w K mg base A outer s H →
    Vals vs us → np ≤ vs.length → vs.length ≤ 1000000 → HR0 K Γ wd H ms → SRs0 K Γ wd ss vs → (starS np sem ss ms).post (okF K Γ wd Q) (exF K Γ wd E) →
    codeAny (model P w) A (.call (.ref f) ⟨us, []⟩) (L2.CR (CX P w) outer P w H s Q E) s
theorem toDs_rel0 {K : PySem.W.Frag} {Γ : G} {w : Wd} : ∀ {ss : List S} {ds : List D} {vs : List V}, toDs ss = some ds → SRs0 K Γ w ss vs → DRs K Γ w.F ds vs
  | [], ds, vs, h, r => by cases r; cases h; rfl
  | .d x :: r, ds, vs, h, rr => by
    cases rr with
    | cons q t =>
      obtain ⟨l, h1, rfl⟩ := Option.map_eq_some_iff.mp h
      exact ⟨_, _, rfl, q, toDs_rel0 h1 t⟩
  | .loc _ :: _, _, _, h, _ => by cases h
  | .exn _ _ :: _, _, _, h, _ => by cases h
theorem pair_split {α β : Type} {R : α → β → Prop} {xs : List α} {ys : List β} (n : Nat) (h : Paired R xs ys) : Paired R (xs.take n) (ys.take n) ∧ Paired R (xs.drop n) (ys.drop n) := by
  induction h generalizing n with
  | nil => rw [List.take_nil, List.take_nil, List.drop_nil, List.drop_nil]; exact ⟨.nil, .nil⟩
  | cons q t ih =>
    cases n with
    | zero => exact ⟨.nil, .cons q t⟩
    | succ n => exact ⟨.cons q (ih n).1, (ih n).2⟩
theorem app_one {K : PySem.W.Frag} {Γ : G} {w : Wd} {a : S} {v : V} : ∀ {ss : List S} {vs : List V}, SRs0 K Γ w ss vs → SR0 K Γ w a v → SRs0 K Γ w (ss ++ [a]) (vs ++ [v])
  | _, _, .nil, h => .cons h .nil
  | _, _, .cons q t, h => .cons q (app_one t h)
section
variable {P : Program} {w : World} {K : PySem.W.Frag} {mg : Str → Option Value} {base : Heap} {Γ : G} {x qual : Str} {params : Arguments} {body : List Stmt} {scope : Scope} {f : Addr} {fd : FuncData} {N ps : List Str} {pv : Str} {k : Nat}
/-- what is left over is laid as a tuple ahead of the body -/
theorem star_bnd {fd : FuncData} {A : Around} {outer : List PySem.Env} {s : Shared} {H : Hp} {E : XK} {us : List Value} {vs : List V} (e0 : Env0 P w K mg base A outer s H) (rv : Vals vs us) (hn : ps.length ≤ vs.length) (hz : vs.length ≤ 1000000)
    (hb : ∀ us rest : List Value, us.length = ps.length → bindArgs fd ⟨us ++ rest, []⟩ = (newTuple rest >>= fun t => pure (ps.zip us ++ [(pv, t)]))) :
    StX.Bnd (CX P w) P w K mg base fd ⟨us, []⟩ (ps ++ [pv]) A outer s H E (fun xs H2 => ∃ q, H q = none ∧ xs = vs.take ps.length ++ [V.ref q] ∧ H2 = upd H q (.tup (vs.drop ps.length))) := by
  intro A' Ex Q' h
  obtain ⟨r1, r2⟩ : Vals (vs.take ps.length) (us.take ps.length) ∧ Vals (vs.drop ps.length) (us.drop ps.length) := pair_split ps.length rv
  have free : H s.heap.objs.size = Option.none := e0.hok.fresh (Nat.le_refl _)
  have lu : (us.take ps.length).length = ps.length := by rw [List.length_take, ← rv.length]; omega
  have big : (us.drop ps.length).length ≤ sizeLine := by rw [List.length_drop, ← rv.length, sizeLine_eq]; omega
  have eu : us = us.take ps.length ++ us.drop ps.length := (List.take_append_drop _ _).symm
  rw [eu, hb _ _ lu]
  refine wpAny_bind (wpAny_newTuple (wpAny_pure ?_) big)
  have laid : ObjOk P w (upd H s.heap.objs.size (.tup (vs.drop ps.length))) (s.heap.push { cls := .type "tuple", data := .seq (us.drop ps.length).toArray }) s.heap.objs.size (.tup (vs.drop ps.length)) :=
    ⟨by rw [List.length_drop, sizeLine_eq]; omega, us.drop ps.length, r2, ⟨_, Heap.get?_push_size _ rfl, rfl, _, rfl⟩⟩
  have un := StX.un_laid (fs := frs outer) (s := s) (o := { cls := .type "tuple", data := .seq (us.drop ps.length).toArray }) (u := .tup (vs.drop ps.length)) free
  have lv : (vs.take ps.length).length = ps.length := by rw [List.length_take]; omega
  have fin := h { s with heap := s.heap.push { cls := .type "tuple", data := .seq (us.drop ps.length).toArray } } _ (vs.take ps.length ++ [V.ref s.heap.objs.size]) (us.take ps.length ++ [Value.ref s.heap.objs.size]) (StX.env0_laid e0 laid) un rfl
    (fun e s' => StX.cxUp outer s H _ _ E e s' un (fun b o q => Heap.get?_push_of_some _ q) rfl) (r1.append (.cons rfl .nil)) (by rw [List.length_append, List.length_append, lv]; rfl) ⟨_, free, rfl, rfl⟩
  rw [List.zip_append lu.symm] at fin
  exact fin
/-- a body's end, told of its start -/
theorem body_q {Y : Cy} {k n : Nat} {N : List Str} {t : TS} {m : Env → Ms → T} {wd : Wd} {H : Hp} {vs : List V} {ss : List S} {ms : Ms} {Q : VK} {E : XK} (ok : CyOk Y k) (hW : Y.W = fun cls d _ H => E cls d H) (hn : N.length = n) (st : SndS Y t m)
    (hh : HR Y wd H ms) (hs : SRs0 Y.X.K Y.Γ wd ss vs) (hp : (fnSem n m ss ms).post (okF Y.X.K Y.Γ wd Q) (exF Y.X.K Y.Γ wd E)) : t { nx := fun _ H' => Q .non H', rt := Q } (L2.start N vs) H := by
  have er : ER Y wd (L2.start N vs) (start0 n ss) := start_rel hs hn
  refine st wd _ H _ ms _ er hh ?_
  unfold fnSem at hp
  cases hm : m (start0 n ss) ms with
  | nx e ms' => rw [hm] at hp; exact fun w' H' σ' e' hr' er' => hp w' H' .non e' hr' rfl
  | rt s' ms' =>
    rw [hm] at hp
    intro w' H' v e' hr' sv
    unfold endS at hp
    cases nx : s'.noX with
    | false => simp only [nx] at hp; exact hp.elim
    | true =>
      simp only [nx] at hp
      exact hp w' H' v e' hr' (sv.down nx)
  | bk e ms' => rw [hm] at hp; exact hp.elim
  | ct e ms' => rw [hm] at hp; exact hp.elim
  | ex c ds e ms' => rw [hm] at hp; exact fun w' H' σ' dd e' hr' er' xd => by rw [hW]; exact hp w' H' dd e' hr' xd
  | bad => rw [hm] at hp; exact hp.elim
/-- THE RULE for such a def -/
theorem d_star {n np : Nat} {m : Env → Ms → T} (F : FunD K x qual params body scope [] [] f fd) (Sc : FnScope N (ps ++ [pv]) scope) (hn : N.length = n) (hp : ps.length = np)
    (hbi : ∀ (kV doc pm : Value) (an : Option Addr) (cdv ct : Value) (us rest : List Value), us.length = ps.length → bindArgs (PySem.W.fnOf x qual params body scope .none kV doc pm an cdv ct) ⟨us ++ rest, []⟩ = (newTuple rest >>= fun t => pure (ps.zip us ++ [(pv, t)])))
    (hb : ∀ (cd : Value) (A : Around) (outer : List PySem.Env) (s : Shared) (H : Hp) (E : XK), CyOk (fnCy P w K mg base Γ N qual scope f cd A outer s H E) k → DefOk (fnCy P w K mg base Γ N qual scope f cd A outer s H E) → DSs (fnCy P w K mg base Γ N qual scope f cd A outer s H E) body m) :
    DFS P w K mg base Γ (k + 1) f np (fnSem n m) := by
  subst hp
  obtain ⟨oc, od, dV, kV, doc, pm, an, cd, ct, osl, rfl, lk, hcd, hD, _⟩ := F.ex
  have hd : dV = .none := hD.elim (fun z => z.2) (fun z => absurd rfl z.1)
  subst hd
  refine ⟨fun A outer s H us vs ss ms wd Q E hr hg e0 rv hl hz hh hs hpost => ?_⟩
  refine StX.run_bnd lk hcd Sc hr e0 (star_bnd (pv := pv) e0 rv hl hz (hbi kV doc pm an cd ct)) fun s2 H2 xs ⟨q, hq, ex, eH⟩ hr2 => ?_
  subst ex eH
  have ok : CyOk (fnCy P w K mg base Γ N qual scope f cd A outer s2 (upd H q (.tup (vs.drop ps.length))) E) k :=
    ⟨hr2, hg, takes_of rfl rfl rfl rfl, PassesOwn.leaving, rfl, Sc.nd⟩
  obtain ⟨t, pt, st⟩ := (hb cd A outer s2 _ E ok ⟨rfl, rfl⟩).ex
  refine ⟨t, pt, ?_⟩
  unfold starS at hpost
  cases hds : toDs (ss.drop ps.length) with
  | none => rw [hds] at hpost; exact hpost.elim
  | some ds =>
    rw [hds] at hpost
    obtain ⟨s1, s3⟩ := pair_split ps.length hs
    have rd := toDs_rel0 hds s3
    have hh' : HR (fnCy P w K mg base Γ N qual scope f cd A outer s2 (upd H q (.tup (vs.drop ps.length))) E) wd H ms := hh
    obtain ⟨hh2, ext⟩ := hh'.froz (o := .tup (vs.drop ps.length)) hq
    have sv2 : SRs0 K Γ ⟨upd wd.F q (.tup (vs.drop ps.length)), wd.P, wd.mu⟩ (ss.take ps.length ++ [.d (.tup ds)]) (vs.take ps.length ++ [V.ref q]) := by
      have h1 : SRs0 K Γ ⟨upd wd.F q (.tup (vs.drop ps.length)), wd.P, wd.mu⟩ (ss.take ps.length) (vs.take ps.length) := SRs0.mono ext s1
      have h2 : SR0 K Γ ⟨upd wd.F q (.tup (vs.drop ps.length)), wd.P, wd.mu⟩ (.d (.tup ds)) (V.ref q) := ⟨q, _, rfl, SqT.of upd_same, DRs.mono ext.F _ _ rd⟩
      exact app_one h1 h2
    have hp2 : (fnSem n m (ss.take ps.length ++ [.d (.tup ds)]) ms).post (okF K Γ ⟨upd wd.F q (.tup (vs.drop ps.length)), wd.P, wd.mu⟩ Q) (exF K Γ ⟨upd wd.F q (.tup (vs.drop ps.length)), wd.P, wd.mu⟩ E) :=
      R.post_mono hpost (fun s' ms' z w' H' v e' => z w' H' v (ext.trans e')) fun c' ds' ms' z w' H' dd e' => z w' H' dd (ext.trans e')
    exact body_q ok rfl hn st hh2 sv2 hp2
end
section
variable {Y : Cy} {j k n np : Nat} {f : Addr} {sem : List S → Ms → R S}
abbrev DFSY (Y : Cy) (j : Nat) (f : Addr) (np : Nat) (sem : List S → Ms → R S) : Prop := DFS Y.X.prog Y.X.w Y.X.K Y.X.mg Y.X.base Y.Γ j f np sem
/-- called with n values by position -/
theorem Cal.star (ok : CyOk Y k) (F : DFSY Y j f np sem) (hj : j ≤ k) (hn : np ≤ n) (hz : n ≤ 1000000) : Cal Y f n [] (callSem (starS np sem)) := by
  refine ⟨fun {pins σ H s w Q us ws vs ss ms} I l1 l2 r hr sv h => ?_⟩
  obtain rfl : ws = [] := List.length_eq_zero_iff.mp l2
  rw [List.append_nil] at r
  obtain ⟨wc, mc, sc, hr1, s1, h2⟩ := call_post hr sv h
  have lv : vs.length = n := by rw [r.length, l1]
  refine codeAny_mono (F.run Y.X.A Y.X.stack s H us vs sc mc wc Q _ (ok.hr.mono hj) ok.gd I.env0 r (by omega) (by omega) hr1 s1 h2) fun res s' hq => ?_
  cases res with
  | error er => exact ok.tk er s' (XE.of_call I (fun _ _ _ z => z) hq)
  | ok fl =>
    cases fl with
    | ret u => exact I.after hq
    | next => exact False.elim hq
    | brk => exact False.elim hq
    | cont => exact False.elim hq
end
end Fw
set_option Elab.async false
set_option linter.all false
set_option maxRecDepth 100000
set_option maxHeartbeats 1000000
/-! Fw41: a, *b = a list or a tuple. -/
namespace FwX
open PySem PySem.W PySem.Spec PySem.Calls PyProof.Rows
section
variable {prog : Program} {w : World} {A : Around} {E : Value → Shared → Prop} {s : Shared} {l : Addr} {its : Array Value} {x : Value} {rest : List Value} {Q : List Value → Shared → Prop}
/-- the object of the new list -/
def lstO (rest : List Value) : Obj := { cls := .type "list", data := .seq rest.toArray }
theorem star_end {it : Addr} {h1 : Heap} {T : String} {St : Nat → Heap → Prop} (hk : T = "str_ascii_iterator" ∨ T = "str_iterator" ∨ T = "list_iterator" ∨ T = "tuple_iterator")
    (W : Walks prog w A.in1 it [it, l] [it] its.size (fun i v => its[i]? = some v) St) (hT : ∀ i (u : Shared), St i u.heap → u.TypeIs (.ref it) T) (hst : St 1 h1) (hi : it < h1.objs.size) (hl : l < h1.objs.size) (he : its.toList = x :: rest) (hz : its.size ≤ 16384)
    (fin : ∀ (h' : Heap) (tk : Nat), (∀ b o, b ≠ it → h1.get? b = some o → h'.get? b = some o) → Q [x, .ref h'.objs.size] { s with heap := h'.push (lstO rest), toks := tk }) :
    wpAny (model prog w) A (holding [x] (collect (.ref it)) >>= fun r => (if r.length < 0 then (do rule "unpack.star.too-few"; raiseError "ValueError" s!"not enough values to unpack (expected at least {2 - 1}, got {1 + r.length})") else pure ()) >>= fun _ => newList (r.take r.length) >>= fun d => pure ([x] ++ [d] ++ r.drop r.length)) Q E { s with heap := h1 } := by
  have big : its.size ≤ sizeLine := by rw [sizeLine_eq]; omega
  have one : 1 ≤ its.size := by
    have := congrArg List.length he
    simp at this; omega
  refine wpAny_bind (wpAny_holding (kun_collect (s := { s with heap := h1 }) hk W hT (k := 1) one hst hi hl (fun h2 tk kp => ?_) big))
  have dr : its.toList.drop 1 = rest := by rw [he]; rfl
  rw [dr, if_neg (Nat.not_lt_zero _)]
  refine wpAny_bind (wpAny_pure (wpAny_bind ?_))
  rw [List.take_length]
  refine wpAny_newList ?_ ?_
  · refine wpAny_pure ?_
    rw [List.drop_length]
    exact fin h2 tk kp
  · have := congrArg List.length he
    simp at this
    rw [sizeLine_eq]; omega
theorem star_list (IL : s.heap.IsList l its) (hh : A.handled = none) (he : its.toList = x :: rest) (hz : its.size ≤ 16384)
    (fin : ∀ (h' : Heap) (tk : Nat), Heap.ExtBut s.heap.objs.size s.heap h' → Q [x, .ref h'.objs.size] { s with heap := h'.push (lstO rest), toks := tk }) : wpAny (model prog w) A (unpackItems (.ref l) 2 (some 1)) Q E s := by
  have ne : l ≠ s.heap.objs.size := by obtain ⟨o, ho, _⟩ := IL; exact Nat.ne_of_lt (Heap.lt_size ho)
  have one : 0 + 1 ≤ its.size := by
    have := congrArg List.length he
    simp at this; omega
  unfold unpackItems
  refine wpAny_bind ?_
  unfold notIterableAtAll
  refine wpAny_bind (wpAny_specialOf IL.typeIs slot_list_iter.lookup (wpAny_pure ?_))
  rw [if_neg (by decide)]
  refine wpAny_bind (wpAny_holding (wpAny_pyIter_list IL (wpAny_bind (wpAny_holding (kun_draw ne 1 0 _ _ ⟨_, Heap.get?_push_size _ rfl, rfl, rfl⟩ (IL.push _) one fun h1 it1 sb => ?_)))))
  have tk1 : (its.toList.drop 0).take 1 = [x] := by rw [he]; rfl
  rw [tk1]
  have IL1 : h1.IsList l its := (IL.push _).extBut sb.extBut ne
  obtain ⟨oi, hoi, _⟩ := id it1
  obtain ⟨ol, hol, _⟩ := id IL1
  refine star_end (s := s) (T := "list_iterator") (.inr (.inr (.inl rfl))) (Walks.list (A := A.in1) hh s.heap.objs.size l ne its) (fun j u st => st.1.typeIs) ⟨it1, IL1⟩ (Heap.lt_size hoi) (Heap.lt_size hol) he hz fun h' tk kp => ?_
  exact fin h' tk fun b o hb e => kp b o hb (sb.extBut b o hb (Heap.get?_push_of_some _ e))
theorem star_tuple (IT : IsTup s.heap l its) (hh : A.handled = none) (he : its.toList = x :: rest) (hz : its.size ≤ 16384)
    (fin : ∀ (h' : Heap) (tk : Nat), Heap.ExtBut s.heap.objs.size s.heap h' → Q [x, .ref h'.objs.size] { s with heap := h'.push (lstO rest), toks := tk }) : wpAny (model prog w) A (unpackItems (.ref l) 2 (some 1)) Q E s := by
  have ne : l ≠ s.heap.objs.size := by obtain ⟨o, ho, _⟩ := IT; exact Nat.ne_of_lt (Heap.lt_size ho)
  have one : 0 + 1 ≤ its.size := by
    have := congrArg List.length he
    simp at this; omega
  unfold unpackItems
  refine wpAny_bind ?_
  unfold notIterableAtAll
  refine wpAny_bind (wpAny_specialOf IT.typeIs slot_tuple_iter.lookup (wpAny_pure ?_))
  rw [if_neg (by decide)]
  refine wpAny_bind (wpAny_holding (iter_tuple IT (wpAny_bind (wpAny_holding (draw_tuple ne 1 0 _ _ ⟨_, Heap.get?_push_size _ rfl, rfl, rfl⟩ (IT.push _) one fun h1 it1 sb => ?_)))))
  have tk1 : (its.toList.drop 0).take 1 = [x] := by rw [he]; rfl
  rw [tk1]
  have IT1 : IsTup h1 l its := (IT.push _).extBut sb.extBut ne
  obtain ⟨oi, hoi, _⟩ := id it1
  obtain ⟨ol, hol, _⟩ := id IT1
  refine star_end (s := s) (T := "tuple_iterator") (.inr (.inr (.inr rfl))) (Walks.tuple (A := A.in1) hh s.heap.objs.size l ne its) (fun j u st => st.1.typeIs) ⟨it1, IT1⟩ (Heap.lt_size hoi) (Heap.lt_size hol) he hz fun h' tk kp => ?_
  exact fin h' tk fun b o hb e => kp b o hb (sb.extBut b o hb (Heap.get?_push_of_some _ e))
end
end FwX
set_option Elab.async false
set_option linter.all false
set_option maxRecDepth 100000
set_option maxHeartbeats 1000000
/-! Fw42: != and {..} of own instances. -/
namespace FwX
open PySem PySem.W PySem.Spec PySem.Calls PyProof.Rows
section
variable {prog : Program} {w : World} {A : Around} {E : Value → Shared → Prop} {s : Shared} {K : Frag} {x C L f : Addr} {h₀ : Heap} {m : Str → Option Value} {ox : Obj} {od : Option Obj} {b tb : Value}
theorem bound_builtin {M : Model} {name : Str} {id : String} {as : List Value} {Q : Option Value → Shared → Prop} (X : K.In s.heap) (I : InstAt s.heap x ox C od) (hs : findIn K (.ref C) name = some (some (.builtin id)))
    (hb : ∀ self, bindSpecial (.builtin id) self = pure (.builtin id, [self])) (h : wpAny M A (call (.builtin id) (.ref x :: as)) (fun v => Q (some v)) E s) : wpAny M A (callSpecialIfBound? (.ref x) name as) Q E s := by
  simp only [callSpecialIfBound?, bindSpecialIfBound?]
  have go : wpAny M A (call (.builtin id) ([.ref x] ++ as) >>= fun v => pure (some v)) Q E s := wpAny_bind (wpAny_mono h (fun v s' z => wpAny_pure z) fun _ _ z => z)
  refine wpAny_holding (wpAny_bind (wpAny_bind (wpAny_bind (I.type.here ((looks_findIn X hs).here ?_)))))
  refine wpAny_bind (wpAny_askSetting (wpAny_ite ?_))
  rw [hb]
  split
  · exact wpAny_bind (wpAny_pure (wpAny_pure (by exact go)))
  · exact wpAny_tryCatch (wpAny_bind (wpAny_pure (wpAny_pure (by exact go))))
open Builtin in
theorem ne_body {P : Fin → Shared → Prop} (hu : A.units < cLine) (X : K.In s.heap) (I : InstAt s.heap x ox C od) (hs : findIn K (.ref C) "__eq__" = some (some (.ref f))) (hf : isFn K (.ref f) = true)
    (h : wpAny (model prog w) A (call (.ref f) [.ref x, b]) (fun v s' => ∃ r, v = .bool r ∧ P (.done (.ret (.bool (!r)))) s') E s) : wpAny (model prog w) A (Builtin.«object.__ne__» ⟨[.ref x, b], []⟩) P E s := by
  unfold Builtin.«object.__ne__»
  refine wpAny_bind (m := slotArgs "__ne__" 1 _) (wpAny_pure ?_)
  refine wpAny_bind (m := cRoomFor _ _) (wpAny_cRoomFor hu ?_)
  refine wpAny_bind (m := callSpecialIfBound? (.ref x) (Str.ofString "__eq__") _) (ifBound_K X I hs hf (wpAny_mono h (fun v s' z => ?_) fun _ _ z => z))
  obtain ⟨r, rfl, q⟩ := z
  exact wpAny_bind (wpAny_truthy_bool (wpAny_pure q))
theorem ne_own {Q : Value → Shared → Prop} (hu : A.units < cLine) (hu1 : A.in1.units < cLine) (F : Fr h₀ L s.heap m) (X₀ : K.In h₀) (I : InstAt s.heap x ox C od) (hb : Looks (model prog w) s.heap (typeOf b) tb) (hn : notFirst K C tb = true)
    (hne : findIn K (.ref C) "__ne__" = some (some (.builtin "object.__ne__"))) (hm : mroIn K C (.type "object") = some true) (hs : findIn K (.ref C) "__eq__" = some (some (.ref f))) (hf : isFn K (.ref f) = true)
    (h : wpAny (model prog w) A.in1 (call (.ref f) [.ref x, b]) (fun v s' => ∃ r, v = .bool r ∧ Q (.bool (!r)) s') E s) : wpAny (model prog w) A (richCompare .NotEq (.ref x) b) Q E s := by
  have X := X₀.keeps F.keep
  have it : wpAny (model prog w) A (tryCompare (.ref x) "__ne__" b) (fun r s' => ∃ v, r = some v ∧ Q v s') E s := by
    unfold tryCompare
    refine wpAny_bind (bound_builtin X I hne PySem.F.cmp_object.ne.bind (wpAny_call (codeAny_call_builtin PySem.F.cmp_object.ne.plain PySem.F.cmpEntry_ne (check_slot PySem.F.cmpKind_ne PySem.F.cmpSplit_ne (I.type.andThen (looks_mroIn X hm)) (PySem.F.cmpArgs_ne _ _) (ne_body (A := A.in1) hu1 X I hs hf (wpAny_mono h (fun v s' z => ?_) fun _ _ z => z))))))
    obtain ⟨r, rfl, q⟩ := z
    exact ⟨r, rfl, wpAny_pure ⟨_, rfl, q⟩⟩
  have tail : ∀ {s' : Shared} {r : Option Value}, (∃ v, r = some v ∧ Q v s') → ∀ (k : Sem Value), wpAny (model prog w) A (match r with | some v => pure v | none => k) Q E s' := fun {s' r} z k => by
    obtain ⟨v, rfl, q⟩ := z
    exact wpAny_pure q
  unfold richCompare
  simp only [oneThing_ref]
  refine wpAny_holding (wpAny_bind (wpAny_cRoomFor hu (wpAny_bind (I.type.here (wpAny_bind (hb.here ?_))))))
  split
  · rename_i q
    have e : subIn K tb (.ref C) = some false := by
      rcases Bool.or_eq_true_iff.mp hn with e | e
      · exact absurd q (by rw [beq_iff_eq.mp e]; simp)
      · exact beq_iff_eq.mp e
    refine wpAny_bind ((looks_subIn X e).here ?_)
    rw [if_neg (by decide)]
    exact wpAny_bind (wpAny_mono it (fun r s' z => by obtain ⟨v, rfl, q⟩ := z; exact wpAny_pure q) fun _ _ z => z)
  · refine wpAny_bind (wpAny_pure ?_)
    rw [if_neg (by decide)]
    exact wpAny_bind (wpAny_mono it (fun r s' z => by obtain ⟨v, rfl, q⟩ := z; exact wpAny_pure q) fun _ _ z => z)
end
end FwX
set_option Elab.async false
set_option linter.all false
set_option maxRecDepth 100000
set_option maxHeartbeats 1000000
/-! Fw43: a, *b = ..; own !=; {own}. -/
namespace Fw
open PySem L2 PySem.Spec PyProof.Rows
section
variable {Y : Cy} {w w1 w2 : Wd} {σ : L2.St} {H H1 H2 : Hp} {env : Env} {ms ms1 ms2 : Ms} {k : Nat} {e e1 e2 : Expr} {es : List Expr} {me : Env → Ms → R S} {p pos : Pos} {vs : List Nat}

/-! ### a, *b -/
def gTStar (K : PySem.W.Frag) (t : TGs) : TG := fun v σ H Q => ∃ a x rest, v = .ref a ∧ (SqL K H a (x :: rest) ∨ SqT K H a (x :: rest)) ∧ rest.length ≤ 16000 ∧ ∀ q, H q = none → t [x, .ref q] σ (upd H q (.lst rest)) Q
theorem pg_star {X : Cx} {j : Nat} {t : TGs} (hc : X.calm = true) (h : PGs X [e1, e2] t)
    (hn : (assignEach [e1, .Starred e2 p] X.env).length = 2 := by rfl) (hst : (assignEach [e1, .Starred e2 p] X.env).findIdx? (·.1) = some 1 := by rfl)
    (hm : (assignEach [e1, .Starred e2 p] X.env).map (·.2) = (assignEach [e1, e2] X.env).map (·.2) := by rfl) : PG X (.Tuple [e1, .Starred e2 p] j pos) (gTStar X.K t) := by
  refine ⟨fun pins s σ H v u Q I r hw => ?_⟩
  obtain ⟨a, x, rest, rfl, hq, hz, hw⟩ := hw
  cases r
  rw [PyProof.Rows.assign_Tuple]
  refine wpAny_bind (wpAny_standAt ?_)
  unfold unpack
  rw [hn, hst, hm]
  refine wpAny_bind (wpAny_holding ?_)
  have fin : ∀ {u : Value} {us : List Value}, RelV x u → Vals rest us → ∀ h' tk, Heap.ExtBut s.heap.objs.size s.heap h' →
      wpAny (model X.prog X.w) X.A (assignInOrder ((assignEach [e1, e2] X.env).map (·.2)) [u, .ref h'.objs.size]) (fun _ s' => ∃ σ' H', Inv X pins σ' H' s' ∧ Q σ' H') X.xe { s with heap := h'.push (FwX.lstO us), toks := tk } := fun {u us} ru rus h' tk hx => by
    have I1 : Inv X pins σ H { s with heap := h', toks := tk } := I.kept (t' := tk) fun b o e => hx b o (Nat.ne_of_lt (Heap.lt_size e)) e
    have free : H h'.objs.size = none := I1.hok.fresh (Nat.le_refl _)
    have I2 : Inv X pins σ (upd H h'.objs.size (.lst rest)) { s with heap := h'.push (FwX.lstO us), toks := tk } :=
      I1.laid (t' := tk) (fun b o e => Heap.get?_push_of_some _ e) (Nat.le_refl _) ⟨by rw [sizeLine_eq]; omega, us, 0, rus, Heap.get?_push_size _ rfl⟩
    exact h.run pins _ σ _ [x, .ref h'.objs.size] _ Q I2 (.cons ru (.cons rfl .nil)) (hw _ free)
  rcases hq with hq | hq
  · obtain ⟨its, rv, pl, _⟩ := I.list hq
    cases rv with
    | @cons _ _ _ us ru rus =>
      have lu : us.length = rest.length := rus.length.symm
      exact FwX.star_list pl.isList (I.ok.hd hc) rfl (by simp; omega) (fin ru rus)
  · obtain ⟨its, rv, pl, _⟩ := I.tuple hq
    cases rv with
    | @cons _ _ _ us ru rus =>
      have lu : us.length = rest.length := rus.length.symm
      exact FwX.star_tuple pl (I.ok.hd hc) rfl (by simp; omega) (fin ru rus)
/-- the first; the others in a new list -/
def gStar (gs : List S → Env → Ms → Option Env) : S → Env → Ms → Option Env := fun s env ms => match itemsOf s ms with
  | some (x :: rest) => match Nat.ble rest.length 16000 with
    | true => gs [.d x, .d (.lst rest)] env ms
    | false => none
  | _ => none
theorem g_star {j : Nat} {gs : List S → Env → Ms → Option Env} (hc : Y.X.calm = true) (h : DGs Y [e1, e2] gs)
    (hn : (assignEach [e1, .Starred e2 p] Y.X.env).length = 2 := by rfl) (hst : (assignEach [e1, .Starred e2 p] Y.X.env).findIdx? (·.1) = some 1 := by rfl)
    (hm : (assignEach [e1, .Starred e2 p] Y.X.env).map (·.2) = (assignEach [e1, e2] Y.X.env).map (·.2) := by rfl) : DG Y (.Tuple [e1, .Starred e2 p] j pos) (gStar gs) := by
  obtain ⟨t, pt, st⟩ := h.ex
  refine ⟨_, pg_star hc pt hn hst hm, fun w σ H env ms x v Q env' er hr sv he hq => ?_⟩
  unfold gStar at he
  split at he
  · rename_i d ds hi
    split at he
    · rename_i hl
      obtain ⟨a, xs, rfl, sq, r⟩ := seq_inv (itemsOf_or hi) hr sv
      obtain ⟨x, rest, rfl, rx, rr⟩ := r
      refine ⟨a, x, rest, rfl, sq, by rw [← DRs.length rr]; exact Nat.le_of_ble_eq_true hl, fun q hqn => ?_⟩
      obtain ⟨hr2, ext⟩ := hr.froz (o := .lst rest) hqn
      have s1 : SR Y ⟨upd w.F q (.lst rest), w.P, w.mu⟩ (.d d) x := DR.mono ext.F _ _ rx
      have s2 : SR Y ⟨upd w.F q (.lst rest), w.P, w.mu⟩ (.d (.lst ds)) (.ref q) := ⟨q, _, rfl, upd_same, DRs.mono ext.F _ _ rr⟩
      exact st _ σ _ env ms _ _ Q env' (er.mono ext) hr2 (.cons s1 (.cons s2 .nil)) he fun w2 H2 σ2 e2 => hq w2 H2 σ2 (ext.trans e2)
    · cases he
  · cases he
theorem gv_star {j : Nat} {gs : List S → Env → Ms → Option Env} (hc : Y.X.calm = true) (h : DGsv Y vs [e1, e2] gs)
    (hn : (assignEach [e1, .Starred e2 p] Y.X.env).length = 2 := by rfl) (hst : (assignEach [e1, .Starred e2 p] Y.X.env).findIdx? (·.1) = some 1 := by rfl)
    (hm : (assignEach [e1, .Starred e2 p] Y.X.env).map (·.2) = (assignEach [e1, e2] Y.X.env).map (·.2) := by rfl) : DGv Y vs (.Tuple [e1, .Starred e2 p] j pos) (gStar gs) := by
  obtain ⟨t, pt, st⟩ := h.ex
  refine ⟨_, pg_star hc pt hn hst hm, fun w σ H env ms x v Q env' er hr sv he hq => ?_⟩
  unfold gStar at he
  split at he
  · rename_i d ds hi
    split at he
    · rename_i hl
      obtain ⟨a, xs, rfl, sq, r⟩ := seq_inv (itemsOf_or hi) hr sv
      obtain ⟨x, rest, rfl, rx, rr⟩ := r
      refine ⟨a, x, rest, rfl, sq, by rw [← DRs.length rr]; exact Nat.le_of_ble_eq_true hl, fun q hqn => ?_⟩
      obtain ⟨hr2, ext⟩ := hr.froz (o := .lst rest) hqn
      have s1 : SR Y ⟨upd w.F q (.lst rest), w.P, w.mu⟩ (.d d) x := DR.mono ext.F _ _ rx
      have s2 : SR Y ⟨upd w.F q (.lst rest), w.P, w.mu⟩ (.d (.lst ds)) (.ref q) := ⟨q, _, rfl, upd_same, DRs.mono ext.F _ _ rr⟩
      exact st _ σ _ env ms _ _ Q env' (er.mono ext) hr2 (.cons s1 (.cons s2 .nil)) he fun w2 H2 σ2 e2 => hq w2 H2 σ2 (ext.trans e2)
    · cases he
  · cases he

/-! ### own != -/
structure NeOk (Y : Cy) (k : Nat) (oc : List Nat) (c : Nat) (g : List S → Ms → R S) : Prop where
  eq : EqOk Y k oc "__eq__" c g
  ne : PySem.W.findIn Y.X.K (.ref (Y.Γ.cls c)) "__ne__" = some (some (.builtin "object.__ne__"))
  ob : PySem.W.mroIn Y.X.K (Y.Γ.cls c) (.type "object") = some true
def gNeO (oc : List Nat) (tab : MTab) : S → S → Ms → R S := fun x y ms => match gEqO oc tab x y ms with
  | .ok (.d (.bl b)) ms' => .ok (.d (.bl (!b))) ms'
  | _ => .bad
theorem gNeO_ne {oc : List Nat} {tab : MTab} : ∀ x y ms c ds ms', gNeO oc tab x y ms ≠ .ex c ds ms' := by
  intro x y ms c ds ms' h
  unfold gNeO at h
  split at h <;> cases h
def rNeO (Y : Cy) (k : Nat) (oc : List Nat) : R2 := fun x y H Q => ∃ a c dx fs ds w ms g s d t, x = .ref a ∧ H a = some (.ins (Y.Γ.cls c) dx fs) ∧ NeOk Y k oc c g ∧ HR Y w H ms ∧ SR Y w (.d (.obj c ds)) (.ref a) ∧ SR Y w s y ∧ view s ms = some d ∧ tyE d = some t ∧ tyIn oc t = true ∧
  (noEx (g [.d (.obj c ds), s] ms)).post (okP Y w fun v H' => ∃ b, v = .bl b ∧ Q (.bl (!b)) H') (fun _ _ _ => False)
theorem snd_neO {oc : List Nat} {tab : MTab} (ht : Tab (NeOk Y k oc) tab) : SndR2 Y (rNeO Y k oc) (gNeO oc tab) := by
  intro w H ms x y u v Q hr sx sy h
  unfold gNeO at h
  cases he : gEqO oc tab x y ms with
  | bad => rw [he] at h; exact h.elim
  | ex c ds ms' => rw [he] at h; exact h.elim
  | ok z ms' =>
    rw [he] at h
    unfold gEqO at he
    split at he
    · rename_i c ds
      split at he
      · rename_i g t hl hv
        split at he
        · rename_i hi
          obtain ⟨d, h1, h2⟩ := Option.bind_eq_some_iff.mp hv
          have s0 := sx
          obtain ⟨a, dx, xs, rfl, k1, k2, k3⟩ := sx
          refine ⟨a, c, dx, _, ds, w, ms, g, y, d, t, rfl, hr.sub _ _ k1, ht.at_ hl, hr, s0, sy, h1, h2, hi, ?_⟩
          unfold asBl at he
          split at he
          · rename_i b m3 hg
            cases he
            rw [hg]
            exact fun w' H' v' e' hr' sv' => ⟨b, sv', h w' H' _ e' hr' rfl⟩
          · cases he
        · cases he
      · cases he
    · cases he
theorem op_neO {oc : List Nat} (ok : CyOk Y k) : OpR Y.X (compareOp .NotEq) (rNeO Y k oc) := by
  intro pins s σ H x y v u Q I rx ry h
  obtain ⟨a, c, dx, fs, ds, w, ms, g, sl, d, t, rfl, ea, no, hr, sr, sy, hv, ht, hi, q⟩ := h
  obtain rfl : v = Value.ref a := rx
  obtain ⟨f, fd, ps, sem, pk, dvs, cs, j, e1, e2, F, hj, hb, hcs, rfl⟩ := no.eq.sp.ex
  obtain ⟨mA, O, _, _, _, _⟩ := ins_get I.hok ea
  obtain ⟨od, J, _⟩ := O.look
  obtain ⟨m, Fr0⟩ := frame_of I
  have lk := look_of (M := model Y.X.prog Y.X.w) hv ht hr sy I ry
  have nf : PySem.W.notFirst Y.X.K (Y.Γ.cls c) (tyV Y t) = true := by
    cases t with
    | nm T => exact no.eq.nf T (List.contains_iff_mem.mp hi)
    | cl c' => exact no.eq.no c' (List.contains_iff_mem.mp hi)
  have hk : Room (j + 1 + 1 + 1) Y.X.A := ok.hr.mono hj
  show wpAny _ _ (richCompare .NotEq _ _) _ _ _
  refine FwX.ne_own hk.units0 hk.in1.units0 Fr0 I.mod.kin J lk nf no.ne no.ob e1 e2 ?_
  refine wpAny_mono (sp_run (A := Y.X.A.in1) (Q := fun v H' => ∃ y, v = .bl y ∧ Q (.bl (!y)) H') (hk.in1.mono (Nat.le_trans (Nat.le_succ j) (Nat.le_succ _))) ok.gd F hb hcs I I.env0.in1 rfl (show Vals [V.ref a, y] [Value.ref a, u] from .cons rfl (.cons ry .nil)) hr (.cons sr (.cons sy .nil)) q) (fun v s' hv => ?_) fun _ _ z => z
  obtain ⟨v', H', I', rv, y, ey, q'⟩ := hv
  subst ey
  cases rv
  exact ⟨y, rfl, .bl (!y), H', I', rfl, q'⟩
theorem o_neO {oc : List Nat} {tab : MTab} (ok : CyOk Y k) (ht : Tab (NeOk Y k oc) tab) : OpD Y (compareOp .NotEq) (gNeO oc tab) := ⟨⟨_, op_neO ok, snd_neO ht⟩, gNeO_ne⟩
def bNeF (C : Addr) (K : PySem.W.Frag) : Bool := bOO (PySem.W.findIn K (.ref C) "__ne__") (some (some (.builtin "object.__ne__"))) && decide (PySem.W.mroIn K C (.type "object") = some true)
theorem neF_ok {K : PySem.W.Frag} {C : Addr} (h : bNeF C K = true) : PySem.W.findIn K (.ref C) "__ne__" = some (some (.builtin "object.__ne__")) ∧ PySem.W.mroIn K C (.type "object") = some true := by
  obtain ⟨h1, h2⟩ := Bool.and_eq_true_iff.mp h
  exact ⟨of_decide_eq_true h1, of_decide_eq_true h2⟩

/-! ### {own} -/
structure FmOk (Y : Cy) (k : Nat) (c : Nat) (g : List S → Ms → R S) : Prop where
  sp : SpOk Y k "__str__" 0 c g
  fm : PySem.W.findIn Y.X.K (.ref (Y.Γ.cls c)) "__format__" = some (some (.builtin "object.__format__"))
  ob : PySem.W.mroIn Y.X.K (Y.Γ.cls c) (.type "object") = some true
def mFmtO (tab : MTab) (me : Env → Ms → R S) : Env → Ms → R S := fun env ms => (me env ms).bind fun x ms1 => cOwn tab [x] ms1
theorem e_fmtO {tab : MTab} (ok : CyOk Y k) (ht : Tab (FmOk Y k) tab) (h : DE Y e me) : DE Y (.FormattedValue e (-1) none pos) (mFmtO tab me) := by
  obtain ⟨t, pe, se⟩ := h.ex
  refine ⟨fun σ H Q => t σ H fun x H1 => ∃ a c dx fs ds w ms g, x = .ref a ∧ H1 a = some (.ins (Y.Γ.cls c) dx fs) ∧ FmOk Y k c g ∧ HR Y w H1 ms ∧ SR Y w (.d (.obj c ds)) (.ref a) ∧ (asStr (g [.d (.obj c ds)] ms)).post (okP Y w Q) (fun _ _ _ => False),
    ⟨fun pins s σ H Q I h => ?_⟩, fun w σ H env ms Q er hr h => ?_⟩
  · refine wpAny_FormattedValue_plain (thn (pe.run pins s σ H _ I h) fun v s1 ⟨x, H1, I1, r1, a, c, dx, fs, ds, w, ms, g, ex, ea, fo, hr, sr, q⟩ => ?_)
    subst ex
    obtain rfl : v = Value.ref a := r1
    obtain ⟨f, fd, ps, sem, pk, dvs, cs, j, g1, g2, F, hj, hb, hcs, rfl⟩ := fo.sp.ex
    obtain ⟨mA, O, _, _, _, _⟩ := ins_get I1.hok ea
    obtain ⟨od, J, _⟩ := O.look
    have hk : Room (j + 1 + 1 + 1) Y.X.A := ok.hr.mono hj
    have I2 := I1.tok (s1.toks + 1)
    refine PySem.W.kfo_fieldS hk.in1.units0 I1.kIn J fo.fm fo.ob g1 g2 (wpAny_mono (sp_run (A := Y.X.A.in1) (Q := fun v H' => ∃ y, v = .str y ∧ Q v H') (hk.in1.mono (Nat.le_trans (Nat.le_succ j) (Nat.le_succ _))) ok.gd F hb hcs I2 I2.env0.in1 rfl (show Vals [V.ref a] [Value.ref a] from .cons rfl .nil) hr (.cons sr .nil) (asStr_post q)) (fun v s' hv => ?_) fun _ _ z => z)
    obtain ⟨v', H', I', rv, y, ey, q'⟩ := hv
    subst ey
    obtain ⟨t, rfl⟩ := rv
    exact ⟨.str y, H', I', ⟨t, rfl⟩, q'⟩
  · refine se.go er hr h fun x ms1 w1 H1 v e1 er1 hr1 sv h1 => ?_
    cases x with
    | loc n => exact h1.elim
    | exn c ds => exact h1.elim
    | d x =>
      cases x with
      | obj c ds =>
        have s0 := sv
        obtain ⟨a, dx, xs, rfl, k1, k2, k3⟩ := sv
        unfold cOwn at h1
        dsimp only at h1
        cases hl : tab.lookup c with
        | none => rw [hl] at h1; exact h1.elim
        | some g =>
          rw [hl] at h1
          refine ⟨a, c, dx, _, ds, w1, ms1, g, rfl, hr1.sub _ _ k1, ht.at_ hl, hr1, s0, ?_⟩
          dsimp only at h1
          unfold asStr at h1 ⊢
          split at h1
          · exact h1.ext e1
          · exact h1.elim
      | _ => exact h1.elim
def bFmF (C : Addr) (K : PySem.W.Frag) : Bool := bOO (PySem.W.findIn K (.ref C) "__format__") (some (some (.builtin "object.__format__"))) && decide (PySem.W.mroIn K C (.type "object") = some true)
theorem fmF_ok {K : PySem.W.Frag} {C : Addr} (h : bFmF C K = true) : PySem.W.findIn K (.ref C) "__format__" = some (some (.builtin "object.__format__")) ∧ PySem.W.mroIn K C (.type "object") = some true := by
  obtain ⟨h1, h2⟩ := Bool.and_eq_true_iff.mp h
  exact ⟨of_decide_eq_true h1, of_decide_eq_true h2⟩
end
end Fw
set_option Elab.async false
set_option linter.all false
set_option maxRecDepth 100000
set_option maxHeartbeats 1000000
/-! Fw44: enumerate(x, start=n). -/
namespace Fw
open PySem L2 PySem.Spec PyProof.Rows
theorem type_kw {M : Model} {A : Around} {E : Value → Shared → Prop} {s : Shared} {pos : Pos} {T : String} {args : List (Bool × Sem Value)} {kws : List (Option Str × Sem Value)} {Q : Value → Shared → Prop} (hp : (args.any (·.1) || kws.any (·.1.isNone)) = false)
    (h : wpAny M A (evalArgs (.type T) true args kws) (fun a s1 => wpAny M A (call (.type T) a.pos a.kw) Q E s1) E s) : wpAny M A (callWith pos (.type T) [] args kws) Q E s := by
  unfold callWith
  refine wpAny_bind (wpAny_holding (wpAny_mono h (fun a s1 z => ?_) fun _ _ z => z))
  refine wpAny_bind (wpAny_standAt ?_)
  simp only [hp]
  exact wpAny_bind (wpAny_pure (wpAny_bind (wpAny_mono z (fun r s2 y => wpAny_bind (wpAny_holding (wpAny_point (wpAny_pure y)))) fun _ _ y => y)))
section
variable {Y : Cy} {w w1 w2 : Wd} {σ : L2.St} {H H1 H2 : Hp} {env : Env} {ms ms1 ms2 : Ms} {e : Expr} {kw : Keyword} {mc : Env → Ms → R (List S)} {p pos tpos : Pos} {elts : List Expr} {kk : Nat}
def iEnuS (mc : Env → Ms → R (List S)) : MI := fun env ms => (mc env ms).bind fun ss ms1 => match ss with
  | [x, .d (.int n)] => match decide (n.natAbs ≤ 1000) with
    | true => itE n [x] ms1
    | false => .bad
  | _ => .bad
theorem i_enumS (hg : Gl Y.X "enumerate") (hm : Y.X.mg "enumerate" = none) (hc : DC Y [e] [kw] 1 ["start"] mc) : DI Y (.Tuple elts kk tpos) (.Call (.Name "enumerate" p) [e] [kw] pos) (iEnuS mc) := by
  obtain ⟨t, pc, sc⟩ := hc.ex
  refine ⟨fun σ H R => t σ H fun vs H1 => ∃ (tu : Bool) (a : Addr) (xs : List V) (n : Int), vs = [.ref a, .int n] ∧ n.natAbs ≤ 1000 ∧ SqB Y.X.K tu H1 a xs ∧ R (IteG Y.X.K tu a n) H1, ⟨fun pins s σ H R I h => ?_⟩, fun w σ H env ms Rr er hr h => ?_⟩
  · refine wpAny_Call_Name_kw (ld_blt I hg hm boot_enumerate (type_kw (pc.plain pos) (thn (pc.run pos _ pins s σ H _ I h) fun a s1 ⟨us, ws, vs, H1, ea, l1, l2, I1, r1, tu, q, xs, n, ev, hn, hq, z⟩ => ?_)))
    subst ea ev
    match us, ws, l1, l2, r1 with
    | [u], [v], _, _, .cons r (.cons r2 .nil) =>
      cases r
      obtain ⟨tk, rfl⟩ := r2
      obtain ⟨o, St0, bg, st0, la, hit⟩ := SqB.it0 I1 hq
      exact PySem.enum_begins_start bg st0 (by omega) (by omega) fun h' en ho _ kept => wpAny_pyIter_enum en (enumPIE I1 la en (hit _ _ ho) kept z)
  · refine sc.go er hr h fun ss ms1 w1 H1 vs e1 er1 hr1 sv h1 => ?_
    split at h1
    · rename_i x n
      split at h1
      · rename_i hn
        cases sv with
        | cons sx sr =>
          cases sr with
          | cons sn sr =>
            cases sr
            cases sn
            obtain ⟨tu, a, xs, ds, kp, ev, hq, yl, kc, h2⟩ := itE_use hr1 (.cons sx .nil) h1
            cases ev
            exact ⟨tu, a, xs, n, rfl, of_decide_eq_true hn, hq, h2 w1 H1 _ e1 hr1 yl kc⟩
      · exact h1.elim
    · exact h1.elim
end
end Fw
set_option Elab.async false
set_option linter.all false
set_option maxRecDepth 100000
set_option maxHeartbeats 1000000
/-! Pl0: stepping by simp. -/
namespace Fw
open PySem L2
section
variable {α β : Type} {env e1 : Env} {ms ms1 ms2 : Ms} {s s1 s2 : S} {m m1 m2 k : Env → Ms → T} {me ma mb mo mi' : Env → Ms → R S} {mc md : Env → Ms → R Bool} {i j n : Nat} {b : Bool} {ss : List S} {c : Nat} {ds : List D} {d x y z : D} {mal : Env → Ms → R (List S)}
@[simp] theorem bind_ok {f : α → Ms → R β} {a : α} : (R.ok a ms).bind f = f a ms := rfl
@[simp] theorem bind_ex {f : α → Ms → R β} : (R.ex c ds ms : R α).bind f = .ex c ds ms := rfl
@[simp] theorem bind_bad {f : α → Ms → R β} : (R.bad : R α).bind f = .bad := rfl
@[simp] theorem seq_nx : (T.nx env ms).seq k = k env ms := rfl
@[simp] theorem seq_rt : (T.rt s ms).seq k = .rt s ms := rfl
@[simp] theorem seq_bk : (T.bk env ms).seq k = .bk env ms := rfl
@[simp] theorem seq_ct : (T.ct env ms).seq k = .ct env ms := rfl
@[simp] theorem seq_ex : (T.ex c ds env ms).seq k = .ex c ds env ms := rfl
@[simp] theorem seq_bad : T.bad.seq k = .bad := rfl
@[simp] theorem ofE_ok {a : α} {f : α → Ms → T} : T.ofE (.ok a ms) env f = f a ms := rfl
@[simp] theorem ofE_ex {f : α → Ms → T} : T.ofE (.ex c ds ms : R α) env f = .ex c ds env ms := rfl
@[simp] theorem ofE_bad {f : α → Ms → T} : T.ofE (.bad : R α) env f = .bad := rfl
@[simp] theorem ev_cons : sCons m k env ms = (m env ms).seq k := rfl
@[simp] theorem ev_nil : sNil env ms = .nx env ms := rfl
@[simp] theorem ev_pass : sPass env ms = .nx env ms := rfl
@[simp] theorem ev_brk : sBrk env ms = .bk env ms := rfl
@[simp] theorem ev_cnt : sCnt env ms = .ct env ms := rfl
@[simp] theorem ev_set : sSet i me env ms = T.ofE (me env ms) env fun s ms1 => .nx (env.set i (some s)) ms1 := rfl
@[simp] theorem ev_ret : sRet me env ms = T.ofE (me env ms) env .rt := rfl
@[simp] theorem ev_retN : sRetN env ms = .rt (.d .non) ms := rfl
@[simp] theorem ev_expr : sExpr me env ms = T.ofE (me env ms) env fun _ ms1 => .nx env ms1 := rfl
@[simp] theorem ev_if : sIf mc m k env ms = T.ofE (mc env ms) env fun x ms1 => if x = true then m env ms1 else k env ms1 := by
  unfold sIf
  congr 1
  funext x ms1
  cases x <;> rfl
@[simp] theorem ev_par : sPar i j mal env ms = T.ofE (mal env ms) env fun ss ms1 => match ss with
  | [x, y] => .nx ((env.set i (some x)).set j (some y)) ms1
  | _ => .bad := rfl
@[simp] theorem ev_asg {g : S → Env → Ms → Option Env} : sAsg g me env ms = T.ofE (me env ms) env fun s ms1 => match g s env ms1 with
  | some env' => .nx env' ms1
  | none => .bad := rfl
@[simp] theorem ev_var : mVar i env ms = match env[i]? with
  | some (some s) => .ok s ms
  | _ => .bad := rfl
@[simp] theorem ev_c : mC s env ms = .ok s ms := rfl
@[simp] theorem ev_op {g : S → S → Ms → R S} : mOp g ma mb env ms = (ma env ms).bind fun x ms1 => (mb env ms1).bind fun y ms2 => g x y ms2 := rfl
@[simp] theorem ev_B : mB me env ms = (me env ms).bind asB := rfl
@[simp] theorem asB_bl : asB (.d (.bl b)) ms = .ok b ms := rfl
@[simp] theorem ev_not : mNot mc env ms = (mc env ms).bind fun b ms1 => .ok (!b) ms1 := rfl
@[simp] theorem ev_and : mAnd mc md env ms = (mc env ms).bind fun b ms1 => if b = true then md env ms1 else .ok false ms1 := by
  unfold mAnd
  congr 1
  funext x ms1
  cases x <;> rfl
@[simp] theorem ev_or : mOr mc md env ms = (mc env ms).bind fun b ms1 => if b = true then .ok true ms1 else md env ms1 := by
  unfold mOr
  congr 1
  funext x ms1
  cases x <;> rfl
@[simp] theorem ev_andV : mAndV ma mb env ms = (mB ma env ms).bind fun b ms1 => if b = true then mb env ms1 else .ok (.d (.bl false)) ms1 := by
  unfold mAndV
  congr 1
  funext x ms1
  cases x <;> rfl
@[simp] theorem ev_orV : mOrV ma mb env ms = (mB ma env ms).bind fun b ms1 => if b = true then .ok (.d (.bl true)) ms1 else mb env ms1 := by
  unfold mOrV
  congr 1
  funext x ms1
  cases x <;> rfl
@[simp] theorem ev_notV : mNotV me env ms = (mB me env ms).bind fun b ms1 => .ok (.d (.bl (!b))) ms1 := rfl
@[simp] theorem ev_ite {ma mb : Env → Ms → R α} : mIf mc ma mb env ms = (mc env ms).bind fun b ms1 => if b = true then ma env ms1 else mb env ms1 := by
  unfold mIf
  congr 1
  funext x ms1
  cases x <;> rfl
@[simp] theorem ev_chain {g g' : S → S → Ms → R S} : mChain g g' ma mb mo env ms = (ma env ms).bind fun x ms1 => (mb env ms1).bind fun y ms2 => (g x y ms2).bind fun z ms3 => (asB z ms3).bind fun b ms4 => if b = true then (mo env ms4).bind fun v ms5 => g' y v ms5 else .ok (.d (.bl false)) ms4 := by
  unfold mChain
  congr 1; funext x ms1; congr 1; funext y ms2; congr 1; funext z ms3; congr 1; funext b ms4
  cases b <;> rfl
@[simp] theorem ev_aNil : aNil env ms = .ok [] ms := rfl
@[simp] theorem ev_aCons : aCons me mal env ms = (me env ms).bind fun x ms1 => (mal env ms1).bind fun xs ms2 => .ok (x :: xs) ms2 := rfl
@[simp] theorem ev_tup : mTup mal env ms = (mal env ms).bind (dispD .tup) := rfl
@[simp] theorem ev_lst : mLst mal env ms = (mal env ms).bind (dispD .lst) := rfl
@[simp] theorem ev_new : mNew mal env ms = (mal env ms).bind newL := rfl
@[simp] theorem disp_ev {f : List D → D} : dispD f ss ms = match toDs ss with
  | some ds => if few ds.length = true then .ok (.d (f ds)) ms else .bad
  | none => .bad := by
  unfold dispD
  cases toDs ss with
  | none => rfl
  | some ds => cases h : few ds.length <;> simp [h]
@[simp] theorem newL_ev : newL ss ms = match toDs ss with
  | some ds => if few ds.length = true then .ok (.loc ms.length) (ms ++ [.lst ds]) else .bad
  | none => .bad := by
  unfold newL
  cases toDs ss with
  | none => rfl
  | some ds => cases h : few ds.length <;> simp [h]
@[simp] theorem few_ev : few n = decide (n ≤ 1000000) := by
  unfold few
  by_cases h : n ≤ 1000000
  · rw [decide_eq_true h]; exact Nat.ble_eq.mpr h
  · rw [decide_eq_false h]; exact Bool.eq_false_iff.mpr fun z => h (Nat.le_of_ble_eq_true z)
@[simp] theorem toDs_nil : toDs [] = some [] := rfl
@[simp] theorem toDs_cons : toDs (.d x :: ss) = (toDs ss).map (x :: ·) := rfl
@[simp] theorem ev_callN {g : List S → Ms → R S} : mCallN g mal env ms = (mal env ms).bind g := rfl
@[simp] theorem ev_b1 {g : List S → Ms → R S} : mB1 g mal env ms = (mal env ms).bind g := rfl
@[simp] theorem ev_len : mLen n mal env ms = (mal env ms).bind (lenIs n) := rfl
@[simp] theorem lenIs_ev : lenIs n ss ms = if ss.length = n then .ok ss ms else .bad := by
  unfold lenIs
  by_cases h : ss.length = n
  · subst h; rw [Nat.beq_refl, if_pos rfl]
  · rw [if_neg h]
    cases e : Nat.beq ss.length n with
    | false => rfl
    | true => exact absurd (Nat.eq_of_beq_eq_true e) h
@[simp] theorem bnd_ev {f : List S → Ms → R S} {pk : List Nat} {cs : List S} : bndS f pk cs ss ms = callSem f (pick pk (ss ++ cs)) ms := rfl
@[simp] theorem pick_nil {α : Type} {l : List α} : pick [] l = [] := rfl
theorem pick_cons {α : Type} {l : List α} {a : α} {pk : List Nat} (h : l[i]? = some a) : pick (i :: pk) l = a :: pick pk l := by unfold pick; rw [List.filterMap_cons, h]
/-- what a call gives back to a caller that handed on data alone -/
def backD (r : R S) (ms : Ms) : R S := match r with
  | .ok (.d y) _ => .ok (.d y) ms
  | .ok (.loc j) m' => match m'[j]? with
    | some c => .ok (.loc ms.length) (ms ++ [c])
    | none => .bad
  | .ok (.exn _ _) _ => .bad
  | .ex c ds _ => .ex c ds ms
  | .bad => .bad
@[simp] theorem backD_d : backD (.ok (.d y) ms1) ms = .ok (.d y) ms := rfl
@[simp] theorem backD_new {c : Cell} {r : Ms} : backD (.ok (.loc 0) (c :: r)) ms = .ok (.loc ms.length) (ms ++ [c]) := rfl
@[simp] theorem backD_ex : backD (.ex c ds ms1) ms = .ex c ds ms := rfl
theorem call_ds {f : List S → Ms → R S} : ∀ (xs : List D) (ms : Ms), callSem f (xs.map .d) ms = backD (f (xs.map .d) []) ms := by
  intro xs ms
  have l0 : ∀ xs : List D, locsOf (xs.map S.d) = [] := fun xs => by
    induction xs with
    | nil => rfl
    | cons x xs ih => exact ih
  have nx : ∀ xs : List D, (xs.map S.d).all S.noX = true := fun xs => by
    induction xs with
    | nil => rfl
    | cons x xs ih => exact ih
  have r0 : ∀ (ls : List Nat) (xs : List D), (xs.map S.d).map (renS ls) = xs.map S.d := fun ls xs => by
    induction xs with
    | nil => rfl
    | cons x xs ih => show S.d x :: (xs.map S.d).map (renS ls) = _; rw [ih]; rfl
  unfold callSem
  rw [l0, nx]
  show callEnd [] ms (f ((xs.map S.d).map (renS [])) []) = _
  rw [r0]
  cases f (xs.map S.d) [] with
  | bad => rfl
  | ex c ds m' => rfl
  | ok s m' => cases s <;> rfl
@[simp] theorem call_d0 {f : List S → Ms → R S} : callSem f [] ms = backD (f [] []) ms := call_ds [] ms
@[simp] theorem call_d1 {f : List S → Ms → R S} : callSem f [.d x] ms = backD (f [.d x] []) ms := call_ds [x] ms
@[simp] theorem call_d2 {f : List S → Ms → R S} : callSem f [.d x, .d y] ms = backD (f [.d x, .d y] []) ms := call_ds [x, y] ms
@[simp] theorem call_d3 {f : List S → Ms → R S} : callSem f [.d x, .d y, .d z] ms = backD (f [.d x, .d y, .d z] []) ms := call_ds [x, y, z] ms
@[simp] theorem call_d4 {f : List S → Ms → R S} : callSem f [.d x, .d y, .d z, .d d] ms = backD (f [.d x, .d y, .d z, .d d] []) ms := call_ds [x, y, z, d] ms
/-- .. one cell first, then data -/
def backL (n : Nat) (r : R S) (ms : Ms) : R S := match r with
  | .ok (.d y) m' => .ok (.d y) (wb [n] m' ms)
  | .ok (.loc 0) m' => .ok (.loc n) (wb [n] m' ms)
  | .ok (.loc (j + 1)) m' => match m'[j + 1]? with
    | some c => .ok (.loc ms.length) (wb [n] m' ms ++ [c])
    | none => .bad
  | .ok (.exn _ _) _ => .bad
  | .ex c ds m' => .ex c ds (wb [n] m' ms)
  | .bad => .bad
@[simp] theorem backL_d {c : Cell} : backL n (.ok (.d y) [c]) ms = .ok (.d y) (ms.set n c) := rfl
@[simp] theorem backL_ds {c : Cell} {r : Ms} : backL n (.ok (.d y) (c :: r)) ms = .ok (.d y) (ms.set n c) := rfl
@[simp] theorem backL_exs {c' : Cell} {r : Ms} : backL n (.ex c ds (c' :: r)) ms = .ex c ds (ms.set n c') := rfl
@[simp] theorem backL_ex {c' : Cell} : backL n (.ex c ds [c']) ms = .ex c ds (ms.set n c') := rfl
theorem call_lds {f : List S → Ms → R S} (n : Nat) (xs : List D) (ms : Ms) : callSem f (.loc n :: xs.map .d) ms = backL n (f (.loc 0 :: xs.map .d) [getC ms n]) ms := by
  have l0 : ∀ xs : List D, locsOf (xs.map S.d) = [] := fun xs => by
    induction xs with
    | nil => rfl
    | cons x xs ih => exact ih
  have nx : ∀ xs : List D, (xs.map S.d).all S.noX = true := fun xs => by
    induction xs with
    | nil => rfl
    | cons x xs ih => exact ih
  have r0 : ∀ (ls : List Nat) (xs : List D), (xs.map S.d).map (renS ls) = xs.map S.d := fun ls xs => by
    induction xs with
    | nil => rfl
    | cons x xs ih => show S.d x :: (xs.map S.d).map (renS ls) = _; rw [ih]; rfl
  have l1 : locsOf (.loc n :: xs.map .d) = [n] := by show n :: locsOf (xs.map S.d) = [n]; rw [l0]
  unfold callSem
  rw [l1]
  have : ((S.loc n :: xs.map .d).all S.noX && nodupB [n]) = true := by
    show ((true && (xs.map S.d).all S.noX) && nodupB [n]) = true
    rw [nx]; rfl
  rw [this]
  have e2 : (S.loc n :: xs.map .d).map (renS [n]) = .loc 0 :: xs.map .d := by
    show renS [n] (.loc n) :: (xs.map S.d).map (renS [n]) = _
    rw [r0]
    show S.loc ([n].idxOf n) :: _ = _
    simp
  show callEnd [n] ms (f ((S.loc n :: xs.map .d).map (renS [n])) ([n].map (getC ms))) = _
  rw [e2]
  show callEnd [n] ms (f (.loc 0 :: xs.map .d) [getC ms n]) = _
  cases f (.loc 0 :: xs.map S.d) [getC ms n] with
  | bad => rfl
  | ex c ds m' => rfl
  | ok s m' =>
    cases s with
    | d y => rfl
    | exn c ds => rfl
    | loc j => cases j <;> rfl
@[simp] theorem call_l0 {f : List S → Ms → R S} : callSem f [.loc n] ms = backL n (f [.loc 0] [getC ms n]) ms := call_lds n [] ms
@[simp] theorem call_l1 {f : List S → Ms → R S} : callSem f [.loc n, .d x] ms = backL n (f [.loc 0, .d x] [getC ms n]) ms := call_lds n [x] ms
@[simp] theorem call_l2 {f : List S → Ms → R S} : callSem f [.loc n, .d x, .d y] ms = backL n (f [.loc 0, .d x, .d y] [getC ms n]) ms := call_lds n [x, y] ms
@[simp] theorem call_l3 {f : List S → Ms → R S} : callSem f [.loc n, .d x, .d y, .d z] ms = backL n (f [.loc 0, .d x, .d y, .d z] [getC ms n]) ms := call_lds n [x, y, z] ms
@[simp] theorem getC_ev : getC ms n = match ms[n]? with
  | some c => c
  | none => .dead := rfl
def T.fin (t : T) : R S := match t with
  | .nx _ ms' => .ok (.d .non) ms'
  | .rt s ms' => endS s ms'
  | .ex c ds _ ms' => .ex c ds ms'
  | _ => .bad
@[simp] theorem fin_nx : T.fin (.nx env ms) = .ok (.d .non) ms := rfl
@[simp] theorem fin_rt : T.fin (.rt (.d x) ms) = .ok (.d x) ms := rfl
@[simp] theorem fin_rtl : T.fin (.rt (.loc n) ms) = .ok (.loc n) ms := rfl
@[simp] theorem fin_ex : T.fin (.ex c ds env ms) = .ex c ds ms := rfl
theorem fn_ev {m : Env → Ms → T} : fnSem n m ss ms = T.fin (m (start0 n ss) ms) := by
  unfold fnSem T.fin
  cases m (start0 n ss) ms <;> rfl
section
variable {p : Prop} [Decidable p]
@[simp] theorem bind_ite {f : α → Ms → R β} {a b : R α} : (if p then a else b).bind f = if p then a.bind f else b.bind f := by split <;> rfl
@[simp] theorem ofE_ite {f : α → Ms → T} {a b : R α} : T.ofE (if p then a else b) env f = if p then T.ofE a env f else T.ofE b env f := by split <;> rfl
@[simp] theorem seq_ite {a b : T} : (if p then a else b).seq k = if p then a.seq k else b.seq k := by split <;> rfl
@[simp] theorem fin_ite {a b : T} : (if p then a else b).fin = if p then a.fin else b.fin := by split <;> rfl
@[simp] theorem backD_ite {a b : R S} : backD (if p then a else b) ms = if p then backD a ms else backD b ms := by split <;> rfl
@[simp] theorem backL_ite {a b : R S} : backL n (if p then a else b) ms = if p then backL n a ms else backL n b ms := by split <;> rfl
end
/-! data -/
@[simp] theorem view_d : view (.d x) ms = some x := rfl
@[simp] theorem gSet_ev {t : S} : gSet i t env ms = some (env.set i (some t)) := rfl
@[simp] theorem addII {a b : Int} : gAdd (.d (.int a)) (.d (.int b)) ms = .ok (.d (.int (a + b))) ms := rfl
@[simp] theorem subII {a b : Int} : gSubI (.d (.int a)) (.d (.int b)) ms = .ok (.d (.int (a - b))) ms := rfl
@[simp] theorem ltII {a b : Int} : gLt (.d (.int a)) (.d (.int b)) ms = .ok (.d (.bl (decide (a < b)))) ms := rfl
@[simp] theorem leII {a b : Int} : gLe (.d (.int a)) (.d (.int b)) ms = .ok (.d (.bl (decide (a ≤ b)))) ms := rfl
@[simp] theorem gtII {a b : Int} : gGt (.d (.int a)) (.d (.int b)) ms = .ok (.d (.bl (decide (b < a)))) ms := rfl
@[simp] theorem geII {a b : Int} : gGe (.d (.int a)) (.d (.int b)) ms = .ok (.d (.bl (decide (b ≤ a)))) ms := rfl
theorem addSS {a b : Str} (h : a.length + b.length ≤ 1000000) : gAdd (.d (.str a)) (.d (.str b)) ms = .ok (.d (.str (a ++ b))) ms := by
  have e : gAddS (.d (.str a)) (.d (.str b)) ms = .ok (.d (.str (a ++ b))) ms := by
    unfold gAddS
    simp [h]
  unfold gAdd gOr
  rw [show gAddI (.d (.str a)) (.d (.str b)) ms = .bad from rfl]
  simp only [e]
@[simp] theorem eqSS {neg : Bool} {a b : Str} : gEq neg (.d (.str a)) (.d (.str b)) ms = .ok (.d (.bl (if neg = true then a != b else a == b))) ms := rfl
@[simp] theorem eqII {neg : Bool} {a b : Int} : gEq neg (.d (.int a)) (.d (.int b)) ms = .ok (.d (.bl (if neg = true then decide (a ≠ b) else decide (a = b)))) ms := by
  have e : PyData.eqv (.int a) (.int b) = decide (a = b) := by first | rfl | (unfold PyData.eqv; rfl) | (simp [PyData.eqv])
  show R.ok (S.d (D.bl (if neg = true then !PyData.eqv (.int a) (.int b) else PyData.eqv (.int a) (.int b)))) ms = _
  rw [e]
  cases neg <;> simp
@[simp] theorem isN_non {neg : Bool} : gIsN neg (.d .non) (.d .non) ms = .ok (.d (.bl (!neg))) ms := rfl
@[simp] theorem isN_int {neg : Bool} {a : Int} : gIsN neg (.d (.int a)) (.d .non) ms = .ok (.d (.bl neg)) ms := rfl
@[simp] theorem isN_str {neg : Bool} {a : Str} : gIsN neg (.d (.str a)) (.d .non) ms = .ok (.d (.bl neg)) ms := rfl
@[simp] theorem isN_tup {neg : Bool} {a : List D} : gIsN neg (.d (.tup a)) (.d .non) ms = .ok (.d (.bl neg)) ms := rfl
@[simp] theorem isN_obj {neg : Bool} {a : List D} : gIsN neg (.d (.obj c a)) (.d .non) ms = .ok (.d (.bl neg)) ms := rfl
@[simp] theorem len_lst {l : List D} : c1 lenD [.d (.lst l)] ms = .ok (.d (.int l.length)) ms := rfl
@[simp] theorem len_frz {l : List D} : c1 lenD [.d (.frz l)] ms = .ok (.d (.int l.length)) ms := rfl
@[simp] theorem len_tup {l : List D} : c1 lenD [.d (.tup l)] ms = .ok (.d (.int l.length)) ms := rfl
theorem len_str {a : Str} (h : a.length ≤ 1000000) : c1 lenD [.d (.str a)] ms = .ok (.d (.int a.length)) ms := by
  unfold c1 lenD
  simp [h]
@[simp] theorem gIxl {l : List D} {r : Int} : gIx (.d (.lst l)) (.d (.int r)) ms = match L2.atI l r with
  | some d => .ok (.d d) ms
  | none => .bad := rfl
@[simp] theorem gIxt {l : List D} {r : Int} : gIx (.d (.tup l)) (.d (.int r)) ms = match L2.atI l r with
  | some d => .ok (.d d) ms
  | none => .bad := rfl
@[simp] theorem cSeq_l {f : List D → Option D} {l : List D} : cSeq f [.d (.lst l)] ms = match f l with
  | some d => .ok (.d d) ms
  | none => .bad := rfl
@[simp] theorem allD_bl {l : List Bool} : allD (l.map .bl) = some (.bl (l.all id)) := by unfold allD; rw [ofBls_map]; rfl
@[simp] theorem anyD_bl {l : List Bool} : anyD (l.map .bl) = some (.bl (l.any id)) := by unfold anyD; rw [ofBls_map]; rfl
@[simp] theorem sumD_int {l : List Int} : sumD (l.map .int) = some (.int l.sum) := by unfold sumD; rw [ofInts_map]; rfl
@[simp] theorem allD_f {α : Type} {f : α → Bool} {l : List α} : allD (l.map fun x => .bl (f x)) = some (.bl (l.all f)) := by
  rw [show (l.map fun x => D.bl (f x)) = (l.map f).map .bl by rw [List.map_map]; rfl, allD_bl, List.all_map]; rfl
@[simp] theorem allD_c {α : Type} {f : α → Bool} {l : List α} : allD (l.map (D.bl ∘ f)) = some (.bl (l.all f)) := allD_f
@[simp] theorem anyD_f {α : Type} {f : α → Bool} {l : List α} : anyD (l.map fun x => .bl (f x)) = some (.bl (l.any f)) := by
  rw [show (l.map fun x => D.bl (f x)) = (l.map f).map .bl by rw [List.map_map]; rfl, anyD_bl, List.any_map]; rfl
@[simp] theorem anyD_c {α : Type} {f : α → Bool} {l : List α} : anyD (l.map (D.bl ∘ f)) = some (.bl (l.any f)) := anyD_f
theorem gIxs {z : Str} {r : Int} (h : z.length ≤ 1000000) : gIx (.d (.str z)) (.d (.int r)) ms = match L2.atI z.cps.toList r with
  | some c => .ok (.d (.str ⟨#[c]⟩)) ms
  | none => .bad := by
  show (match (match few z.length with
    | true => (L2.atI z.cps.toList r).map fun c => D.str ⟨#[c]⟩
    | false => none) with
    | some d => R.ok (S.d d) ms
    | none => .bad) = _
  rw [few_ev, decide_eq_true h]
  cases L2.atI z.cps.toList r <;> rfl
/-- the text of an int -/
def itx (a : Int) : Str := Str.ofString (toString a)
theorem itx_len {a : Int} (h : a.natAbs < 10 ^ 31) : (itx a).length ≤ 32 := by
  have := PySem.int_text_length_le10 (k := 31) (by decide) h
  unfold itx
  rw [PySem.ofString_length]
  exact this
theorem showI_sm {a : Int} (h : a.natAbs < 10 ^ 31) : showI a = true := by
  unfold showI
  rw [decide_eq_true_eq]
  exact Nat.lt_of_lt_of_le h (Nat.le_trans (by decide : 10 ^ 31 ≤ 2 ^ 104) (Nat.pow_le_pow_right (by decide) (by decide)))
theorem str_int {a : Int} (h : a.natAbs < 10 ^ 31) : c1 strD [.d (.int a)] ms = .ok (.d (.str (itx a))) ms := by
  show (match (match showI a with
    | true => some (D.str (itx a))
    | false => none) with
    | some d => R.ok (S.d d) ms
    | none => .bad) = _
  rw [showI_sm h]
@[simp] theorem str_obj : c1 strD [.d (.obj c ds)] ms = .bad := rfl
@[simp] theorem repr_obj : c1 reprD [.d (.obj c ds)] ms = .bad := rfl
theorem cOr_r {g g' : List S → Ms → R S} (h : g ss ms = .bad) : cOr g g' ss ms = g' ss ms := by unfold cOr; rw [h]
theorem cOr_l {g g' : List S → Ms → R S} (h : g ss ms = .ok s ms1) : cOr g g' ss ms = .ok s ms1 := by unfold cOr; rw [h]
@[simp] theorem strOwn {tab : MTab} : cOr (c1 strD) (cOwn tab) [.d (.obj c ds)] ms = cOwn tab [.d (.obj c ds)] ms := cOr_r rfl
@[simp] theorem reprOwn {tab : MTab} : cOr (c1 reprD) (cOwn tab) [.d (.obj c ds)] ms = cOwn tab [.d (.obj c ds)] ms := cOr_r rfl
@[simp] theorem str_str {a : Str} : c1 strD [.d (.str a)] ms = .ok (.d (.str a)) ms := rfl
theorem fmt_int {a : Int} (h : a.natAbs < 10 ^ 31) : fmtS (.d (.int a)) ms = .ok (.d (.str (itx a))) ms := by
  show (match showI a with
    | true => R.ok (S.d (.str (itx a))) ms
    | false => .bad) = _
  rw [showI_sm h]
theorem fmt_str {a : Str} (h : a.length ≤ 1000000) : fmtS (.d (.str a)) ms = .ok (.d (.str a)) ms := by
  show (match few a.length with
    | true => R.ok (S.d (.str a)) ms
    | false => .bad) = _
  rw [few_ev, decide_eq_true h]
@[simp] theorem ev_fmt : mFmt me env ms = (me env ms).bind fmtS := rfl
def jsK (r : List (Env → Ms → R S)) (acc : Str) (env : Env) (s : S) (ms1 : Ms) : R S := match s with
  | .d (.str y) => match few (acc ++ y).length with
    | true => mJs r (acc ++ y) env ms1
    | false => .bad
  | _ => .bad
@[simp] theorem ev_js0 {acc : Str} : mJs [] acc env ms = .ok (.d (.str acc)) ms := rfl
@[simp] theorem ev_js {acc : Str} {r : List (Env → Ms → R S)} : mJs (me :: r) acc env ms = (me env ms).bind fun s ms1 => jsK r acc env s ms1 := rfl
theorem jsK_str {acc y : Str} {r : List (Env → Ms → R S)} (h : (acc ++ y).length ≤ 1000000) : jsK r acc env (.d (.str y)) ms = mJs r (acc ++ y) env ms := by
  show (match few (acc ++ y).length with
    | true => mJs r (acc ++ y) env ms
    | false => .bad) = _
  rw [few_ev, decide_eq_true h]
@[simp] theorem empty_app {a : Str} : Str.empty ++ a = a := by
  show (⟨#[] ++ a.cps⟩ : Str) = a
  rw [Array.empty_append]
/-! walks -/
@[simp] theorem ev_forL_nil {g : S → Env → Ms → Option Env} : forL none g m [] env ms = .nx env ms := rfl
theorem ev_for {mi : MI} {g : S → Env → Ms → Option Env} : sFor mi g m env ms = T.ofE (mi env ms) env fun xk ms1 => forL xk.2 g m xk.1 env ms1 := rfl
@[simp] theorem itL {l : List D} {mo : Env → Ms → R S} (h : mo env ms = .ok (.d (.lst l)) ms1) : iSeq mo env ms = .ok (l.map S.d, none) ms1 := by
  unfold iSeq iOr iList itD
  rw [h]; rfl
@[simp] theorem itT_ {l : List D} {mo : Env → Ms → R S} (h : mo env ms = .ok (.d (.tup l)) ms1) : iSeq mo env ms = .ok (l.map S.d, none) ms1 := by
  unfold iSeq iOr iList iTup itD itT
  rw [h]; rfl
@[simp] theorem itS_ {z : Str} {mo : Env → Ms → R S} (h : mo env ms = .ok (.d (.str z)) ms1) : iSeq mo env ms = .ok ((signs z).map S.d, none) ms1 := by
  unfold iSeq iOr iList iTup iTxt itD itT itS
  rw [h]; rfl
/-- a comprehension that reads only -/
theorem comp_map {g : S → Env → Ms → Option Env} {tt : Env → Ms → R Bool} {elt : Env → Ms → R S} {vs : List Nat} {env : Env} {ms : Ms} (p : D → Bool) (h : D → D) : ∀ (xs : List D) (acc : List D),
    (∀ x ∈ xs, ∃ e1, g (.d x) (wipeE env vs) ms = some e1 ∧ tt e1 ms = .ok (p x) ms ∧ (p x = true → elt e1 ms = .ok (.d (h x)) ms)) → acc.length + xs.length ≤ 1000000 →
    compL none g tt elt vs env (xs.map S.d) acc ms = .ok (acc ++ (xs.filter p).map h) ms
  | [], acc, _, _ => by simp [compL, chk]
  | x :: xs, acc, hx, hl => by
    obtain ⟨e1, h1, h2, h3⟩ := hx x List.mem_cons_self
    have ih := fun acc' => comp_map (g := g) (tt := tt) (elt := elt) (vs := vs) (env := env) (ms := ms) p h xs acc' (fun y hy => hx y (List.mem_cons_of_mem _ hy))
    simp only [List.map_cons, compL, chk, h1, h2, bind_ok]
    have hl' : acc.length + xs.length + 1 ≤ 1000000 := by simpa [Nat.add_assoc] using hl
    cases hp : p x with
    | false =>
      simp only [List.filter_cons, hp]
      exact ih acc (by omega)
    | true =>
      have f : few acc.length = true := by rw [few_ev, decide_eq_true]; omega
      simp only [h3 hp, bind_ok, f]
      rw [ih (acc ++ [h x]) (by simp; omega)]
      simp [List.filter_cons, hp]
theorem lc_map {mi : MI} {g : S → Env → Ms → Option Env} {tt : Env → Ms → R Bool} {elt : Env → Ms → R S} {vs : List Nat} {env : Env} {ms : Ms} {xs : List D} (p : D → Bool) (h : D → D) (hi : mi env ms = .ok (xs.map S.d, none) ms)
    (hx : ∀ x ∈ xs, ∃ e1, g (.d x) (wipeE env vs) ms = some e1 ∧ tt e1 ms = .ok (p x) ms ∧ (p x = true → elt e1 ms = .ok (.d (h x)) ms)) (hl : xs.length ≤ 1000000) :
    mLc false mi g tt elt vs env ms = .ok (.d (.lst ((xs.filter p).map h))) ms := by
  unfold mLc
  rw [hi]
  simp only [bind_ok]
  rw [comp_map p h xs [] hx (by simpa using hl)]
  rfl
/-- a comprehension with a state -/
theorem comp_inv (P : Ms → Prop) (Q : D → Prop) {g : S → Env → Ms → Option Env} {tt : Env → Ms → R Bool} {elt : Env → Ms → R S} {vs : List Nat} {env : Env} : ∀ (xs : List S) (acc : List D) (ms : Ms), P ms →
    (∀ x ∈ xs, ∀ ms, P ms → ∃ e1 d ms', g x (wipeE env vs) ms = some e1 ∧ tt e1 ms = .ok true ms ∧ elt e1 ms = .ok (.d d) ms' ∧ Q d ∧ P ms') → acc.length + xs.length ≤ 1000000 →
    ∃ ds ms', compL none g tt elt vs env xs acc ms = .ok (acc ++ ds) ms' ∧ ds.length = xs.length ∧ (∀ d ∈ ds, Q d) ∧ P ms'
  | [], acc, ms, p, _, _ => ⟨[], ms, by simp [compL, chk], rfl, (fun _ h => nomatch h), p⟩
  | x :: xs, acc, ms, p, hx, hl => by
    obtain ⟨e1, d, ms', h1, h2, h3, h4, h5⟩ := hx x List.mem_cons_self ms p
    simp only [List.length_cons] at hl
    obtain ⟨ds, ms2, k1, k2, k3, k4⟩ := comp_inv P Q (g := g) (tt := tt) (elt := elt) (vs := vs) (env := env) xs (acc ++ [d]) ms' h5 (fun y hy => hx y (List.mem_cons_of_mem _ hy)) (by simp; omega)
    refine ⟨d :: ds, ms2, ?_, by simp [k2], fun y hy => ?_, k4⟩
    · have f : few acc.length = true := by rw [few_ev, decide_eq_true]; omega
      simp only [compL, chk, h1, h2, h3, bind_ok, f]
      rw [k1]; simp
    · rcases List.mem_cons.mp hy with rfl | hy
      · exact h4
      · exact k3 y hy
theorem lc_inv (P : Ms → Prop) (Q : D → Prop) {mi : MI} {g : S → Env → Ms → Option Env} {tt : Env → Ms → R Bool} {elt : Env → Ms → R S} {vs : List Nat} {env : Env} {ms ms1 : Ms} {xs : List S} (hi : mi env ms = .ok (xs, none) ms1) (p : P ms1)
    (hx : ∀ x ∈ xs, ∀ ms, P ms → ∃ e1 d ms', g x (wipeE env vs) ms = some e1 ∧ tt e1 ms = .ok true ms ∧ elt e1 ms = .ok (.d d) ms' ∧ Q d ∧ P ms') (hl : xs.length ≤ 1000000) :
    ∃ ds ms', mLc false mi g tt elt vs env ms = .ok (.d (.lst ds)) ms' ∧ mLc true mi g tt elt vs env ms = .ok (.loc ms'.length) (ms' ++ [.lst ds]) ∧ ds.length = xs.length ∧ (∀ d ∈ ds, Q d) ∧ P ms' := by
  obtain ⟨ds, ms', k1, k2, k3, k4⟩ := comp_inv P Q (g := g) (tt := tt) (elt := elt) (vs := vs) (env := env) xs [] ms1 p hx (by simpa using hl)
  refine ⟨ds, ms', ?_, ?_, k2, k3, k4⟩
  · unfold mLc
    rw [hi]
    simp only [bind_ok]
    rw [k1]; rfl
  · unfold mLc
    rw [hi]
    simp only [bind_ok]
    rw [k1]; rfl
@[simp] theorem ev_rng1 : Fw.iRng1 mal env ms = (mal env ms).bind itR1 := rfl
@[simp] theorem ev_rng2 : Fw.iRng2 mal env ms = (mal env ms).bind itR2 := rfl
theorem itR1_ev {j : Int} (h0 : 0 ≤ j) (h : j ≤ 1000000) : itR1 [.d (.int j)] ms = .ok (rngS 0 j.toNat, none) ms := by
  unfold itR1
  have : Fw.inR j = true := Fw.inR_is (by omega)
  simp [this]
theorem itR2_ev {i j : Int} (h0 : -1000000 ≤ i) (h1 : i ≤ 1000000) (h2 : -1000000 ≤ j) (h3 : j ≤ 1000000) : itR2 [.d (.int i), .d (.int j)] ms = .ok (rngS i (j - i).toNat, none) ms := by
  unfold itR2
  have e1 : Fw.inR i = true := Fw.inR_is (by omega)
  have e2 : Fw.inR j = true := Fw.inR_is (by omega)
  simp [e1, e2]
theorem mem_rng {lo : Int} {n : Nat} {x : S} (h : x ∈ rngS lo n) : ∃ i : Nat, i < n ∧ x = .d (.int (lo + i)) := by
  unfold rngS at h
  obtain ⟨i, hi, rfl⟩ := List.mem_map.mp h
  exact ⟨i, List.mem_range.mp hi, rfl⟩
@[simp] theorem rng_len {lo : Int} {n : Nat} : (rngS lo n).length = n := by simp [rngS]
@[simp] theorem atI_zero {α : Type} {x : α} {l : List α} : L2.atI (x :: l) 0 = some x := by
  unfold L2.atI L2.ixN
  simp
@[simp] theorem ixN_zero {n : Nat} : L2.ixN (n + 1) 0 = some 0 := by unfold L2.ixN; simp
@[simp] theorem gIx_loc {r : Int} : gIx (.loc n) (.d (.int r)) ms = match ms[n]? with
  | some (.lst l) => (match L2.atI l r with
    | some d => .ok (.d d) ms
    | none => .bad)
  | _ => .bad := by
  have e : view (.loc n) ms = match ms[n]? with
      | some (.lst ds) => some (.lst ds)
      | _ => none := rfl
  unfold gIx
  dsimp only
  rw [e]
  cases ms[n]? with
  | none => rfl
  | some c => cases c <;> rfl
@[simp] theorem ev_sub : sSub me mo ma env ms = T.ofE (me env ms) env fun y ms1 => T.ofE (mo env ms1) env fun x ms2 => T.ofE (ma env ms2) env fun i ms3 => match x, y, i with
  | .loc n, .d v, .d (.int i) => match ms3[n]? with
    | some (.lst ds) => match L2.ixN ds.length i with
      | some j => .nx env (ms3.set n (.lst (ds.set j v)))
      | none => .bad
    | _ => .bad
  | _, _, _ => .bad := rfl
@[simp] theorem ev_bm {b : BT} {g : S → List S → Ms → R S} : mBM b g mo mal env ms = (mo env ms).bind fun x ms1 => if tyS b x ms1 = true then (mal env ms1).bind fun xs ms2 => g x xs ms2 else .bad := by
  unfold mBM
  congr 1; funext x ms1
  cases tyS b x ms1 <;> rfl
@[simp] theorem tyS_str {z : Str} : tyS .str (.d (.str z)) ms = true := rfl
@[simp] theorem tyS_lst {l : List D} : tyS .list (.d (.lst l)) ms = true := rfl
@[simp] theorem tyS_loc : tyS .list (.loc n) ms = match ms[n]? with
  | some (.lst _) => true
  | _ => false := rfl
/-- it goes on, and then P -/
def Nx (t : T) (P : Env → Ms → Prop) : Prop := ∃ e m, t = .nx e m ∧ P e m
theorem Nx_nx {P : Env → Ms → Prop} (h : P env ms) : Nx (.nx env ms) P := ⟨env, ms, rfl, h⟩
theorem Nx_mono {t : T} {P Q : Env → Ms → Prop} (h : Nx t P) (hq : ∀ e m, P e m → Q e m) : Nx t Q := let ⟨e, m, h1, h2⟩ := h; ⟨e, m, h1, hq e m h2⟩
theorem Nx_seq {t : T} {P1 P : Env → Ms → Prop} (h : Nx t P1) (h2 : ∀ e m, P1 e m → Nx (k e m) P) : Nx (t.seq k) P := by
  obtain ⟨e, m, rfl, p⟩ := h
  exact h2 e m p
theorem Nx_for {mi : MI} {g : S → Env → Ms → Option Env} {body : Env → Ms → T} {P : Env → Ms → Prop} {xs : List S} (hi : mi env ms = .ok (xs, none) ms1) (h0 : P env ms1) (h : ∀ x ∈ xs, ∀ e m, P e m → ∃ e1, g x e m = some e1 ∧ Nx (body e1 m) P) : Nx (sFor mi g body env ms) P := by
  obtain ⟨e2, m2, h1, h2⟩ := forL_inv (g := g) (m := body) P (xs := xs) (fun x hx e m p => by
    obtain ⟨e1, h1, e2, m2, h3, h4⟩ := h x hx e m p
    exact ⟨e1, e2, m2, h1, h3, h4⟩) h0
  exact ⟨e2, m2, by rw [for_ok hi]; exact h1, h2⟩
theorem forL_idx {g : S → Env → Ms → Option Env} {body : Env → Ms → T} (P : Nat → Env → Ms → Prop) : ∀ (xs : List S) (i : Nat) (env : Env) (ms : Ms), P i env ms → (∀ j x, xs[j]? = some x → ∀ e m, P (i + j) e m → ∃ e1, g x e m = some e1 ∧ Nx (body e1 m) (P (i + j + 1))) → Nx (forL none g body xs env ms) (P (i + xs.length))
  | [], i, env, ms, p, _ => ⟨env, ms, rfl, p⟩
  | x :: xs, i, env, ms, p, h => by
    obtain ⟨e1, h1, e2, m2, h2, p2⟩ := h 0 x rfl env ms p
    have := forL_idx P xs (i + 1) e2 m2 p2 (fun j y hy e m pe => by
      have := h (j + 1) y (by simpa using hy) e m (by rw [show i + (j + 1) = i + 1 + j by omega]; exact pe)
      rw [show i + (j + 1) + 1 = i + 1 + j + 1 by omega] at this
      exact this)
    rw [show i + 1 + xs.length = i + (x :: xs).length by simp; omega] at this
    obtain ⟨e3, m3, h3, p3⟩ := this
    exact ⟨e3, m3, by rw [forL_cons h1, h2]; exact h3, p3⟩
theorem Nx_forI {mi : MI} {g : S → Env → Ms → Option Env} {body : Env → Ms → T} {P : Nat → Env → Ms → Prop} {xs : List S} (hi : mi env ms = .ok (xs, none) ms1) (h0 : P 0 env ms1) (h : ∀ j x, xs[j]? = some x → ∀ e m, P j e m → ∃ e1, g x e m = some e1 ∧ Nx (body e1 m) (P (j + 1))) : Nx (sFor mi g body env ms) (P xs.length) := by
  obtain ⟨e2, m2, h1, h2⟩ := forL_idx (g := g) (body := body) P xs 0 env ms1 h0 (fun j x hx e m pe => by
    have := h j x hx e m (by simpa using pe)
    simpa using this)
  exact ⟨e2, m2, by rw [for_ok hi]; exact h1, by simpa using h2⟩
theorem fin_seq {t : T} {P : Env → Ms → Prop} {v : S} (h : Nx t P) (h2 : ∀ e m, P e m → ∃ ms', (k e m).fin = .ok v ms') : ∃ ms', (t.seq k).fin = .ok v ms' := by
  obtain ⟨e, m, rfl, p⟩ := h
  exact h2 e m p
@[simp] theorem maxI_ev {a b : Int} : c2 maxI [.d (.int a), .d (.int b)] ms = .ok (.d (.int (max a b))) ms := by
  show R.ok (S.d (.int (if b > a then b else a))) ms = _
  congr 3
  split <;> omega
@[simp] theorem minI_ev {a b : Int} : c2 minI [.d (.int a), .d (.int b)] ms = .ok (.d (.int (min a b))) ms := by
  show R.ok (S.d (.int (if b < a then b else a))) ms = _
  congr 3
  split <;> omega
/-- one of a list -/
theorem atI_mem {l : List D} {r : Int} (h0 : 0 ≤ r) (h1 : r < l.length) : ∃ v, L2.atI l r = some v ∧ v ∈ l := by
  have hr : r.toNat < l.length := by omega
  refine ⟨l[r.toNat], ?_, List.getElem_mem hr⟩
  unfold L2.atI L2.ixN
  rw [if_pos h0, if_pos h1]
  simp [hr]
/-- a class called -/
@[simp] theorem getC_last {ms : Ms} {c : Cell} : getC (ms ++ [c]) ms.length = c := by simp
@[simp] theorem set_last {ms : Ms} {c c' : Cell} : (ms ++ [c]).set ms.length c' = ms ++ [c'] := by simp
theorem mk_ok {c : Nat} {fs : List Str} {f : List S → Ms → R S} {pk : List Nat} {ss : List S} {xs : List D} {ms : Ms} {kvs : List (Str × D)} (hp : pick pk (.loc ms.length :: ss ++ []) = .loc ms.length :: xs.map .d)
    (h : f (.loc 0 :: xs.map .d) [.ins c []] = .ok (.d .non) [.ins c kvs]) (hk : kvs.map (·.1) = fs) : mkS c fs (bndS f pk []) ss ms = .ok (.d (.obj c (kvs.map (·.2)))) ms := by
  have e : bndS f pk [] (.loc ms.length :: ss) (ms ++ [.ins c []]) = .ok (.d .non) (ms ++ [.ins c kvs]) := by
    show callSem f (pick pk (.loc ms.length :: ss ++ [])) (ms ++ [.ins c []]) = _
    rw [hp, call_lds, getC_last, h, backL_d, set_last]
  unfold mkS
  rw [e]
  have e1 : Nat.beq (ms ++ [Cell.ins c kvs]).length (ms.length + 1) = true := by rw [List.length_append]; exact Nat.beq_refl _
  have e2 : (ms ++ [Cell.ins c kvs])[ms.length]? = some (.ins c kvs) := by simp
  dsimp only
  rw [e1, e2]
  dsimp only
  rw [Nat.beq_refl, decide_eq_true hk, List.dropLast_concat]; rfl
theorem mk_ex {c k : Nat} {fs : List Str} {f : List S → Ms → R S} {pk : List Nat} {ss : List S} {xs : List D} {ms : Ms} {c' : Cell} {es : List D} (hp : pick pk (.loc ms.length :: ss ++ []) = .loc ms.length :: xs.map .d)
    (h : f (.loc 0 :: xs.map .d) [.ins c []] = .ex k es [c']) : mkS c fs (bndS f pk []) ss ms = .ex k es ms := by
  have e : bndS f pk [] (.loc ms.length :: ss) (ms ++ [.ins c []]) = .ex k es (ms ++ [c']) := by
    show callSem f (pick pk (.loc ms.length :: ss ++ [])) (ms ++ [.ins c []]) = _
    rw [hp, call_lds, getC_last, h, backL_ex, set_last]
  unfold mkS
  rw [e]
  have e1 : Nat.beq (ms ++ [c']).length (ms.length + 1) = true := by rw [List.length_append]; exact Nat.beq_refl _
  dsimp only
  rw [e1, List.dropLast_concat]
theorem lc_all {mi : MI} {g : S → Env → Ms → Option Env} {tt : Env → Ms → R Bool} {elt : Env → Ms → R S} {vs : List Nat} {env : Env} {ms : Ms} {xs : List D} (h : D → D) (hi : mi env ms = .ok (xs.map S.d, none) ms)
    (hx : ∀ x ∈ xs, ∃ e1, g (.d x) (wipeE env vs) ms = some e1 ∧ tt e1 ms = .ok true ms ∧ elt e1 ms = .ok (.d (h x)) ms) (hl : xs.length ≤ 1000000) :
    mLc false mi g tt elt vs env ms = .ok (.d (.lst (xs.map h))) ms := by
  rw [lc_map (fun _ => true) h hi (fun x hx' => let ⟨e1, h1, h2, h3⟩ := hx x hx'; ⟨e1, h1, h2, fun _ => h3⟩) hl, List.filter_eq_self.mpr fun _ _ => rfl]
end
end Fw
set_option Elab.async false
set_option linter.all false
set_option maxRecDepth 100000
set_option maxHeartbeats 1000000
/-! Tx0: texts: digits, cuts (plain Lean). -/
namespace Fw
open PySem L2
def isDig (c : Nat) : Bool := decide (48 ≤ c) && decide (c ≤ 57)
/-- the signs of a number without a needless zero, at most nine -/
def numB (l : List Nat) : Bool := decide (0 < l.length) && (decide (l.length ≤ 9) && (l.all isDig && !(decide (l[0]? = some 48) && decide (1 < l.length))))
def numO (z : Str) : D := if numB (TL.tl z) = true then .int (NumText.digitsVal (TL.tl z)) else .non
theorem digits10 : TL.tl (Str.ofString "0123456789") = [48, 49, 50, 51, 52, 53, 54, 55, 56, 57] := by decide +kernel
theorem mem_digits (c : Nat) : decide (c ∈ TL.tl (Str.ofString "0123456789")) = isDig c := by
  rw [digits10]
  unfold isDig
  by_cases h : 48 ≤ c ∧ c ≤ 57
  · rw [decide_eq_true h.1, decide_eq_true h.2]
    have : c ∈ [48, 49, 50, 51, 52, 53, 54, 55, 56, 57] := by
      simp only [List.mem_cons, List.not_mem_nil, or_false]; omega
    rw [decide_eq_true this]; rfl
  · have : ¬ c ∈ [48, 49, 50, 51, 52, 53, 54, 55, 56, 57] := by
      simp only [List.mem_cons, List.not_mem_nil, or_false]; omega
    rw [decide_eq_false this]
    by_cases h1 : 48 ≤ c
    · rw [decide_eq_true h1, decide_eq_false (by omega)]; rfl
    · rw [decide_eq_false h1]; rfl
theorem inDig {c : Nat} {neg : Bool} {ms : Ms} : gIn neg (.d (.str ⟨#[c]⟩)) (.d (.str "0123456789")) ms = .ok (.d (.bl (if neg = true then !isDig c else isDig c))) ms := by
  rw [← mem_digits]; rfl
theorem isDig_iff {c : Nat} : isDig c = true ↔ 48 ≤ c ∧ c ≤ 57 := by unfold isDig; simp
theorem allDig_iff {l : List Nat} : l.all isDig = true ↔ NumText.AllDigits l := by
  rw [List.all_eq_true]
  exact ⟨fun h c hc => isDig_iff.mp (h c hc), fun h c hc => isDig_iff.mpr (h c hc)⟩
theorem str_ext {a b : Str} (h : TL.tl a = TL.tl b) : a = b := by
  obtain ⟨a⟩ := a
  obtain ⟨b⟩ := b
  have : a = b := Array.toList_inj.mp h
  rw [this]
theorem str_len (a : Str) : a.length = (TL.tl a).length := by simp [Str.length]
theorem rev_ind {α : Type} {P : List α → Prop} (h0 : P []) (h1 : ∀ l c, P l → P (l ++ [c])) (l : List α) : P l := by
  have : ∀ l : List α, P l.reverse := fun l => by
    induction l with
    | nil => exact h0
    | cons c l ih => rw [List.reverse_cons]; exact h1 _ c ih
  have := this l.reverse
  rwa [List.reverse_reverse] at this
/-- the value of digits, the last one apart -/
theorem val_snoc (l : List Nat) (c : Nat) : NumText.digitsVal (l ++ [c]) = NumText.digitsVal l * 10 + (c - 48) := by
  unfold NumText.digitsVal
  rw [List.foldl_append]; rfl
theorem val_pos : ∀ (l : List Nat), l ≠ [] → NumText.AllDigits l → l[0]? ≠ some 48 → 0 < NumText.digitsVal l := by
  have key : ∀ (l : List Nat) (a : Nat), 0 < a → 0 < l.foldl (fun acc c => acc * 10 + (c - 48)) a := by
    intro l
    induction l with
    | nil => intro a h; exact h
    | cons c l ih => intro a h; exact ih (a * 10 + (c - 48)) (by omega)
  intro l hl hd h0
  cases l with
  | nil => exact absurd rfl hl
  | cons c l =>
    unfold NumText.digitsVal
    rw [List.foldl_cons]
    refine key l _ ?_
    have := hd.head
    have : c ≠ 48 := fun z => h0 (by rw [z]; rfl)
    omega
/-- digits without a needless zero are the text of their value -/
theorem num_back : ∀ (l : List Nat), l ≠ [] → NumText.AllDigits l → (l[0]? = some 48 → l.length = 1) → TL.numL (NumText.digitsVal l) = l := by
  refine rev_ind (fun h => absurd rfl h) fun l c ih => ?_
  · intro _ hd h0
    have hc := hd c (by simp)
    rw [val_snoc]
    cases l with
    | nil =>
      have e : NumText.digitsVal [] * 10 + (c - 48) = c - 48 := by simp [NumText.digitsVal]
      rw [e, TL.numL_lt (by omega)]
      have : 48 + (c - 48) = c := by omega
      rw [this]; rfl
    | cons b l =>
      have hl : NumText.AllDigits (b :: l) := fun x hx => hd x (List.mem_append_left _ hx)
      have h48 : (b :: l)[0]? ≠ some 48 := fun z => by
        have := h0 (by simpa using z)
        simp at this
      have pos := val_pos (b :: l) (by simp) hl h48
      rw [TL.numL_step (by omega)]
      have e1 : (NumText.digitsVal (b :: l) * 10 + (c - 48)) / 10 = NumText.digitsVal (b :: l) := by omega
      have e2 : 48 + (NumText.digitsVal (b :: l) * 10 + (c - 48)) % 10 = c := by omega
      rw [e1, e2, ih (by simp) hl (fun z => absurd z h48)]
theorem numB_spec {l : List Nat} (h : numB l = true) : 0 < l.length ∧ l.length ≤ 9 ∧ NumText.AllDigits l ∧ TL.numL (NumText.digitsVal l) = l := by
  unfold numB at h
  simp only [Bool.and_eq_true, decide_eq_true_eq, Bool.not_eq_true', Bool.and_eq_false_iff, decide_eq_false_iff_not] at h
  obtain ⟨h1, h2, h3, h4⟩ := h
  have hd := allDig_iff.mp h3
  refine ⟨h1, h2, hd, num_back l (fun z => by subst z; simp at h1) hd fun z => ?_⟩
  rcases h4 with h4 | h4
  · exact absurd z h4
  · omega
theorem tl_str (n : Nat) : TL.tl (Str.ofString (toString ((n : Nat) : Int))) = TL.numL n := TL.tl_num n
theorem num_text {z : Str} (h : numB (TL.tl z) = true) : Str.ofString (toString ((NumText.digitsVal (TL.tl z) : Nat) : Int)) = z := str_ext ((tl_str _).trans (numB_spec h).2.2.2)
theorem val_lt : ∀ (l : List Nat), NumText.AllDigits l → NumText.digitsVal l < 10 ^ l.length := by
  refine rev_ind (fun _ => by simp [NumText.digitsVal]) fun l c ih => ?_
  · intro hd
    have hc := hd c (by simp)
    have := ih (fun x hx => hd x (List.mem_append_left _ hx))
    rw [val_snoc, List.length_append, List.length_singleton, Nat.pow_succ]
    omega
theorem num_lt {l : List Nat} (h : numB l = true) : NumText.digitsVal l < 1000000000 := by
  obtain ⟨h1, h2, h3, _⟩ := numB_spec h
  have := val_lt l h3
  have : 10 ^ l.length ≤ 10 ^ 9 := Nat.pow_le_pow_right (by decide) h2
  omega
theorem no_dot {l : List Nat} (h : numB l = true) : 46 ∉ l := fun z => by
  have := (numB_spec h).2.2.1 46 z
  omega
/-! cuts -/
def dots : List Nat := [46, 46]
theorem tl_dots : TL.tl (Str.ofString "..") = dots := by decide +kernel
theorem spl_par : ∀ (l acc : List Nat), TL.spl dots 0 acc l = (match TL.par dots acc l with
    | none => [acc ++ l]
    | some (a, b) => a :: TL.spl dots 0 [] b)
  | [], acc => by simp [TL.spl, TL.par]
  | c :: r, acc => by
    cases h : TL.pre dots (c :: r) with
    | true =>
      rw [TL.spl_hit h, TL.par_hit h, TL.spl_pass]
      simp [dots]
    | false =>
      rw [TL.spl_miss h, TL.par_miss h, spl_par r (acc ++ [c])]
      cases TL.par dots (acc ++ [c]) r with
      | none => simp
      | some p => rfl
theorem par_sound : ∀ (l acc : List Nat) {a b : List Nat}, TL.par dots acc l = some (a, b) → acc ++ l = a ++ (dots ++ b)
  | [], acc, a, b, h => by simp [TL.par] at h
  | c :: r, acc, a, b, h => by
    cases hp : TL.pre dots (c :: r) with
    | true =>
      rw [TL.par_hit hp] at h
      cases h
      have e : (c :: r).take dots.length = dots := eq_of_beq hp
      have := List.take_append_drop dots.length (c :: r)
      rw [e] at this
      rw [this]
    | false =>
      rw [TL.par_miss hp] at h
      have := par_sound r (acc ++ [c]) h
      simpa using this
theorem spl_mem (S : List Nat) : ∀ (l : List Nat) (k : Nat) (acc : List Nat), ∀ p ∈ TL.spl S k acc l, ∀ c ∈ p, c ∈ acc ++ l
  | [], k, acc, p, h, c, hc => by
    rw [TL.spl_nil] at h
    rcases List.mem_singleton.mp h with rfl
    simpa using hc
  | d :: r, 0, acc, p, h, c, hc => by
    cases hp : TL.pre S (d :: r) with
    | true =>
      rw [TL.spl_hit hp] at h
      rcases List.mem_cons.mp h with rfl | h
      · simp [hc]
      · have := spl_mem S r _ _ p h c hc
        simp at this; simp [this]
    | false =>
      rw [TL.spl_miss hp] at h
      have := spl_mem S r _ _ p h c hc
      simpa using this
  | d :: r, k + 1, acc, p, h, c, hc => by
    have := spl_mem S r k acc p h c hc
    simp at this
    rcases this with h | h <;> simp [h]
theorem spl_len (S : List Nat) : ∀ (l : List Nat) (k : Nat) (acc : List Nat), (TL.spl S k acc l).length ≤ l.length + 1 ∧ ∀ p ∈ TL.spl S k acc l, p.length ≤ acc.length + l.length
  | [], k, acc => by rw [TL.spl_nil]; simp
  | d :: r, 0, acc => by
    cases hp : TL.pre S (d :: r) with
    | true =>
      rw [TL.spl_hit hp]
      obtain ⟨h1, h2⟩ := spl_len S r (S.length - 1) []
      refine ⟨by simp; omega, fun p h => ?_⟩
      rcases List.mem_cons.mp h with rfl | h
      · simp
      · have := h2 p h
        simp at this ⊢; omega
    | false =>
      rw [TL.spl_miss hp]
      obtain ⟨h1, h2⟩ := spl_len S r 0 (acc ++ [d])
      refine ⟨by simp; omega, fun p h => ?_⟩
      have := h2 p h
      simp at this ⊢; omega
  | d :: r, k + 1, acc => by
    obtain ⟨h1, h2⟩ := spl_len S r k acc
    refine ⟨?_, fun p h => ?_⟩
    · have : TL.spl S (k + 1) acc (d :: r) = TL.spl S k acc r := rfl
      rw [this]; simp; omega
    · have := h2 p h
      simp; omega
theorem spl_two {l : List Nat} : TL.par dots [] l = none → TL.spl dots 0 [] l = [l] := fun h => by rw [spl_par, h]; rfl
theorem par_dot {l a b : List Nat} (h : TL.par dots [] l = some (a, b)) : 46 ∈ l := by
  have := par_sound l [] h
  rw [List.nil_append] at this
  rw [this]; simp [dots]
end Fw
set_option Elab.async false
set_option linter.all false
set_option maxRecDepth 100000
set_option maxHeartbeats 1000000
/-! Rp0: data that has a repr and that == takes (plain Lean). -/
namespace Fw
open PySem L2
structure Rp (k W : Nat) (d : D) (p : PyData) : Prop where
  to : toP d = some p
  sh : p.showable = true
  dp : p.depth ≤ k
  nd : p.hasDict = false
  lv : p.leavesShort 40 = true
  wt : p.weight ≤ W
  cl : p.canLay0 = true
def Rep (k W : Nat) (d : D) : Prop := ∃ p, Rp k W d p
theorem Rep.mono {k k' W W' : Nat} {d : D} (h : Rep k W d) (h1 : k ≤ k') (h2 : W ≤ W') : Rep k' W' d := let ⟨p, r⟩ := h; ⟨p, r.to, r.sh, Nat.le_trans r.dp h1, r.nd, r.lv, Nat.le_trans r.wt h2, r.cl⟩
theorem rep_int {a : Int} (h : a.natAbs < 10 ^ 31) : Rep 0 104 (.int a) := by
  have hl : a.natAbs.log2 < 104 := PySem.Flt.log2_lt_of (by decide) (Nat.lt_of_lt_of_le h (by decide))
  refine ⟨.int a, rfl, ?_, Nat.le_refl _, rfl, ?_, ?_, rfl⟩
  · simp only [PyData.showable, decide_eq_true_eq]; omega
  · simp only [PyData.leavesShort, decide_eq_true_eq]
    rw [PyData.shown_int]
    exact Nat.le_trans (show (itx a).length ≤ 32 from itx_len h) (by decide)
  · simp only [PyData.weight]
    split <;> omega
/-- plain signs -/
def Asc (x : Str) : Prop := ∀ c ∈ TL.tl x, c < 128
def ascB (l : List Nat) : Bool := l.all fun c => decide (c < 128)
theorem asc_iff {x : Str} : Asc x ↔ ascB (TL.tl x) = true := by
  unfold Asc ascB
  rw [List.all_eq_true]
  exact ⟨fun h c hc => decide_eq_true (h c hc), fun h c hc => of_decide_eq_true (h c hc)⟩
theorem asc_app {x y : Str} (h : Asc x) (h2 : Asc y) : Asc (x ++ y) := by
  intro c hc
  have e : TL.tl (x ++ y) = TL.tl x ++ TL.tl y := by
    show (x.cps ++ y.cps).toList = _
    rw [Array.toList_append]
  rw [e] at hc
  rcases List.mem_append.mp hc with z | z
  · exact h c z
  · exact h2 c z
theorem asc_nat (n : Nat) : Asc (itx (n : Int)) := fun c hc => by
  have e : TL.tl (itx (n : Int)) = TL.numL n := tl_str n
  rw [e] at hc
  have := TL.numL_digits n c hc
  omega
theorem asc_itx (a : Int) : Asc (itx a) := by
  by_cases h : 0 ≤ a
  · obtain ⟨n, rfl⟩ := Int.eq_ofNat_of_zero_le h
    exact asc_nat n
  · obtain ⟨n, hn⟩ : ∃ n : Nat, a = -(n : Int) := ⟨a.natAbs, by omega⟩
    subst hn
    have hp : n ≠ 0 := by omega
    have e : (toString (-(n : Int)) : String) = "-" ++ toString (n : Int) := by
      cases n with
      | zero => exact absurd rfl hp
      | succ n => rfl
    intro c hc
    have hc : c ∈ (Str.ofString (toString (-(n : Int)))).cps.toList := by unfold itx at hc; exact hc
    rw [PySem.Str.ofString_eq_toList] at hc
    simp only [List.mem_map] at hc
    obtain ⟨ch, h1, rfl⟩ := hc
    rw [e, String.toList_append] at h1
    rcases List.mem_append.mp h1 with h1 | h1
    · have : ch = '-' := by simpa using h1
      subst this; decide
    · refine asc_nat n _ ?_
      unfold itx
      show _ ∈ (Str.ofString (toString (n : Int))).cps.toList
      rw [PySem.Str.ofString_eq_toList]
      exact List.mem_map_of_mem h1
theorem rep_str {x : Str} {n : Nat} (h : Asc x) (hl : x.length ≤ n) : Rep 0 n (.str x) := by
  refine ⟨.str x, rfl, rfl, Nat.le_refl _, rfl, ?_, ?_, ?_⟩
  · simp only [PyData.leavesShort, List.all_eq_true, decide_eq_true_eq]
    exact fun c hc => Nat.lt_of_lt_of_le (h c hc) (by decide)
  · simp only [PyData.weight]; exact hl
  · simp only [PyData.canLay0, PyData.strOk]
    rw [← Array.all_toList, List.all_eq_true]
    intro c hc
    have := h c hc
    exact decide_eq_true (by omega)
theorem rep_bl (b : Bool) : Rep 0 0 (.bl b) := ⟨.bool b, rfl, rfl, Nat.le_refl _, rfl, rfl, by simp [PyData.weight], rfl⟩
theorem rep_non : Rep 0 0 .non := ⟨.none, rfl, rfl, Nat.le_refl _, rfl, rfl, by simp [PyData.weight], rfl⟩
theorem reps {k W : Nat} : ∀ {l : List D}, (∀ x ∈ l, Rep k W x) → ∃ ps, toPs l = some ps ∧ PyData.showableAll ps = true ∧ PyData.depthAll ps ≤ k ∧ PyData.hasDictAll ps = false ∧ PyData.leavesShortAll 40 ps = true ∧ PyData.weightAll ps ≤ l.length * (W + 1) ∧ PyData.canLayAll0 ps = true
  | [], _ => ⟨[], rfl, rfl, Nat.zero_le _, rfl, rfl, by simp [PyData.weightAll], rfl⟩
  | x :: l, h => by
    obtain ⟨p, r⟩ := h x List.mem_cons_self
    obtain ⟨ps, h1, h2, h3, h4, h5, h6, h7⟩ := reps fun y hy => h y (List.mem_cons_of_mem _ hy)
    refine ⟨p :: ps, ?_, ?_, ?_, ?_, ?_, ?_, ?_⟩
    · simp only [toPs, r.to, h1, Option.bind_some, Option.map_some]
    · simp only [PyData.showableAll, r.sh, h2, Bool.and_self]
    · simp only [PyData.depthAll]; exact Nat.max_le.mpr ⟨r.dp, h3⟩
    · simp only [PyData.hasDictAll, r.nd, h4, Bool.or_self]
    · simp only [PyData.leavesShortAll, r.lv, h5, Bool.and_self]
    · simp only [PyData.weightAll, List.length_cons]
      have := r.wt
      rw [Nat.add_mul]; omega
    · simp only [PyData.canLayAll0, r.cl, h7, Bool.and_self]
theorem rep_tup {k W : Nat} {l : List D} (h : ∀ x ∈ l, Rep k W x) : Rep (k + 1) (l.length * (W + 1)) (.tup l) := by
  obtain ⟨ps, h1, h2, h3, h4, h5, h6, h7⟩ := reps h
  refine ⟨.tuple ps, ?_, ?_, ?_, ?_, ?_, ?_, ?_⟩
  · simp only [toP, h1, Option.map_some]
  · simp only [PyData.showable]; exact h2
  · simp only [PyData.depth]; omega
  · simp only [PyData.hasDict]; exact h4
  · simp only [PyData.leavesShort]; exact h5
  · simp only [PyData.weight]; exact h6
  · simp only [PyData.canLay0]; exact h7
theorem rep_lst {k W : Nat} {l : List D} (h : ∀ x ∈ l, Rep k W x) : Rep (k + 1) (l.length * (W + 1)) (.lst l) := by
  obtain ⟨ps, h1, h2, h3, h4, h5, h6, h7⟩ := reps h
  refine ⟨.list ps, ?_, ?_, ?_, ?_, ?_, ?_, ?_⟩
  · simp only [toP, h1, Option.map_some]
  · simp only [PyData.showable]; exact h2
  · simp only [PyData.depth]; omega
  · simp only [PyData.hasDict]; exact h4
  · simp only [PyData.leavesShort]; exact h5
  · simp only [PyData.weight]; exact h6
  · simp only [PyData.canLay0]; exact h7
/-- its repr -/
def reprO (d : D) : Str := match toP d with
  | some p => p.shown
  | none => Str.empty
theorem repr_ok {k W : Nat} {d : D} (h : Rep k W d) (hk : k ≤ 40) (hW : W ≤ 20000) {ms : Ms} : c1 reprD [.d d] ms = .ok (.d (.str (reprO d))) ms := by
  obtain ⟨p, r⟩ := h
  have hs := PyData.shown_le 40 (by decide) p r.lv
  have hb : (p.showable && decide (p.depth ≤ 40) && few p.shown.length && !p.hasDict) = true := by
    rw [r.sh, r.nd, decide_eq_true (by have := r.dp; omega : p.depth ≤ 40), few_ev, decide_eq_true (by have := r.wt; omega : p.shown.length ≤ 1000000)]
    rfl
  have e : reprD d = some (.str p.shown) := by
    unfold reprD
    rw [r.to]
    show (match (p.showable && decide (p.depth ≤ 40) && few p.shown.length && !p.hasDict) with
      | true => some (D.str p.shown)
      | false => none) = _
    rw [hb]
  have e2 : reprO d = p.shown := by unfold reprO; rw [r.to]
  show (match (some d).bind reprD with
    | some d => R.ok (S.d d) ms
    | none => .bad) = _
  rw [show (some d).bind reprD = some (.str p.shown) from e, e2]
theorem shaped_of {k W : Nat} {d : D} (h : Rep k W d) (hk : k ≤ 64) : ∃ p, toP d = some p ∧ shapedD d = some p := by
  obtain ⟨p, r⟩ := h
  refine ⟨p, r.to, ?_⟩
  have : SeqAt.shaped p = true := by
    unfold SeqAt.shaped
    rw [r.cl, decide_eq_true (Nat.le_trans r.dp hk)]; rfl
  unfold shapedD
  rw [r.to]
  show (match SeqAt.shaped p with
    | true => some p
    | false => none) = _
  rw [this]
/-- == of two such data -/
def eqD (d e : D) : Bool := match toP d, toP e with
  | some p, some q => PyData.eqv p q
  | _, _ => false
theorem eq_rep {k W k' W' : Nat} {d e : D} {neg : Bool} {ms : Ms} (h : Rep k W d) (hk : k ≤ 64) (h' : Rep k' W' e) (hk' : k' ≤ 64) : gEqD neg (.d d) (.d e) ms = .ok (.d (.bl (if neg = true then !eqD d e else eqD d e))) ms := by
  obtain ⟨p, h1, h2⟩ := shaped_of h hk
  obtain ⟨q, h3, h4⟩ := shaped_of h' hk'
  have e1 : eqD d e = PyData.eqv p q := by unfold eqD; rw [h1, h3]
  rw [e1]
  unfold gEqD
  show (match shapedD d, shapedD e with
    | some p, some q => R.ok (S.d (D.bl (if neg = true then !PyData.eqv p q else PyData.eqv p q))) ms
    | _, _ => .bad) = _
  rw [h2, h4]
theorem gEq_not {neg : Bool} {d e : D} {ms : Ms} (h : gEqS neg (.d d) (.d e) ms = .bad) : gEq neg (.d d) (.d e) ms = gEqD neg (.d d) (.d e) ms := by
  unfold gEq gOr
  rw [h]
theorem eq_lnil {neg : Bool} {k W : Nat} {l : List D} {ms : Ms} (h : Rep k W (.lst l)) (hk : k ≤ 64) : gEq neg (.d (.lst l)) (.d (.lst [])) ms = .ok (.d (.bl (if neg = true then !l.isEmpty else l.isEmpty))) ms := by
  rw [gEq_not rfl, eq_rep h hk (rep_lst (k := 0) (W := 0) (l := []) (fun _ h => nomatch h)) (by decide)]
  have : eqD (.lst l) (.lst []) = l.isEmpty := by
    obtain ⟨p, r⟩ := h
    have := r.to
    simp only [toP, Option.map_eq_some_iff] at this
    obtain ⟨ps, h1, rfl⟩ := this
    have e : eqD (.lst l) (.lst []) = PyData.eqv (.list ps) (.list []) := by unfold eqD; rw [r.to]; rfl
    rw [e]
    cases l with
    | nil => cases h1; rfl
    | cons x l =>
      simp only [toPs, Option.bind_eq_some_iff, Option.map_eq_some_iff] at h1
      obtain ⟨p1, _, ps', _, rfl⟩ := h1
      rfl
  rw [this]
theorem eq_tnil {neg : Bool} {k W : Nat} {l : List D} {ms : Ms} (h : Rep k W (.tup l)) (hk : k ≤ 64) : gEq neg (.d (.tup l)) (.d (.tup [])) ms = .ok (.d (.bl (if neg = true then !l.isEmpty else l.isEmpty))) ms := by
  rw [gEq_not rfl, eq_rep h hk (rep_tup (k := 0) (W := 0) (l := []) (fun _ h => nomatch h)) (by decide)]
  have : eqD (.tup l) (.tup []) = l.isEmpty := by
    obtain ⟨p, r⟩ := h
    have := r.to
    simp only [toP, Option.map_eq_some_iff] at this
    obtain ⟨ps, h1, rfl⟩ := this
    have e : eqD (.tup l) (.tup []) = PyData.eqv (.tuple ps) (.tuple []) := by unfold eqD; rw [r.to]; rfl
    rw [e]
    cases l with
    | nil => cases h1; rfl
    | cons x l =>
      simp only [toPs, Option.bind_eq_some_iff, Option.map_eq_some_iff] at h1
      obtain ⟨p1, _, ps', _, rfl⟩ := h1
      rfl
  rw [this]
theorem rep_lst_mem {k W n : Nat} {l : List D} (h : ∀ x ∈ l, Rep k W x) (hn : l.length * (W + 1) ≤ n) : Rep (k + 1) n (.lst l) := (rep_lst h).mono (Nat.le_refl _) hn
theorem rep_tup_mem {k W n : Nat} {l : List D} (h : ∀ x ∈ l, Rep k W x) (hn : l.length * (W + 1) ≤ n) : Rep (k + 1) n (.tup l) := (rep_tup h).mono (Nat.le_refl _) hn
/-! texts cut, repeated -/
theorem tl_cut (z : Str) (lo hi : Option Int) : TL.tl (cutS z lo hi) = ((TL.tl z).drop (HT.sIx z.length 0 lo)).take (HT.sIx z.length z.length hi - HT.sIx z.length 0 lo) := rfl
theorem asc_cut {z : Str} (h : Asc z) (lo hi : Option Int) : Asc (cutS z lo hi) := fun c hc => by
  rw [tl_cut] at hc
  exact h c (List.mem_of_mem_drop (List.mem_of_mem_take hc))
theorem len_cut (z : Str) (lo hi : Option Int) : (cutS z lo hi).length ≤ z.length := cutS_length z lo hi
theorem len_tl (z : Str) : (TL.tl z).length = z.length := (str_len z).symm
theorem len_pre (z : Str) {a : Int} (h : 0 ≤ a) : (cutS z none (some a)).length = min a.toNat z.length := by
  rw [str_len, tl_cut, List.length_take, List.length_drop, len_tl]
  simp only [HT.sIx, if_neg (show ¬ a < 0 by omega)]
  omega
theorem len_suf (z : Str) {a : Int} (h : 0 ≤ a) : (cutS z (some a) none).length = z.length - min a.toNat z.length := by
  rw [str_len, tl_cut, List.length_take, List.length_drop, len_tl]
  simp only [HT.sIx, if_neg (show ¬ a < 0 by omega)]
  omega
theorem len_mid (z : Str) {a b : Int} (h : 0 ≤ a) (h2 : 0 ≤ b) : (cutS z (some a) (some b)).length = min b.toNat z.length - min a.toNat z.length := by
  rw [str_len, tl_cut, List.length_take, List.length_drop, len_tl]
  simp only [HT.sIx, if_neg (show ¬ a < 0 by omega), if_neg (show ¬ b < 0 by omega)]
  omega
theorem sl_str_ev {z : Str} (h : z.length ≤ 1000000) {lo hi : Option Int} {ms : Ms} : gSl (.d (.str z)) lo hi ms = .ok (.d (.str (cutS z lo hi))) ms := by
  unfold gSl slD
  simp [h]
@[simp] theorem sl_tup_ev {l : List D} {lo hi : Option Int} {ms : Ms} : gSl (.d (.tup l)) lo hi ms = .ok (.d (.tup (cutD l lo hi))) ms := rfl
@[simp] theorem sl_lst_ev {l : List D} {lo hi : Option Int} {ms : Ms} : gSl (.d (.lst l)) lo hi ms = .ok (.d (.lst (cutD l lo hi))) ms := rfl
@[simp] theorem ev_sl {mo : Env → Ms → R S} {ml mh : Env → Ms → R (Option Int)} {env : Env} {ms : Ms} : mSl mo ml mh env ms = (mo env ms).bind fun x ms1 => (ml env ms1).bind fun l ms2 => (mh env ms2).bind fun u ms3 => gSl x l u ms3 := rfl
@[simp] theorem ev_pNo {env : Env} {ms : Ms} : pNo env ms = .ok none ms := rfl
@[simp] theorem ev_pAt {m : Env → Ms → R S} {env : Env} {ms : Ms} : pAt m env ms = (m env ms).bind asO := rfl
@[simp] theorem asO_int {i : Int} {ms : Ms} : asO (.d (.int i)) ms = .ok (some i) ms := rfl
@[simp] theorem ev_neg {m : Env → Ms → R S} {env : Env} {ms : Ms} : mNeg m env ms = (m env ms).bind negS := rfl
@[simp] theorem neg_int {i : Int} {ms : Ms} : negS (.d (.int i)) ms = .ok (.d (.int (-i))) ms := rfl
theorem mulSI {x : Str} {n : Int} {ms : Ms} (h : x.length ≤ 1000) (h1 : -1000 ≤ n) (h2 : n ≤ 1000) : gMul (.d (.str x)) (.d (.int n)) ms = .ok (.d (.str (strMul x n))) ms := by
  have e : gMulS (.d (.str x)) (.d (.int n)) ms = .ok (.d (.str (strMul x n))) ms := by
    unfold gMulS
    simp [dec_is (show x.length ≤ 1000 ∧ -1000 ≤ n ∧ n ≤ 1000 from ⟨h, h1, h2⟩)]
  unfold gMul gOr
  rw [show gMulI (.d (.str x)) (.d (.int n)) ms = .bad from rfl]
  simp only [e]
theorem mul_spec (x : Str) (h : Asc x) : ∀ n : Nat, Asc (strMul x n) ∧ (strMul x n).length = n * x.length := by
  have key : ∀ (n : Nat) (acc : Array Nat), (∀ c ∈ acc.toList, c < 128) → (∀ c ∈ ((List.replicate n x.cps).foldl (· ++ ·) acc).toList, c < 128) ∧ ((List.replicate n x.cps).foldl (· ++ ·) acc).size = acc.size + n * x.length := by
    intro n
    induction n with
    | zero => intro acc ha; exact ⟨ha, by simp⟩
    | succ n ih =>
      intro acc ha
      rw [List.replicate_succ, List.foldl_cons]
      obtain ⟨h1, h2⟩ := ih (acc ++ x.cps) (fun c hc => by
        rw [Array.toList_append] at hc
        rcases List.mem_append.mp hc with hc | hc
        · exact ha c hc
        · exact h c hc)
      refine ⟨h1, ?_⟩
      rw [h2, Array.size_append, Nat.succ_mul]
      show acc.size + x.cps.size + n * x.length = _
      have : x.cps.size = x.length := rfl
      omega
  intro n
  unfold strMul Txt.mul
  split
  · have : n = 0 := by omega
    subst this
    exact ⟨fun c hc => by simp [Str.empty] at hc, by simp [Str.empty, Str.length]⟩
  · split
    · rename_i h1 h2
      refine ⟨h, ?_⟩
      simp only [Bool.or_eq_true, beq_iff_eq] at h2
      rcases h2 with h2 | h2
      · have : n = 1 := by omega
        subst this; omega
      · rw [h2, Nat.mul_zero]
    · obtain ⟨h1, h2⟩ := key n #[] (fun c hc => by simp at hc)
      refine ⟨h1, ?_⟩
      show ((List.replicate n x.cps).foldl (· ++ ·) #[]).size = _
      rw [h2]; simp
end Fw
set_option Elab.async false
set_option linter.all false
set_option maxRecDepth 100000
set_option maxHeartbeats 1000000
/-! Pl1: more stepping. -/
namespace Fw
open PySem L2
section
variable {env e1 : Env} {ms ms1 ms2 : Ms} {s s1 s2 : S} {me ma mb mo : Env → Ms → R S} {i j n : Nat} {b : Bool} {ss : List S} {c : Nat} {ds l : List D} {d x y z : D} {mal : Env → Ms → R (List S)}
@[simp] theorem eqBB {neg a b : Bool} : gEq neg (.d (.bl a)) (.d (.bl b)) ms = .ok (.d (.bl (if neg = true then a != b else a == b))) ms := by
  have e : PyData.eqv (.bool a) (.bool b) = (a == b) := by first | rfl | (unfold PyData.eqv; rfl) | (simp [PyData.eqv])
  show R.ok (S.d (D.bl (if neg = true then !PyData.eqv (.bool a) (.bool b) else PyData.eqv (.bool a) (.bool b)))) ms = _
  rw [e]
  cases neg <;> simp [bne]
@[simp] theorem ev_enu : iEnu mal env ms = (mal env ms).bind (itE 0) := rfl
@[simp] theorem itE_lst {k : Int} : itE k [.d (.lst l)] ms = .ok ((numbered k l).map S.d, none) ms := rfl
@[simp] theorem itE_tup {k : Int} : itE k [.d (.tup l)] ms = .ok ((numbered k l).map S.d, none) ms := rfl
theorem numbered_at {k : Int} {i : Nat} : (numbered k l)[i]? = (l[i]?).map fun d => .tup [.int (k + (i : Nat)), d] := by
  unfold numbered
  rw [List.getElem?_map, List.getElem?_zipIdx]
  cases l[i]? with
  | none => rfl
  | some d => simp
theorem rng_at {lo : Int} {n i : Nat} {x : S} (h : (rngS lo n)[i]? = some x) : i < n ∧ x = .d (.int (lo + (i : Nat))) := by
  unfold rngS at h
  rw [List.getElem?_map] at h
  cases e : (List.range n)[i]? with
  | none => rw [e] at h; cases h
  | some k =>
    rw [e] at h
    obtain ⟨h1, h2⟩ := List.getElem?_eq_some_iff.mp e
    rw [List.length_range] at h1
    rw [List.getElem_range] at h2
    subst h2
    cases h
    exact ⟨h1, rfl⟩
@[simp] theorem gUn_tup {gs : List S → Env → Ms → Option Env} (h : ds.length = n) : gUn n gs (.d (.tup ds)) env ms = gs (ds.map .d) env ms := by
  unfold gUn
  subst h
  simp
@[simp] theorem gsNil_ev : gsNil [] env ms = some env := rfl
@[simp] theorem gsCons_ev {g : S → Env → Ms → Option Env} {gs : List S → Env → Ms → Option Env} : gsCons g gs (s :: ss) env ms = (g s env ms).bind fun e => gs ss e ms := rfl
theorem append_loc {l : List D} (h : ms[n]? = some (.lst l)) (hl : l.length ≤ 1000000) : gAppend (.loc n) [.d y] ms = .ok (.d .non) (ms.set n (.lst (l ++ [y]))) := by
  unfold gAppend
  have e : cellL (.loc n) ms = some (n, l) := by unfold cellL; simp [h]
  rw [e]
  simp [hl]
theorem popAt_loc {l : List D} {r : Int} (h : ms[n]? = some (.lst l)) (h0 : 0 ≤ r) (h1 : r < l.length) (hl : l.length ≤ 1000000) : ∃ k : Nat, ∃ hk : k < l.length, gPopAt (.loc n) [.d (.int r)] ms = .ok (.d l[k]) (ms.set n (.lst (l.eraseIdx k))) := by
  have hk : r.toNat < l.length := by omega
  refine ⟨r.toNat, hk, ?_⟩
  unfold gPopAt
  have e : cellL (.loc n) ms = some (n, l) := by unfold cellL; simp [h]
  have e2 : Fw.inR r = true := Fw.inR_is (by omega)
  have e3 : seqIndex? r l.length = some r.toNat := by
    unfold seqIndex?
    simp [h0, h1]
    try omega
  rw [e]
  simp [e2, e3, hk]
/-- two cells handed on -/
def backLL (a b : Nat) (r : R S) (ms : Ms) : R S := match r with
  | .ok (.d y) m' => .ok (.d y) (wb [a, b] m' ms)
  | .ex c ds m' => .ex c ds (wb [a, b] m' ms)
  | _ => .bad
theorem call_ll0 {f : List S → Ms → R S} {a b : Nat} (hab : a ≠ b) {v : D} {r : Ms} {c1 c2 : Cell} (h : f [.loc 0, .loc 1] [getC ms a, getC ms b] = .ok (.d v) (c1 :: c2 :: r)) :
    callSem f [.loc a, .loc b] ms = .ok (.d v) ((ms.set a c1).set b c2) := by
  unfold callSem
  have l1 : locsOf [.loc a, .loc b] = [a, b] := rfl
  rw [l1]
  have : ([S.loc a, S.loc b].all S.noX && nodupB [a, b]) = true := by
    show (true && nodupB [a, b]) = true
    unfold nodupB
    simp [hab, nodupB]
  rw [this]
  have e2 : [S.loc a, S.loc b].map (renS [a, b]) = [.loc 0, .loc 1] := by
    show [S.loc ([a, b].idxOf a), S.loc ([a, b].idxOf b)] = _
    have h1 : [a, b].idxOf a = 0 := by simp
    have h2 : [a, b].idxOf b = 1 := by rw [List.idxOf_cons, beq_false_of_ne hab]; simp
    rw [h1, h2]
  show callEnd [a, b] ms (f ([S.loc a, S.loc b].map (renS [a, b])) ([a, b].map (getC ms))) = _
  rw [e2]
  show callEnd [a, b] ms (f [.loc 0, .loc 1] [getC ms a, getC ms b]) = _
  rw [h]
  rfl
@[simp] theorem cNew_lst : cNew [.d (.lst l)] ms = .ok (.loc ms.length) (ms ++ [.lst l]) := rfl
@[simp] theorem cNew_tup : cNew [.d (.tup l)] ms = .ok (.loc ms.length) (ms ++ [.lst l]) := rfl
theorem cNew_loc (h : ms[n]? = some (.lst l)) : cNew [.loc n] ms = .ok (.loc ms.length) (ms ++ [.lst l]) := by
  unfold cNew
  have : view (.loc n) ms = some (.lst l) := by show (match ms[n]? with | some (.lst ds) => some (D.lst ds) | _ => none) = _; rw [h]
  simp [this]
theorem len_loc (h : ms[n]? = some (.lst l)) : c1 lenD [.loc n] ms = .ok (.d (.int l.length)) ms := by
  unfold c1
  have : view (.loc n) ms = some (.lst l) := by show (match ms[n]? with | some (.lst ds) => some (D.lst ds) | _ => none) = _; rw [h]
  simp [this, lenD]
@[simp] theorem ev_frz : mFrz me env ms = (me env ms).bind frzS := rfl
theorem frz_loc (h : ms[n]? = some (.lst l)) : frzS (.loc n) ms = .ok (.d (.lst l)) (ms.set n .dead) := by
  unfold frzS
  simp [h]
@[simp] theorem frz_d : frzS (.d x) ms = .ok (.d x) ms := rfl
theorem sl_loc {lo hi : Option Int} (h : ms[n]? = some (.lst l)) : gSl (.loc n) lo hi ms = .ok (.d (.lst (cutD l lo hi))) ms := by
  have e : view (.loc n) ms = some (.lst l) := by show (match ms[n]? with | some (.lst ds) => some (D.lst ds) | _ => none) = _; rw [h]
  unfold gSl
  rw [e]; rfl
@[simp] theorem ev_back : mBack me env ms = (me env ms).bind gBack := rfl
@[simp] theorem back_tup : gBack (.d (.tup l)) ms = .ok (.d (.tup l.reverse)) ms := rfl
@[simp] theorem back_lst : gBack (.d (.lst l)) ms = .ok (.d (.lst l.reverse)) ms := rfl
theorem mulL_lst {k : Int} (h : -1000 ≤ k) (h1 : k ≤ 1000) (hl : l.length ≤ 1000) : gMulL (.d (.lst l)) (.d (.int k)) ms = .ok (.d (.lst (List.replicate k.toNat l).flatten)) ms := by
  have e : (dec (-1000 ≤ k ∧ k ≤ 1000) && Nat.ble l.length 1000) = true := by
    rw [dec_is ⟨h, h1⟩, Nat.ble_eq.mpr hl]; rfl
  show (match dec (-1000 ≤ k ∧ k ≤ 1000) && Nat.ble l.length 1000 with
    | true => R.ok (S.d (.lst (List.replicate k.toNat l).flatten)) ms
    | false => .bad) = _
  rw [e]
theorem mulL_tup {k : Int} (h : 2 ≤ k) (h1 : k ≤ 1000) (hl : l.length ≤ 1000) (h2 : 1 ≤ l.length) : gMulL (.d (.tup l)) (.d (.int k)) ms = .ok (.d (.tup (List.replicate k.toNat l).flatten)) ms := by
  have e : (dec (2 ≤ k ∧ k ≤ 1000) && (Nat.ble 1 l.length && Nat.ble l.length 1000)) = true := by
    rw [dec_is ⟨h, h1⟩, Nat.ble_eq.mpr hl, Nat.ble_eq.mpr h2]; rfl
  show (match dec (2 ≤ k ∧ k ≤ 1000) && (Nat.ble 1 l.length && Nat.ble l.length 1000) with
    | true => R.ok (S.d (.tup (List.replicate k.toNat l).flatten)) ms
    | false => .bad) = _
  rw [e]
theorem addLL {a b : List D} (h : a.length + b.length ≤ 1000000) : gAdd (.d (.lst a)) (.d (.lst b)) ms = .ok (.d (.lst (a ++ b))) ms := by
  have e : gAddL (.d (.lst a)) (.d (.lst b)) ms = .ok (.d (.lst (a ++ b))) ms := by unfold gAddL; simp [h]
  unfold gAdd gOr
  rw [show gAddI (.d (.lst a)) (.d (.lst b)) ms = .bad from rfl, show gAddS (.d (.lst a)) (.d (.lst b)) ms = .bad from rfl]
  simp only [e]
theorem addTT {a b : List D} (h : a.length + b.length ≤ 1000000) : gAdd (.d (.tup a)) (.d (.tup b)) ms = .ok (.d (.tup (a ++ b))) ms := by
  have e : gAddT (.d (.tup a)) (.d (.tup b)) ms = .ok (.d (.tup (a ++ b))) ms := by unfold gAddT; simp [h]
  unfold gAdd gOr
  rw [show gAddI (.d (.tup a)) (.d (.tup b)) ms = .bad from rfl, show gAddS (.d (.tup a)) (.d (.tup b)) ms = .bad from rfl, show gAddL (.d (.tup a)) (.d (.tup b)) ms = .bad from rfl]
  simp only [e]
@[simp] theorem cTup_lst : cTup [.d (.lst l)] ms = .ok (.d (.tup l)) ms := rfl
@[simp] theorem cTup_tup : cTup [.d (.tup l)] ms = .ok (.d (.tup l)) ms := rfl
theorem cTup_loc (h : ms[n]? = some (.lst l)) : cTup [.loc n] ms = .ok (.d (.tup l)) ms := by
  have e : view (.loc n) ms = some (.lst l) := by show (match ms[n]? with | some (.lst ds) => some (D.lst ds) | _ => none) = _; rw [h]
  unfold cTup
  simp [e]
/-- an item by its number -/
theorem atI_nat {α : Type} {l : List α} {i : Nat} (h : i < l.length) : L2.atI l (i : Int) = some l[i] := by
  unfold L2.atI L2.ixN
  rw [if_pos (by omega), if_pos (by omega)]
  simp [h]
theorem atI_int {α : Type} {l : List α} {r : Int} (h0 : 0 ≤ r) (h1 : r < l.length) : L2.atI l r = some (l[r.toNat]'(by omega)) := by
  obtain ⟨i, rfl⟩ := Int.eq_ofNat_of_zero_le h0
  exact atI_nat (by omega)
theorem rng1_ok {i : Int} (h : mal env ms = .ok [.d (.int i)] ms1) (h0 : 0 ≤ i) (h1 : i ≤ 1000000) : Fw.iRng1 mal env ms = .ok (rngS 0 i.toNat, none) ms1 := by
  rw [ev_rng1, h, bind_ok, itR1_ev h0 h1]
theorem rng1_nat {i : Nat} (h : mal env ms = .ok [.d (.int (i : Nat))] ms1) (h1 : i ≤ 1000000) : Fw.iRng1 mal env ms = .ok (rngS 0 i, none) ms1 := by
  have := rng1_ok h (by omega) (by omega)
  rwa [Int.toNat_natCast] at this
end
end Fw
set_option Elab.async false
set_option linter.all false
set_option maxRecDepth 100000
set_option maxHeartbeats 0
namespace Ga
open PySem L2 PySem.Spec PyProof.Rows Fw

abbrev Pg : Program := PySem.Challenge.pw_wayround_k07_web_texts

def top (i : Nat) : Stmt := Pg.main.body.getD i (.Pass ⟨0, 0, 0, 0⟩)
def sub (st : Stmt) (j : Nat) : Stmt := (C8.clsBody st).getD j (.Pass ⟨0, 0, 0, 0⟩)

def fld : Nat → List Str
  | 0 => []
  | 1 => ["high", "low"]
  | 2 => ["high", "low"]
  | 3 => ["line"]
  | 4 => ["index", "reason"]
  | 5 => ["name"]
  | 6 => ["around", "name"]
  | 7 => ["other", "one"]
  | 8 => ["name"]
  | 9 => ["name"]
  | 10 => ["low", "high"]
  | 11 => ["places", "bonds"]
  | _ => []

def clsAt (K : PySem.W.Frag) : Nat → Addr
  | 0 => gA "WayroundError" K
  | 1 => gA "InvalidSpan" K
  | 2 => gA "Snapped" K
  | 3 => gA "InvalidText" K
  | 4 => gA "InvalidWeb" K
  | 5 => gA "SamePost" K
  | 6 => gA "Unclosed" K
  | 7 => gA "Apart" K
  | 8 => gA "UnknownPost" K
  | 9 => gA "UnknownTie" K
  | 10 => gA "Span" K
  | 11 => gA "Web" K
  | _ => 0

def Γ (K : PySem.W.Frag) : G := ⟨clsAt K, fld, clsAt K⟩

def subT (a b : Nat) : Bool := ([(0, 0), (1, 0), (1, 1), (2, 0), (2, 2), (3, 0), (3, 3), (4, 0), (4, 4), (5, 0), (5, 5), (6, 0), (6, 6), (7, 0), (7, 7), (8, 8), (9, 9), (10, 10), (11, 11)] : List (Nat × Nat)).contains (a, b)

noncomputable def m__law_feed : Fw.Env → Ms → T :=
 sCons (sSet 2 (mOp gAdd (mOp gMul (mC (.d (.int 6151))) (mVar 1)) (mC (.d (.int 23)))))
 (sCons (sIf (mB (mOp gLt (mVar 1) (mB1 (c1 lenD) (aCons (mVar 0) (aNil))))) (sSet 2 (mB1 (c1 absD) (aCons (mOp gIx (mVar 0) (mVar 1)) (aNil)))) (sIf (mB (mOp gGt (mB1 (c1 lenD) (aCons (mVar 0) (aNil))) (mC (.d (.int 0))))) (sSet 2 (mOp gAdd (mVar 2) (mOp gMul (mOp gModI (mB1 (c1 absD) (aCons (mOp gIx (mVar 0) (mOp gModI (mVar 1) (mB1 (c1 lenD) (aCons (mVar 0) (aNil))))) (aNil))) (mC (.d (.int 2147483629)))) (mC (.d (.int 50021)))))) (sNil)))
 (sCons (sSet 3 (mOp gAdd (mOp gModI (mOp gAdd (mOp gMul (mOp gModI (mVar 2) (mC (.d (.int 2147483629)))) (mC (.d (.int 48271)))) (mOp gMul (mC (.d (.int 40692))) (mVar 1))) (mC (.d (.int 2147483629)))) (mC (.d (.int 1)))))
 (sRet (mNew (aCons (mOp gMul (mVar 2) (mB1 (c1 intD) (aCons (mOp gGe (mVar 2) (mOp gPowI (mC (.d (.int 10))) (mC (.d (.int 18))))) (aNil)))) (aCons (mVar 3) (aCons (mC (.d (.int 0))) (aNil))))))))
noncomputable def f__law_feed : List S → Ms → R S := fnSem 4 m__law_feed

noncomputable def m__law_take : Fw.Env → Ms → T :=
 sCons (sIf (mB (mOp gGt (mOp gIx (mVar 0) (mC (.d (.int 0)))) (mC (.d (.int 0))))) (sCons (sSet 2 (mOp gModI (mOp gIx (mVar 0) (mC (.d (.int 0)))) (mVar 1)))
 (sCons (sSub (mOp gDivI (mOp gIx (mVar 0) (mC (.d (.int 0)))) (mVar 1)) (mVar 0) (mC (.d (.int 0))))
 (sRet (mVar 2)))) (sNil))
 (sCons (sSub (mOp gAdd (mOp gIx (mVar 0) (mC (.d (.int 2)))) (mC (.d (.int 1)))) (mVar 0) (mC (.d (.int 2))))
 (sCons (sSet 3 (mOp gModI (mOp gMul (mOp gAdd (mOp gIx (mVar 0) (mC (.d (.int 1)))) (mOp gMul (mC (.d (.int 104729))) (mOp gIx (mVar 0) (mC (.d (.int 2)))))) (mC (.d (.int 69623)))) (mC (.d (.int 2147483647)))))
 (sCons (sSub (mOp gAdd (mOp gModI (mOp gAdd (mOp gMul (mVar 3) (mC (.d (.int 48271)))) (mC (.d (.int 30103)))) (mC (.d (.int 2147483629)))) (mC (.d (.int 1)))) (mVar 0) (mC (.d (.int 1))))
 (sRet (mOp gModI (mOp gDivI (mOp gAdd (mOp gMul (mVar 3) (mC (.d (.int 2147483647)))) (mOp gIx (mVar 0) (mC (.d (.int 1))))) (mC (.d (.int 8191)))) (mVar 1))))))
noncomputable def f__law_take : List S → Ms → R S := fnSem 4 m__law_take

noncomputable def m__law_mixed : Fw.Env → Ms → T :=
 sCons (sPar 2 3 (aCons (mB1 (cNew) (aCons (mVar 1) (aNil))) (aCons (mNew (aNil)) (aNil))))
 (sCons (sFor (iRng1 (aCons (mB1 (c1 lenD) (aCons (mVar 2) (aNil))) (aNil))) (gSet 4) (sExpr (mBM .list gAppend (mVar 3) (aCons (mBM .list gPopAt (mVar 2) (aCons (mCallN (bndS f__law_take [0, 1] []) (mLen 2 (aCons (mVar 0) (aCons (mB1 (c1 lenD) (aCons (mVar 2) (aNil))) (aNil))))) (aNil))) (aNil)))))
 (sRet (mFrz (mVar 3))))
noncomputable def f__law_mixed : List S → Ms → R S := fnSem 5 m__law_mixed

noncomputable def m__law_words : Fw.Env → Ms → T :=
 sCons (sPar 2 3 (aCons (mC (.d (.str "abcdefghijklmnopqrstuvwxyz"))) (aCons (mCallN (bndS f__law_take [0, 1] []) (mLen 2 (aCons (mVar 0) (aCons (mC (.d (.int 6))) (aNil))))) (aNil))))
 (sCons (sIf (mB (mOp (gEq false) (mVar 3) (mC (.d (.int 0))))) (sCons (sSet 4 (mC (.d (.str "posts tie cut change undo closes span if core flat table show no yes k0 k1 p0 p1 a0 a1 t0 t1"))))
 (sCons (sSet 5 (mCallN (bndS f__law_take [0, 1] []) (mLen 2 (aCons (mVar 0) (aCons (mC (.d (.int 22))) (aNil))))))
 (sRet (mCallN (bndS f__law_mixed [0, 1] []) (mLen 2 (aCons (mVar 0) (aCons (mSl (mOp gMulL (mBM .str gSplit (mVar 4) (aCons (mC (.d (.str " "))) (aNil))) (mC (.d (.int 2)))) (pAt (mVar 5)) (pAt (mOp gAdd (mVar 5) (mVar 1)))) (aNil)))))))) (sNil))
 (sCons (sIf (mB (mOp (gEq false) (mVar 3) (mC (.d (.int 2))))) (sCons (sPar 6 7 (aCons (mCallN (bndS f__law_take [0, 1] []) (mLen 2 (aCons (mVar 0) (aCons (mC (.d (.int 25))) (aNil))))) (aCons (mNew (aCons (mC (.d (.str ""))) (aNil))) (aNil))))
 (sCons (sFor (iRng1 (aCons (mC (.d (.int 30))) (aNil))) (gSet 8) (sExpr (mBM .list gAppend (mVar 7) (aCons (mOp gAdd (mOp gIx (mVar 7) (mOp gDivI (mVar 8) (mC (.d (.int 2))))) (mOp gIx (mVar 2) (mOp gAdd (mVar 6) (mOp gModI (mVar 8) (mC (.d (.int 2))))))) (aNil)))))
 (sRet (mSl (mCallN (bndS f__law_mixed [0, 1] []) (mLen 2 (aCons (mVar 0) (aCons (mSl (mVar 7) (pAt (mC (.d (.int 1)))) (pNo)) (aNil))))) (pNo) (pAt (mVar 1)))))) (sNil))
 (sCons (sIf (mB (mOp (gEq false) (mVar 3) (mC (.d (.int 3))))) (sCons (sAsg (gUn 2 (gsCons (gSet 5) (gsCons (gSet 9) (gsNil)))) (mTup (aCons (mCallN (bndS f__law_take [0, 1] []) (mLen 2 (aCons (mVar 0) (aCons (mC (.d (.int 121))) (aNil))))) (aCons (mOp gIx (mVar 2) (mCallN (bndS f__law_take [0, 1] []) (mLen 2 (aCons (mVar 0) (aCons (mC (.d (.int 26))) (aNil)))))) (aNil)))))
 (sRet (mLc false (iRng1 (aCons (mVar 1) (aNil))) (gSet 8) ((fun _ ms => .ok true ms)) (mOp gAdd (mVar 9) (mB1 (c1 strD) (aCons (mOp gModI (mOp gAdd (mVar 5) (mOp gMul (mC (.d (.int 9))) (mVar 8))) (mC (.d (.int 121)))) (aNil)))) [8]))) (sNil))
 (sCons (sSet 10 (mOp gAdd (mVar 2) (mC (.d (.str "0123456789")))))
 (sCons (sSet 11 (mOp gIx (mLst (aCons (mCallN (bndS f__law_take [0, 1] []) (mLen 2 (aCons (mVar 0) (aCons (mC (.d (.int 5))) (aNil))))) (aCons (mC (.d (.int 5))) (aNil)))) (mB1 (c1 intD) (aCons (mOp (gEq false) (mVar 3) (mC (.d (.int 1)))) (aNil)))))
 (sCons (sSet 12 (mBM .str gJoin (mC (.d (.str ""))) (aCons (mLc false (iRng1 (aCons (mVar 11) (aNil))) (gSet 8) ((fun _ ms => .ok true ms)) (mOp gIx (mVar 10) (mCallN (bndS f__law_take [0, 1] []) (mLen 2 (aCons (mVar 0) (aCons (mOp gAdd (mC (.d (.int 26))) (mOp gMul (mC (.d (.int 10))) (mB1 (c1 intD) (aCons (mOp gGt (mVar 8) (mC (.d (.int 0)))) (aNil))))) (aNil)))))) [8]) (aNil))))
 (sCons (sAsg (gUn 3 (gsCons (gSet 6) (gsCons (gSet 5) (gsCons (gSet 13) (gsNil))))) (mTup (aCons (mCallN (bndS f__law_take [0, 1] []) (mLen 2 (aCons (mVar 0) (aCons (mOp gAdd (mB1 (c1 lenD) (aCons (mVar 12) (aNil))) (mC (.d (.int 1)))) (aNil))))) (aCons (mCallN (bndS f__law_take [0, 1] []) (mLen 2 (aCons (mVar 0) (aCons (mC (.d (.int 26))) (aNil))))) (aCons (mCallN (bndS f__law_take [0, 1] []) (mLen 2 (aCons (mVar 0) (aCons (mC (.d (.int 2))) (aNil))))) (aNil))))))
 (sCons (sIf (mB (mOp (gEq false) (mVar 3) (mC (.d (.int 1))))) (sAsg (gUn 2 (gsCons (gSet 6) (gsCons (gSet 13) (gsNil)))) (mTup (aCons (mC (.d (.int 5))) (aCons (mC (.d (.int 0))) (aNil))))) (sNil))
 (sCons (sSet 7 (mNew (aNil)))
 (sCons (sFor (iRng1 (aCons (mVar 1) (aNil))) (gSet 8) (sCons (sSet 9 (mOp gIx (mVar 2) (mOp gModI (mOp gAdd (mVar 5) (mOp gMul (mC (.d (.int 7))) (mVar 8))) (mC (.d (.int 26))))))
 (sCons (sSet 14 (mOp gMul (mVar 9) (mOp gMul (mOp gModI (mVar 8) (mC (.d (.int 2)))) (mVar 13))))
 (sExpr (mBM .list gAppend (mVar 7) (aCons (mOp gAdd (mOp gAdd (mOp gAdd (mSl (mVar 12) (pNo) (pAt (mVar 6))) (mVar 9)) (mSl (mVar 12) (pAt (mVar 6)) (pNo))) (mVar 14)) (aNil)))))))
 (sRet (mCallN (bndS f__law_mixed [0, 1] []) (mLen 2 (aCons (mVar 0) (aCons (mVar 7) (aNil))))))))))))))))
noncomputable def f__law_words : List S → Ms → R S := fnSem 15 m__law_words

noncomputable def m__law_joints : Fw.Env → Ms → T :=
 sCons (sPar 3 4 (aCons (mCallN (bndS f__law_take [0, 1] []) (mLen 2 (aCons (mVar 0) (aCons (mC (.d (.int 4))) (aNil))))) (aCons (mNew (aNil)) (aNil))))
 (sCons (sFor (iRng1 (aCons (mOp gMul (mVar 2) (mB1 (c1 intD) (aCons (mOp gGt (mVar 1) (mC (.d (.int 1)))) (aNil)))) (aNil))) (gSet 5) (sCons (sSet 6 (mCallN (bndS f__law_take [0, 1] []) (mLen 2 (aCons (mVar 0) (aCons (mVar 1) (aNil))))))
 (sCons (sSet 7 (mOp gModI (mOp gAdd (mOp gAdd (mVar 6) (mC (.d (.int 1)))) (mCallN (bndS f__law_take [0, 1] []) (mLen 2 (aCons (mVar 0) (aCons (mOp gSubI (mVar 1) (mC (.d (.int 1)))) (aNil)))))) (mVar 1)))
 (sCons (sIf (mAnd (mB (mOp (gEq false) (mVar 3) (mC (.d (.int 0))))) (mB (mOp gLt (mVar 5) (mOp gSubI (mVar 1) (mB1 (c1 intD) (aCons (mOp (gEq false) (mCallN (bndS f__law_take [0, 1] []) (mLen 2 (aCons (mVar 0) (aCons (mC (.d (.int 2))) (aNil))))) (mC (.d (.int 0)))) (aNil))))))) (sPar 6 7 (aCons (mVar 5) (aCons (mOp gModI (mOp gAdd (mVar 5) (mC (.d (.int 1)))) (mVar 1)) (aNil)))) (sNil))
 (sCons (sSet 8 (mOp gDivI (mOp gAdd (mVar 1) (mC (.d (.int 1)))) (mC (.d (.int 2)))))
 (sIf (mOr (mB (mOp gLt (mVar 3) (mC (.d (.int 3))))) (mOr (mB (mOp gLt (mVar 1) (mC (.d (.int 4))))) (mB (mOp (gEq false) (mOp gLt (mVar 6) (mVar 8)) (mOp gLt (mVar 7) (mVar 8)))))) (sExpr (mBM .list gAppend (mVar 4) (aCons (mTup (aCons (mVar 6) (aCons (mVar 7) (aNil)))) (aNil)))) (sNil)))))))
 (sRet (mFrz (mVar 4))))
noncomputable def f__law_joints : List S → Ms → R S := fnSem 9 m__law_joints

noncomputable def m__law_bounds : Fw.Env → Ms → T :=
 sCons (sPar 3 4 (aCons (mCallN (bndS f__law_take [0, 1] []) (mLen 2 (aCons (mVar 0) (aCons (mC (.d (.int 4))) (aNil))))) (aCons (mOp gAdd (mC (.d (.int 1))) (mCallN (bndS f__law_take [0, 1] []) (mLen 2 (aCons (mVar 0) (aCons (mOp gIx (mLst (aCons (mC (.d (.int 2))) (aCons (mOp gAdd (mOp gDivI (mVar 2) (mC (.d (.int 4)))) (mC (.d (.int 1)))) (aNil)))) (mCallN (bndS f__law_take [0, 1] []) (mLen 2 (aCons (mVar 0) (aCons (mC (.d (.int 2))) (aNil)))))) (aNil)))))) (aNil))))
 (sCons (sIf (mB (mOp (gEq false) (mVar 3) (mC (.d (.int 0))))) (sRet (mTup (aCons (mVar 1) (aCons (mVar 1) (aNil))))) (sNil))
 (sCons (sIf (mB (mOp (gEq false) (mVar 3) (mC (.d (.int 1))))) (sRet (mTup (aCons (mC (.d (.int 0))) (aCons (mB1 (c2 minI) (aCons (mVar 2) (aCons (mOp gAdd (mVar 1) (mCallN (bndS f__law_take [0, 1] []) (mLen 2 (aCons (mVar 0) (aCons (mOp gAdd (mVar 4) (mC (.d (.int 1)))) (aNil)))))) (aNil)))) (aNil))))) (sNil))
 (sRet (mTup (aCons (mB1 (c2 maxI) (aCons (mC (.d (.int 0))) (aCons (mOp gSubI (mVar 1) (mCallN (bndS f__law_take [0, 1] []) (mLen 2 (aCons (mVar 0) (aCons (mOp gAdd (mVar 4) (mC (.d (.int 1)))) (aNil)))))) (aNil)))) (aCons (mB1 (c2 minI) (aCons (mVar 2) (aCons (mOp gAdd (mVar 1) (mCallN (bndS f__law_take [0, 1] []) (mLen 2 (aCons (mVar 0) (aCons (mOp gAdd (mVar 4) (mC (.d (.int 1)))) (aNil)))))) (aNil)))) (aNil)))))))
noncomputable def f__law_bounds : List S → Ms → R S := fnSem 5 m__law_bounds

noncomputable def m__law_web : Fw.Env → Ms → T :=
 sCons (sPar 4 5 (aCons (mCallN (bndS f__law_words [0, 1] []) (mLen 2 (aCons (mVar 0) (aCons (mVar 1) (aNil))))) (aCons (mOp (gEq false) (mCallN (bndS f__law_take [0, 1] []) (mLen 2 (aCons (mVar 0) (aCons (mC (.d (.int 4))) (aNil))))) (mC (.d (.int 0)))) (aNil))))
 (sCons (sSet 6 (mCallN (bndS f__law_words [0, 1] []) (mLen 2 (aCons (mVar 0) (aCons (mB1 (c2 maxI) (aCons (mC (.d (.int 1))) (aCons (mVar 2) (aNil)))) (aNil))))))
 (sCons (sSet 7 (mLc false (iRng1 (aCons (mVar 1) (aNil))) (gSet 13) ((fun _ ms => .ok true ms)) (mTup (aCons (mCallN (bndS f__law_take [0, 1] []) (mLen 2 (aCons (mVar 0) (aCons (mOp gAdd (mVar 3) (mC (.d (.int 1)))) (aNil))))) (aCons (mCallN (bndS f__law_take [0, 1] []) (mLen 2 (aCons (mVar 0) (aCons (mOp gAdd (mVar 3) (mC (.d (.int 1)))) (aNil))))) (aNil)))) [13]))
 (sCons (sSet 8 (mNew (aNil)))
 (sCons (sFor (iEnu (aCons (mCallN (bndS f__law_joints [0, 1, 2] []) (mLen 3 (aCons (mVar 0) (aCons (mVar 1) (aCons (mVar 2) (aNil)))))) (aNil))) (gUn 2 (gsCons (gSet 13) (gsCons (gUn 2 (gsCons (gSet 9) (gsCons (gSet 10) (gsNil)))) (gsNil)))) (sCons (sSet 11 (mB1 (c2 maxI) (aCons (mB1 (c1 absD) (aCons (mOp gSubI (mOp gIx (mOp gIx (mVar 7) (mVar 9)) (mC (.d (.int 0)))) (mOp gIx (mOp gIx (mVar 7) (mVar 10)) (mC (.d (.int 0))))) (aNil))) (aCons (mB1 (c1 absD) (aCons (mOp gSubI (mOp gIx (mOp gIx (mVar 7) (mVar 9)) (mC (.d (.int 1)))) (mOp gIx (mOp gIx (mVar 7) (mVar 10)) (mC (.d (.int 1))))) (aNil))) (aNil)))))
 (sCons (sIf (mB (mVar 5)) (sSet 11 (mCallN (bndS f__law_take [0, 1] []) (mLen 2 (aCons (mVar 0) (aCons (mOp gAdd (mVar 3) (mC (.d (.int 1)))) (aNil)))))) (sNil))
 (sCons (sSet 12 (mCallN (bndS f__law_bounds [0, 1, 2] []) (mLen 3 (aCons (mVar 0) (aCons (mVar 11) (aCons (mVar 3) (aNil)))))))
 (sExpr (mBM .list gAppend (mVar 8) (aCons (mTup (aCons (mOp gIx (mVar 6) (mVar 13)) (aCons (mOp gIx (mVar 4) (mVar 9)) (aCons (mOp gIx (mVar 4) (mVar 10)) (aCons (mOp gIx (mVar 12) (mC (.d (.int 0)))) (aCons (mOp gIx (mVar 12) (mC (.d (.int 1)))) (aNil))))))) (aNil))))))))
 (sRet (mTup (aCons (mB1 (cTup) (aCons (mVar 4) (aNil))) (aCons (mB1 (cTup) (aCons (mVar 8) (aNil))) (aNil)))))))))
noncomputable def f__law_web : List S → Ms → R S := fnSem 14 m__law_web

noncomputable def m_is_whole : Fw.Env → Ms → T :=
 sRet (mAndV (mB1 (cIsi [] [] (fun _ _ => false)) (aCons (mVar 0) (aCons (mC (.d (.ty "int"))) (aNil)))) (mNotV (mB1 (cIsi [] [] (fun _ _ => false)) (aCons (mVar 0) (aCons (mC (.d (.ty "bool"))) (aNil))))))
noncomputable def f_is_whole : List S → Ms → R S := fnSem 1 m_is_whole

noncomputable def m_is_tie : Fw.Env → Ms → T :=
 sCons (sIf (mOr (mNot (mB (mB1 (cIsi [] [] (fun _ _ => false)) (aCons (mVar 0) (aCons (mC (.d (.ty "tuple"))) (aNil)))))) (mB (mOp (gEq true) (mB1 (c1 lenD) (aCons (mVar 0) (aNil))) (mC (.d (.int 5)))))) (sRet (mC (.d (.bl false)))) (sNil))
 (sRet (mAndV (mB1 (cSeq allD) (aCons (mLc false (iSeq (mSl (mVar 0) (pNo) (pAt (mC (.d (.int 3)))))) (gSet 1) ((fun _ ms => .ok true ms)) (mB1 (cIsi [] [] (fun _ _ => false)) (aCons (mVar 1) (aCons (mC (.d (.ty "str"))) (aNil)))) [1]) (aNil))) (mB1 (cSeq allD) (aCons (mLc false (iSeq (mSl (mVar 0) (pAt (mC (.d (.int 3)))) (pNo))) (gSet 2) ((fun _ ms => .ok true ms)) (mCallN (bndS f_is_whole [0] []) (mLen 1 (aCons (mVar 2) (aNil)))) [2]) (aNil)))))
noncomputable def f_is_tie : List S → Ms → R S := fnSem 3 m_is_tie

noncomputable def m_has_form : Fw.Env → Ms → T :=
 sCons (sIf (mOr (mNot (mB (mB1 (cIsi [] [] (fun _ _ => false)) (aCons (mVar 0) (aCons (mC (.d (.ty "tuple"))) (aNil)))))) (mNot (mB (mB1 (cIsi [] [] (fun _ _ => false)) (aCons (mVar 1) (aCons (mC (.d (.ty "tuple"))) (aNil))))))) (sRet (mC (.d (.bl false)))) (sNil))
 (sRet (mAndV (mB1 (cSeq allD) (aCons (mLc false (iSeq (mVar 0)) (gSet 2) ((fun _ ms => .ok true ms)) (mB1 (cIsi [] [] (fun _ _ => false)) (aCons (mVar 2) (aCons (mC (.d (.ty "str"))) (aNil)))) [2]) (aNil))) (mB1 (cSeq allD) (aCons (mLc false (iSeq (mVar 1)) (gSet 3) ((fun _ ms => .ok true ms)) (mCallN (bndS f_is_tie [0] []) (mLen 1 (aCons (mVar 3) (aNil)))) [3]) (aNil)))))
noncomputable def f_has_form : List S → Ms → R S := fnSem 4 m_has_form

noncomputable def m_is_name : Fw.Env → Ms → T :=
 sCons (sIf (mOr (mNot (mB (mChain gLt gLe (mC (.d (.int 0))) (mB1 (c1 lenD) (aCons (mVar 0) (aNil))) (mC (.d (.int 6)))))) (mB (mOp (gIn true) (mOp gIx (mVar 0) (mC (.d (.int 0)))) (mC (.d (.str "abcdefghijklmnopqrstuvwxyz")))))) (sRet (mC (.d (.bl false)))) (sNil))
 (sRet (mB1 (cSeq allD) (aCons (mLc false (iSeq (mVar 0)) (gSet 1) ((fun _ ms => .ok true ms)) (mOrV (mOp (gIn false) (mVar 1) (mC (.d (.str "abcdefghijklmnopqrstuvwxyz")))) (mOp (gIn false) (mVar 1) (mC (.d (.str "0123456789"))))) [1]) (aNil))))
noncomputable def f_is_name : List S → Ms → R S := fnSem 2 m_is_name

noncomputable def m_check_names : Fw.Env → Ms → T :=
 sFor (iEnu (aCons (mVar 0) (aNil))) (gUn 2 (gsCons (gSet 2) (gsCons (gSet 3) (gsNil)))) (sIf (mOr (mNot (mB (mCallN (bndS f_is_name [0] []) (mLen 1 (aCons (mVar 3) (aNil)))))) (mB (mOp (gIn false) (mVar 3) (mSl (mVar 0) (pNo) (pAt (mVar 2)))))) (sRaise 4 2 (mLen 2 (aCons (mVar 1) (aCons (mVar 2) (aNil))))) (sNil))
noncomputable def f_check_names : List S → Ms → R S := fnSem 4 m_check_names

noncomputable def m_check_tie : Fw.Env → Ms → T :=
 sCons (sAsg (gUn 5 (gsCons (gSet 3) (gsCons (gSet 4) (gsCons (gSet 5) (gsCons (gSet 6) (gsCons (gSet 7) (gsNil))))))) (mOp gIx (mVar 1) (mVar 2)))
 (sCons (sIf (mOr (mNot (mB (mCallN (bndS f_is_name [0] []) (mLen 1 (aCons (mVar 3) (aNil)))))) (mB (mOp (gIn false) (mVar 3) (mLc false (iSeq (mSl (mVar 1) (pNo) (pAt (mVar 2)))) (gSet 8) ((fun _ ms => .ok true ms)) (mOp gIx (mVar 8) (mC (.d (.int 0)))) [8])))) (sRaise 4 2 (mLen 2 (aCons (mC (.d (.str "tie"))) (aCons (mVar 2) (aNil))))) (sNil))
 (sCons (sIf (mOr (mB (mOp (gIn true) (mVar 4) (mVar 0))) (mOr (mB (mOp (gIn true) (mVar 5) (mVar 0))) (mB (mOp (gEq false) (mVar 4) (mVar 5))))) (sRaise 4 2 (mLen 2 (aCons (mC (.d (.str "end"))) (aCons (mVar 2) (aNil))))) (sNil))
 (sIf (mNot (mB (mChain gLe gLe (mC (.d (.int 0))) (mVar 6) (mVar 7)))) (sRaise 4 2 (mLen 2 (aCons (mC (.d (.str "span"))) (aCons (mVar 2) (aNil))))) (sNil))))
noncomputable def f_check_tie : List S → Ms → R S := fnSem 9 m_check_tie

noncomputable def m_check_web : Fw.Env → Ms → T :=
 sCons (sIf (mNot (mB (mCallN (bndS f_has_form [0, 1] []) (mLen 2 (aCons (mVar 0) (aCons (mVar 1) (aNil))))))) (sRaise 4 2 (mLen 2 (aCons (mC (.d (.str "form"))) (aCons (mC (.d (.int 0))) (aNil))))) (sNil))
 (sCons (sIf (mB (mOp (gEq false) (mB1 (c1 lenD) (aCons (mVar 0) (aNil))) (mC (.d (.int 0))))) (sRaise 4 2 (mLen 2 (aCons (mC (.d (.str "posts"))) (aCons (mC (.d (.int 0))) (aNil))))) (sNil))
 (sCons (sExpr (mCallN (bndS f_check_names [0, 1] []) (mLen 2 (aCons (mVar 0) (aCons (mC (.d (.str "post"))) (aNil))))))
 (sFor (iRng1 (aCons (mB1 (c1 lenD) (aCons (mVar 1) (aNil))) (aNil))) (gSet 2) (sExpr (mCallN (bndS f_check_tie [0, 1, 2] []) (mLen 3 (aCons (mVar 0) (aCons (mVar 1) (aCons (mVar 2) (aNil))))))))))
noncomputable def f_check_web : List S → Ms → R S := fnSem 3 m_check_web

noncomputable def m_Web_init : Fw.Env → Ms → T :=
 sCons (sExpr (mCallN (bndS f_check_web [0, 1] []) (mLen 2 (aCons (mVar 1) (aCons (mVar 2) (aNil))))))
 (sCons (sFldS "places" [11] (mVar 1) (mVar 0))
 (sFldS "bonds" [11] (mVar 2) (mVar 0)))
noncomputable def f_Web_init : List S → Ms → R S := fnSem 3 m_Web_init

noncomputable def m__law_shown : Fw.Env → Ms → T :=
 sCons (sSet 2 (mNew (aCons (mBM .str gJoin (mC (.d (.str " "))) (aCons (mOp gAdd (mLst (aCons (mC (.d (.str "posts"))) (aNil))) (mB1 (cLst) (aCons (mVar 0) (aNil)))) (aNil))) (aNil))))
 (sCons (sFor (iSeq (mVar 1)) (gUn 5 (gsCons (gSet 3) (gsCons (gSet 4) (gsCons (gSet 5) (gsCons (gSet 6) (gsCons (gSet 7) (gsNil))))))) (sCons (sSet 8 (mOp gAdd (mB1 (c1 strD) (aCons (mVar 6) (aNil))) (mOp gMul (mOp gAdd (mC (.d (.str ".."))) (mB1 (c1 strD) (aCons (mVar 7) (aNil)))) (mB1 (c1 intD) (aCons (mOp gLt (mVar 6) (mVar 7)) (aNil))))))
 (sExpr (mBM .list gAppend (mVar 2) (aCons (mBM .str gJoin (mC (.d (.str " "))) (aCons (mLst (aCons (mC (.d (.str "tie"))) (aCons (mVar 3) (aCons (mVar 4) (aCons (mVar 5) (aCons (mVar 8) (aNil))))))) (aNil))) (aNil))))))
 (sRet (mBM .str gJoin (mC (.d (.str "\n"))) (aCons (mVar 2) (aNil)))))
noncomputable def f__law_shown : List S → Ms → R S := fnSem 9 m__law_shown

noncomputable def m_Span_init : Fw.Env → Ms → T :=
 sCons (sIf (mOr (mNot (mB (mCallN (bndS f_is_whole [0] []) (mLen 1 (aCons (mVar 1) (aNil)))))) (mOr (mNot (mB (mCallN (bndS f_is_whole [0] []) (mLen 1 (aCons (mVar 2) (aNil)))))) (mNot (mB (mChain gLe gLe (mC (.d (.int 0))) (mVar 1) (mVar 2)))))) (sRaise 1 2 (mLen 2 (aCons (mVar 1) (aCons (mVar 2) (aNil))))) (sNil))
 (sCons (sFldS "low" [10] (mVar 1) (mVar 0))
 (sFldS "high" [10] (mVar 2) (mVar 0)))
noncomputable def f_Span_init : List S → Ms → R S := fnSem 3 m_Span_init

noncomputable def m_Span_str : Fw.Env → Ms → T :=
 sCons (sIf (mB (mOp (gEq false) (mAttr "low" [(10, fldG 0)] (mVar 0)) (mAttr "high" [(10, fldG 1)] (mVar 0)))) (sRet (mB1 (c1 strD) (aCons (mAttr "low" [(10, fldG 0)] (mVar 0)) (aNil)))) (sNil))
 (sRet (mJs [mFmt (mAttr "low" [(10, fldG 0)] (mVar 0)), mFmt (mC (.d (.str ".."))), mFmt (mAttr "high" [(10, fldG 1)] (mVar 0))] Str.empty))
noncomputable def f_Span_str : List S → Ms → R S := fnSem 1 m_Span_str

noncomputable def m_Web_str : Fw.Env → Ms → T :=
 sCons (sSet 1 (mNew (aCons (mBM .str gJoin (mC (.d (.str " "))) (aCons (mLst (aCons (mC (.d (.str "posts"))) (aStar (mAttr "places" [(11, fldG 0)] (mVar 0)) (aNil)))) (aNil))) (aNil))))
 (sCons (sFor (iSeq (mAttr "bonds" [(11, fldG 1)] (mVar 0))) (gUn 5 (gsCons (gSet 2) (gsCons (gSet 3) (gsCons (gSet 4) (gsCons (gSet 5) (gsCons (gSet 6) (gsNil))))))) (sExpr (mBM .list gAppend (mVar 1) (aCons (mJs [mC (.d (.str "tie ")), mFmt (mVar 2), mC (.d (.str " ")), mFmt (mVar 3), mC (.d (.str " ")), mFmt (mVar 4), mC (.d (.str " ")), mFmtO [(10, bndS f_Span_str [0] [])] (mCallN (mkS 10 (fld 10) (bndS f_Span_init [0, 1, 2] [])) (mLen 2 (aCons (mVar 5) (aCons (mVar 6) (aNil)))))] Str.empty) (aNil)))))
 (sRet (mBM .str gJoin (mC (.d (.str "\n"))) (aCons (mVar 1) (aNil)))))
noncomputable def f_Web_str : List S → Ms → R S := fnSem 7 m_Web_str

noncomputable def m_number_of : Fw.Env → Ms → T :=
 sCons (sIf (mOr (mNot (mB (mChain gLt gLe (mC (.d (.int 0))) (mB1 (c1 lenD) (aCons (mVar 0) (aNil))) (mC (.d (.int 9)))))) (mNot (mB (mB1 (cSeq allD) (aCons (mLc false (iSeq (mVar 0)) (gSet 1) ((fun _ ms => .ok true ms)) (mOp (gIn false) (mVar 1) (mC (.d (.str "0123456789")))) [1]) (aNil)))))) (sRet (mC (.d .non))) (sNil))
 (sCons (sIf (mAnd (mB (mOp (gEq false) (mOp gIx (mVar 0) (mC (.d (.int 0)))) (mC (.d (.str "0"))))) (mB (mOp (gEq true) (mVar 0) (mC (.d (.str "0")))))) (sRet (mC (.d .non))) (sNil))
 (sRet (mB1 (cOr (c1 intD) (c1 intS)) (aCons (mVar 0) (aNil)))))
noncomputable def f_number_of : List S → Ms → R S := fnSem 2 m_number_of

noncomputable def m_Span_read : Fw.Env → Ms → T :=
 sCons (sAsg (gUn 3 (gsCons (gSet 2) (gsCons (gSet 3) (gsCons (gSet 4) (gsNil))))) (mBM .str gPart (mVar 1) (aCons (mC (.d (.str ".."))) (aNil))))
 (sCons (sSet 5 (mCallN (bndS f_number_of [0] []) (mLen 1 (aCons (mVar 2) (aNil)))))
 (sCons (sSet 6 (mIf (mB (mOp (gEq false) (mVar 3) (mC (.d (.str ".."))))) (mCallN (bndS f_number_of [0] []) (mLen 1 (aCons (mVar 4) (aNil)))) (mVar 5)))
 (sCons (sIf (mOr (mB (mOp (gIsN false) (mVar 5) (mC (.d .non)))) (mOr (mB (mOp (gIsN false) (mVar 6) (mC (.d .non)))) (mOr (mB (mOp gGt (mVar 5) (mVar 6))) (mAnd (mB (mOp (gEq false) (mVar 3) (mC (.d (.str ".."))))) (mB (mOp (gEq false) (mVar 5) (mVar 6))))))) (sRaise 3 1 (mLen 1 (aCons (mC (.d (.int 0))) (aNil)))) (sNil))
 (sRet (mCallV [(10, mkS 10 (fld 10) (bndS f_Span_init [0, 1, 2] []))] (mVar 0) (mLen 2 (aCons (mVar 5) (aCons (mVar 6) (aNil)))))))))
noncomputable def f_Span_read : List S → Ms → R S := fnSem 7 m_Span_read

noncomputable def m_Span_least : Fw.Env → Ms → T :=
 sRet (mAttr "low" [(10, fldG 0)] (mVar 0))
noncomputable def f_Span_least : List S → Ms → R S := fnSem 1 m_Span_least

noncomputable def m_Span_greatest : Fw.Env → Ms → T :=
 sRet (mAttr "high" [(10, fldG 1)] (mVar 0))
noncomputable def f_Span_greatest : List S → Ms → R S := fnSem 1 m_Span_greatest

noncomputable def m_span_of : Fw.Env → Ms → T :=
 sCons (sTry (sSet 1 (mCMeth [(10, bndS f_Span_read [0, 1] [])] (mC (.d (.fn 10))) (mLen 1 (aCons (mVar 0) (aNil))))) [(fun c => List.lookup c ([(0, false), (1, false), (2, false), (3, true), (4, false), (5, false), (6, false), (7, false), (8, false), (9, false)] : List (Nat × Bool)), none, sRet (mC (.d .non)))])
 (sRet (mTup (aCons (mAttr "least" [(10, propG 10 (bndS f_Span_least [0] []))] (mVar 1)) (aCons (mAttr "greatest" [(10, propG 10 (bndS f_Span_greatest [0] []))] (mVar 1)) (aNil)))))
noncomputable def f_span_of : List S → Ms → R S := fnSem 2 m_span_of

noncomputable def m_read_tie : Fw.Env → Ms → T :=
 sCons (sSet 3 (mBM .str gSplit (mVar 0) (aCons (mC (.d (.str " "))) (aNil))))
 (sCons (sSet 4 (mIf (mAnd (mB (mOp (gEq false) (mB1 (c1 lenD) (aCons (mVar 3) (aNil))) (mC (.d (.int 5))))) (mB (mOp (gEq false) (mOp gIx (mVar 3) (mC (.d (.int 0)))) (mC (.d (.str "tie")))))) (mCallN (bndS f_span_of [0] []) (mLen 1 (aCons (mOp gIx (mVar 3) (mC (.d (.int 4)))) (aNil)))) (mC (.d .non))))
 (sCons (sIf (mOr (mB (mOp (gIsN false) (mVar 4) (mC (.d .non)))) (mOr (mNot (mB (mCallN (bndS f_is_name [0] []) (mLen 1 (aCons (mOp gIx (mVar 3) (mC (.d (.int 1)))) (aNil)))))) (mB (mOp (gIn false) (mOp gIx (mVar 3) (mC (.d (.int 1)))) (mVar 2))))) (sRet (mC (.d .non))) (sNil))
 (sCons (sIf (mOr (mB (mOp (gIn true) (mOp gIx (mVar 3) (mC (.d (.int 2)))) (mVar 1))) (mOr (mB (mOp (gIn true) (mOp gIx (mVar 3) (mC (.d (.int 3)))) (mVar 1))) (mB (mOp (gEq false) (mOp gIx (mVar 3) (mC (.d (.int 2)))) (mOp gIx (mVar 3) (mC (.d (.int 3)))))))) (sRet (mC (.d .non))) (sNil))
 (sRet (mTup (aCons (mOp gIx (mVar 3) (mC (.d (.int 1)))) (aCons (mOp gIx (mVar 3) (mC (.d (.int 2)))) (aCons (mOp gIx (mVar 3) (mC (.d (.int 3)))) (aStar (mVar 4) (aNil))))))))))
noncomputable def f_read_tie : List S → Ms → R S := fnSem 5 m_read_tie

noncomputable def m_Web_read : Fw.Env → Ms → T :=
 sCons (sAsg (gStar (gsCons (gSet 2) (gsCons (gSet 3) (gsNil)))) (mBM .str gSplit (mVar 1) (aCons (mC (.d (.str "\n"))) (aNil))))
 (sCons (sAsg (gStar (gsCons (gSet 4) (gsCons (gSet 5) (gsNil)))) (mBM .str gSplit (mVar 2) (aCons (mC (.d (.str " "))) (aNil))))
 (sCons (sSet 6 (mLc false (iEnu (aCons (mVar 5) (aNil))) (gUn 2 (gsCons (gSet 11) (gsCons (gSet 12) (gsNil)))) ((fun _ ms => .ok true ms)) (mAndV (mCallN (bndS f_is_name [0] []) (mLen 1 (aCons (mVar 12) (aNil)))) (mOp (gIn true) (mVar 12) (mSl (mVar 5) (pNo) (pAt (mVar 11))))) [11, 12]))
 (sCons (sIf (mOr (mB (mOp (gEq true) (mVar 4) (mC (.d (.str "posts"))))) (mOr (mB (mOp (gEq false) (mB1 (c1 lenD) (aCons (mVar 5) (aNil))) (mC (.d (.int 0))))) (mNot (mB (mB1 (cSeq allD) (aCons (mVar 6) (aNil))))))) (sRaise 3 1 (mLen 1 (aCons (mC (.d (.int 0))) (aNil)))) (sNil))
 (sCons (sSet 7 (mNew (aNil)))
 (sCons (sFor (iEnuS (mApp 1 1 (aCons (mVar 3) (aNil)) (aCons (mC (.d (.int 1))) (aNil)))) (gUn 2 (gsCons (gSet 8) (gsCons (gSet 9) (gsNil)))) (sCons (sSet 10 (mCallN (bndS f_read_tie [0, 1, 2] []) (mLen 3 (aCons (mVar 9) (aCons (mVar 5) (aCons (mLc false (iSeq (mVar 7)) (gStar (gsCons (gSet 13) (gsCons (gSet 14) (gsNil)))) ((fun _ ms => .ok true ms)) (mVar 13) [13, 14]) (aNil)))))))
 (sCons (sIf (mB (mOp (gIsN false) (mVar 10) (mC (.d .non)))) (sRaise 3 1 (mLen 1 (aCons (mVar 8) (aNil)))) (sNil))
 (sExpr (mBM .list gAppend (mVar 7) (aCons (mVar 10) (aNil)))))))
 (sRet (mCallV [(11, mkS 11 (fld 11) (bndS f_Web_init [0, 1, 2] []))] (mVar 0) (mLen 2 (aCons (mB1 (cTup) (aCons (mVar 5) (aNil))) (aCons (mB1 (cTup) (aCons (mVar 7) (aNil))) (aNil)))))))))))
noncomputable def f_Web_read : List S → Ms → R S := fnSem 15 m_Web_read

noncomputable def m_Web_posts : Fw.Env → Ms → T :=
 sRet (mAttr "places" [(11, fldG 0)] (mVar 0))
noncomputable def f_Web_posts : List S → Ms → R S := fnSem 1 m_Web_posts

noncomputable def m_Web_ties : Fw.Env → Ms → T :=
 sRet (mAttr "bonds" [(11, fldG 1)] (mVar 0))
noncomputable def f_Web_ties : List S → Ms → R S := fnSem 1 m_Web_ties

noncomputable def m_Web_eq : Fw.Env → Ms → T :=
 sRet (mAndV (mB1 (cIsi [10, 11] [11] subT) (aCons (mVar 1) (aCons (mC (.d (.fn 11))) (aNil)))) (mAndV (mOp (gEq false) (mAttr "places" [(11, fldG 0)] (mVar 0)) (mAttr "places" [(11, fldG 0)] (mVar 1))) (mOp (gEq false) (mAttr "bonds" [(11, fldG 1)] (mVar 0)) (mAttr "bonds" [(11, fldG 1)] (mVar 1)))))
noncomputable def f_Web_eq : List S → Ms → R S := fnSem 2 m_Web_eq

noncomputable def m_law : Fw.Env → Ms → T :=
 sCons (sSet 1 (mNew (aNil)))
 (sCons (sFor (iRng1 (aCons (mB1 (c2 maxI) (aCons (mC (.d (.int 2))) (aCons (mB1 (c2 minI) (aCons (mC (.d (.int 6))) (aCons (mB1 (c1 lenD) (aCons (mVar 0) (aNil))) (aNil)))) (aNil)))) (aNil))) (gSet 2) (sCons (sSet 3 (mCallN (bndS f__law_feed [0, 1] []) (mLen 2 (aCons (mVar 0) (aCons (mVar 2) (aNil))))))
 (sExpr (mBM .list gAppend (mVar 1) (aCons (mCallN (bndS f__law_web [0, 1, 2, 3] []) (mLen 4 (aCons (mVar 3) (aCons (mOp gAdd (mC (.d (.int 1))) (mCallN (bndS f__law_take [0, 1] []) (mLen 2 (aCons (mVar 3) (aCons (mC (.d (.int 10))) (aNil)))))) (aCons (mCallN (bndS f__law_take [0, 1] []) (mLen 2 (aCons (mVar 3) (aCons (mC (.d (.int 21))) (aNil))))) (aCons (mOp gIx (mLst (aCons (mC (.d (.int 9))) (aCons (mC (.d (.int 1000))) (aNil)))) (mCallN (bndS f__law_take [0, 1] []) (mLen 2 (aCons (mVar 3) (aCons (mC (.d (.int 2))) (aNil)))))) (aNil))))))) (aNil))))))
 (sCons (sFor (iSeq (mOp gAddA (mVar 1) (mSl (mVar 1) (pNo) (pAt (mC (.d (.int 1))))))) (gUn 2 (gsCons (gSet 4) (gsCons (gSet 5) (gsNil)))) (sCons (sAsg (gUn 2 (gsCons (gSet 6) (gsCons (gSet 7) (gsNil)))) (mTup (aCons (mCallN (mkS 11 (fld 11) (bndS f_Web_init [0, 1, 2] [])) (mLen 2 (aCons (mVar 4) (aCons (mVar 5) (aNil))))) (aCons (mCallN (bndS f__law_shown [0, 1] []) (mLen 2 (aCons (mVar 4) (aCons (mVar 5) (aNil))))) (aNil)))))
 (sCons (sIf (mB (mOp (gEq true) (mB1 (c1 reprD) (aCons (mB1 (cOr (c1 strD) (cOwn [(11, bndS f_Web_str [0] [])])) (aCons (mVar 6) (aNil))) (aNil))) (mB1 (c1 reprD) (aCons (mVar 7) (aNil))))) (sRet (mC (.d (.bl false)))) (sNil))
 (sCons (sSet 8 (mCMeth [(11, bndS f_Web_read [0, 1] [])] (mC (.d (.fn 11))) (mLen 1 (aCons (mVar 7) (aNil)))))
 (sCons (sIf (mOr (mNot (mB (mB1 (cIsi [10, 11] [11] subT) (aCons (mVar 8) (aCons (mC (.d (.fn 11))) (aNil)))))) (mOr (mB (mOp (gEq true) (mB1 (c1 reprD) (aCons (mTup (aCons (mAttr "posts" [(11, propG 11 (bndS f_Web_posts [0] []))] (mVar 8)) (aCons (mAttr "ties" [(11, propG 11 (bndS f_Web_ties [0] []))] (mVar 8)) (aNil)))) (aNil))) (mB1 (c1 reprD) (aCons (mTup (aCons (mVar 4) (aCons (mVar 5) (aNil)))) (aNil))))) (mB (mOp (gOr (gEq true) (gNeO [11] [(11, bndS f_Web_eq [0, 1] [])])) (mVar 8) (mVar 6))))) (sRet (mC (.d (.bl false)))) (sNil))
 (sIf (mB (mOp (gEq true) (mLc false (iSeq (mVar 1)) (gSet 9) (mB (mOp (gEq true) (mOp (gEq false) (mB1 (cOr (c1 strD) (cOwn [(11, bndS f_Web_str [0] [])])) (aCons (mCallN (mkS 11 (fld 11) (bndS f_Web_init [0, 1, 2] [])) (mLen 2 (aCons (mOp gIx (mVar 9) (mC (.d (.int 0)))) (aCons (mOp gIx (mVar 9) (mC (.d (.int 1)))) (aNil))))) (aNil))) (mVar 7)) (mOp (gEq false) (mVar 9) (mTup (aCons (mVar 4) (aCons (mVar 5) (aNil))))))) (mC (.d (.int 1))) [9]) (mLst (aNil)))) (sRet (mC (.d (.bl false)))) (sNil)))))))
 (sRet (mC (.d (.bl true))))))
noncomputable def f_law : List S → Ms → R S := fnSem 10 m_law

end Ga
set_option Elab.async false
set_option linter.all false
set_option maxRecDepth 100000
set_option maxHeartbeats 1000000
/-! Fd0: the law's source of draws. -/
namespace Ga
open PySem L2 Fw
def IsFeed (c : Cell) : Prop := ∃ a b d : Int, c = .lst [.int a, .int b, .int d]
theorem mulI {a b : Int} {ms : Ms} (h : cMul a b = true) : gMul (.d (.int a)) (.d (.int b)) ms = .ok (.d (.int (a * b))) ms := by
  have e : gMulI (.d (.int a)) (.d (.int b)) ms = .ok (.d (.int (a * b))) ms := by
    unfold gMulI gII
    simp [h]
  unfold gMul gOr
  rw [e]
theorem mulIl {a b : Int} {ms : Ms} (h : -(2 ^ 64) < a ∧ a < 2 ^ 64) : gMul (.d (.int a)) (.d (.int b)) ms = .ok (.d (.int (a * b))) ms := mulI (by unfold cMul; rw [dec_is h]; rfl)
theorem mulIr {a b : Int} {ms : Ms} (h : -(2 ^ 64) < b ∧ b < 2 ^ 64) : gMul (.d (.int a)) (.d (.int b)) ms = .ok (.d (.int (a * b))) ms := mulI (by unfold cMul; rw [dec_is h, Bool.or_true])
theorem modI {a b : Int} {ms : Ms} (h : 0 < b) : gModI (.d (.int a)) (.d (.int b)) ms = .ok (.d (.int (a % b))) ms := by
  unfold gModI gII cMod
  simp [dec_is h]
theorem divI {a b : Int} {ms : Ms} (h : 0 < b) (h2 : b < 18446744073709551616) : gDivI (.d (.int a)) (.d (.int b)) ms = .ok (.d (.int (a / b))) ms := by
  unfold gDivI gII cDiv
  simp [dec_is (show 0 < b ∧ b < 18446744073709551616 from ⟨h, h2⟩)]
theorem take_ok {m : Int} (h : 0 < m) (h2 : m < 18446744073709551616) {c : Cell} (hc : IsFeed c) : ∃ (r : Int) (c' : Cell), IsFeed c' ∧ 0 ≤ r ∧ r < m ∧ f__law_take [.loc 0, .d (.int m)] [c] = .ok (.d (.int r)) [c'] := by
  obtain ⟨a, b, d, rfl⟩ := hc
  unfold f__law_take
  rw [fn_ev]
  by_cases ha : 0 < a
  · refine ⟨a % m, .lst [.int (a / m), .int b, .int d], ⟨_, _, _, rfl⟩, Int.emod_nonneg _ (by omega), Int.emod_lt_of_pos _ h, ?_⟩
    simp [m__law_take, start0, sSub, gIx, view, ixD, atI, ixN, ha, modI h, divI h h2]
  · refine ⟨((b + 104729 * (d + 1)) * 69623 % 2147483647 * 2147483647 + (((b + 104729 * (d + 1)) * 69623 % 2147483647 * 48271 + 30103) % 2147483629 + 1)) / 8191 % m, .lst [.int a, .int (((b + 104729 * (d + 1)) * 69623 % 2147483647 * 48271 + 30103) % 2147483629 + 1), .int (d + 1)], ⟨_, _, _, rfl⟩, Int.emod_nonneg _ (by omega), Int.emod_lt_of_pos _ h, ?_⟩
    simp [m__law_take, start0, sSub, gIx, view, ixD, atI, ixN, ha, modI h, modI (b := 2147483647) (by decide), modI (b := 2147483629) (by decide), divI (b := 8191) (by decide) (by decide), mulIl (a := 104729) (by decide), mulIr (b := 69623) (by decide), mulIr (b := 48271) (by decide), mulIr (b := 2147483647) (by decide)]
/-- the script, indexed -/
theorem scr_ix {ns : List Int} {k : Int} {ms : Ms} (h0 : 0 ≤ k) (h1 : k < ns.length) : ∃ v, gIx (scr ns) (.d (.int k)) ms = .ok (.d (.int v)) ms := by
  have hk : k.toNat < ns.length := by omega
  refine ⟨ns[k.toNat], ?_⟩
  have e : L2.atI (ns.map D.int) k = some (.int ns[k.toNat]) := by
    unfold L2.atI L2.ixN
    rw [if_pos h0, List.length_map, if_pos h1]
    simp [hk]
  unfold gIx scr
  simp only [view_d, Option.bind_some, ixD, e]
theorem scr_len {ns : List Int} {ms : Ms} : c1 lenD [scr ns] ms = .ok (.d (.int ns.length)) ms := by
  unfold scr
  rw [len_frz, List.length_map]
theorem abs_ok {v : Int} {ms : Ms} : c1 absD [.d (.int v)] ms = .ok (.d (.int (if v < 0 then -v else v))) ms := rfl
theorem intD_bl {b : Bool} {ms : Ms} : c1 intD [.d (.bl b)] ms = .ok (.d (.int (if b = true then 1 else 0))) ms := rfl
theorem powI {ms : Ms} : gPowI (.d (.int 10)) (.d (.int 18)) ms = .ok (.d (.int 1000000000000000000)) ms := by
  unfold gPowI gII cPow
  simp [dec_is trivial]
theorem feed_ok {ns : List Int} {k : Int} (h0 : 0 ≤ k) : ∃ c, IsFeed c ∧ f__law_feed [scr ns, .d (.int k)] [] = .ok (.loc 0) [c] := by
  unfold f__law_feed
  rw [fn_ev]
  have fin : ∀ b : Int, ∃ c, IsFeed c ∧ T.fin (.rt (.loc 0) [.lst [.int (b * (if decide (1000000000000000000 ≤ b) = true then 1 else 0)), .int ((b % 2147483629 * 48271 + 40692 * k) % 2147483629 + 1), .int 0]]) = .ok (.loc 0) [c] := fun b => ⟨_, ⟨_, _, _, rfl⟩, rfl⟩
  have hm : ∀ (b : Int) (ms : Ms), gMul (.d (.int b)) (.d (.int (if decide (1000000000000000000 ≤ b) = true then 1 else 0))) ms = .ok (.d (.int (b * (if decide (1000000000000000000 ≤ b) = true then 1 else 0)))) ms := fun b ms => mulIr (by split <;> decide)
  have key : ∀ b : Int, (sCons (sSet 3 (mOp gAdd (mOp gModI (mOp gAdd (mOp gMul (mOp gModI (mVar 2) (mC (.d (.int 2147483629)))) (mC (.d (.int 48271)))) (mOp gMul (mC (.d (.int 40692))) (mVar 1))) (mC (.d (.int 2147483629)))) (mC (.d (.int 1)))))
   (sRet (mNew (aCons (mOp gMul (mVar 2) (mB1 (c1 intD) (aCons (mOp gGe (mVar 2) (mOp gPowI (mC (.d (.int 10))) (mC (.d (.int 18))))) (aNil)))) (aCons (mVar 3) (aCons (mC (.d (.int 0))) (aNil))))))) [some (scr ns), some (.d (.int k)), some (.d (.int b)), none] [] =
      .rt (.loc 0) [.lst [.int (b * (if decide (1000000000000000000 ≤ b) = true then 1 else 0)), .int ((b % 2147483629 * 48271 + 40692 * k) % 2147483629 + 1), .int 0]] := fun b => by
    simp only [ev_cons, ev_set, ev_op, ev_var, ev_c, ev_ret, ev_new, ev_aCons, ev_aNil, ev_b1, bind_ok, ofE_ok, seq_nx, List.getElem?_cons_zero, List.getElem?_cons_succ, modI (b := 2147483629) (by decide), mulIr (b := 48271) (by decide), mulIl (a := 40692) (by decide), addII, geII, powI, intD_bl, hm, List.set_cons_succ, List.set_cons_zero]
    rfl
  by_cases h1 : k < ns.length
  · obtain ⟨v, e⟩ := scr_ix (ns := ns) (k := k) (ms := []) h0 h1
    have := key (if v < 0 then -v else v)
    obtain ⟨c, hc, ef⟩ := fin (if v < 0 then -v else v)
    refine ⟨c, hc, ?_⟩
    rw [← ef, ← this]
    congr 1
    simp [m__law_feed, start0, mulIl (a := 6151) (by decide), scr_len, h1, e, abs_ok]
  · by_cases h2 : (0 : Int) < ns.length
    · obtain ⟨v, e⟩ := scr_ix (ns := ns) (k := k % ns.length) (ms := []) (Int.emod_nonneg _ (by omega)) (Int.emod_lt_of_pos _ h2)
      have := key (6151 * k + 23 + (if v < 0 then -v else v) % 2147483629 * 50021)
      obtain ⟨c, hc, ef⟩ := fin (6151 * k + 23 + (if v < 0 then -v else v) % 2147483629 * 50021)
      refine ⟨c, hc, ?_⟩
      rw [← ef, ← this]
      congr 1
      have h2n : 0 < ns.length := by omega
      simp [m__law_feed, start0, mulIl (a := 6151) (by decide), scr_len, h1, h2, h2n, modI h2, e, abs_ok, modI (b := 2147483629) (by decide), mulIr (b := 50021) (by decide)]
    · have := key (6151 * k + 23)
      obtain ⟨c, hc, ef⟩ := fin (6151 * k + 23)
      refine ⟨c, hc, ?_⟩
      rw [← ef, ← this]
      congr 1
      have h2n : ¬ 0 < ns.length := by omega
      simp [m__law_feed, start0, mulIl (a := 6151) (by decide), scr_len, h1, h2, h2n]
theorem feed_nat (ns : List Int) (k : Nat) : ∃ c, IsFeed c ∧ f__law_feed [.d (.frz (ns.map .int)), .d (.int k)] [] = .ok (.loc 0) [c] := feed_ok (ns := ns) (Int.natCast_nonneg k)
end Ga
set_option Elab.async false
set_option linter.all false
set_option maxRecDepth 100000
set_option maxHeartbeats 1000000
/-! Wb0: the law's drawn orders and names. -/
namespace Ga
open PySem L2 Fw
theorem erase_perm {α : Type} : ∀ (l : List α) (k : Nat) (h : k < l.length), (l[k] :: l.eraseIdx k).Perm l
  | [], _, h => absurd h (by simp)
  | a :: l, 0, _ => List.Perm.refl _
  | a :: l, k + 1, h => by
    have hk : k < l.length := by simpa using h
    have ih := erase_perm l k hk
    exact (List.Perm.swap a (l[k]'hk) _).trans (ih.cons a)
theorem perm_step {left found : List D} {l : List D} {k : Nat} (hk : k < left.length) (h : (left ++ found).Perm l) : (left.eraseIdx k ++ (found ++ [left[k]])).Perm l := by
  refine List.Perm.trans ?_ h
  have h1 : (left[k] :: left.eraseIdx k).Perm left := erase_perm _ _ hk
  have h2 : (left.eraseIdx k ++ (found ++ [left[k]])).Perm (left[k] :: left.eraseIdx k ++ found) := by
    rw [← List.append_assoc]
    exact (List.perm_append_singleton _ _).trans (by simp)
  exact h2.trans (h1.append_right found)
noncomputable abbrev mixBody : Fw.Env → Ms → T := sExpr (mBM .list gAppend (mVar 3) (aCons (mBM .list gPopAt (mVar 2) (aCons (mCallN (bndS f__law_take [0, 1] []) (mLen 2 (aCons (mVar 0) (aCons (mB1 (c1 lenD) (aCons (mVar 2) (aNil))) (aNil))))) (aNil))) (aNil)))
/-- the drawing: p the cell of what is left, then the found ones -/
theorem mix_step {p : Nat} {mid : Ms} {X : S} {o : Option S} {c : Cell} {left found l : List D} {n j : Nat} (hp : p = mid.length + 1) (hc : IsFeed c) (hn : n ≤ 1000) (hj : j < n) (hl : left.length + j = n) (hf : found.length = j) (hperm : (left ++ found).Perm l) :
    ∃ c' left' found', IsFeed c' ∧ left'.length + (j + 1) = n ∧ found'.length = j + 1 ∧ (left' ++ found').Perm l ∧
      mixBody [some (.loc 0), some X, some (.loc p), some (.loc (p + 1)), o] (c :: (mid ++ [.lst left, .lst found])) = .nx [some (.loc 0), some X, some (.loc p), some (.loc (p + 1)), o] (c' :: (mid ++ [.lst left', .lst found'])) := by
  subst hp
  have at1 : ∀ (c : Cell) (a b : Cell), (c :: (mid ++ [a, b]))[mid.length + 1]? = some a := fun c a b => by simp
  have at2 : ∀ (c : Cell) (a b : Cell), (c :: (mid ++ [a, b]))[mid.length + 1 + 1]? = some b := fun c a b => by
    rw [List.getElem?_cons_succ, List.getElem?_append_right (by omega)]; simp
  have st1 : ∀ (c a b a' : Cell), (c :: (mid ++ [a, b])).set (mid.length + 1) a' = c :: (mid ++ [a', b]) := fun c a b a' => by simp
  have st2 : ∀ (c a b b' : Cell), (c :: (mid ++ [a, b])).set (mid.length + 1 + 1) b' = c :: (mid ++ [a, b']) := fun c a b b' => by
    rw [List.set_cons_succ, List.set_append_right _ _ (by omega)]; simp
  obtain ⟨r, c', f1, r0, r1, e1⟩ := take_ok (m := left.length) (by omega) (by omega) hc
  obtain ⟨k, hk, e2⟩ := popAt_loc (ms := c' :: (mid ++ [.lst left, .lst found])) (n := mid.length + 1) (l := left) (r := r) (at1 _ _ _) r0 r1 (by omega)
  have e3 := append_loc (ms := c' :: (mid ++ [.lst (left.eraseIdx k), .lst found])) (n := mid.length + 1 + 1) (l := found) (y := left[k]) (at2 _ _ _) (by omega)
  refine ⟨c', left.eraseIdx k, found ++ [left[k]], f1, by rw [List.length_eraseIdx, if_pos hk]; omega, by rw [List.length_append, hf]; rfl, perm_step hk hperm, ?_⟩
  have e4 := len_loc (ms := c :: (mid ++ [.lst left, .lst found])) (n := mid.length + 1) (l := left) (at1 _ _ _)
  rw [st1] at e2
  rw [st2] at e3
  have t1 : tyS .list (.loc (mid.length + 1)) (c :: (mid ++ [Cell.lst left, Cell.lst found])) = true := by rw [tyS_loc, at1]
  have t2 : tyS .list (.loc (mid.length + 1 + 1)) (c :: (mid ++ [Cell.lst left, Cell.lst found])) = true := by rw [tyS_loc, at2]
  simp only [mixBody, ev_expr, ev_bm, ev_var, List.getElem?_cons_zero, List.getElem?_cons_succ, bind_ok, ofE_ok, t1, t2, if_true, ev_aCons, ev_aNil, ev_callN, ev_len, ev_b1, e4, lenIs_ev, List.length_cons, List.length_nil, bnd_ev]
  simp only [List.append_nil, pick, List.filterMap_cons, List.filterMap_nil, List.getElem?_cons_zero, List.getElem?_cons_succ, call_l1, getC_ev, e1, backL_d, List.set_cons_zero, bind_ok, e2, e3, ofE_ok]
/-- what stands after j turns -/
def MixP (mid : Ms) (X : S) (n : Nat) (l : List D) (j : Nat) (env : Fw.Env) (ms : Ms) : Prop := ∃ (c : Cell) (left found : List D) (o : Option S), IsFeed c ∧ left.length + j = n ∧ found.length = j ∧ (left ++ found).Perm l ∧
  env = [some (.loc 0), some X, some (.loc (mid.length + 1)), some (.loc (mid.length + 1 + 1)), o] ∧ ms = c :: (mid ++ [.lst left, .lst found])
theorem mix_loop {mid : Ms} {X : S} {l : List D} {c : Cell} (hc : IsFeed c) (hn : l.length ≤ 1000) {o : Option S} :
    Nx (sFor (iRng1 (aCons (mB1 (c1 lenD) (aCons (mVar 2) (aNil))) (aNil))) (gSet 4) mixBody [some (.loc 0), some X, some (.loc (mid.length + 1)), some (.loc (mid.length + 1 + 1)), o] (c :: (mid ++ [.lst l, .lst []]))) (MixP mid X l.length l l.length) := by
  have at1 : (c :: (mid ++ [Cell.lst l, Cell.lst []]))[mid.length + 1]? = some (.lst l) := by simp
  have hi : iRng1 (aCons (mB1 (c1 lenD) (aCons (mVar 2) (aNil))) (aNil)) [some (.loc 0), some X, some (.loc (mid.length + 1)), some (.loc (mid.length + 1 + 1)), o] (c :: (mid ++ [.lst l, .lst []])) = .ok (rngS 0 l.length, none) (c :: (mid ++ [.lst l, .lst []])) := by
    refine rng1_nat ?_ (by omega)
    simp only [ev_aCons, ev_b1, ev_var, List.getElem?_cons_zero, List.getElem?_cons_succ, bind_ok, ev_aNil, len_loc at1]
  have := Nx_forI (P := MixP mid X l.length l) (g := gSet 4) (body := mixBody) hi ⟨c, l, [], o, hc, by simp, rfl, by simp, rfl, rfl⟩ (fun j x hx e m hp => by
    obtain ⟨hj, rfl⟩ := rng_at hx
    obtain ⟨c1, left, found, o1, f1, h1, h2, h3, rfl, rfl⟩ := hp
    refine ⟨_, rfl, ?_⟩
    obtain ⟨c2, left', found', f2, k1, k2, k3, k4⟩ := mix_step (mid := mid) (X := X) (o := some (.d (.int (0 + (j : Nat))))) rfl f1 hn hj h1 h2 h3
    refine ⟨_, _, k4, c2, left', found', _, f2, k1, k2, k3, rfl, rfl⟩)
  rwa [rng_len] at this
theorem mixed_ok {l : List D} {X : D} (hX : X = .lst l ∨ X = .tup l) (hn : l.length ≤ 1000) {c : Cell} (hc : IsFeed c) : ∃ (l' : List D) (c' : Cell) (r : Ms), IsFeed c' ∧ l'.Perm l ∧ f__law_mixed [.loc 0, .d X] [c] = .ok (.d (.lst l')) (c' :: r) := by
  obtain ⟨e, m, h1, c1, left, found, o, f1, h2, h3, h4, rfl, rfl⟩ := mix_loop (mid := []) (X := .d X) hc hn (o := none)
  have : left = [] := List.eq_nil_of_length_eq_zero (by omega)
  subst this
  refine ⟨found, c1, [.lst [], .dead], f1, by simpa using h4, ?_⟩
  unfold f__law_mixed
  rw [fn_ev]
  rcases hX with rfl | rfl <;>
  · simp only [List.nil_append, List.length_nil, Nat.zero_add, Nat.reduceAdd] at h1
    simp [-ev_rng1, m__law_mixed, start0, h1, frz_loc (ms := [c1, .lst [], .lst found]) (n := 2) (l := found) rfl]
theorem mixed_ok2 {l : List D} (hn : l.length ≤ 1000) {c : Cell} (hc : IsFeed c) : ∃ (l' : List D) (c' : Cell) (r : Ms), IsFeed c' ∧ l'.Perm l ∧ f__law_mixed [.loc 0, .loc 1] [c, .lst l] = .ok (.d (.lst l')) (c' :: .lst l :: r) := by
  obtain ⟨e, m, h1, c1, left, found, o, f1, h2, h3, h4, rfl, rfl⟩ := mix_loop (mid := [.lst l]) (X := .loc 1) hc hn (o := none)
  have : left = [] := List.eq_nil_of_length_eq_zero (by omega)
  subst this
  refine ⟨found, c1, [.lst [], .dead], f1, by simpa using h4, ?_⟩
  unfold f__law_mixed
  rw [fn_ev]
  simp only [List.length_cons, List.length_nil, Nat.zero_add, Nat.reduceAdd, List.cons_append, List.nil_append] at h1
  simp [-ev_rng1, m__law_mixed, start0, h1, cNew_loc (ms := [c, .lst l]) (n := 1) (l := l) rfl, frz_loc (ms := [c1, .lst l, .lst [], .lst found]) (n := 3) (l := found) rfl]
end Ga
set_option Elab.async false
set_option linter.all false
set_option maxRecDepth 100000
set_option maxHeartbeats 1000000
/-! Wb1: the law's names. -/
namespace Ga
open PySem L2 Fw
def isLow (c : Nat) : Bool := decide (97 ≤ c) && decide (c ≤ 122)
def isAln (c : Nat) : Bool := isLow c || isDig c
/-- a name's letters -/
def nameL (l : List Nat) : Bool := decide (0 < l.length) && decide (l.length ≤ 6) && isLow (l.headD 0) && l.all isAln
def strsD (ws : List Str) : List D := ws.map D.str
@[simp] theorem strs_len (ws : List Str) : (strsD ws).length = ws.length := by simp [strsD]
theorem strs_take (ws : List Str) (n : Nat) : (strsD ws).take n = strsD (ws.take n) := by simp [strsD, List.map_take]
theorem strs_drop (ws : List Str) (n : Nat) : (strsD ws).drop n = strsD (ws.drop n) := by simp [strsD, List.map_drop]
theorem strs_app (ws vs : List Str) : strsD ws ++ strsD vs = strsD (ws ++ vs) := by simp [strsD]
structure Names (m : Nat) (ws : List Str) : Prop where
  len : ws.length = m
  nd : ws.Nodup
  nm : ∀ z ∈ ws, nameL (TL.tl z) = true
theorem strs_perm {l : List D} {ws : List Str} (h : l.Perm (strsD ws)) : ∃ vs : List Str, l = strsD vs ∧ vs.Perm ws := by
  have all : ∀ d ∈ l, ∃ z, d = .str z := fun d hd => by
    obtain ⟨z, _, rfl⟩ := List.mem_map.mp (h.mem_iff.mp hd)
    exact ⟨z, rfl⟩
  have ex : ∀ l : List D, (∀ d ∈ l, ∃ z, d = .str z) → ∃ vs : List Str, l = strsD vs := fun l => by
    induction l with
    | nil => intro _; exact ⟨[], rfl⟩
    | cons d l ih =>
      intro h
      obtain ⟨z, rfl⟩ := h _ List.mem_cons_self
      obtain ⟨vs, rfl⟩ := ih fun y hy => h y (List.mem_cons_of_mem _ hy)
      exact ⟨z :: vs, rfl⟩
  obtain ⟨vs, rfl⟩ := ex l all
  refine ⟨vs, rfl, ?_⟩
  let un : D → Str := fun d => match d with
    | .str z => z
    | _ => Str.empty
  have := h.map un
  simpa [strsD, List.map_map, Function.comp_def, un] using this
theorem Names.perm {m : Nat} {ws vs : List Str} (h : Names m ws) (p : vs.Perm ws) : Names m vs := ⟨p.length_eq.trans h.len, p.nodup_iff.mpr h.nd, fun z hz => h.nm z (p.mem_iff.mp hz)⟩
theorem Names.take {n m : Nat} {ws : List Str} (h : Names n ws) (hm : m ≤ n) : Names m (ws.take m) := ⟨by rw [List.length_take, h.len]; omega, h.nd.sublist (List.take_sublist _ _), fun z hz => h.nm z (List.mem_of_mem_take hz)⟩
theorem cutD_pre {l : List D} {m : Int} (h : 0 ≤ m) : cutD l none (some m) = l.take m.toNat := by
  unfold cutD
  simp only [HT.sIx, if_neg (show ¬ m < 0 by omega), List.drop_zero, Nat.sub_zero]
  rw [Nat.min_def]
  split
  · rfl
  · rw [List.take_of_length_le (Nat.le_refl _), List.take_of_length_le (by omega)]
theorem cutD_suf {l : List D} {m : Nat} (h : m ≤ l.length) : cutD l (some (m : Int)) none = l.drop m := by
  unfold cutD
  simp only [HT.sIx, if_neg (show ¬ (m : Int) < 0 by omega), Int.toNat_natCast]
  rw [Nat.min_eq_left h, List.take_of_length_le]
  rw [List.length_drop]; omega
theorem cutD_mid {l : List D} {a b : Int} (h : 0 ≤ a) (h1 : a ≤ b) (h2 : b ≤ l.length) : cutD l (some a) (some b) = (l.drop a.toNat).take (b - a).toNat := by
  unfold cutD
  simp only [HT.sIx, if_neg (show ¬ a < 0 by omega), if_neg (show ¬ b < 0 by omega)]
  rw [Nat.min_eq_left (by omega), Nat.min_eq_left (by omega)]
  congr 1; omega
/-! words of texts -/
def known : List Str := ["posts", "tie", "cut", "change", "undo", "closes", "span", "if", "core", "flat", "table", "show", "no", "yes", "k0", "k1", "p0", "p1", "a0", "a1", "t0", "t1"]
theorem known_split : Txt.split "posts tie cut change undo closes span if core flat table show no yes k0 k1 p0 p1 a0 a1 t0 t1" " " = known := by decide +kernel
def wins (s : Nat) : List Str := ((known ++ known).drop s).take 22
theorem wins_ok : ∀ s : Fin 22, Names 22 (wins s) := by
  have h1 : ∀ s : Fin 22, (wins s).length = 22 := by decide +kernel
  have h2 : ∀ s : Fin 22, (wins s).Nodup := by decide +kernel
  have h3 : ∀ s : Fin 22, (wins s).all (fun z => nameL (TL.tl z)) = true := by decide +kernel
  exact fun s => ⟨h1 s, h2 s, fun z hz => List.all_eq_true.mp (h3 s) z hz⟩
/-! words by halves -/
def halfs (a : Nat) : Nat → List (List Nat)
  | 0 => [[]]
  | k + 1 => halfs a k ++ [(halfs a k).getD (k / 2) [] ++ [97 + a + k % 2]]
theorem halfs_len (a : Nat) : ∀ k, (halfs a k).length = k + 1
  | 0 => rfl
  | k + 1 => by rw [halfs, List.length_append, halfs_len a k]; rfl
def txL (l : List Nat) : Str := ⟨⟨l⟩⟩
theorem halfs_ok : ∀ a : Fin 25, Names 30 (((halfs a 30).map txL).drop 1) := by
  have h1 : ∀ a : Fin 25, (((halfs a 30).map txL).drop 1).length = 30 := by decide +kernel
  have h2 : ∀ a : Fin 25, (((halfs a 30).map txL).drop 1).Nodup := by decide +kernel
  have h3 : ∀ a : Fin 25, (((halfs a 30).map txL).drop 1).all (fun z => nameL (TL.tl z)) = true := by decide +kernel
  exact fun s => ⟨h1 s, h2 s, fun z hz => List.all_eq_true.mp (h3 s) z hz⟩
theorem nodup_map {f : Nat → Str} {m : Nat} (inj : ∀ i j, i < m → j < m → f i = f j → i = j) : ((List.range m).map f).Nodup := by
  rw [List.Nodup, List.pairwise_map]
  exact List.nodup_range.imp_of_mem fun {a b} ha hb hne hf => hne (inj a b (List.mem_range.mp ha) (List.mem_range.mp hb) hf)
theorem tl_txL (l : List Nat) : TL.tl (txL l) = l := rfl
theorem low_of {c : Nat} (h : 97 ≤ c) (h2 : c ≤ 122) : isLow c = true := by unfold isLow; rw [decide_eq_true h, decide_eq_true h2]; rfl
theorem aln_low {c : Nat} (h : isLow c = true) : isAln c = true := by unfold isAln; rw [h]; rfl
theorem aln_dig {c : Nat} (h : isDig c = true) : isAln c = true := by unfold isAln; rw [h, Bool.or_true]
/-! a letter and a number -/
def numW (g s k : Nat) : Str := txL ((97 + g) :: TL.numL ((s + 9 * k) % 121))
theorem numWs_ok {g s m : Nat} (hg : g < 26) (hm : m ≤ 20) : Names m ((List.range m).map (numW g s)) := by
  refine ⟨by simp, nodup_map fun i j hi hj h => ?_, fun z hz => ?_⟩
  · have : ((97 + g) :: TL.numL ((s + 9 * i) % 121)) = ((97 + g) :: TL.numL ((s + 9 * j) % 121)) := congrArg TL.tl h
    have := TL.numL_inj (List.cons.inj this).2
    omega
  · obtain ⟨k, _, rfl⟩ := List.mem_map.mp hz
    have h1 := TL.numL_len (n := (s + 9 * k) % 121) (k := 3) (by decide) (by omega)
    have h2 := TL.numL_digits ((s + 9 * k) % 121)
    unfold numW
    rw [tl_txL]
    unfold nameL
    have a1 : (TL.numL ((s + 9 * k) % 121)).all isAln = true := List.all_eq_true.mpr fun c hc => aln_dig (isDig_iff.mpr (h2 c hc))
    have a2 : isLow (97 + g) = true := low_of (by omega) (by omega)
    simp only [List.length_cons, List.headD_cons, List.all_cons, a1, a2, aln_low a2, Bool.and_true]
    rw [decide_eq_true (by omega), decide_eq_true (by omega)]; rfl
/-! a stem with a sign put in -/
structure Stem (l : List Nat) : Prop where
  al : l.all isAln = true
  hd : l = [] ∨ isLow (l.headD 0) = true
def putW (stem : List Nat) (at_ start longer k : Nat) : List Nat := stem.take at_ ++ [97 + (start + 7 * k) % 26] ++ stem.drop at_ ++ List.replicate (k % 2 * longer) (97 + (start + 7 * k) % 26)
theorem putW_at {stem : List Nat} {at_ start longer k : Nat} (h : at_ ≤ stem.length) : (putW stem at_ start longer k)[at_]? = some (97 + (start + 7 * k) % 26) := by
  unfold putW
  have l1 : (stem.take at_).length = at_ := by rw [List.length_take]; omega
  rw [List.append_assoc, List.append_assoc, List.getElem?_append_right (by omega), l1, Nat.sub_self]
  rfl
theorem putWs_ok {stem : List Nat} {at_ start longer m : Nat} (S : Stem stem) (h : at_ ≤ stem.length) (hm : m ≤ 20) (hl : stem.length + 1 + longer ≤ 6) : Names m ((List.range m).map fun k => txL (putW stem at_ start longer k)) := by
  refine ⟨by simp, nodup_map fun i j hi hj e => ?_, fun z hz => ?_⟩
  · have e1 : putW stem at_ start longer i = putW stem at_ start longer j := congrArg TL.tl e
    have e2 := putW_at (start := start) (longer := longer) (k := i) h
    rw [e1, putW_at h] at e2
    have := Option.some.inj e2
    omega
  · obtain ⟨k, _, rfl⟩ := List.mem_map.mp hz
    rw [tl_txL]
    have sl : isLow (97 + (start + 7 * k) % 26) = true := low_of (by omega) (by omega)
    have hk : k % 2 * longer ≤ longer := by
      have : k % 2 ≤ 1 := by omega
      calc k % 2 * longer ≤ 1 * longer := Nat.mul_le_mul_right _ this
        _ = longer := Nat.one_mul _
    have len : (putW stem at_ start longer k).length = stem.length + 1 + k % 2 * longer := by
      unfold putW
      simp only [List.length_append, List.length_take, List.length_drop, List.length_cons, List.length_nil, List.length_replicate]
      omega
    have al : (putW stem at_ start longer k).all isAln = true := by
      unfold putW
      have h0 := S.al
      rw [List.all_eq_true] at h0 ⊢
      intro c hc
      simp only [List.mem_append, List.mem_singleton] at hc
      rcases hc with ((hc | hc) | hc) | hc
      · exact h0 c (List.mem_of_mem_take hc)
      · subst hc; exact aln_low sl
      · exact h0 c (List.mem_of_mem_drop hc)
      · rw [(List.mem_replicate.mp hc).2]; exact aln_low sl
    have hd : isLow ((putW stem at_ start longer k).headD 0) = true := by
      unfold putW
      cases at_ with
      | zero => simpa using sl
      | succ n =>
        rcases S.hd with e | e
        · subst e; simp at h
        · cases stem with
          | nil => simp at h
          | cons a b => simpa using e
    unfold nameL
    rw [al, hd, decide_eq_true (by omega), decide_eq_true (by omega)]; rfl
end Ga
set_option Elab.async false
set_option linter.all false
set_option maxRecDepth 100000
set_option maxHeartbeats 1000000
/-! Wb2: the law's names, run. -/
namespace Ga
open PySem L2 Fw
abbrev abc : Str := Str.ofString "abcdefghijklmnopqrstuvwxyz"
theorem tl_app (a b : Str) : TL.tl (a ++ b) = TL.tl a ++ TL.tl b := by
  show (a.cps ++ b.cps).toList = _
  rw [Array.toList_append]
theorem txL_app (a b : List Nat) : txL a ++ txL b = txL (a ++ b) := str_ext (by rw [tl_app]; rfl)
theorem txL_len (a : List Nat) : (txL a).length = a.length := rfl
theorem abc_at : ∀ i : Fin 26, L2.atI (TL.tl abc) ((i.val : Nat) : Int) = some (97 + i.val) := by decide +kernel
theorem abc_ix {i : Nat} (h : i < 26) {ms : Ms} : gIx (.d (.str abc)) (.d (.int (i : Nat))) ms = .ok (.d (.str (txL [97 + i]))) ms := by
  rw [gIxs (show abc.length ≤ 1000000 by decide +kernel)]
  have := abc_at ⟨i, h⟩
  rw [show L2.atI (abc.cps.toList) (i : Int) = some (97 + i) from this]
  rfl
theorem nat_of {r : Int} {n : Nat} (h0 : 0 ≤ r) (h1 : r < n) : ∃ k : Nat, r = (k : Int) ∧ k < n := ⟨r.toNat, by omega, by omega⟩
/-- a number below n is drawn -/
theorem takeN {n : Nat} (h : 0 < n) (h2 : n < 1000000) {c : Cell} (hc : IsFeed c) : ∃ (k : Nat) (c' : Cell), IsFeed c' ∧ k < n ∧ f__law_take [.loc 0, .d (.int (n : Nat))] [c] = .ok (.d (.int (k : Nat))) [c'] := by
  obtain ⟨r, c', f1, r0, r1, e⟩ := take_ok (m := (n : Int)) (by omega) (by omega) hc
  obtain ⟨k, rfl, hk⟩ := nat_of r0 r1
  exact ⟨k, c', f1, hk, e⟩
/-! the halves -/
noncomputable abbrev halfBody : Fw.Env → Ms → T := sExpr (mBM .list gAppend (mVar 7) (aCons (mOp gAdd (mOp gIx (mVar 7) (mOp gDivI (mVar 8) (mC (.d (.int 2))))) (mOp gIx (mVar 2) (mOp gAdd (mVar 6) (mOp gModI (mVar 8) (mC (.d (.int 2))))))) (aNil)))
abbrev env2 (M : D) (a : Nat) (o : Option S) : Fw.Env := [some (.loc 0), some (.d M), some (.d (.str abc)), some (.d (.int 2)), none, none, some (.d (.int (a : Nat))), some (.loc 1), o, none, none, none, none, none, none]
theorem half_len (a : Nat) : ∀ k, ∀ w ∈ halfs a k, w.length ≤ k
  | 0, w, h => by simp [halfs] at h; subst h; simp
  | k + 1, w, h => by
    rw [halfs, List.mem_append] at h
    rcases h with h | h
    · exact Nat.le_succ_of_le (half_len a k w h)
    · rw [List.mem_singleton] at h
      subst h
      have hlt : k / 2 < (halfs a k).length := by rw [halfs_len]; omega
      have := half_len a k ((halfs a k).getD (k / 2) []) (by rw [List.getD_eq_getElem?_getD, List.getElem?_eq_getElem hlt]; exact List.getElem_mem hlt)
      rw [List.length_append, List.length_singleton]; omega
theorem half_run {M : D} {a j : Nat} {L : List D} {c : Cell} {z y : Str} (ha : a + j % 2 < 26) (h3 : L2.atI L ((j / 2 : Nat) : Int) = some (.str z)) (h4 : ∀ ms, gAdd (.d (.str z)) (.d (.str (txL [97 + (a + j % 2)]))) ms = .ok (.d (.str y)) ms)
    (hl : L.length ≤ 1000000) : halfBody (env2 M a (some (.d (.int (0 + (j : Nat)))))) [c, .lst L] = .nx (env2 M a (some (.d (.int (0 + (j : Nat)))))) [c, .lst (L ++ [.str y])] := by
  have e0 : (0 : Int) + (j : Int) = (j : Int) := by omega
  have e1 : ((j : Nat) : Int) / 2 = ((j / 2 : Nat) : Int) := by omega
  have e2 : (a : Int) + ((j : Nat) : Int) % 2 = ((a + j % 2 : Nat) : Int) := by omega
  have e5 : gAppend (.loc 1) [.d (.str y)] [c, .lst L] = .ok (.d .non) [c, .lst (L ++ [.str y])] := append_loc (ms := [c, .lst L]) (n := 1) rfl hl
  have t1 : tyS .list (.loc 1) [c, .lst L] = true := rfl
  have i1 : gIx (.loc 1) (.d (.int ((j / 2 : Nat) : Int))) [c, .lst L] = .ok (.d (.str z)) [c, .lst L] := by
    rw [gIx_loc]
    simp only [List.getElem?_cons_succ, List.getElem?_cons_zero, h3]
  have d1 := divI (a := (j : Int)) (b := 2) (ms := [c, .lst L]) (by decide) (by decide)
  have m1 := modI (a := (j : Int)) (b := 2) (ms := [c, .lst L]) (by decide)
  rw [e1] at d1
  simp only [halfBody, env2, e0, ev_expr, ev_bm, ev_var, ev_c, ev_op, List.getElem?_cons_zero, List.getElem?_cons_succ, bind_ok, ofE_ok, t1, if_true, ev_aCons, ev_aNil, d1, m1, addII, e2, i1, abc_ix ha, h4, e5]
theorem half_step {a j : Nat} {M : D} {c : Cell} (ha : a < 25) (hj : j < 30) : halfBody (env2 M a (some (.d (.int (0 + (j : Nat)))))) [c, .lst (strsD ((halfs a j).map txL))] = .nx (env2 M a (some (.d (.int (0 + (j : Nat)))))) [c, .lst (strsD ((halfs a (j + 1)).map txL))] := by
  have len := halfs_len a j
  have hk : j / 2 < (halfs a j).length := by omega
  have e3 : L2.atI (strsD ((halfs a j).map txL)) ((j / 2 : Nat) : Int) = some (.str (txL (halfs a j)[j / 2])) := by
    rw [atI_nat (by simpa using hk)]; simp [strsD]
  have lw := half_len a j _ (List.getElem_mem hk)
  have e4 : ∀ ms, gAdd (.d (.str (txL (halfs a j)[j / 2]))) (.d (.str (txL [97 + (a + j % 2)]))) ms = .ok (.d (.str (txL ((halfs a j)[j / 2] ++ [97 + (a + j % 2)])))) ms := fun ms => by
    rw [addSS (by rw [txL_len, txL_len, List.length_singleton]; omega), txL_app]
  have e6 : strsD ((halfs a (j + 1)).map txL) = strsD ((halfs a j).map txL) ++ [.str (txL ((halfs a j)[j / 2] ++ [97 + (a + j % 2)]))] := by
    have : (halfs a j).getD (j / 2) [] = (halfs a j)[j / 2] := by rw [List.getD_eq_getElem?_getD, List.getElem?_eq_getElem hk]; rfl
    rw [halfs, this, List.map_append, strsD, List.map_append]
    simp [strsD, Nat.add_assoc]
  rw [e6]
  exact half_run (by omega) e3 e4 (by simp; omega)
theorem half_loop {a : Nat} {M : D} {c : Cell} (ha : a < 25) : ∃ o, sFor (iRng1 (aCons (mC (.d (.int 30))) (aNil))) (gSet 8) halfBody (env2 M a none) [c, .lst [.str (Str.ofString "")]] = .nx (env2 M a o) [c, .lst (strsD ((halfs a 30).map txL))] := by
  have hi : iRng1 (aCons (mC (.d (.int 30))) (aNil)) (env2 M a none) [c, .lst [.str (Str.ofString "")]] = .ok (rngS 0 30, none) [c, .lst [.str (Str.ofString "")]] := by
    refine rng1_nat (i := 30) ?_ (by decide)
    rfl
  obtain ⟨e, m, h1, o, rfl, rfl⟩ := Nx_forI (P := fun j e m => ∃ o, e = env2 M a o ∧ m = [c, .lst (strsD ((halfs a j).map txL))]) (g := gSet 8) (body := halfBody) hi ⟨none, rfl, rfl⟩ (fun j x hx e m hp => by
    obtain ⟨hj, rfl⟩ := rng_at hx
    obtain ⟨o, rfl, rfl⟩ := hp
    exact ⟨_, rfl, _, _, half_step ha hj, _, rfl, rfl⟩)
  rw [rng_len] at h1
  exact ⟨o, h1⟩
end Ga
set_option Elab.async false
set_option linter.all false
set_option maxRecDepth 100000
set_option maxHeartbeats 1000000
/-! Wb3: the law's names, run on. -/
namespace Ga
open PySem L2 Fw
/-- a comprehension with a state, by places -/
theorem comp_idx (P : Ms → Prop) (Q : Nat → D → Prop) {g : S → Fw.Env → Ms → Option Fw.Env} {tt : Fw.Env → Ms → R Bool} {elt : Fw.Env → Ms → R S} {vs : List Nat} {env : Fw.Env} : ∀ (xs : List S) (acc : List D) (i : Nat) (ms : Ms), P ms →
    (∀ j x, xs[j]? = some x → ∀ ms, P ms → ∃ e1 d ms', g x (wipeE env vs) ms = some e1 ∧ tt e1 ms = .ok true ms ∧ elt e1 ms = .ok (.d d) ms' ∧ Q (i + j) d ∧ P ms') → acc.length + xs.length ≤ 1000000 →
    ∃ ds ms', compL none g tt elt vs env xs acc ms = .ok (acc ++ ds) ms' ∧ ds.length = xs.length ∧ (∀ j d, ds[j]? = some d → Q (i + j) d) ∧ P ms'
  | [], acc, i, ms, p, _, _ => ⟨[], ms, by simp [compL, chk], rfl, (fun j d h => by simp at h), p⟩
  | x :: xs, acc, i, ms, p, hx, hl => by
    obtain ⟨e1, d, ms', h1, h2, h3, h4, h5⟩ := hx 0 x rfl ms p
    simp only [List.length_cons] at hl
    obtain ⟨ds, ms2, k1, k2, k3, k4⟩ := comp_idx P Q (g := g) (tt := tt) (elt := elt) (vs := vs) (env := env) xs (acc ++ [d]) (i + 1) ms' h5 (fun j y hy ms pm => by
      have := hx (j + 1) y (by simpa using hy) ms pm
      rwa [show i + (j + 1) = i + 1 + j by omega] at this) (by simp; omega)
    refine ⟨d :: ds, ms2, ?_, by simp [k2], fun j y hy => ?_, k4⟩
    · have f : few acc.length = true := by rw [few_ev, decide_eq_true]; omega
      simp only [compL, chk, h1, h2, h3, bind_ok, f]
      rw [k1]; simp
    · cases j with
      | zero => cases hy; exact h4
      | succ j =>
        have := k3 j y (by simpa using hy)
        rwa [show i + 1 + j = i + (j + 1) by omega] at this
theorem lc_idx (P : Ms → Prop) (Q : Nat → D → Prop) {mi : MI} {g : S → Fw.Env → Ms → Option Fw.Env} {tt : Fw.Env → Ms → R Bool} {elt : Fw.Env → Ms → R S} {vs : List Nat} {env : Fw.Env} {ms ms1 : Ms} {xs : List S} (hi : mi env ms = .ok (xs, none) ms1) (p : P ms1)
    (hx : ∀ j x, xs[j]? = some x → ∀ ms, P ms → ∃ e1 d ms', g x (wipeE env vs) ms = some e1 ∧ tt e1 ms = .ok true ms ∧ elt e1 ms = .ok (.d d) ms' ∧ Q j d ∧ P ms') (hl : xs.length ≤ 1000000) :
    ∃ ds ms', mLc false mi g tt elt vs env ms = .ok (.d (.lst ds)) ms' ∧ ds.length = xs.length ∧ (∀ j d, ds[j]? = some d → Q j d) ∧ P ms' := by
  obtain ⟨ds, ms', k1, k2, k3, k4⟩ := comp_idx P Q (g := g) (tt := tt) (elt := elt) (vs := vs) (env := env) xs [] 0 ms1 p (fun j x h ms pm => by
    have := hx j x h ms pm
    rwa [Nat.zero_add]) (by simpa using hl)
  refine ⟨ds, ms', ?_, k2, (fun j d h => by have := k3 j d h; rwa [Nat.zero_add] at this), k4⟩
  unfold mLc
  rw [hi]
  simp only [bind_ok]
  rw [k1]; rfl
/-! a letter and a number -/
abbrev env3 (M : D) (g s : Nat) : Fw.Env := [some (.loc 0), some (.d M), some (.d (.str abc)), some (.d (.int 3)), none, some (.d (.int (s : Nat))), none, none, none, some (.d (.str (txL [97 + g]))), none, none, none, none, none]
theorem nums_comp {m g s : Nat} {ms : Ms} (hg : g < 26) (hs : s < 121) (hm : m ≤ 20) :
    mLc false (iRng1 (aCons (mVar 1) (aNil))) (gSet 8) (fun _ ms => .ok true ms) (mOp gAdd (mVar 9) (mB1 (Fw.c1 strD) (aCons (mOp gModI (mOp gAdd (mVar 5) (mOp gMul (mC (.d (.int 9))) (mVar 8))) (mC (.d (.int 121)))) (aNil)))) [8] (env3 (.int (m : Nat)) g s) ms =
      .ok (.d (.lst (strsD ((List.range m).map (numW g s))))) ms := by
  have hi : iRng1 (aCons (mVar 1) (aNil)) (env3 (.int (m : Nat)) g s) ms = .ok (((List.range m).map fun i => D.int ((0 : Int) + (i : Nat))).map S.d, none) ms := by
    have := rng1_nat (mal := aCons (mVar 1) (aNil)) (env := env3 (.int (m : Nat)) g s) (ms := ms) (ms1 := ms) (i := m) rfl (by omega)
    rw [this]
    unfold rngS
    rw [List.map_map]; rfl
  have e : strsD ((List.range m).map (numW g s)) = ((List.range m).map fun i => D.int ((0 : Int) + (i : Nat))).map (fun d => match d with
      | .int k => .str (numW g s k.toNat)
      | _ => .non) := by
    rw [List.map_map, strsD, List.map_map]
    apply List.map_congr_left
    intro i _
    simp
  rw [e]
  refine lc_all _ hi (fun x hx => ?_) (by simp; omega)
  obtain ⟨i, hi2, rfl⟩ := List.mem_map.mp hx
  have him := List.mem_range.mp hi2
  refine ⟨_, rfl, rfl, ?_⟩
  have e0 : (0 : Int) + (i : Int) = (i : Int) := by omega
  have m1 := mulIl (a := 9) (b := (i : Int)) (ms := ms) (by decide)
  have m2 := modI (a := (s : Int) + 9 * (i : Int)) (b := 121) (ms := ms) (by decide)
  have e1 : ((s : Int) + 9 * (i : Int)) % 121 = (((s + 9 * i) % 121 : Nat) : Int) := by omega
  have s1 := str_int (a := (((s + 9 * i) % 121 : Nat) : Int)) (ms := ms) (by rw [Int.natAbs_natCast]; exact Nat.lt_of_lt_of_le (Nat.mod_lt _ (by decide)) (by decide))
  have w1 : txL [97 + g] ++ itx (((s + 9 * i) % 121 : Nat) : Int) = numW g s i := by
    refine str_ext ?_
    rw [tl_app, tl_txL]
    unfold numW itx
    rw [tl_txL, tl_str]; rfl
  have l1 : (itx (((s + 9 * i) % 121 : Nat) : Int)).length ≤ 32 := itx_len (by rw [Int.natAbs_natCast]; exact Nat.lt_of_lt_of_le (Nat.mod_lt _ (by decide)) (by decide))
  have a1 : gAdd (.d (.str (txL [97 + g]))) (.d (.str (itx (((s + 9 * i) % 121 : Nat) : Int)))) ms = .ok (.d (.str (numW g s i))) ms := by
    rw [addSS (by rw [txL_len, List.length_singleton]; omega), w1]
  show mOp gAdd (mVar 9) (mB1 (Fw.c1 strD) (aCons (mOp gModI (mOp gAdd (mVar 5) (mOp gMul (mC (.d (.int 9))) (mVar 8))) (mC (.d (.int 121)))) (aNil))) [some (.loc 0), some (.d (.int (m : Nat))), some (.d (.str abc)), some (.d (.int 3)), none, some (.d (.int (s : Nat))), none, none, some (.d (.int (0 + (i : Nat)))), some (.d (.str (txL [97 + g]))), none, none, none, none, none] ms = _
  simp only [ev_op, ev_var, ev_c, ev_b1, ev_aCons, ev_aNil, List.getElem?_cons_zero, List.getElem?_cons_succ, bind_ok, e0, m1, addII, m2, e1, s1, a1, Int.toNat_natCast]
end Ga
set_option Elab.async false
set_option linter.all false
set_option maxRecDepth 100000
set_option maxHeartbeats 1000000
/-! Wb4: a stem, a sign put in. -/
namespace Ga
open PySem L2 Fw
abbrev figs : Str := abc ++ Str.ofString "0123456789"
def figC (i : Nat) : Nat := if i < 26 then 97 + i else 48 + (i - 26)
theorem figs_at : ∀ i : Fin 36, L2.atI (TL.tl figs) ((i.val : Nat) : Int) = some (figC i.val) := by decide +kernel
theorem figs_ix {i : Nat} (h : i < 36) {ms : Ms} : gIx (.d (.str figs)) (.d (.int (i : Nat))) ms = .ok (.d (.str (txL [figC i]))) ms := by
  rw [gIxs (show figs.length ≤ 1000000 by decide +kernel)]
  rw [show L2.atI (figs.cps.toList) (i : Int) = some (figC i) from figs_at ⟨i, h⟩]
  rfl
theorem ofStrs_map : ∀ ws : List Str, ofStrs (strsD ws) = some ws
  | [] => rfl
  | w :: ws => by
    show ofStrs (.str w :: strsD ws) = _
    simp [ofStrs, ofStrs_map ws]
theorem join_signs : ∀ l : List Nat, Txt.join Str.empty (l.map fun c => txL [c]) = txL l := fun l => by
  rw [TL.join_eq]
  induction l with
  | nil => rfl
  | cons x l ih =>
    cases l with
    | nil => rfl
    | cons y l =>
      have e : Str.join Str.empty ((x :: y :: l).map fun c => txL [c]) = txL [x] ++ Str.empty ++ Str.join Str.empty ((y :: l).map fun c => txL [c]) := rfl
      rw [e, ih, PySem.Str.append_empty, txL_app]; rfl
theorem join_ev {l : List Nat} (h : l.length ≤ 1000) {ms : Ms} : gJoin (.d (.str (Str.ofString ""))) [.d (.lst (strsD (l.map fun c => txL [c])))] ms = .ok (.d (.str (txL l))) ms := by
  unfold gJoin
  dsimp only
  rw [view_d]
  dsimp only
  rw [ofStrs_map]
  dsimp only
  have hs : (((l.map fun c => txL [c]).map (·.length))).sum = l.length := by
    clear h
    induction l with
    | nil => rfl
    | cons x l ih => rw [List.map_cons, List.map_cons, List.sum_cons, ih, txL_len]; simp; omega
  have f : few (((l.map fun c => txL [c]).map (·.length)).sum + (l.map fun c => txL [c]).length * (Str.ofString "").length) = true := by
    rw [few_ev, hs]
    refine decide_eq_true ?_
    rw [show (Str.ofString "").length = 0 from rfl, Nat.mul_zero]; omega
  rw [f]
  show R.ok (S.d (.str (Txt.join Str.empty (l.map fun c => txL [c])))) ms = _
  rw [join_signs]
def StemQ (j : Nat) (d : D) : Prop := ∃ x, d = .str (txL [x]) ∧ isAln x = true ∧ (j = 0 → isLow x = true)
theorem stem_of : ∀ (ds : List D), (∀ j d, ds[j]? = some d → StemQ j d) → ∃ l : List Nat, ds = strsD (l.map fun c => txL [c]) ∧ Stem l := fun ds h => by
  have : ∀ (ds : List D), (∀ d ∈ ds, ∃ x, d = .str (txL [x]) ∧ isAln x = true) → ∃ l : List Nat, ds = strsD (l.map fun c => txL [c]) ∧ l.all isAln = true := fun ds => by
    induction ds with
    | nil => intro _; exact ⟨[], rfl, rfl⟩
    | cons d ds ih =>
      intro h
      obtain ⟨x, rfl, hx⟩ := h _ List.mem_cons_self
      obtain ⟨l, rfl, hl⟩ := ih fun y hy => h y (List.mem_cons_of_mem _ hy)
      exact ⟨x :: l, rfl, by rw [List.all_cons, hx, hl]; rfl⟩
  obtain ⟨l, rfl, hl⟩ := this ds (fun d hd => by
    obtain ⟨j, hj⟩ := List.mem_iff_getElem?.mp hd
    obtain ⟨x, h1, h2, _⟩ := h j d hj
    exact ⟨x, h1, h2⟩)
  refine ⟨l, rfl, hl, ?_⟩
  cases l with
  | nil => exact .inl rfl
  | cons x l =>
    obtain ⟨y, h1, h2, h3⟩ := h 0 (.str (txL [x])) rfl
    have e : x = y := by
      have := congrArg (fun d => match d with
        | D.str z => TL.tl z
        | _ => []) h1
      simpa [tl_txL] using this
    subst e
    exact .inr (h3 rfl)
abbrev env4 (M F : D) (n : Nat) : Fw.Env := [some (.loc 0), some (.d M), some (.d (.str abc)), some (.d F), none, none, none, none, none, none, some (.d (.str figs)), some (.d (.int (n : Nat))), none, none, none]
theorem stem_comp {M F : D} {n : Nat} {c : Cell} (hn : n ≤ 5) (hc : IsFeed c) : ∃ (l : List Nat) (c' : Cell), IsFeed c' ∧ Stem l ∧ l.length = n ∧
    mLc false (iRng1 (aCons (mVar 11) (aNil))) (gSet 8) (fun _ ms => .ok true ms) (mOp gIx (mVar 10) (mCallN (bndS f__law_take [0, 1] []) (mLen 2 (aCons (mVar 0) (aCons (mOp gAdd (mC (.d (.int 26))) (mOp gMul (mC (.d (.int 10))) (mB1 (Fw.c1 intD) (aCons (mOp gGt (mVar 8) (mC (.d (.int 0)))) (aNil))))) (aNil)))))) [8] (env4 M F n) [c] =
      .ok (.d (.lst (strsD (l.map fun c => txL [c])))) [c'] := by
  obtain ⟨ds, ms', h1, h2, h3, c', f', rfl⟩ := lc_idx (fun ms => ∃ c, IsFeed c ∧ ms = [c]) StemQ (mi := iRng1 (aCons (mVar 11) (aNil))) (g := gSet 8) (tt := fun _ ms => .ok true ms)
    (elt := mOp gIx (mVar 10) (mCallN (bndS f__law_take [0, 1] []) (mLen 2 (aCons (mVar 0) (aCons (mOp gAdd (mC (.d (.int 26))) (mOp gMul (mC (.d (.int 10))) (mB1 (Fw.c1 intD) (aCons (mOp gGt (mVar 8) (mC (.d (.int 0)))) (aNil))))) (aNil)))))) (vs := [8]) (env := env4 M F n) (ms := [c]) (ms1 := [c]) (xs := rngS 0 n)
    (rng1_nat rfl (by omega)) ⟨c, hc, rfl⟩ (fun j x hx ms ⟨c2, f2, hms⟩ => by
      subst hms
      obtain ⟨hj, rfl⟩ := rng_at hx
      have e0 : (0 : Int) + (j : Int) = (j : Int) := by omega
      obtain ⟨k, c3, f3, k1, e3⟩ := takeN (n := 26 + 10 * (if 0 < j then 1 else 0)) (by omega) (by split <;> decide) f2
      have hk : k < 36 := by split at k1 <;> omega
      refine ⟨_, .str (txL [figC k]), [c3], rfl, rfl, ?_, ⟨figC k, rfl, ?_, fun z => ?_⟩, c3, f3, rfl⟩
      · have m1 := mulIl (a := 10) (b := ((if 0 < j then 1 else 0 : Nat) : Int)) (ms := [c2]) (by decide)
        have i1 : Fw.c1 intD [.d (.bl (decide ((0 : Int) < (j : Int))))] [c2] = .ok (.d (.int ((if 0 < j then 1 else 0 : Nat) : Int))) [c2] := by
          rw [intD_bl]
          by_cases h : 0 < j
          · rw [decide_eq_true (show (0 : Int) < (j : Int) by omega), if_pos rfl, if_pos h]; rfl
          · rw [decide_eq_false (show ¬ (0 : Int) < (j : Int) by omega), if_neg (by decide), if_neg h]; rfl
        have a1 : (26 : Int) + 10 * ((if 0 < j then 1 else 0 : Nat) : Int) = ((26 + 10 * (if 0 < j then 1 else 0) : Nat) : Int) := by push_cast; rfl
        show mOp gIx (mVar 10) (mCallN (bndS f__law_take [0, 1] []) (mLen 2 (aCons (mVar 0) (aCons (mOp gAdd (mC (.d (.int 26))) (mOp gMul (mC (.d (.int 10))) (mB1 (Fw.c1 intD) (aCons (mOp gGt (mVar 8) (mC (.d (.int 0)))) (aNil))))) (aNil))))) [some (.loc 0), some (.d M), some (.d (.str abc)), some (.d F), none, none, none, none, some (.d (.int (0 + (j : Nat)))), none, some (.d (.str figs)), some (.d (.int (n : Nat))), none, none, none] [c2] = _
        simp only [ev_op, ev_var, ev_c, ev_b1, ev_aCons, ev_aNil, List.getElem?_cons_zero, List.getElem?_cons_succ, bind_ok, e0, ev_callN, ev_len, gtII, i1, m1, addII, a1, lenIs_ev, List.length_cons, List.length_nil, bnd_ev, if_true]
        simp only [List.append_nil, pick, List.filterMap_cons, List.filterMap_nil, List.getElem?_cons_zero, List.getElem?_cons_succ, call_l1, getC_ev, e3, backL_d, List.set_cons_zero, bind_ok, figs_ix hk]
      · unfold figC
        split
        · exact aln_low (low_of (by omega) (by omega))
        · exact aln_dig (isDig_iff.mpr (by omega))
      · subst z
        have : k < 26 := by simpa using k1
        unfold figC
        rw [if_pos this]
        exact low_of (by omega) (by omega)) (by simp; omega)
  obtain ⟨l, rfl, S⟩ := stem_of ds h3
  exact ⟨l, c', f', S, by simpa using h2, h1⟩
end Ga
set_option Elab.async false
set_option linter.all false
set_option maxRecDepth 100000
set_option maxHeartbeats 1000000
/-! Wb5: the names, put together. -/
namespace Ga
open PySem L2 Fw
noncomputable abbrev putBody : Fw.Env → Ms → T := sCons (sSet 9 (mOp gIx (mVar 2) (mOp gModI (mOp gAdd (mVar 5) (mOp gMul (mC (.d (.int 7))) (mVar 8))) (mC (.d (.int 26))))))
 (sCons (sSet 14 (mOp gMul (mVar 9) (mOp gMul (mOp gModI (mVar 8) (mC (.d (.int 2)))) (mVar 13))))
 (sExpr (mBM .list gAppend (mVar 7) (aCons (mOp gAdd (mOp gAdd (mOp gAdd (mSl (mVar 12) (pNo) (pAt (mVar 6))) (mVar 9)) (mSl (mVar 12) (pAt (mVar 6)) (pNo))) (mVar 14)) (aNil)))))
abbrev env5 (M F : D) (n st a lo : Nat) (stem : List Nat) (k s m : Option S) : Fw.Env := [some (.loc 0), some (.d M), some (.d (.str abc)), some (.d F), none, some (.d (.int (st : Nat))), some (.d (.int (a : Nat))), some (.loc 1), k, s, some (.d (.str figs)), some (.d (.int (n : Nat))), some (.d (.str (txL stem))), some (.d (.int (lo : Nat))), m]
theorem strMul01 (x : Nat) {n : Nat} (h : n ≤ 1) : strMul (txL [x]) (n : Int) = txL (List.replicate n x) := by
  rcases Nat.le_one_iff_eq_zero_or_eq_one.mp h with rfl | rfl
  · rfl
  · rfl
theorem cut_pre {stem : List Nat} {a : Nat} (h : a ≤ stem.length) : cutS (txL stem) none (some (a : Int)) = txL (stem.take a) := by
  refine str_ext ?_
  rw [tl_cut, tl_txL, tl_txL, txL_len]
  simp only [HT.sIx, if_neg (show ¬ (a : Int) < 0 by omega), List.drop_zero, Nat.sub_zero, Int.toNat_natCast]
  rw [Nat.min_eq_left h]
theorem cut_suf {stem : List Nat} {a : Nat} (h : a ≤ stem.length) : cutS (txL stem) (some (a : Int)) none = txL (stem.drop a) := by
  refine str_ext ?_
  rw [tl_cut, tl_txL, tl_txL, txL_len]
  simp only [HT.sIx, if_neg (show ¬ (a : Int) < 0 by omega), Int.toNat_natCast]
  rw [Nat.min_eq_left h, List.take_of_length_le]
  rw [List.length_drop]; omega
theorem put_step {M F : D} {n st a lo j : Nat} {stem : List Nat} {L : List D} {c : Cell} {s m : Option S} (ha : a ≤ stem.length) (hl : stem.length ≤ 5) (hlo : lo ≤ 1) (hL : L.length ≤ 1000) :
    ∃ s' m', putBody (env5 M F n st a lo stem (some (.d (.int (0 + (j : Nat))))) s m) [c, .lst L] = .nx (env5 M F n st a lo stem (some (.d (.int (0 + (j : Nat))))) s' m') [c, .lst (L ++ [.str (txL (putW stem a st lo j))])] := by
  have e0 : (0 : Int) + (j : Int) = (j : Int) := by omega
  have m1 := mulIl (a := 7) (b := (j : Int)) (ms := [c, .lst L]) (by decide)
  have m2 := modI (a := (st : Int) + 7 * (j : Int)) (b := 26) (ms := [c, .lst L]) (by decide)
  have e1 : ((st : Int) + 7 * (j : Int)) % 26 = (((st + 7 * j) % 26 : Nat) : Int) := by omega
  have i1 := abc_ix (i := (st + 7 * j) % 26) (Nat.mod_lt _ (by decide)) (ms := [c, .lst L])
  have m3 := modI (a := (j : Int)) (b := 2) (ms := [c, .lst L]) (by decide)
  have e2 : (j : Int) % 2 = ((j % 2 : Nat) : Int) := by omega
  have m4 := mulIl (a := ((j % 2 : Nat) : Int)) (b := (lo : Int)) (ms := [c, .lst L]) (by omega)
  have e3 : ((j % 2 : Nat) : Int) * (lo : Int) = ((j % 2 * lo : Nat) : Int) := by push_cast; rfl
  have hk : j % 2 * lo ≤ 1 := by
    have : j % 2 ≤ 1 := by omega
    calc j % 2 * lo ≤ 1 * 1 := Nat.mul_le_mul this hlo
      _ = 1 := rfl
  have m5 := mulSI (x := txL [97 + (st + 7 * j) % 26]) (n := ((j % 2 * lo : Nat) : Int)) (ms := [c, .lst L]) (by rw [txL_len]; simp) (by omega) (by omega)
  have s1 := sl_str_ev (z := txL stem) (by rw [txL_len]; omega) (lo := none) (hi := some (a : Int)) (ms := [c, .lst L])
  have s2 := sl_str_ev (z := txL stem) (by rw [txL_len]; omega) (lo := some (a : Int)) (hi := none) (ms := [c, .lst L])
  rw [cut_pre ha] at s1
  rw [cut_suf ha] at s2
  rw [strMul01 _ hk] at m5
  have a1 : gAdd (.d (.str (txL (stem.take a)))) (.d (.str (txL [97 + (st + 7 * j) % 26]))) [c, .lst L] = .ok (.d (.str (txL (stem.take a ++ [97 + (st + 7 * j) % 26])))) [c, .lst L] := by
    rw [addSS (by rw [txL_len, txL_len, List.length_take, List.length_singleton]; omega), txL_app]
  have a2 : gAdd (.d (.str (txL (stem.take a ++ [97 + (st + 7 * j) % 26])))) (.d (.str (txL (stem.drop a)))) [c, .lst L] = .ok (.d (.str (txL (stem.take a ++ [97 + (st + 7 * j) % 26] ++ stem.drop a)))) [c, .lst L] := by
    rw [addSS (by rw [txL_len, txL_len, List.length_append, List.length_take, List.length_drop, List.length_singleton]; omega), txL_app]
  have a3 : gAdd (.d (.str (txL (stem.take a ++ [97 + (st + 7 * j) % 26] ++ stem.drop a)))) (.d (.str (txL (List.replicate (j % 2 * lo) (97 + (st + 7 * j) % 26))))) [c, .lst L] = .ok (.d (.str (txL (putW stem a st lo j)))) [c, .lst L] := by
    rw [addSS (by rw [txL_len, txL_len, List.length_append, List.length_append, List.length_take, List.length_drop, List.length_singleton, List.length_replicate]; omega), txL_app]; rfl
  have e5 : gAppend (.loc 1) [.d (.str (txL (putW stem a st lo j)))] [c, .lst L] = .ok (.d .non) [c, .lst (L ++ [.str (txL (putW stem a st lo j))])] := append_loc (ms := [c, .lst L]) (n := 1) rfl (by omega)
  have t1 : tyS .list (.loc 1) [c, .lst L] = true := rfl
  refine ⟨some (.d (.str (txL [97 + (st + 7 * j) % 26]))), some (.d (.str (txL (List.replicate (j % 2 * lo) (97 + (st + 7 * j) % 26))))), ?_⟩
  simp only [putBody, env5, ev_cons, ev_set, ev_expr, ev_op, ev_var, ev_c, ev_bm, ev_aCons, ev_aNil, ev_sl, ev_pNo, ev_pAt, asO_int, List.getElem?_cons_zero, List.getElem?_cons_succ, List.set_cons_zero, List.set_cons_succ, bind_ok, ofE_ok, seq_nx, e0, m1, addII, m2, e1, i1, m3, e2, m4, e3, m5, s1, s2, a1, a2, a3, t1, if_true, e5]
theorem put_loop {F : D} {m n st a lo : Nat} {stem : List Nat} {c : Cell} (hm : m ≤ 20) (ha : a ≤ stem.length) (hl : stem.length ≤ 5) (hlo : lo ≤ 1) :
    ∃ e, sFor (iRng1 (aCons (mVar 1) (aNil))) (gSet 8) putBody (env5 (.int (m : Nat)) F n st a lo stem none none none) [c, .lst []] = .nx e [c, .lst (strsD ((List.range m).map fun k => txL (putW stem a st lo k)))] ∧ ∃ k s r, e = env5 (.int (m : Nat)) F n st a lo stem k s r := by
  obtain ⟨e, ms, h1, k, s, r, rfl, rfl⟩ := Nx_forI (P := fun j e ms => ∃ k s r, e = env5 (.int (m : Nat)) F n st a lo stem k s r ∧ ms = [c, .lst (strsD ((List.range j).map fun k => txL (putW stem a st lo k)))]) (g := gSet 8) (body := putBody)
    (rng1_nat (mal := aCons (mVar 1) (aNil)) (env := env5 (.int (m : Nat)) F n st a lo stem none none none) (ms := [c, .lst []]) (ms1 := [c, .lst []]) (i := m) rfl (by omega)) ⟨none, none, none, rfl, rfl⟩ (fun j x hx e ms hp => by
    obtain ⟨hj, rfl⟩ := rng_at hx
    obtain ⟨k, s, r, rfl, rfl⟩ := hp
    obtain ⟨s', m', h⟩ := put_step (M := .int (m : Nat)) (F := F) (n := n) (st := st) (a := a) (lo := lo) (j := j) (stem := stem) (L := strsD ((List.range j).map fun k => txL (putW stem a st lo k))) (c := c) (s := s) (m := r) ha hl hlo (by simp; omega)
    refine ⟨_, rfl, _, _, h, some (.d (.int (0 + (j : Nat)))), s', m', rfl, ?_⟩
    rw [List.range_succ]
    simp [strsD])
  rw [rng_len] at h1
  exact ⟨_, h1, k, s, r, rfl⟩
end Ga
set_option Elab.async false
set_option linter.all false
set_option maxRecDepth 100000
set_option maxHeartbeats 1000000
/-! Wb6: the law's names, all of it. -/
namespace Ga
open PySem L2 Fw
theorem takeI {m : Int} (h : 0 < m) (h2 : m < 1000000) {c : Cell} (hc : IsFeed c) : ∃ (k : Nat) (c' : Cell), IsFeed c' ∧ (k : Int) < m ∧ f__law_take [.loc 0, .d (.int m)] [c] = .ok (.d (.int (k : Nat))) [c'] := by
  obtain ⟨r, c', f1, r0, r1, e⟩ := take_ok (m := m) h (by omega) hc
  obtain ⟨k, rfl⟩ := Int.eq_ofNat_of_zero_le r0
  exact ⟨k, c', f1, r1, e⟩
theorem split_known {ms : Ms} : gSplit (.d (.str "posts tie cut change undo closes span if core flat table show no yes k0 k1 p0 p1 a0 a1 t0 t1")) [.d (.str " ")] ms = .ok (.d (.lst (strsD known))) ms := by
  unfold gSplit
  have e : (!((Str.ofString " ").length == 0) && few (Str.length "posts tie cut change undo closes span if core flat table show no yes k0 k1 p0 p1 a0 a1 t0 t1" + 2)) = true := by decide +kernel
  dsimp only
  rw [e]
  dsimp only
  rw [known_split]; rfl
theorem words0 {m f0 : Nat} {c c1 : Cell} (h1 : 1 ≤ m) (hm : m ≤ 20) (hc : IsFeed c1) (e1 : f__law_take [.loc 0, .d (.int 6)] [c] = .ok (.d (.int (0 : Nat))) [c1]) :
    ∃ (ws : List Str) (c' : Cell) (r : Ms), IsFeed c' ∧ Names m ws ∧ f__law_words [.loc 0, .d (.int (m : Nat))] [c] = .ok (.d (.lst (strsD ws))) (c' :: r) := by
  obtain ⟨s, c2, f2, hs, e2⟩ := takeI (m := 22) (by decide) (by decide) hc
  have hs : s < 22 := by omega
  have ml := mulL_lst (l := strsD known) (k := 2) (ms := [c2]) (by decide) (by decide) (by decide)
  have er : (List.replicate (2 : Int).toNat (strsD known)).flatten = strsD (known ++ known) := by
    show (List.replicate 2 (strsD known)).flatten = _
    simp [strsD, List.replicate]
  rw [er] at ml
  have cm : cutD (strsD (known ++ known)) (some (s : Int)) (some ((s : Int) + (m : Int))) = strsD ((wins s).take m) := by
    rw [cutD_mid (by omega) (by omega) (by rw [strs_len]; show _ ≤ ((44 : Nat) : Int); omega)]
    unfold wins
    rw [Int.toNat_natCast, show ((s : Int) + (m : Int) - (s : Int)).toNat = m by omega, List.take_take, strs_drop, strs_take]
    rw [Nat.min_eq_left (by omega)]
  obtain ⟨l', c3, r, f3, p3, e3⟩ := mixed_ok (X := .lst (strsD ((wins s).take m))) (.inl rfl) (by rw [strs_len, List.length_take]; omega) f2
  obtain ⟨vs, rfl, pv⟩ := strs_perm p3
  refine ⟨vs, c3, [], f3, ((wins_ok ⟨s, hs⟩).take (by omega)).perm pv, ?_⟩
  unfold f__law_words
  rw [fn_ev]
  simp [-ev_rng1, m__law_words, start0, pick, e1, e2, split_known, ml, cm, e3]
theorem words2 {m : Nat} {c c1 : Cell} (h1 : 1 ≤ m) (hm : m ≤ 20) (hc : IsFeed c1) (e1 : f__law_take [.loc 0, .d (.int 6)] [c] = .ok (.d (.int (2 : Nat))) [c1]) :
    ∃ (ws : List Str) (c' : Cell) (r : Ms), IsFeed c' ∧ Names m ws ∧ f__law_words [.loc 0, .d (.int (m : Nat))] [c] = .ok (.d (.lst (strsD ws))) (c' :: r) := by
  obtain ⟨a, c2, f2, ha, e2⟩ := takeI (m := 25) (by decide) (by decide) hc
  have ha : a < 25 := by omega
  obtain ⟨o, hl⟩ := half_loop (M := .int (m : Nat)) (c := c2) ha
  obtain ⟨W, hW⟩ : ∃ W, W = (halfs a 30).map txL := ⟨_, rfl⟩
  obtain ⟨V, hV⟩ : ∃ V, V = W.drop 1 := ⟨_, rfl⟩
  have wl : W.length = 31 := by rw [hW, List.length_map, halfs_len]
  have vN : Names 30 V := by rw [hV, hW]; exact halfs_ok ⟨a, ha⟩
  rw [← hW] at hl
  have sl : gSl (.loc 1) (some 1) none [c2, .lst (strsD W)] = .ok (.d (.lst (strsD V))) [c2, .lst (strsD W)] := by
    rw [sl_loc (l := strsD W) rfl, hV, ← strs_drop, ← cutD_suf (by rw [strs_len]; omega)]; rfl
  obtain ⟨l', c3, r, f3, p3, e3⟩ := mixed_ok (X := .lst (strsD V)) (.inl rfl) (by rw [strs_len, vN.len]; decide) f2
  obtain ⟨vs, rfl, pv⟩ := strs_perm p3
  have N := vN.perm pv
  refine ⟨vs.take m, c3, [.lst (strsD W)], f3, N.take (by omega), ?_⟩
  have ct : cutD (strsD vs) none (some (m : Int)) = strsD (vs.take m) := by
    rw [cutD_pre (by omega), Int.toNat_natCast, strs_take]
  unfold f__law_words
  rw [fn_ev]
  simp [-ev_rng1, m__law_words, start0, pick, e1, e2, hl, sl, e3, ct]
end Ga
set_option Elab.async false
set_option linter.all false
set_option maxRecDepth 100000
set_option maxHeartbeats 1000000
/-! Wb7: the law's names, the other forms. -/
namespace Ga
open PySem L2 Fw
theorem words3 {m : Nat} {c c1 : Cell} (h1 : 1 ≤ m) (hm : m ≤ 20) (hc : IsFeed c1) (e1 : f__law_take [.loc 0, .d (.int 6)] [c] = .ok (.d (.int (3 : Nat))) [c1]) :
    ∃ (ws : List Str) (c' : Cell) (r : Ms), IsFeed c' ∧ Names m ws ∧ f__law_words [.loc 0, .d (.int (m : Nat))] [c] = .ok (.d (.lst (strsD ws))) (c' :: r) := by
  obtain ⟨s, c2, f2, hs, e2⟩ := takeI (m := 121) (by decide) (by decide) hc
  obtain ⟨g, c3, f3, hg, e3⟩ := takeI (m := 26) (by decide) (by decide) f2
  have hs : s < 121 := by omega
  have hg : g < 26 := by omega
  have nc := nums_comp (m := m) (g := g) (s := s) (ms := [c3]) hg hs hm
  obtain ⟨W, hW⟩ : ∃ W, W = (List.range m).map (numW g s) := ⟨_, rfl⟩
  rw [← hW] at nc
  refine ⟨W, c3, [], f3, by rw [hW]; exact numWs_ok hg hm, ?_⟩
  unfold f__law_words
  rw [fn_ev]
  simp [-ev_rng1, m__law_words, start0, pick, e1, e2, e3, abc_ix hg, nc]
theorem figs_add {ms : Ms} : gAdd (.d (.str abc)) (.d (.str (Str.ofString "0123456789"))) ms = .ok (.d (.str figs)) ms := addSS (by decide +kernel)
theorem words1 {m f : Nat} {c c1 : Cell} (h1 : 1 ≤ m) (hm : m ≤ 20) (hf : f = 1 ∨ f = 4 ∨ f = 5) (hc : IsFeed c1) (e1 : f__law_take [.loc 0, .d (.int 6)] [c] = .ok (.d (.int (f : Nat))) [c1]) :
    ∃ (ws : List Str) (c' : Cell) (r : Ms), IsFeed c' ∧ Names m ws ∧ f__law_words [.loc 0, .d (.int (m : Nat))] [c] = .ok (.d (.lst (strsD ws))) (c' :: r) := by
  obtain ⟨n0, c2, f2, hn0, e2⟩ := takeI (m := 5) (by decide) (by decide) hc
  have hn0 : n0 < 5 := by omega
  obtain ⟨n, hn⟩ : ∃ n : Nat, n = if f = 1 then 5 else n0 := ⟨_, rfl⟩
  have hn5 : n ≤ 5 := by rw [hn]; split <;> omega
  obtain ⟨l, c3, f3, sm, ll, e3⟩ := stem_comp (M := .int (m : Nat)) (F := .int (f : Nat)) (n := n) hn5 f2
  obtain ⟨a0, c4, f4, ha0, e4⟩ := takeI (m := (l.length : Int) + 1) (by omega) (by omega) f3
  obtain ⟨st, c5, f5, hst, e5⟩ := takeI (m := 26) (by decide) (by decide) f4
  obtain ⟨lo0, c6, f6, hlo0, e6⟩ := takeI (m := 2) (by decide) (by decide) f5
  obtain ⟨a, ha⟩ : ∃ a : Nat, a = if f = 1 then 5 else a0 := ⟨_, rfl⟩
  obtain ⟨lo, hlo⟩ : ∃ lo : Nat, lo = if f = 1 then 0 else lo0 := ⟨_, rfl⟩
  have al : a ≤ l.length := by
    rw [ha]
    split
    · rename_i h
      rw [ll, hn, if_pos h]
      exact Nat.le_refl _
    · omega
  have lol : lo ≤ 1 := by rw [hlo]; split <;> omega
  have tot : l.length + 1 + lo ≤ 6 := by
    rw [ll, hn, hlo]
    split <;> omega
  obtain ⟨e, hl, k, s, r, he⟩ := put_loop (F := .int (f : Nat)) (m := m) (n := n) (st := st) (a := a) (lo := lo) (stem := l) (c := c6) hm al (by omega) lol
  have NW := putWs_ok (start := st) (m := m) sm al hm tot
  obtain ⟨W, hW⟩ : ∃ W, W = (List.range m).map fun k => txL (putW l a st lo k) := ⟨_, rfl⟩
  rw [← hW] at hl NW
  obtain ⟨l', c7, r7, f7, p7, e7⟩ := mixed_ok2 (l := strsD W) (by rw [strs_len, NW.len]; omega) f6
  obtain ⟨vs, rfl, pv⟩ := strs_perm p7
  have e8 : callSem f__law_mixed [.loc 0, .loc 1] [c6, .lst (strsD W)] = .ok (.d (.lst (strsD vs))) [c7, .lst (strsD W)] := by
    rw [call_ll0 (by decide) (show f__law_mixed [.loc 0, .loc 1] [getC [c6, .lst (strsD W)] 0, getC [c6, .lst (strsD W)] 1] = _ from e7)]; rfl
  have e9 := join_ev (l := l) (by omega) (ms := [c3])
  have e10 : Fw.c1 lenD [.d (.str (txL l))] [c3] = .ok (.d (.int (l.length : Nat))) [c3] := by rw [len_str (by rw [txL_len]; omega), txL_len]
  refine ⟨vs, c7, [.lst (strsD W)], f7, NW.perm pv, ?_⟩
  unfold f__law_words
  rw [fn_ev]
  rcases hf with rfl | rfl | rfl
  · simp only [if_true] at hn ha hlo
    subst hn ha hlo
    subst he
    simp only [env4, env5, Int.natCast_one, Int.cast_ofNat_Int, Int.natCast_zero] at e1 e3 hl
    simp [-ev_rng1, m__law_words, start0, pick, e1, e2, figs_add, intD_bl, atI, ixN, e3, e9, e10, e4, e5, e6, hl, e8]
  · simp only [show ¬ (4 = 1) by decide, if_false] at hn ha hlo
    subst hn ha hlo
    subst he
    simp only [env4, env5, Int.natCast_one, Int.cast_ofNat_Int, Int.natCast_zero] at e1 e3 hl
    simp [-ev_rng1, m__law_words, start0, pick, e1, e2, figs_add, intD_bl, atI, ixN, e3, e9, e10, e4, e5, e6, hl, e8]
  · simp only [show ¬ (5 = 1) by decide, if_false] at hn ha hlo
    subst hn ha hlo
    subst he
    simp only [env4, env5, Int.natCast_one, Int.cast_ofNat_Int, Int.natCast_zero] at e1 e3 hl
    simp [-ev_rng1, m__law_words, start0, pick, e1, e2, figs_add, intD_bl, atI, ixN, e3, e9, e10, e4, e5, e6, hl, e8]
end Ga
set_option Elab.async false
set_option linter.all false
set_option maxRecDepth 100000
set_option maxHeartbeats 1000000
/-! Wb8: names, bounds. -/
namespace Ga
open PySem L2 Fw
theorem words_ok {m : Nat} {c : Cell} (h1 : 1 ≤ m) (hm : m ≤ 20) (hc : IsFeed c) :
    ∃ (ws : List Str) (c' : Cell) (r : Ms), IsFeed c' ∧ Names m ws ∧ f__law_words [.loc 0, .d (.int (m : Nat))] [c] = .ok (.d (.lst (strsD ws))) (c' :: r) := by
  obtain ⟨k, c1, f1, hk, e1⟩ := takeI (m := 6) (by decide) (by decide) hc
  have hk : k < 6 := by omega
  have : k = 0 ∨ k = 2 ∨ k = 3 ∨ (k = 1 ∨ k = 4 ∨ k = 5) := by omega
  rcases this with rfl | rfl | rfl | h
  · exact words0 (f0 := 0) h1 hm f1 e1
  · exact words2 h1 hm f1 e1
  · exact words3 h1 hm f1 e1
  · exact words1 h1 hm h f1 e1
theorem bounds_ok {near limit : Nat} {c : Cell} (h : near ≤ limit) (hl : limit ≤ 100000) (hc : IsFeed c) :
    ∃ (lo hi : Nat) (c' : Cell) (r : Ms), IsFeed c' ∧ lo ≤ hi ∧ hi ≤ limit ∧ f__law_bounds [.loc 0, .d (.int (near : Nat)), .d (.int (limit : Nat))] [c] = .ok (.d (.tup [.int (lo : Nat), .int (hi : Nat)])) (c' :: r) := by
  obtain ⟨k, c1, f1, hk, e1⟩ := takeI (m := 4) (by decide) (by decide) hc
  obtain ⟨b, c2, f2, hb, e2⟩ := takeI (m := 2) (by decide) (by decide) f1
  have hb2 : b = 0 ∨ b = 1 := by omega
  obtain ⟨q, hq⟩ : ∃ q : Nat, q = if b = 0 then 2 else limit / 4 + 1 := ⟨_, rfl⟩
  have hq1 : 1 ≤ q ∧ q ≤ 100002 := by rw [hq]; split <;> omega
  obtain ⟨s, c3, f3, hs, e3⟩ := takeI (m := (q : Int)) (by omega) (by omega) f2
  have d4 := divI (a := (limit : Int)) (b := 4) (ms := [c1]) (by decide) (by decide)
  have ix : L2.atI [D.int 2, D.int ((limit : Int) / 4 + 1)] (b : Int) = some (.int (q : Nat)) := by
    rcases hb2 with rfl | rfl
    · rw [hq]; simp
    · have := atI_nat (l := [D.int 2, D.int ((limit : Int) / 4 + 1)]) (i := 1) (Nat.lt_succ_self 1)
      rw [this, hq]
      show some (D.int ((limit : Int) / 4 + 1)) = _
      rw [if_neg (by decide)]
      congr 2
  obtain ⟨r1, c4, f4, h4, e5⟩ := takeI (m := (1 : Int) + (s : Int) + 1) (by omega) (by omega) f3
  obtain ⟨r2, c5, f5, h5, e6⟩ := takeI (m := (1 : Int) + (s : Int) + 1) (by omega) (by omega) f4
  by_cases k0 : k = 0
  · subst k0
    refine ⟨near, near, c3, [], f3, Nat.le_refl _, h, ?_⟩
    unfold f__law_bounds
    rw [fn_ev]
    simp [m__law_bounds, start0, pick, e1, e2, d4, ix, e3]
  · have k0i : ¬ ((k : Int) = 0) := by omega
    by_cases k1 : k = 1
    · subst k1
      refine ⟨0, min limit (near + r1), c4, [], f4, Nat.zero_le _, Nat.min_le_left _ _, ?_⟩
      have mn : min (limit : Int) ((near : Int) + (r1 : Int)) = ((min limit (near + r1) : Nat) : Int) := by omega
      unfold f__law_bounds
      rw [fn_ev]
      simp [m__law_bounds, start0, pick, e1, e2, d4, ix, e3, e5, mn]
    · have k1i : ¬ ((k : Int) = 1) := by omega
      refine ⟨near - r1, min limit (near + r2), c5, [], f5, by omega, Nat.min_le_left _ _, ?_⟩
      have mn : min (limit : Int) ((near : Int) + (r2 : Int)) = ((min limit (near + r2) : Nat) : Int) := by omega
      have mx : max (0 : Int) ((near : Int) - (r1 : Int)) = ((near - r1 : Nat) : Int) := by omega
      unfold f__law_bounds
      rw [fn_ev]
      simp [m__law_bounds, start0, pick, e1, e2, d4, ix, e3, e5, e6, mn, mx, k0, k1, k0i, k1i]
/-! joints -/
/-- two different numbers below n -/
def Joint (n : Nat) (d : D) : Prop := ∃ a b : Nat, d = .tup [.int (a : Nat), .int (b : Nat)] ∧ a < n ∧ b < n ∧ a ≠ b
noncomputable abbrev jointBody : Fw.Env → Ms → T := sCons (sSet 6 (mCallN (bndS f__law_take [0, 1] []) (mLen 2 (aCons (mVar 0) (aCons (mVar 1) (aNil))))))
 (sCons (sSet 7 (mOp gModI (mOp gAdd (mOp gAdd (mVar 6) (mC (.d (.int 1)))) (mCallN (bndS f__law_take [0, 1] []) (mLen 2 (aCons (mVar 0) (aCons (mOp gSubI (mVar 1) (mC (.d (.int 1)))) (aNil)))))) (mVar 1)))
 (sCons (sIf (mAnd (mB (mOp (gEq false) (mVar 3) (mC (.d (.int 0))))) (mB (mOp gLt (mVar 5) (mOp gSubI (mVar 1) (mB1 (Fw.c1 intD) (aCons (mOp (gEq false) (mCallN (bndS f__law_take [0, 1] []) (mLen 2 (aCons (mVar 0) (aCons (mC (.d (.int 2))) (aNil))))) (mC (.d (.int 0)))) (aNil))))))) (sPar 6 7 (aCons (mVar 5) (aCons (mOp gModI (mOp gAdd (mVar 5) (mC (.d (.int 1)))) (mVar 1)) (aNil)))) (sNil))
 (sCons (sSet 8 (mOp gDivI (mOp gAdd (mVar 1) (mC (.d (.int 1)))) (mC (.d (.int 2)))))
 (sIf (mOr (mB (mOp gLt (mVar 3) (mC (.d (.int 3))))) (mOr (mB (mOp gLt (mVar 1) (mC (.d (.int 4))))) (mB (mOp (gEq false) (mOp gLt (mVar 6) (mVar 8)) (mOp gLt (mVar 7) (mVar 8)))))) (sExpr (mBM .list gAppend (mVar 4) (aCons (mTup (aCons (mVar 6) (aCons (mVar 7) (aNil)))) (aNil)))) (sNil)))))
abbrev env6 (n f : Nat) (B : D) (o5 o6 o7 o8 : Option S) : Fw.Env := [some (.loc 0), some (.d (.int (n : Nat))), some (.d B), some (.d (.int (f : Nat))), some (.loc 1), o5, o6, o7, o8]
theorem joint_end {n f a b j : Nat} {B : D} {L : List D} {c : Cell} (hn : 1 < n) (ha : a < n) (hb : b < n) (hab : a ≠ b) (hc : IsFeed c) (hL : ∀ d ∈ L, Joint n d) (hl : L.length ≤ j) (hj : j ≤ 1000) {o8 : Option S} {o5 : Option S} :
    ∃ (c' : Cell) (L' : List D) (e : Fw.Env), IsFeed c' ∧ (∀ d ∈ L', Joint n d) ∧ L'.length ≤ j + 1 ∧ (∃ p5 p6 p7 p8, e = env6 n f B p5 p6 p7 p8) ∧
      sCons (sSet 8 (mOp gDivI (mOp gAdd (mVar 1) (mC (.d (.int 1)))) (mC (.d (.int 2)))))
       (sIf (mOr (mB (mOp gLt (mVar 3) (mC (.d (.int 3))))) (mOr (mB (mOp gLt (mVar 1) (mC (.d (.int 4))))) (mB (mOp (gEq false) (mOp gLt (mVar 6) (mVar 8)) (mOp gLt (mVar 7) (mVar 8)))))) (sExpr (mBM .list gAppend (mVar 4) (aCons (mTup (aCons (mVar 6) (aCons (mVar 7) (aNil)))) (aNil)))) (sNil))
       (env6 n f B o5 (some (.d (.int (a : Nat)))) (some (.d (.int (b : Nat)))) o8) [c, .lst L] = .nx e [c', .lst L'] := by
  have d1 := divI (a := (n : Int) + 1) (b := 2) (ms := [c, .lst L]) (by decide) (by decide)
  have ap : gAppend (.loc 1) [.d (.tup [.int (a : Nat), .int (b : Nat)])] [c, .lst L] = .ok (.d .non) [c, .lst (L ++ [.tup [.int (a : Nat), .int (b : Nat)]])] := append_loc (ms := [c, .lst L]) (n := 1) rfl (by omega)
  have t1 : tyS .list (.loc 1) [c, .lst L] = true := rfl
  have app : sExpr (mBM .list gAppend (mVar 4) (aCons (mTup (aCons (mVar 6) (aCons (mVar 7) (aNil)))) (aNil))) (env6 n f B o5 (some (.d (.int (a : Nat)))) (some (.d (.int (b : Nat)))) (some (.d (.int (((n : Int) + 1) / 2))))) [c, .lst L] =
      .nx (env6 n f B o5 (some (.d (.int (a : Nat)))) (some (.d (.int (b : Nat)))) (some (.d (.int (((n : Int) + 1) / 2))))) [c, .lst (L ++ [.tup [.int (a : Nat), .int (b : Nat)]])] := by
    simp [ap]
  obtain ⟨p1, q1⟩ : ∃ p, p = decide ((f : Int) < 3) := ⟨_, rfl⟩
  obtain ⟨p2, q2⟩ : ∃ p, p = decide ((n : Int) < 4) := ⟨_, rfl⟩
  obtain ⟨p3, q3⟩ : ∃ p, p = (decide ((a : Int) < ((n : Int) + 1) / 2) == decide ((b : Int) < ((n : Int) + 1) / 2)) := ⟨_, rfl⟩
  have run : sCons (sSet 8 (mOp gDivI (mOp gAdd (mVar 1) (mC (.d (.int 1)))) (mC (.d (.int 2)))))
       (sIf (mOr (mB (mOp gLt (mVar 3) (mC (.d (.int 3))))) (mOr (mB (mOp gLt (mVar 1) (mC (.d (.int 4))))) (mB (mOp (gEq false) (mOp gLt (mVar 6) (mVar 8)) (mOp gLt (mVar 7) (mVar 8)))))) (sExpr (mBM .list gAppend (mVar 4) (aCons (mTup (aCons (mVar 6) (aCons (mVar 7) (aNil)))) (aNil)))) (sNil))
       (env6 n f B o5 (some (.d (.int (a : Nat)))) (some (.d (.int (b : Nat)))) o8) [c, .lst L] =
      if (p1 || (p2 || p3)) = true then .nx (env6 n f B o5 (some (.d (.int (a : Nat)))) (some (.d (.int (b : Nat)))) (some (.d (.int (((n : Int) + 1) / 2))))) [c, .lst (L ++ [.tup [.int (a : Nat), .int (b : Nat)]])]
        else .nx (env6 n f B o5 (some (.d (.int (a : Nat)))) (some (.d (.int (b : Nat)))) (some (.d (.int (((n : Int) + 1) / 2))))) [c, .lst L] := by
    simp only [ev_cons, ev_set, ev_op, ev_var, ev_c, List.getElem?_cons_zero, List.getElem?_cons_succ, bind_ok, ofE_ok, addII, d1, List.set_cons_zero, List.set_cons_succ, seq_nx, ev_if, ev_or, ev_B, ltII, asB_bl, eqBB, Bool.false_eq_true, if_false, ← q1, ← q2, ← q3]
    cases p1
    · cases p2
      · cases p3
        · simp only [Bool.false_eq_true, if_false, bind_ok, ofE_ok, ev_nil, Bool.or_false]
        · simp only [Bool.false_eq_true, if_false, bind_ok, ofE_ok, if_true, app, Bool.or_true]
      · simp only [Bool.false_eq_true, if_false, bind_ok, ofE_ok, if_true, app, Bool.or_true, Bool.true_or]
    · simp only [if_true, ofE_ok, app, Bool.true_or]
  rw [run]
  cases p1 || (p2 || p3)
  · exact ⟨c, L, _, hc, hL, by omega, ⟨_, _, _, _, rfl⟩, rfl⟩
  · refine ⟨c, L ++ [.tup [.int (a : Nat), .int (b : Nat)]], _, hc, fun d hd => ?_, by rw [List.length_append]; simp; omega, ⟨_, _, _, _, rfl⟩, rfl⟩
    rcases List.mem_append.mp hd with hd | hd
    · exact hL d hd
    · rw [List.mem_singleton] at hd
      exact ⟨a, b, hd, ha, hb, hab⟩
end Ga
set_option Elab.async false
set_option linter.all false
set_option maxRecDepth 100000
set_option maxHeartbeats 1000000
/-! Wb9: joints. -/
namespace Ga
open PySem L2 Fw
/-- the middle of the body -/
noncomputable abbrev midJ : Fw.Env → Ms → T := sIf (mAnd (mB (mOp (gEq false) (mVar 3) (mC (.d (.int 0))))) (mB (mOp gLt (mVar 5) (mOp gSubI (mVar 1) (mB1 (Fw.c1 intD) (aCons (mOp (gEq false) (mCallN (bndS f__law_take [0, 1] []) (mLen 2 (aCons (mVar 0) (aCons (mC (.d (.int 2))) (aNil))))) (mC (.d (.int 0)))) (aNil))))))) (sPar 6 7 (aCons (mVar 5) (aCons (mOp gModI (mOp gAdd (mVar 5) (mC (.d (.int 1)))) (mVar 1)) (aNil)))) (sNil)
theorem mid_ok {n f a b j : Nat} {B : D} {L : List D} {c : Cell} (hn : 1 < n) (hn2 : n ≤ 1000) (ha : a < n) (hb : b < n) (hab : a ≠ b) (hc : IsFeed c) {o8 : Option S} :
    ∃ (a' b' : Nat) (c' : Cell), a' < n ∧ b' < n ∧ a' ≠ b' ∧ IsFeed c' ∧ midJ (env6 n f B (some (.d (.int (j : Nat)))) (some (.d (.int (a : Nat)))) (some (.d (.int (b : Nat)))) o8) [c, .lst L] =
      .nx (env6 n f B (some (.d (.int (j : Nat)))) (some (.d (.int (a' : Nat)))) (some (.d (.int (b' : Nat)))) o8) [c', .lst L] := by
  by_cases hf : f = 0
  · subst hf
    obtain ⟨q, c1, f1, hq, e1⟩ := takeI (m := 2) (by decide) (by decide) hc
    have m1 := modI (a := (j : Int) + 1) (b := (n : Int)) (ms := [c1, .lst L]) (by omega)
    by_cases hp : (j : Int) < (n : Int) - (if q = 0 then 1 else 0)
    · have hlt : (j : Int) < (n : Int) := by
        split at hp <;> omega
      have hj : j < n := by omega
      refine ⟨j, (j + 1) % n, c1, hj, Nat.mod_lt _ (by omega), ?_, f1, ?_⟩
      · by_cases h : j + 1 < n
        · rw [Nat.mod_eq_of_lt h]; omega
        · have : j + 1 = n := by omega
          rw [this, Nat.mod_self]; omega
      · have e2 : ((j : Int) + 1) % (n : Int) = (((j + 1) % n : Nat) : Int) := by push_cast; rfl
        rw [e2] at m1
        simp only [midJ, ev_if, ev_and, ev_B, ev_op, ev_var, ev_c, List.getElem?_cons_zero, List.getElem?_cons_succ, bind_ok, eqII, asB_bl, Bool.false_eq_true, if_false]
        simp [pick, e1, intD_bl, hp, m1]
    · refine ⟨a, b, c1, ha, hb, hab, f1, ?_⟩
      simp only [midJ, ev_if, ev_and, ev_B, ev_op, ev_var, ev_c, List.getElem?_cons_zero, List.getElem?_cons_succ, bind_ok, eqII, asB_bl, Bool.false_eq_true, if_false]
      simp [pick, e1, intD_bl, hp]
  · refine ⟨a, b, c, ha, hb, hab, hc, ?_⟩
    have hfi : ¬ ((f : Int) = 0) := by omega
    simp [midJ, hf, hfi]
theorem joint_step {n f j : Nat} {B : D} {L : List D} {c : Cell} (hn : 1 < n) (hn2 : n ≤ 1000) (hc : IsFeed c) (hL : ∀ d ∈ L, Joint n d) (hl : L.length ≤ j) (hj : j ≤ 1000) {o6 o7 o8 : Option S} :
    ∃ (c' : Cell) (L' : List D) (e : Fw.Env), IsFeed c' ∧ (∀ d ∈ L', Joint n d) ∧ L'.length ≤ j + 1 ∧ (∃ p5 p6 p7 p8, e = env6 n f B p5 p6 p7 p8) ∧
      jointBody (env6 n f B (some (.d (.int (j : Nat)))) o6 o7 o8) [c, .lst L] = .nx e [c', .lst L'] := by
  obtain ⟨a, c1, f1, ha, e1⟩ := takeI (m := (n : Int)) (by omega) (by omega) hc
  obtain ⟨t, c2, f2, ht, e2⟩ := takeI (m := (n : Int) - 1) (by omega) (by omega) f1
  have m1 := modI (a := (a : Int) + 1 + (t : Int)) (b := (n : Int)) (ms := [c2, .lst L]) (by omega)
  have e3 : ((a : Int) + 1 + (t : Int)) % (n : Int) = (((a + 1 + t) % n : Nat) : Int) := by push_cast; rfl
  rw [e3] at m1
  have han : a < n := by omega
  have hne : a ≠ (a + 1 + t) % n := by
    by_cases h : a + 1 + t < n
    · rw [Nat.mod_eq_of_lt h]; omega
    · have : (a + 1 + t) % n = a + 1 + t - n := by
        rw [Nat.mod_eq_sub_mod (by omega), Nat.mod_eq_of_lt (by omega)]
      rw [this]; omega
  obtain ⟨a', b', c3, ha', hb', hab', f3, e4⟩ := mid_ok (f := f) (j := j) (B := B) (L := L) (o8 := o8) hn hn2 han (Nat.mod_lt (a + 1 + t) (show 0 < n by omega)) hne f2
  obtain ⟨c4, L', e, f4, hL', hl', he, e5⟩ := joint_end (f := f) (B := B) (c := c3) (o8 := o8) (o5 := some (.d (.int (j : Nat)))) hn ha' hb' hab' f3 hL hl hj
  refine ⟨c4, L', e, f4, hL', hl', he, ?_⟩
  rw [← e5]
  show (sCons (sSet 6 _) (sCons (sSet 7 _) (sCons midJ _))) _ _ = _
  rw [ev_cons, ev_set]
  simp only [ev_callN, ev_len, ev_aCons, ev_aNil, ev_var, List.getElem?_cons_zero, List.getElem?_cons_succ, bind_ok, lenIs_ev, List.length_cons, List.length_nil, bnd_ev, if_true]
  simp only [List.append_nil, pick, List.filterMap_cons, List.filterMap_nil, List.getElem?_cons_zero, List.getElem?_cons_succ, call_l1, getC_ev, e1, backL_d, List.set_cons_zero, List.set_cons_succ, bind_ok, ofE_ok, seq_nx]
  rw [ev_cons, ev_set]
  simp only [ev_op, ev_c, addII, ev_callN, ev_len, ev_aCons, ev_aNil, ev_var, List.getElem?_cons_zero, List.getElem?_cons_succ, bind_ok, subII, lenIs_ev, List.length_cons, List.length_nil, bnd_ev, if_true]
  simp only [List.append_nil, pick, List.filterMap_cons, List.filterMap_nil, List.getElem?_cons_zero, List.getElem?_cons_succ, call_l1, getC_ev, e2, backL_d, List.set_cons_zero, List.set_cons_succ, bind_ok, addII, m1, ofE_ok, seq_nx]
  rw [ev_cons]
  rw [show midJ _ [c2, Cell.lst L] = _ from e4, seq_nx]
end Ga
set_option Elab.async false
set_option linter.all false
set_option maxRecDepth 100000
set_option maxHeartbeats 1000000
/-! Wb10: the drawn web. -/
namespace Ga
open PySem L2 Fw
theorem joints_ok {n bonds : Nat} {c : Cell} (h1 : 1 ≤ n) (hn2 : n ≤ 1000) (hb : bonds ≤ 1000) (hc : IsFeed c) :
    ∃ (L : List D) (c' : Cell) (r : Ms), IsFeed c' ∧ (∀ d ∈ L, Joint n d) ∧ L.length ≤ bonds ∧ f__law_joints [.loc 0, .d (.int (n : Nat)), .d (.int (bonds : Nat))] [c] = .ok (.d (.lst L)) (c' :: r) := by
  obtain ⟨f, c1, f1, hf, e1⟩ := takeI (m := 4) (by decide) (by decide) hc
  obtain ⟨q, hq⟩ : ∃ q : Nat, q = bonds * (if 1 < n then 1 else 0) := ⟨_, rfl⟩
  have hq2 : q ≤ bonds := by rw [hq]; split <;> omega
  have i1 : Fw.c1 intD [.d (.bl (decide ((1 : Int) < (n : Int))))] [c1, .lst []] = .ok (.d (.int ((if 1 < n then 1 else 0 : Nat) : Int))) [c1, .lst []] := by
    rw [intD_bl]
    by_cases h : 1 < n
    · rw [decide_eq_true (show (1 : Int) < (n : Int) by omega), if_pos rfl, if_pos h]; rfl
    · rw [decide_eq_false (show ¬ (1 : Int) < (n : Int) by omega), if_neg (by decide), if_neg h]; rfl
  have m1 := mulIl (a := (bonds : Int)) (b := ((if 1 < n then 1 else 0 : Nat) : Int)) (ms := [c1, .lst []]) (by omega)
  have e2 : (bonds : Int) * ((if 1 < n then 1 else 0 : Nat) : Int) = (q : Int) := by rw [hq]; push_cast; rfl
  rw [e2] at m1
  have hi : iRng1 (aCons (mOp gMul (mVar 2) (mB1 (Fw.c1 intD) (aCons (mOp gGt (mVar 1) (mC (.d (.int 1)))) (aNil)))) (aNil)) (env6 n f (.int (bonds : Nat)) none none none none) [c1, .lst []] = .ok (rngS 0 q, none) [c1, .lst []] := by
    refine rng1_nat ?_ (by omega)
    simp only [env6, ev_aCons, ev_aNil, ev_op, ev_var, ev_c, ev_b1, List.getElem?_cons_zero, List.getElem?_cons_succ, bind_ok, gtII, i1, m1]
  obtain ⟨e, ms, h2, c2, L, f2, hL, hl, ⟨p5, p6, p7, p8, rfl⟩, rfl⟩ := Nx_forI (P := fun j e ms => ∃ c L, IsFeed c ∧ (∀ d ∈ L, Joint n d) ∧ L.length ≤ j ∧ (∃ p5 p6 p7 p8, e = env6 n f (.int (bonds : Nat)) p5 p6 p7 p8) ∧ ms = [c, .lst L]) (g := gSet 5) (body := jointBody) hi
    ⟨c1, [], f1, (fun d h => nomatch h), Nat.le_refl _, ⟨_, _, _, _, rfl⟩, rfl⟩ (fun j x hx e ms hp => by
    obtain ⟨hj, rfl⟩ := rng_at hx
    obtain ⟨c, L, fc, hL, hl, ⟨p5, p6, p7, p8, rfl⟩, rfl⟩ := hp
    have hn : 1 < n := by
      by_cases h : 1 < n
      · exact h
      · rw [hq, if_neg h] at hj; omega
    have e0 : (0 : Int) + (j : Int) = (j : Int) := by omega
    obtain ⟨c', L', e, fc', hL', hl', he, h⟩ := joint_step (f := f) (j := j) (B := .int (bonds : Nat)) (o6 := p6) (o7 := p7) (o8 := p8) hn hn2 fc hL hl (by omega)
    refine ⟨_, rfl, e, _, ?_, c', L', fc', hL', hl', he, rfl⟩
    show jointBody (env6 n f (.int (bonds : Nat)) (some (.d (.int (0 + (j : Int))))) p6 p7 p8) [c, .lst L] = _
    rw [e0]
    exact h)
  rw [rng_len] at hl
  refine ⟨L, c2, [.dead], f2, hL, by omega, ?_⟩
  unfold f__law_joints
  rw [fn_ev]
  simp only [env6] at h2
  simp [-ev_rng1, m__law_joints, start0, pick, e1, h2, frz_loc (ms := [c2, .lst L]) (n := 1) (l := L) rfl]
/-! rows -/
structure Row where
  t : Str
  p : Str
  q : Str
  lo : Nat
  hi : Nat
def rowD (r : Row) : D := .tup [.str r.t, .str r.p, .str r.q, .int (r.lo : Nat), .int (r.hi : Nat)]
def rowsD (rs : List Row) : List D := rs.map rowD
@[simp] theorem rows_len (rs : List Row) : (rowsD rs).length = rs.length := by simp [rowsD]
/-- a good web: its posts, its titles, its rows -/
structure GoodW (many bonds limit : Nat) (ws ts : List Str) (rs : List Row) : Prop where
  posts : Names many ws
  titles : Names (max 1 bonds) ts
  len : rs.length ≤ bonds
  tt : rs.map Row.t = ts.take rs.length
  ends : ∀ r ∈ rs, r.p ∈ ws ∧ r.q ∈ ws ∧ r.p ≠ r.q ∧ r.lo ≤ r.hi ∧ r.hi ≤ limit
def Spot (limit : Nat) (d : D) : Prop := ∃ x y : Nat, d = .tup [.int (x : Nat), .int (y : Nat)] ∧ x ≤ limit ∧ y ≤ limit
noncomputable abbrev webBody : Fw.Env → Ms → T := sCons (sSet 11 (mB1 (c2 maxI) (aCons (mB1 (Fw.c1 absD) (aCons (mOp gSubI (mOp gIx (mOp gIx (mVar 7) (mVar 9)) (mC (.d (.int 0)))) (mOp gIx (mOp gIx (mVar 7) (mVar 10)) (mC (.d (.int 0))))) (aNil))) (aCons (mB1 (Fw.c1 absD) (aCons (mOp gSubI (mOp gIx (mOp gIx (mVar 7) (mVar 9)) (mC (.d (.int 1)))) (mOp gIx (mOp gIx (mVar 7) (mVar 10)) (mC (.d (.int 1))))) (aNil))) (aNil)))))
 (sCons (sIf (mB (mVar 5)) (sSet 11 (mCallN (bndS f__law_take [0, 1] []) (mLen 2 (aCons (mVar 0) (aCons (mOp gAdd (mVar 3) (mC (.d (.int 1)))) (aNil)))))) (sNil))
 (sCons (sSet 12 (mCallN (bndS f__law_bounds [0, 1, 2] []) (mLen 3 (aCons (mVar 0) (aCons (mVar 11) (aCons (mVar 3) (aNil)))))))
 (sExpr (mBM .list gAppend (mVar 8) (aCons (mTup (aCons (mOp gIx (mVar 6) (mVar 13)) (aCons (mOp gIx (mVar 4) (mVar 9)) (aCons (mOp gIx (mVar 4) (mVar 10)) (aCons (mOp gIx (mVar 12) (mC (.d (.int 0)))) (aCons (mOp gIx (mVar 12) (mC (.d (.int 1)))) (aNil))))))) (aNil))))))
abbrev env7 (many bonds limit : Nat) (ws : List Str) (loose : Bool) (ts : List Str) (sp : List D) (o9 o10 o11 o12 o13 : Option S) : Fw.Env :=
  [some (.loc 0), some (.d (.int (many : Nat))), some (.d (.int (bonds : Nat))), some (.d (.int (limit : Nat))), some (.d (.lst (strsD ws))), some (.d (.bl loose)), some (.d (.lst (strsD ts))), some (.d (.lst sp)), some (.loc 1), o9, o10, o11, o12, o13]
theorem abs_sub {x y limit : Nat} (hx : x ≤ limit) (hy : y ≤ limit) {ms : Ms} : ∃ k : Nat, k ≤ limit ∧ Fw.c1 absD [.d (.int ((x : Int) - (y : Int)))] ms = .ok (.d (.int (k : Nat))) ms := by
  refine ⟨if x < y then y - x else x - y, by split <;> omega, ?_⟩
  rw [abs_ok]
  congr 3
  by_cases h : x < y
  · rw [if_pos h, if_pos (show (x : Int) - (y : Int) < 0 by omega)]; omega
  · rw [if_neg h, if_neg (show ¬ (x : Int) - (y : Int) < 0 by omega)]; omega
theorem two0 {a b : D} {ms : Ms} : gIx (.d (.tup [a, b])) (.d (.int 0)) ms = .ok (.d a) ms := by simp
theorem two1 {a b : D} {ms : Ms} : gIx (.d (.tup [a, b])) (.d (.int 1)) ms = .ok (.d b) ms := by
  rw [gIxt]
  have := atI_nat (l := [a, b]) (i := 1) (Nat.lt_succ_self 1)
  rw [show L2.atI [a, b] (1 : Int) = some b from this]
theorem strs_ix {ws : List Str} {i : Nat} (h : i < ws.length) {ms : Ms} : gIx (.d (.lst (strsD ws))) (.d (.int (i : Nat))) ms = .ok (.d (.str ws[i])) ms := by
  rw [gIxl, atI_nat (by rw [strs_len]; exact h)]
  simp [strsD]
theorem spot_ix {sp : List D} {limit i : Nat} (hs : ∀ d ∈ sp, Spot limit d) (h : i < sp.length) : ∃ x y : Nat, x ≤ limit ∧ y ≤ limit ∧ ∀ ms, gIx (.d (.lst sp)) (.d (.int (i : Nat))) ms = .ok (.d (.tup [.int (x : Nat), .int (y : Nat)])) ms := by
  obtain ⟨x, y, e, hx, hy⟩ := hs _ (List.getElem_mem h)
  refine ⟨x, y, hx, hy, fun ms => ?_⟩
  rw [gIxl, atI_nat h, e]
theorem web_step {many bonds limit k a b : Nat} {ws ts : List Str} {sp : List D} {loose : Bool} {L : List D} {c : Cell} (hlim : limit ≤ 100000) (hws : ws.length = many) (hsp : sp.length = many) (hs : ∀ d ∈ sp, Spot limit d) (ha : a < many) (hb : b < many) (hk : k < ts.length)
    (hc : IsFeed c) (hL : L.length ≤ 1000) {o11 o12 : Option S} :
    ∃ (lo hi : Nat) (c' : Cell) (e : Fw.Env), IsFeed c' ∧ lo ≤ hi ∧ hi ≤ limit ∧ (∃ p9 p10 p11 p12 p13, e = env7 many bonds limit ws loose ts sp p9 p10 p11 p12 p13) ∧
      webBody (env7 many bonds limit ws loose ts sp (some (.d (.int (a : Nat)))) (some (.d (.int (b : Nat)))) o11 o12 (some (.d (.int (k : Nat))))) [c, .lst L] =
        .nx e [c', .lst (L ++ [.tup [.str ts[k], .str (ws[a]'(by omega)), .str (ws[b]'(by omega)), .int (lo : Nat), .int (hi : Nat)]])] := by
  obtain ⟨x1, y1, hx1, hy1, g1⟩ := spot_ix hs (i := a) (by omega)
  obtain ⟨x2, y2, hx2, hy2, g2⟩ := spot_ix hs (i := b) (by omega)
  obtain ⟨d1, hd1, b1⟩ := abs_sub (ms := [c, .lst L]) hx1 hx2
  obtain ⟨d2, hd2, b2⟩ := abs_sub (ms := [c, .lst L]) hy1 hy2
  have mx : max (d1 : Int) (d2 : Int) = ((max d1 d2 : Nat) : Int) := by omega
  have w1 := fun ms => strs_ix (ws := ws) (i := a) (show a < ws.length by omega) (ms := ms)
  have w2 := fun ms => strs_ix (ws := ws) (i := b) (show b < ws.length by omega) (ms := ms)
  have w3 := fun ms => strs_ix (ws := ts) (i := k) (show k < ts.length by omega) (ms := ms)
  -- the distance
  have near : ∃ (nr : Nat) (c1 : Cell), nr ≤ limit ∧ IsFeed c1 ∧ sIf (mB (mVar 5)) (sSet 11 (mCallN (bndS f__law_take [0, 1] []) (mLen 2 (aCons (mVar 0) (aCons (mOp gAdd (mVar 3) (mC (.d (.int 1)))) (aNil)))))) (sNil)
      (env7 many bonds limit ws loose ts sp (some (.d (.int (a : Nat)))) (some (.d (.int (b : Nat)))) (some (.d (.int ((max d1 d2 : Nat) : Int)))) o12 (some (.d (.int (k : Nat))))) [c, .lst L] =
      .nx (env7 many bonds limit ws loose ts sp (some (.d (.int (a : Nat)))) (some (.d (.int (b : Nat)))) (some (.d (.int (nr : Nat)))) o12 (some (.d (.int (k : Nat))))) [c1, .lst L] := by
    cases loose with
    | false => exact ⟨max d1 d2, c, by omega, hc, by simp⟩
    | true =>
      obtain ⟨q, c1, f1, hq, e1⟩ := takeI (m := (limit : Int) + 1) (by omega) (by omega) hc
      exact ⟨q, c1, by omega, f1, by simp [pick, e1]⟩
  obtain ⟨nr, c1, hnr, f1, e1⟩ := near
  obtain ⟨lo, hi, c2, r2, f2, h1, h2, e2⟩ := bounds_ok hnr hlim f1
  have ap := append_loc (ms := [c2, .lst L]) (n := 1) (l := L) (y := .tup [.str ts[k], .str (ws[a]'(by omega)), .str (ws[b]'(by omega)), .int (lo : Nat), .int (hi : Nat)]) rfl (by omega)
  have t1 : tyS .list (.loc 1) [c2, .lst L] = true := rfl
  refine ⟨lo, hi, c2, env7 many bonds limit ws loose ts sp (some (.d (.int (a : Nat)))) (some (.d (.int (b : Nat)))) (some (.d (.int (nr : Nat)))) (some (.d (.tup [.int (lo : Nat), .int (hi : Nat)]))) (some (.d (.int (k : Nat)))), f2, h1, h2, ⟨_, _, _, _, _, rfl⟩, ?_⟩
  · show (sCons (sSet 11 _) (sCons (sIf _ _ _) (sCons (sSet 12 _) (sExpr _)))) _ _ = _
    rw [ev_cons, ev_set]
    simp only [ev_b1, ev_aCons, ev_aNil, ev_op, ev_var, ev_c, List.getElem?_cons_zero, List.getElem?_cons_succ, bind_ok, g1, g2, two0, two1, subII, b1, b2, maxI_ev, mx, ofE_ok, List.set_cons_zero, List.set_cons_succ, seq_nx]
    rw [ev_cons]
    rw [show sIf _ _ _ _ [c, Cell.lst L] = _ from e1, seq_nx]
    simp only [ev_cons, ev_set, ev_callN, ev_len, ev_aCons, ev_aNil, ev_var, List.getElem?_cons_zero, List.getElem?_cons_succ, bind_ok, lenIs_ev, List.length_cons, List.length_nil, bnd_ev, if_true]
    simp only [List.append_nil, pick, List.filterMap_cons, List.filterMap_nil, List.getElem?_cons_zero, List.getElem?_cons_succ, call_l2, getC_ev, e2, backL_ds, List.set_cons_zero, List.set_cons_succ, bind_ok, ofE_ok, seq_nx]
    simp only [ev_expr, ev_bm, ev_var, ev_tup, ev_aCons, ev_aNil, ev_op, ev_c, List.getElem?_cons_zero, List.getElem?_cons_succ, bind_ok, t1, if_true, w1, w2, w3, two0, two1, disp_ev, toDs_cons, toDs_nil, Option.map_some, ap, ofE_ok]
    simp [ap]
end Ga
set_option Elab.async false
set_option linter.all false
set_option maxRecDepth 100000
set_option maxHeartbeats 1000000
/-! Wb11: the drawn web, all of it. -/
namespace Ga
open PySem L2 Fw
theorem web_loop {many bonds limit : Nat} {ws ts : List Str} {sp : List D} {loose : Bool} {J : List D} {c c0 : Cell} {mj : Fw.Env → Ms → R (List S)} (hlim : limit ≤ 100000) (hws : Names many ws) (hts : Names (max 1 bonds) ts) (hsp : sp.length = many) (hs : ∀ d ∈ sp, Spot limit d) (hJ : ∀ d ∈ J, Joint many d) (hl : J.length ≤ bonds) (hb : bonds ≤ 20)
    (hc : IsFeed c) (hj : mj (env7 many bonds limit ws loose ts sp none none none none none) [c0, .lst []] = .ok [.d (.lst J)] [c, .lst []]) :
    ∃ (rs : List Row) (c' : Cell) (e : Fw.Env), IsFeed c' ∧ rs.length = J.length ∧ rs.map Row.t = ts.take rs.length ∧ (∀ r ∈ rs, r.p ∈ ws ∧ r.q ∈ ws ∧ r.p ≠ r.q ∧ r.lo ≤ r.hi ∧ r.hi ≤ limit) ∧ (∃ p9 p10 p11 p12 p13, e = env7 many bonds limit ws loose ts sp p9 p10 p11 p12 p13) ∧
      sFor (iEnu mj) (gUn 2 (gsCons (gSet 13) (gsCons (gUn 2 (gsCons (gSet 9) (gsCons (gSet 10) (gsNil)))) (gsNil)))) webBody (env7 many bonds limit ws loose ts sp none none none none none) [c0, .lst []] = .nx e [c', .lst (rowsD rs)] := by
  have hi : iEnu mj (env7 many bonds limit ws loose ts sp none none none none none) [c0, .lst []] = .ok ((numbered 0 J).map S.d, none) [c, .lst []] := by
    rw [ev_enu, hj]; rfl
  obtain ⟨e, ms, h2, c2, rs, f2, hrl, hrt, hre, he, rfl⟩ := Nx_forI (P := fun j e ms => ∃ c rs, IsFeed c ∧ rs.length = j ∧ rs.map Row.t = ts.take rs.length ∧ (∀ r ∈ rs, r.p ∈ ws ∧ r.q ∈ ws ∧ r.p ≠ r.q ∧ r.lo ≤ r.hi ∧ r.hi ≤ limit) ∧ (∃ p9 p10 p11 p12 p13, e = env7 many bonds limit ws loose ts sp p9 p10 p11 p12 p13) ∧ ms = [c, .lst (rowsD rs)])
    (g := gUn 2 (gsCons (gSet 13) (gsCons (gUn 2 (gsCons (gSet 9) (gsCons (gSet 10) (gsNil)))) (gsNil)))) (body := webBody) hi
    ⟨c, [], hc, rfl, rfl, (fun r h => nomatch h), ⟨_, _, _, _, _, rfl⟩, rfl⟩ (fun j x hx e ms hp => by
    obtain ⟨d, hd, rfl⟩ := numbered_get hx
    obtain ⟨c1, rs, f1, hrl, hrt, hre, ⟨p9, p10, p11, p12, p13, rfl⟩, rfl⟩ := hp
    have hjl : j < J.length := (List.getElem?_eq_some_iff.mp hd).1
    obtain ⟨a, b, rfl, ha, hb2, hab⟩ := hJ d (List.mem_of_getElem? hd)
    have hk : j < ts.length := by rw [hts.len]; omega
    have e0 : (0 : Int) + (j : Int) = (j : Int) := by omega
    obtain ⟨lo, hi', c2, e2, f2, h1, h2, he2, run⟩ := web_step (many := many) (bonds := bonds) (limit := limit) (k := j) (loose := loose) (L := rowsD rs) (c := c1) (o11 := p11) (o12 := p12) hlim hws.len hsp hs ha hb2 hk f1 (by rw [rows_len]; omega)
    refine ⟨env7 many bonds limit ws loose ts sp (some (.d (.int (a : Nat)))) (some (.d (.int (b : Nat)))) p11 p12 (some (.d (.int (j : Nat)))), ?_, e2, _, run, c2, rs ++ [⟨ts[j], ws[a]'(by rw [hws.len]; exact ha), ws[b]'(by rw [hws.len]; exact hb2), lo, hi'⟩], f2, by simp [hrl], ?_, fun r hr => ?_, he2, ?_⟩
    · simp [e0]
    · rw [List.map_append, hrt, List.length_append, hrl]
      show _ ++ [ts[j]] = ts.take (j + 1)
      rw [List.take_add_one, List.getElem?_eq_getElem hk]; rfl
    · rcases List.mem_append.mp hr with hr | hr
      · exact hre r hr
      · rw [List.mem_singleton] at hr
        subst hr
        refine ⟨List.getElem_mem _, List.getElem_mem _, fun z => hab ?_, h1, h2⟩
        exact (List.getElem_inj hws.nd).mp z
    · simp [rowsD, rowD])
  have hlen : ((numbered 0 J).map S.d).length = J.length := by rw [List.length_map, numbered_len]
  rw [hlen] at hrl
  exact ⟨rs, c2, e, f2, hrl, hrt, hre, he, h2⟩
theorem spots_ok {many bonds limit : Nat} {c : Cell} {o4 o5 o6 : Option S} (hlim : limit ≤ 100000) (hm : many ≤ 1000) (hc : IsFeed c) : ∃ (sp : List D) (c' : Cell), IsFeed c' ∧ sp.length = many ∧ (∀ d ∈ sp, Spot limit d) ∧
    mLc false (iRng1 (aCons (mVar 1) (aNil))) (gSet 13) (fun _ ms => .ok true ms) (mTup (aCons (mCallN (bndS f__law_take [0, 1] []) (mLen 2 (aCons (mVar 0) (aCons (mOp gAdd (mVar 3) (mC (.d (.int 1)))) (aNil))))) (aCons (mCallN (bndS f__law_take [0, 1] []) (mLen 2 (aCons (mVar 0) (aCons (mOp gAdd (mVar 3) (mC (.d (.int 1)))) (aNil))))) (aNil)))) [13]
      [some (.loc 0), some (.d (.int (many : Nat))), some (.d (.int (bonds : Nat))), some (.d (.int (limit : Nat))), o4, o5, o6, none, none, none, none, none, none, none] [c] = .ok (.d (.lst sp)) [c'] := by
  obtain ⟨ds, ms', h1, _, h2, h3, c', f', rfl⟩ := lc_inv (fun ms => ∃ c, IsFeed c ∧ ms = [c]) (Spot limit) (mi := iRng1 (aCons (mVar 1) (aNil))) (g := gSet 13) (tt := fun _ ms => .ok true ms)
    (elt := mTup (aCons (mCallN (bndS f__law_take [0, 1] []) (mLen 2 (aCons (mVar 0) (aCons (mOp gAdd (mVar 3) (mC (.d (.int 1)))) (aNil))))) (aCons (mCallN (bndS f__law_take [0, 1] []) (mLen 2 (aCons (mVar 0) (aCons (mOp gAdd (mVar 3) (mC (.d (.int 1)))) (aNil))))) (aNil)))) (vs := [13])
    (env := [some (.loc 0), some (.d (.int (many : Nat))), some (.d (.int (bonds : Nat))), some (.d (.int (limit : Nat))), o4, o5, o6, none, none, none, none, none, none, none]) (ms := [c]) (ms1 := [c]) (xs := rngS 0 many) (rng1_nat rfl (by omega)) ⟨c, hc, rfl⟩ (fun x hx ms ⟨c2, f2, hms⟩ => by
      subst hms
      obtain ⟨i, hi, rfl⟩ := mem_rng hx
      obtain ⟨x1, c3, f3, k1, e3⟩ := takeI (m := (limit : Int) + 1) (by omega) (by omega) f2
      obtain ⟨x2, c4, f4, k2, e4⟩ := takeI (m := (limit : Int) + 1) (by omega) (by omega) f3
      refine ⟨_, .tup [.int (x1 : Nat), .int (x2 : Nat)], [c4], rfl, rfl, ?_, ⟨x1, x2, rfl, by omega, by omega⟩, c4, f4, rfl⟩
      simp [wipeE, pick, e3, e4]) (by simp; omega)
  exact ⟨ds, c', f', by simpa using h2, h3, h1⟩
theorem web_ok {many bonds limit : Nat} {c : Cell} (h1 : 1 ≤ many) (hm : many ≤ 20) (hb : bonds ≤ 20) (hlim : limit ≤ 100000) (hc : IsFeed c) :
    ∃ (ws ts : List Str) (rs : List Row) (c' : Cell) (r : Ms), IsFeed c' ∧ GoodW many bonds limit ws ts rs ∧ f__law_web [.loc 0, .d (.int (many : Nat)), .d (.int (bonds : Nat)), .d (.int (limit : Nat))] [c] = .ok (.d (.tup [.tup (strsD ws), .tup (rowsD rs)])) (c' :: r) := by
  obtain ⟨ws, c1, r1, f1, N1, e1⟩ := words_ok h1 hm hc
  obtain ⟨q, c2, f2, hq, e2⟩ := takeI (m := 4) (by decide) (by decide) f1
  obtain ⟨ts, c3, r3, f3, N2, e3⟩ := words_ok (m := max 1 bonds) (by omega) (by omega) f2
  obtain ⟨sp, c4, f4, hsp, hs, e4⟩ := spots_ok (many := many) (bonds := bonds) (limit := limit) (o4 := some (.d (.lst (strsD ws)))) (o5 := some (.d (.bl (decide (q = 0))))) (o6 := some (.d (.lst (strsD ts)))) hlim (by omega) f3
  obtain ⟨J, c5, r5, f5, hJ, hl, e5⟩ := joints_ok (n := many) (bonds := bonds) h1 (by omega) (by omega) f4
  have mj : (mCallN (bndS f__law_joints [0, 1, 2] []) (mLen 3 (aCons (mVar 0) (aCons (mVar 1) (aCons (mVar 2) (aNil)))))) (env7 many bonds limit ws (decide (q = 0)) ts sp none none none none none) [c4, .lst []] = .ok (.d (.lst J)) [c5, .lst []] := by
    simp [pick, e5]
  obtain ⟨rs, c6, e, f6, hrl, hrt, hre, ⟨p9, p10, p11, p12, p13, he⟩, hrun⟩ := web_loop (many := many) (bonds := bonds) (limit := limit) (loose := decide (q = 0)) (mj := aCons (mCallN (bndS f__law_joints [0, 1, 2] []) (mLen 3 (aCons (mVar 0) (aCons (mVar 1) (aCons (mVar 2) (aNil)))))) (aNil)) (c0 := c4) hlim N1 N2 hsp hs hJ hl hb f5 (by rw [ev_aCons, mj]; rfl)
  refine ⟨ws, ts, rs, c6, [.lst (rowsD rs)], f6, ⟨N1, N2, by omega, hrt, hre⟩, ?_⟩
  have mx : max (1 : Int) (bonds : Int) = ((max 1 bonds : Nat) : Int) := by omega
  have ct := cTup_loc (ms := [c6, .lst (rowsD rs)]) (n := 1) (l := rowsD rs) rfl
  subst he
  unfold f__law_web
  rw [fn_ev]
  simp only [env7] at hrun
  simp [-ev_rng1, -ev_enu, m__law_web, start0, pick, e1, e2, mx, e3, e4, hrun, ct]
end Ga
set_option Elab.async false
set_option linter.all false
set_option maxRecDepth 100000
set_option maxHeartbeats 1000000
/-! Wc0: plain data, their kinds; names. -/
namespace Ga
open PySem L2 Fw
mutual
def Dat : D → Prop
  | .non => True
  | .bl _ => True
  | .int i => i.natAbs < 10 ^ 31
  | .str x => Asc x ∧ x.length ≤ 100000
  | .tup ds => ds.length ≤ 1000 ∧ Dats ds
  | _ => False
def Dats : List D → Prop
  | [] => True
  | d :: ds => Dat d ∧ Dats ds
end
theorem dats_iff : ∀ {ds : List D}, Dats ds ↔ ∀ x ∈ ds, Dat x
  | [] => ⟨fun _ _ h => (nomatch h), fun _ => trivial⟩
  | d :: ds => ⟨fun h x hx => by
      rcases List.mem_cons.mp hx with rfl | hx
      · exact h.1
      · exact dats_iff.mp h.2 x hx, fun h => ⟨h d List.mem_cons_self, dats_iff.mpr fun x hx => h x (List.mem_cons_of_mem _ hx)⟩⟩
def strB : D → Bool
  | .str _ => true
  | _ => false
def tupB : D → Bool
  | .tup _ => true
  | _ => false
def wholeB : D → Bool
  | .int _ => true
  | _ => false
theorem isi_str {x : D} (h : Dat x) {ms : Ms} : cIsi [] [] (fun _ _ => false) [.d x, .d (.ty "str")] ms = .ok (.d (.bl (strB x))) ms := by
  cases x <;> first | rfl | exact h.elim
theorem isi_tup {x : D} (h : Dat x) {ms : Ms} : cIsi [] [] (fun _ _ => false) [.d x, .d (.ty "tuple")] ms = .ok (.d (.bl (tupB x))) ms := by
  cases x <;> first | rfl | exact h.elim
def intB : D → Bool
  | .int _ => true
  | .bl _ => true
  | _ => false
def blB : D → Bool
  | .bl _ => true
  | _ => false
theorem isi_int {x : D} (h : Dat x) {ms : Ms} : cIsi [] [] (fun _ _ => false) [.d x, .d (.ty "int")] ms = .ok (.d (.bl (intB x))) ms := by
  cases x <;> first | rfl | exact h.elim
theorem isi_bool {x : D} (h : Dat x) {ms : Ms} : cIsi [] [] (fun _ _ => false) [.d x, .d (.ty "bool")] ms = .ok (.d (.bl (blB x))) ms := by
  cases x <;> first | rfl | exact h.elim
theorem whole_eq (x : D) : (intB x && !blB x) = wholeB x := by cases x <;> rfl
theorem is_whole_ok {x : D} (h : Dat x) : f_is_whole [.d x] [] = .ok (.d (.bl (wholeB x))) [] := by
  cases x <;> first | rfl | exact h.elim
def tieB : D → Bool
  | .tup [a, b, c, d, e] => strB a && (strB b && strB c) && (wholeB d && wholeB e)
  | _ => false
theorem is_tie_ok {x : D} (h : Dat x) : f_is_tie [.d x] [] = .ok (.d (.bl (tieB x))) [] := by
  unfold f_is_tie
  rw [fn_ev]
  have t0 := isi_tup h (ms := [])
  cases x with
  | tup l =>
    have hl := dats_iff.mp h.2
    by_cases h5 : l.length = 5
    · obtain ⟨a, b, c, d, e, rfl⟩ : ∃ a b c d e, l = [a, b, c, d, e] := by
        match l, h5 with
        | [a, b, c, d, e], _ => exact ⟨a, b, c, d, e, rfl⟩
      have ha := hl a (by simp)
      have hb := hl b (by simp)
      have hc := hl c (by simp)
      have hd := hl d (by simp)
      have he := hl e (by simp)
      have c3 : cutD [a, b, c, d, e] none (some 3) = [a, b, c] := rfl
      have c4 : cutD [a, b, c, d, e] (some 3) none = [d, e] := rfl
      have k1 : mLc false (iSeq (mSl (mVar 0) (pNo) (pAt (mC (.d (.int 3)))))) (gSet 1) ((fun _ ms => .ok true ms)) (mB1 (cIsi [] [] (fun _ _ => false)) (aCons (mVar 1) (aCons (mC (.d (.ty "str"))) (aNil)))) [1] [some (.d (.tup [a, b, c, d, e])), none, none] [] = .ok (.d (.lst ([a, b, c].map fun x => .bl (strB x)))) [] := by
        refine lc_all _ (itT_ (by simp only [ev_sl, ev_var, List.getElem?_cons_zero, bind_ok, ev_pNo, ev_pAt, ev_c, asO_int, sl_tup_ev, c3])) (fun x hx => ⟨_, rfl, rfl, ?_⟩) (by simp)
        have hx : Dat x := by
          simp only [List.mem_cons, List.not_mem_nil, or_false] at hx
          rcases hx with rfl | rfl | rfl <;> assumption
        simp [wipeE, isi_str hx]
      have k2 : mLc false (iSeq (mSl (mVar 0) (pAt (mC (.d (.int 3)))) (pNo))) (gSet 2) ((fun _ ms => .ok true ms)) (mCallN (bndS f_is_whole [0] []) (mLen 1 (aCons (mVar 2) (aNil)))) [2] [some (.d (.tup [a, b, c, d, e])), none, none] [] = .ok (.d (.lst ([d, e].map fun x => .bl (wholeB x)))) [] := by
        refine lc_all _ (itT_ (by simp only [ev_sl, ev_var, List.getElem?_cons_zero, bind_ok, ev_pNo, ev_pAt, ev_c, asO_int, sl_tup_ev, c4])) (fun x hx => ⟨_, rfl, rfl, ?_⟩) (by simp)
        have hx : Dat x := by
          simp only [List.mem_cons, List.not_mem_nil, or_false] at hx
          rcases hx with rfl | rfl <;> assumption
        simp [wipeE, pick, is_whole_ok hx]
      have a1 : allD ([a, b, c].map fun x => D.bl (strB x)) = some (.bl (strB a && (strB b && strB c))) := by
        rw [allD_f]; simp
      have a2 : allD ([d, e].map fun x => D.bl (wholeB x)) = some (.bl (wholeB d && wholeB e)) := by
        rw [allD_f]; simp
      obtain ⟨A, hA⟩ : ∃ A, A = [a, b, c].map fun x => D.bl (strB x) := ⟨_, rfl⟩
      obtain ⟨B, hB⟩ : ∃ B, B = [d, e].map fun x => D.bl (wholeB x) := ⟨_, rfl⟩
      rw [← hA] at k1 a1
      rw [← hB] at k2 a2
      have tb : tieB (.tup [a, b, c, d, e]) = (strB a && (strB b && strB c) && (wholeB d && wholeB e)) := rfl
      rw [tb]
      cases hs : (strB a && (strB b && strB c)) with
      | true =>
        rw [hs] at a1
        simp [m_is_tie, start0, t0, tupB, k1, k2, a1, a2]
      | false =>
        rw [hs] at a1
        simp [m_is_tie, start0, t0, tupB, k1, k2, a1, a2]
    · have h5i : ¬ ((l.length : Int) = 5) := by omega
      have tb : tieB (.tup l) = false := by
        unfold tieB
        split
        · rename_i heq; cases heq; exact absurd rfl h5
        · rfl
      simp [m_is_tie, start0, t0, tupB, h5i, tb]
  | _ => first
    | exact h.elim
    | (simp [m_is_tie, start0, t0, tupB, tieB])
end Ga
set_option Elab.async false
set_option linter.all false
set_option maxRecDepth 100000
set_option maxHeartbeats 1000000
/-! Wc1: is_name, has_form. -/
namespace Ga
open PySem L2 Fw
theorem abc_tl : TL.tl abc = [97, 98, 99, 100, 101, 102, 103, 104, 105, 106, 107, 108, 109, 110, 111, 112, 113, 114, 115, 116, 117, 118, 119, 120, 121, 122] := by decide +kernel
theorem mem_abc (c : Nat) : decide (c ∈ TL.tl abc) = isLow c := by
  rw [abc_tl]
  unfold isLow
  by_cases h : 97 ≤ c ∧ c ≤ 122
  · rw [decide_eq_true h.1, decide_eq_true h.2]
    have : c = 97 ∨ c = 98 ∨ c = 99 ∨ c = 100 ∨ c = 101 ∨ c = 102 ∨ c = 103 ∨ c = 104 ∨ c = 105 ∨ c = 106 ∨ c = 107 ∨ c = 108 ∨ c = 109 ∨ c = 110 ∨ c = 111 ∨ c = 112 ∨ c = 113 ∨ c = 114 ∨ c = 115 ∨ c = 116 ∨ c = 117 ∨ c = 118 ∨ c = 119 ∨ c = 120 ∨ c = 121 ∨ c = 122 := by omega
    refine decide_eq_true ?_
    simp only [List.mem_cons, List.not_mem_nil, or_false]
    exact this
  · have e : ¬ c ∈ [97, 98, 99, 100, 101, 102, 103, 104, 105, 106, 107, 108, 109, 110, 111, 112, 113, 114, 115, 116, 117, 118, 119, 120, 121, 122] := by
      simp only [List.mem_cons, List.not_mem_nil, or_false]
      omega
    rw [decide_eq_false e]
    symm
    rw [Bool.and_eq_false_iff]
    by_cases h1 : 97 ≤ c
    · exact .inr (decide_eq_false (by omega))
    · exact .inl (decide_eq_false h1)
theorem inLow {c : Nat} {neg : Bool} {ms : Ms} : gIn neg (.d (.str ⟨#[c]⟩)) (.d (.str abc)) ms = .ok (.d (.bl (if neg = true then !isLow c else isLow c))) ms := by
  rw [← mem_abc]; rfl
theorem sgm {z : Str} {x : D} (h : x ∈ signs z) : ∃ c, c ∈ TL.tl z ∧ x = .str ⟨#[c]⟩ := by
  unfold signs at h
  obtain ⟨c, hc, rfl⟩ := List.mem_map.mp h
  exact ⟨c, hc, rfl⟩
def alnD (x : D) : Bool := match x with
  | .str ⟨⟨[c]⟩⟩ => isAln c
  | _ => false
theorem signs_aln (l : List Nat) : (signs (txL l)).map (fun x => D.bl (alnD x)) = l.map (fun c => D.bl (isAln c)) := by
  unfold signs txL
  rw [List.map_map]; rfl
def alnL (l : List Nat) : List D := l.map fun c => .bl (isAln c)
theorem all_alnL (l : List Nat) : allD (alnL l) = some (.bl (l.all isAln)) := allD_f
theorem comp_aln {l : List Nat} (hl : l.length ≤ 100000) : mLc false (iSeq (mVar 0)) (gSet 1) ((fun _ ms => .ok true ms)) (mOrV (mOp (gIn false) (mVar 1) (mC (.d (.str abc)))) (mOp (gIn false) (mVar 1) (mC (.d (.str "0123456789"))))) [1] [some (.d (.str (txL l))), none] [] = .ok (.d (.lst (alnL l))) [] := by
  unfold alnL
  rw [← signs_aln]
  refine lc_all (fun x => .bl (alnD x)) (itS_ rfl) (fun x hx => ?_) (by simp [signs, txL]; omega)
  obtain ⟨c, _, rfl⟩ := sgm hx
  refine ⟨_, rfl, rfl, ?_⟩
  have e1 := inLow (c := c) (neg := false) (ms := [])
  have e2 := inDig (c := c) (neg := false) (ms := [])
  cases h : isLow c
  · rw [h] at e1
    simp [wipeE, e1, e2, alnD, isAln, h]
  · rw [h] at e1
    simp [wipeE, e1, alnD, isAln, h]
theorem is_name_ok {l : List Nat} (hl : l.length ≤ 100000) : f_is_name [.d (.str (txL l))] [] = .ok (.d (.bl (nameL l))) [] := by
  unfold f_is_name
  rw [fn_ev]
  have ln := len_str (a := txL l) (ms := []) (by rw [txL_len]; omega)
  rw [txL_len] at ln
  cases l with
  | nil => simp [m_is_name, start0, ln, nameL]
  | cons c l =>
    by_cases h6 : l.length + 1 ≤ 6
    · have h6i : (l.length : Int) + 1 ≤ 6 := by omega
      have ix : gIx (.d (.str (txL (c :: l)))) (.d (.int 0)) [] = .ok (.d (.str ⟨#[c]⟩)) [] := by
        rw [gIxs (by rw [txL_len]; omega)]
        show (match L2.atI (c :: l) 0 with
          | some c => R.ok (S.d (.str ⟨#[c]⟩)) []
          | none => .bad) = _
        rw [atI_zero]
      have e1 := inLow (c := c) (neg := true) (ms := [])
      have cp := comp_aln (l := c :: l) hl
      obtain ⟨A, hA⟩ : ∃ A, A = alnL (c :: l) := ⟨_, rfl⟩
      have al := all_alnL (c :: l)
      rw [← hA] at cp al
      have nm : nameL (c :: l) = (isLow c && (c :: l).all isAln) := by
        unfold nameL
        rw [decide_eq_true (by simp), decide_eq_true (by simpa using h6)]; rfl
      rw [nm]
      cases h : isLow c
      · rw [h] at e1
        simp [m_is_name, start0, ln, h6, h6i, ix, e1]
      · rw [h] at e1
        cases ha : (c :: l).all isAln
        · rw [ha] at al
          simp [m_is_name, start0, ln, h6, h6i, ix, e1, cp, al]
        · rw [ha] at al
          simp [m_is_name, start0, ln, h6, h6i, ix, e1, cp, al]
    · have h6i : ¬ ((l.length : Int) + 1 ≤ 6) := by omega
      have nm : nameL (c :: l) = false := by
        unfold nameL
        rw [decide_eq_false (show ¬ (c :: l).length ≤ 6 by simpa using h6)]
        simp
      simp [m_is_name, start0, ln, h6, h6i, nm]
/-! the form -/
def formB (p t : D) : Bool := match p, t with
  | .tup ps, .tup ts => ps.all strB && ts.all tieB
  | _, _ => false
theorem has_form_ok {p t : D} (hp : Dat p) (ht : Dat t) : f_has_form [.d p, .d t] [] = .ok (.d (.bl (formB p t))) [] := by
  unfold f_has_form
  rw [fn_ev]
  have t0 := isi_tup hp (ms := [])
  have t1 := isi_tup ht (ms := [])
  by_cases h : tupB p = true ∧ tupB t = true
  · obtain ⟨ps, rfl⟩ : ∃ ps, p = .tup ps := by cases p <;> first | exact ⟨_, rfl⟩ | (cases h.1)
    obtain ⟨ts, rfl⟩ : ∃ ts, t = .tup ts := by cases t <;> first | exact ⟨_, rfl⟩ | (cases h.2)
    have hps := dats_iff.mp hp.2
    have hts := dats_iff.mp ht.2
    have k1 : mLc false (iSeq (mVar 0)) (gSet 2) ((fun _ ms => .ok true ms)) (mB1 (cIsi [] [] (fun _ _ => false)) (aCons (mVar 2) (aCons (mC (.d (.ty "str"))) (aNil)))) [2] [some (.d (.tup ps)), some (.d (.tup ts)), none, none] [] = .ok (.d (.lst (ps.map fun x => .bl (strB x)))) [] := by
      refine lc_all _ (itT_ rfl) (fun x hx => ⟨_, rfl, rfl, ?_⟩) (by have := hp.1; omega)
      simp [wipeE, isi_str (hps x hx)]
    have k2 : mLc false (iSeq (mVar 1)) (gSet 3) ((fun _ ms => .ok true ms)) (mCallN (bndS f_is_tie [0] []) (mLen 1 (aCons (mVar 3) (aNil)))) [3] [some (.d (.tup ps)), some (.d (.tup ts)), none, none] [] = .ok (.d (.lst (ts.map fun x => .bl (tieB x)))) [] := by
      refine lc_all _ (itT_ rfl) (fun x hx => ⟨_, rfl, rfl, ?_⟩) (by have := ht.1; omega)
      simp [wipeE, pick, is_tie_ok (hts x hx)]
    have e : formB (.tup ps) (.tup ts) = (ps.all strB && ts.all tieB) := rfl
    rw [e]
    cases h1 : ps.all strB
    · simp [m_has_form, start0, t0, t1, tupB, k1, k2, h1]
    · simp [m_has_form, start0, t0, t1, tupB, k1, k2, h1]
  · have e : formB p t = false := by
      unfold formB
      split
      · exact absurd ⟨rfl, rfl⟩ h
      · rfl
    rw [e]
    cases h1 : tupB p
    · rw [h1] at t0
      simp [m_has_form, start0, t0]
    · rw [h1] at t0
      have h2 : tupB t = false := by
        cases h2 : tupB t
        · rfl
        · exact absurd ⟨h1, h2⟩ h
      rw [h2] at t1
      simp [m_has_form, start0, t0, t1]
end Ga
set_option Elab.async false
set_option linter.all false
set_option maxRecDepth 100000
set_option maxHeartbeats 1000000
/-! Wc2: loops that stop at the first odd one; names checked. -/
namespace Ga
open PySem L2 Fw
/-- it leaves the loop and the def -/
def Stops : T → Prop
  | .ex _ _ _ _ => True
  | .rt _ _ => True
  | _ => False
theorem stops_seq {t : T} {k : Fw.Env → Ms → T} (h : Stops t) : t.seq k = t := by
  cases t <;> first | rfl | exact h.elim
/-- the first odd one from i on -/
def firstO (bad : Nat → Bool) : Nat → Nat → Option Nat
  | _, 0 => none
  | i, n + 1 => if bad i = true then some i else firstO bad (i + 1) n
theorem firstO_congr {bad bad' : Nat → Bool} : ∀ (n i : Nat), (∀ j, i ≤ j → j < i + n → bad j = bad' j) → firstO bad i n = firstO bad' i n
  | 0, _, _ => rfl
  | n + 1, i, h => by
    unfold firstO
    rw [h i (Nat.le_refl _) (by omega), firstO_congr n (i + 1) fun j h1 h2 => h j (by omega) (by omega)]
theorem loop_first {g : S → Fw.Env → Ms → Option Fw.Env} {body : Fw.Env → Ms → T} {ms : Ms} (P : Nat → Fw.Env → Prop) (bad : Nat → Bool) (out : Nat → R S) : ∀ (xs : List S) (i : Nat) (env : Fw.Env), P i env →
    (∀ j x, xs[j]? = some x → ∀ e, P (i + j) e → ∃ e1, g x e ms = some e1 ∧ (bad (i + j) = false → ∃ e2, body e1 ms = .nx e2 ms ∧ P (i + j + 1) e2) ∧ (bad (i + j) = true → Stops (body e1 ms) ∧ (body e1 ms).fin = out (i + j))) →
    match firstO bad i xs.length with
    | none => ∃ e, forL none g body xs env ms = .nx e ms ∧ P (i + xs.length) e
    | some j => Stops (forL none g body xs env ms) ∧ (forL none g body xs env ms).fin = out j
  | [], i, env, p, _ => ⟨env, rfl, p⟩
  | x :: xs, i, env, p, h => by
    obtain ⟨e1, h1, h2, h3⟩ := h 0 x rfl env p
    rw [List.length_cons]
    unfold firstO
    cases hb : bad i with
    | true =>
      obtain ⟨s1, s2⟩ := h3 hb
      rw [if_pos rfl]
      have e : forL none g body (x :: xs) env ms = body e1 ms := by
        rw [forL_cons h1]
        revert s1
        cases body e1 ms <;> intro s1 <;> first | rfl | exact s1.elim
      rw [e]
      exact ⟨s1, s2⟩
    | false =>
      obtain ⟨e2, h4, p2⟩ := h2 hb
      rw [if_neg (by decide)]
      have ih := loop_first P bad out xs (i + 1) e2 p2 (fun j y hy e pe => by
        have := h (j + 1) y (by simpa using hy) e (by rw [show i + (j + 1) = i + 1 + j by omega]; exact pe)
        rwa [show i + (j + 1) = i + 1 + j by omega] at this)
      have e : forL none g body (x :: xs) env ms = forL none g body xs e2 ms := by
        rw [forL_cons h1, h4]
      rw [e]
      cases hf : firstO bad (i + 1) xs.length with
      | none =>
        rw [hf] at ih
        rw [show i + (xs.length + 1) = i + 1 + xs.length by omega]
        exact ih
      | some j =>
        rw [hf] at ih
        exact ih
theorem flat_strs (ws : List Str) : (strsD ws).all flatD = true := by
  unfold strsD
  rw [List.all_map, List.all_eq_true]
  exact fun _ _ => rfl
theorem inF_strs (z : Str) : ∀ ws : List Str, inF (.str z) (strsD ws) = ws.contains z
  | [] => rfl
  | w :: ws => by
    have e : inF (.str z) (strsD (w :: ws)) = (eqV (flatOf (.str w)) (flatOf (.str z)) || inF (.str z) (strsD ws)) := by
      unfold inF inV strsD
      rw [List.map_cons, List.map_cons, List.any_cons]
    rw [e, inF_strs z ws, List.contains_cons]
    have : eqV (flatOf (.str w)) (flatOf (.str z)) = (z == w) := by
      show (w == z) = (z == w)
      by_cases h : w = z
      · subst h; simp
      · rw [beq_false_of_ne h, beq_false_of_ne (Ne.symm h)]
    rw [this]
theorem in_strs {z : Str} {ws : List Str} {y : D} {neg : Bool} {ms : Ms} (hy : y = .tup (strsD ws) ∨ y = .lst (strsD ws)) : gIn neg (.d (.str z)) (.d y) ms = .ok (.d (.bl (if neg = true then !ws.contains z else ws.contains z))) ms := by
  have f : (flatD (.str z) && (strsD ws).all flatD) = true := by rw [flat_strs]; rfl
  have e : gInF neg (.d (.str z)) (.d y) ms = .ok (.d (.bl (if neg = true then !ws.contains z else ws.contains z))) ms := by
    unfold gInF
    rcases hy with rfl | rfl <;>
    · simp only [seqD, view_d, f, inF_strs]
  unfold gIn gOr
  rcases hy with rfl | rfl
  · rw [show gInS neg (.d (.str z)) (.d (.tup (strsD ws))) ms = .bad from rfl]
    simp only [e]
  · rw [show gInS neg (.d (.str z)) (.d (.lst (strsD ws))) ms = .bad from rfl]
    simp only [e]
/-- texts that are short -/
def Sht (ws : List Str) : Prop := ws.length ≤ 1000 ∧ ∀ z ∈ ws, z.length ≤ 100000
def oddName (ws : List Str) (i : Nat) : Bool := !nameL (TL.tl (ws.getD i Str.empty)) || (ws.take i).contains (ws.getD i Str.empty)
theorem numbered_strs {ws : List Str} {j : Nat} {x : S} (h : ((numbered 0 (strsD ws)).map S.d)[j]? = some x) : ∃ hj : j < ws.length, x = .d (.tup [.int (j : Nat), .str ws[j]]) := by
  obtain ⟨d, hd, rfl⟩ := numbered_get h
  unfold strsD at hd
  rw [List.getElem?_map] at hd
  cases e : ws[j]? with
  | none => rw [e] at hd; cases hd
  | some w =>
    rw [e] at hd
    cases hd
    obtain ⟨h1, h2⟩ := List.getElem?_eq_some_iff.mp e
    refine ⟨h1, ?_⟩
    rw [show (0 : Int) + (j : Int) = (j : Int) by omega, h2]
theorem check_names_ok {ws : List Str} {reason : Str} (h : Sht ws) : f_check_names [.d (.tup (strsD ws)), .d (.str reason)] [] = match firstO (oddName ws) 0 ws.length with
    | none => .ok (.d .non) []
    | some i => .ex 4 [.int (i : Nat), .str reason] [] := by
  unfold f_check_names
  rw [fn_ev]
  have hi : iEnu (aCons (mVar 0) (aNil)) [some (.d (.tup (strsD ws))), some (.d (.str reason)), none, none] [] = .ok ((numbered 0 (strsD ws)).map S.d, none) [] := rfl
  have L := loop_first (g := gUn 2 (gsCons (gSet 2) (gsCons (gSet 3) (gsNil)))) (body := sIf (mOr (mNot (mB (mCallN (bndS f_is_name [0] []) (mLen 1 (aCons (mVar 3) (aNil)))))) (mB (mOp (gIn false) (mVar 3) (mSl (mVar 0) (pNo) (pAt (mVar 2)))))) (sRaise 4 2 (mLen 2 (aCons (mVar 1) (aCons (mVar 2) (aNil))))) (sNil)) (ms := [])
    (P := fun _ e => ∃ o2 o3, e = [some (.d (.tup (strsD ws))), some (.d (.str reason)), o2, o3]) (bad := oddName ws) (out := fun i => .ex 4 [.int (i : Nat), .str reason] []) ((numbered 0 (strsD ws)).map S.d) 0 [some (.d (.tup (strsD ws))), some (.d (.str reason)), none, none] ⟨none, none, rfl⟩
    (fun j x hx e ⟨o2, o3, he⟩ => by
      subst he
      obtain ⟨hj, rfl⟩ := numbered_strs hx
      have g1 : ws.getD j Str.empty = ws[j] := by rw [List.getD_eq_getElem?_getD, List.getElem?_eq_getElem hj]; rfl
      have n1 := is_name_ok (l := TL.tl ws[j]) (by rw [← str_len]; exact h.2 _ (List.getElem_mem hj))
      have n2 : txL (TL.tl ws[j]) = ws[j] := rfl
      rw [n2] at n1
      have c1 : cutD (strsD ws) none (some (j : Int)) = strsD (ws.take j) := by rw [cutD_pre (by omega), Int.toNat_natCast, strs_take]
      have i1 := in_strs (z := ws[j]) (ws := ws.take j) (neg := false) (ms := []) (y := .tup (strsD (ws.take j))) (.inl rfl)
      refine ⟨[some (.d (.tup (strsD ws))), some (.d (.str reason)), some (.d (.int (j : Nat))), some (.d (.str ws[j]))], by simp, ?_⟩
      unfold oddName
      rw [Nat.zero_add, g1]
      cases hn : nameL (TL.tl ws[j]) with
      | false =>
        rw [hn] at n1
        refine ⟨fun z => by simp at z, fun _ => ?_⟩
        simp [pick, n1, sRaise, Stops]
      | true =>
        rw [hn] at n1
        cases hc : (ws.take j).contains ws[j] with
        | false =>
          rw [hc] at i1
          refine ⟨fun _ => ⟨[some (.d (.tup (strsD ws))), some (.d (.str reason)), some (.d (.int (j : Nat))), some (.d (.str ws[j]))], ?_, some (.d (.int (j : Nat))), some (.d (.str ws[j])), rfl⟩, fun z => by simp at z⟩
          simp [pick, n1, c1, i1]
        | true =>
          rw [hc] at i1
          refine ⟨fun z => by simp at z, fun _ => ?_⟩
          simp [pick, n1, c1, i1, sRaise, Stops])
  rw [List.length_map, numbered_len, strs_len] at L
  have run : m_check_names (start0 4 [.d (.tup (strsD ws)), .d (.str reason)]) [] = forL none (gUn 2 (gsCons (gSet 2) (gsCons (gSet 3) (gsNil)))) (sIf (mOr (mNot (mB (mCallN (bndS f_is_name [0] []) (mLen 1 (aCons (mVar 3) (aNil)))))) (mB (mOp (gIn false) (mVar 3) (mSl (mVar 0) (pNo) (pAt (mVar 2)))))) (sRaise 4 2 (mLen 2 (aCons (mVar 1) (aCons (mVar 2) (aNil))))) (sNil)) ((numbered 0 (strsD ws)).map S.d) [some (.d (.tup (strsD ws))), some (.d (.str reason)), none, none] [] := rfl
  rw [run]
  cases hf : firstO (oddName ws) 0 ws.length with
  | none =>
    rw [hf] at L
    obtain ⟨e, h1, _⟩ := L
    rw [h1]; rfl
  | some i =>
    rw [hf] at L
    exact L.2
end Ga
set_option Elab.async false
set_option linter.all false
set_option maxRecDepth 100000
set_option maxHeartbeats 1000000
/-! Wc3: a tie checked, a web checked. -/
namespace Ga
open PySem L2 Fw
structure RowZ where
  t : Str
  p : Str
  q : Str
  lo : Int
  hi : Int
def rowZ (r : RowZ) : D := .tup [.str r.t, .str r.p, .str r.q, .int r.lo, .int r.hi]
def rowsZ (rs : List RowZ) : List D := rs.map rowZ
@[simp] theorem rowsZ_len (rs : List RowZ) : (rowsZ rs).length = rs.length := by simp [rowsZ]
theorem rowsZ_take (rs : List RowZ) (n : Nat) : (rowsZ rs).take n = rowsZ (rs.take n) := by simp [rowsZ, List.map_take]
structure ShtR (rs : List RowZ) : Prop where
  len : rs.length ≤ 1000
  t : ∀ r ∈ rs, r.t.length ≤ 100000
def tieO (ws : List Str) (rs : List RowZ) (i : Nat) (r : RowZ) : Option Str :=
  if (!nameL (TL.tl r.t) || ((rs.take i).map RowZ.t).contains r.t) = true then some "tie"
  else if (!ws.contains r.p || (!ws.contains r.q || r.p == r.q)) = true then some "end"
  else if (decide (0 ≤ r.lo) && decide (r.lo ≤ r.hi)) = true then none else some "span"
theorem check_tie_ok {ws : List Str} {rs : List RowZ} {i : Nat} (hi : i < rs.length) (h : ShtR rs) : f_check_tie [.d (.tup (strsD ws)), .d (.tup (rowsZ rs)), .d (.int (i : Nat))] [] = match tieO ws rs i rs[i] with
    | none => .ok (.d .non) []
    | some reason => .ex 4 [.int (i : Nat), .str reason] [] := by
  obtain ⟨r, hr⟩ : ∃ r, r = rs[i] := ⟨_, rfl⟩
  rw [← hr]
  have rm : r ∈ rs := by rw [hr]; exact List.getElem_mem hi
  have ix : ∀ ms, gIx (.d (.tup (rowsZ rs))) (.d (.int (i : Nat))) ms = .ok (.d (.tup [.str r.t, .str r.p, .str r.q, .int r.lo, .int r.hi])) ms := fun ms => by
    rw [gIxt, atI_nat (by rw [rowsZ_len]; exact hi)]
    have : (rowsZ rs)[i]'(by rw [rowsZ_len]; exact hi) = rowZ r := by rw [hr]; simp [rowsZ]
    rw [this]; rfl
  have n1 := is_name_ok (l := TL.tl r.t) (by rw [← str_len]; exact h.t r rm)
  rw [show txL (TL.tl r.t) = r.t from rfl] at n1
  have cd : cutD (rowsZ rs) none (some (i : Int)) = rowsZ (rs.take i) := by rw [cutD_pre (by omega), Int.toNat_natCast, rowsZ_take]
  have cp : mLc false (iSeq (mSl (mVar 1) (pNo) (pAt (mVar 2)))) (gSet 8) ((fun _ ms => .ok true ms)) (mOp gIx (mVar 8) (mC (.d (.int 0)))) [8] [some (.d (.tup (strsD ws))), some (.d (.tup (rowsZ rs))), some (.d (.int (i : Nat))), some (.d (.str r.t)), some (.d (.str r.p)), some (.d (.str r.q)), some (.d (.int r.lo)), some (.d (.int r.hi)), none] [] = .ok (.d (.lst (strsD ((rs.take i).map RowZ.t)))) [] := by
    have e : strsD ((rs.take i).map RowZ.t) = (rowsZ (rs.take i)).map (fun d => match d with
        | .tup (x :: _) => x
        | _ => .non) := by
      unfold strsD rowsZ
      rw [List.map_map, List.map_map]; rfl
    rw [e]
    refine lc_all _ (itT_ (by simp only [ev_sl, ev_var, List.getElem?_cons_zero, List.getElem?_cons_succ, bind_ok, ev_pNo, ev_pAt, asO_int, sl_tup_ev, cd])) (fun x hx => ⟨_, rfl, rfl, ?_⟩) (by rw [rowsZ_len, List.length_take]; have := h.len; omega)
    obtain ⟨y, _, rfl⟩ := List.mem_map.mp hx
    simp [wipeE, rowZ]
  have i1 := in_strs (z := r.t) (ws := (rs.take i).map RowZ.t) (neg := false) (ms := []) (y := .lst (strsD ((rs.take i).map RowZ.t))) (.inr rfl)
  have i2 := in_strs (z := r.p) (ws := ws) (neg := true) (ms := []) (y := .tup (strsD ws)) (.inl rfl)
  have i3 := in_strs (z := r.q) (ws := ws) (neg := true) (ms := []) (y := .tup (strsD ws)) (.inl rfl)
  unfold tieO
  obtain ⟨W, hW⟩ : ∃ W, W = (rs.take i).map RowZ.t := ⟨_, rfl⟩
  rw [← hW] at cp i1 ⊢
  unfold f_check_tie
  rw [fn_ev]
  obtain ⟨b1, q1⟩ : ∃ b, b = nameL (TL.tl r.t) := ⟨_, rfl⟩
  obtain ⟨b2, q2⟩ : ∃ b, b = W.contains r.t := ⟨_, rfl⟩
  obtain ⟨b3, q3⟩ : ∃ b, b = ws.contains r.p := ⟨_, rfl⟩
  obtain ⟨b4, q4⟩ : ∃ b, b = ws.contains r.q := ⟨_, rfl⟩
  obtain ⟨b5, q5⟩ : ∃ b, b = (r.p == r.q) := ⟨_, rfl⟩
  rw [← q1] at n1 ⊢
  rw [← q2] at i1 ⊢
  rw [← q3] at i2 ⊢
  rw [← q4] at i3 ⊢
  have e5 : ∀ ms, gEq false (.d (.str r.p)) (.d (.str r.q)) ms = .ok (.d (.bl b5)) ms := fun ms => by rw [eqSS, q5]; rfl
  rw [← q5]
  cases b1
  · simp [m_check_tie, start0, ix, pick, n1, sRaise]
  · cases b2
    · cases b3
      · simp [-eqSS, m_check_tie, start0, ix, pick, n1, cp, i1, i2, sRaise]
      · cases b4
        · simp [-eqSS, m_check_tie, start0, ix, pick, n1, cp, i1, i2, i3, sRaise]
        · cases b5
          · by_cases h1 : 0 ≤ r.lo
            · by_cases h2 : r.lo ≤ r.hi
              · simp [-eqSS, m_check_tie, start0, ix, pick, n1, cp, i1, i2, i3, e5, h1, h2, sRaise]
              · simp [-eqSS, m_check_tie, start0, ix, pick, n1, cp, i1, i2, i3, e5, h1, h2, sRaise]
            · simp [-eqSS, m_check_tie, start0, ix, pick, n1, cp, i1, i2, i3, e5, h1, sRaise]
          · simp [-eqSS, m_check_tie, start0, ix, pick, n1, cp, i1, i2, i3, e5, sRaise]
    · simp [-eqSS, m_check_tie, start0, ix, pick, n1, cp, i1, sRaise]
end Ga
set_option Elab.async false
set_option linter.all false
set_option maxRecDepth 100000
set_option maxHeartbeats 1000000
/-! Wc4: a web checked and made. -/
namespace Ga
open PySem L2 Fw
def tieAt (ws : List Str) (rs : List RowZ) (i : Nat) : Option Str := match rs[i]? with
  | some r => tieO ws rs i r
  | none => none
/-- the first violation of posts and rows that have the form -/
def webO (ws : List Str) (rs : List RowZ) : Option (Str × Nat) :=
  if ws.isEmpty = true then some ("posts", 0) else match firstO (oddName ws) 0 ws.length with
    | some i => some ("post", i)
    | none => match firstO (fun i => (tieAt ws rs i).isSome) 0 rs.length with
      | some i => (tieAt ws rs i).map fun x => (x, i)
      | none => none
def errO (o : Option (Str × Nat)) : R S := match o with
  | none => .ok (.d .non) []
  | some (x, i) => .ex 4 [.int (i : Nat), .str x] []
theorem strs_of : ∀ {ps : List D}, ps.all strB = true → ∃ ws, ps = strsD ws
  | [], _ => ⟨[], rfl⟩
  | d :: ps, h => by
    rw [List.all_cons, Bool.and_eq_true] at h
    obtain ⟨ws, rfl⟩ := strs_of h.2
    cases d with
    | str z => exact ⟨z :: ws, rfl⟩
    | _ => cases h.1
theorem row_of {x : D} (h : tieB x = true) : ∃ r, x = rowZ r := by
  unfold tieB at h
  split at h
  · rename_i a b c d e
    simp only [Bool.and_eq_true] at h
    obtain ⟨⟨h1, h2, h3⟩, h4, h5⟩ := h
    cases a with
    | str t =>
      cases b with
      | str p =>
        cases c with
        | str q =>
          cases d with
          | int lo =>
            cases e with
            | int hi => exact ⟨⟨t, p, q, lo, hi⟩, rfl⟩
            | _ => cases h5
          | _ => cases h4
        | _ => cases h3
      | _ => cases h2
    | _ => cases h1
  · cases h
theorem rows_of : ∀ {ts : List D}, ts.all tieB = true → ∃ rs, ts = rowsZ rs
  | [], _ => ⟨[], rfl⟩
  | d :: ts, h => by
    rw [List.all_cons, Bool.and_eq_true] at h
    obtain ⟨rs, rfl⟩ := rows_of h.2
    obtain ⟨r, rfl⟩ := row_of h.1
    exact ⟨r :: rs, rfl⟩
theorem form_of {p t : D} (h : formB p t = true) : ∃ ws rs, p = .tup (strsD ws) ∧ t = .tup (rowsZ rs) := by
  unfold formB at h
  split at h
  · rw [Bool.and_eq_true] at h
    obtain ⟨ws, rfl⟩ := strs_of h.1
    obtain ⟨rs, rfl⟩ := rows_of h.2
    exact ⟨ws, rs, rfl, rfl⟩
  · cases h
theorem strs_all (ws : List Str) : (strsD ws).all strB = true := by
  unfold strsD
  rw [List.all_map, List.all_eq_true]
  exact fun _ _ => rfl
theorem rows_all (rs : List RowZ) : (rowsZ rs).all tieB = true := by
  unfold rowsZ
  rw [List.all_map, List.all_eq_true]
  exact fun _ _ => rfl
theorem form_is (ws : List Str) (rs : List RowZ) : formB (.tup (strsD ws)) (.tup (rowsZ rs)) = true := by
  show ((strsD ws).all strB && (rowsZ rs).all tieB) = true
  rw [strs_all, rows_all]; rfl
theorem sht_of {ws : List Str} (h : Dat (.tup (strsD ws))) : Sht ws := by
  refine ⟨by have := h.1; rwa [strs_len] at this, fun z hz => ?_⟩
  have := dats_iff.mp h.2 (.str z) (List.mem_map_of_mem hz)
  exact this.2
theorem shtR_of {rs : List RowZ} (h : Dat (.tup (rowsZ rs))) : ShtR rs := by
  refine ⟨by have := h.1; rwa [rowsZ_len] at this, fun r hr => ?_⟩
  have h1 := dats_iff.mp h.2 (rowZ r) (List.mem_map_of_mem hr)
  have h2 := dats_iff.mp h1.2 (.str r.t) (by simp)
  exact h2.2
theorem check_web_ok {ws : List Str} {rs : List RowZ} (hp : Dat (.tup (strsD ws))) (ht : Dat (.tup (rowsZ rs))) : f_check_web [.d (.tup (strsD ws)), .d (.tup (rowsZ rs))] [] = errO (webO ws rs) := by
  have hf := has_form_ok hp ht
  rw [form_is] at hf
  have hs := sht_of hp
  have hr := shtR_of ht
  have cn := check_names_ok (ws := ws) (reason := "post") hs
  have L := loop_first (g := gSet 2) (body := sExpr (mCallN (bndS f_check_tie [0, 1, 2] []) (mLen 3 (aCons (mVar 0) (aCons (mVar 1) (aCons (mVar 2) (aNil))))))) (ms := [])
    (P := fun _ e => ∃ o2, e = [some (.d (.tup (strsD ws))), some (.d (.tup (rowsZ rs))), o2]) (bad := fun i => (tieAt ws rs i).isSome) (out := fun i => errO ((tieAt ws rs i).map fun x => (x, i))) (rngS 0 rs.length) 0 [some (.d (.tup (strsD ws))), some (.d (.tup (rowsZ rs))), none] ⟨none, rfl⟩
    (fun j x hx e ⟨o2, he⟩ => by
      subst he
      obtain ⟨hj, rfl⟩ := rng_at hx
      have e0 : (0 : Int) + (j : Int) = (j : Int) := by omega
      have ct := check_tie_ok (ws := ws) hj hr
      have ta : tieAt ws rs j = tieO ws rs j rs[j] := by unfold tieAt; rw [List.getElem?_eq_getElem hj]
      refine ⟨[some (.d (.tup (strsD ws))), some (.d (.tup (rowsZ rs))), some (.d (.int (j : Nat)))], by simp, ?_⟩
      rw [Nat.zero_add, ta]
      cases ho : tieO ws rs j rs[j] with
      | none =>
        rw [ho] at ct
        refine ⟨fun _ => ⟨[some (.d (.tup (strsD ws))), some (.d (.tup (rowsZ rs))), some (.d (.int (j : Nat)))], ?_, some (.d (.int (j : Nat))), rfl⟩, fun z => by simp at z⟩
        simp [pick, ct]
      | some reason =>
        rw [ho] at ct
        refine ⟨fun z => by simp at z, fun _ => ?_⟩
        simp [pick, ct, Stops, errO])
  rw [rng_len] at L
  have run : ∀ env : Fw.Env, env = [some (.d (.tup (strsD ws))), some (.d (.tup (rowsZ rs))), none] → sFor (iRng1 (aCons (mB1 (Fw.c1 lenD) (aCons (mVar 1) (aNil))) (aNil))) (gSet 2) (sExpr (mCallN (bndS f_check_tie [0, 1, 2] []) (mLen 3 (aCons (mVar 0) (aCons (mVar 1) (aCons (mVar 2) (aNil))))))) env [] =
      forL none (gSet 2) (sExpr (mCallN (bndS f_check_tie [0, 1, 2] []) (mLen 3 (aCons (mVar 0) (aCons (mVar 1) (aCons (mVar 2) (aNil))))))) (rngS 0 rs.length) env [] := fun env he => by
    rw [ev_for, rng1_nat (i := rs.length) (ms1 := []) (by subst he; simp) (by have := hr.len; omega), ofE_ok]
  unfold f_check_web
  rw [fn_ev]
  unfold webO
  cases ws with
  | nil =>
    simp [m_check_web, start0, pick, hf, sRaise, errO]
  | cons w ws =>
    have ne : (strsD (w :: ws)).length ≠ 0 := by rw [strs_len]; simp
    have nei : ¬ (((strsD (w :: ws)).length : Int) = 0) := by omega
    rw [if_neg (by simp)]
    cases h1 : firstO (oddName (w :: ws)) 0 (w :: ws).length with
    | some i =>
      rw [h1] at cn
      simp [-strs_len, m_check_web, start0, pick, hf, nei, ne, cn, errO]
    | none =>
      rw [h1] at cn
      have r2 := run _ rfl
      cases h2 : firstO (fun i => (tieAt (w :: ws) rs i).isSome) 0 rs.length with
      | none =>
        rw [h2] at L
        obtain ⟨e, h3, _⟩ := L
        rw [h3] at r2
        simp [-ev_rng1, -strs_len, m_check_web, start0, pick, hf, nei, ne, cn, errO, r2]
      | some i =>
        rw [h2] at L
        obtain ⟨s1, s2⟩ := L
        have : (m_check_web (start0 3 [.d (.tup (strsD (w :: ws))), .d (.tup (rowsZ rs))]) []).fin = (forL none (gSet 2) (sExpr (mCallN (bndS f_check_tie [0, 1, 2] []) (mLen 3 (aCons (mVar 0) (aCons (mVar 1) (aCons (mVar 2) (aNil))))))) (rngS 0 rs.length) [some (.d (.tup (strsD (w :: ws)))), some (.d (.tup (rowsZ rs))), none] []).fin := by
          simp [-ev_rng1, -strs_len, m_check_web, start0, pick, hf, nei, ne, cn, r2]
        rw [this, s2]
/-! made -/
abbrev webX (ws : List Str) (rs : List RowZ) : D := .obj 11 [.tup (strsD ws), .tup (rowsZ rs)]
theorem check_web_bad {p t : D} (hp : Dat p) (ht : Dat t) (h : formB p t = false) : f_check_web [.d p, .d t] [] = .ex 4 [.int 0, .str "form"] [] := by
  have hf := has_form_ok hp ht
  rw [h] at hf
  unfold f_check_web
  rw [fn_ev]
  simp [m_check_web, start0, pick, hf, sRaise]
theorem init_web {ws : List Str} {rs : List RowZ} (hp : Dat (.tup (strsD ws))) (ht : Dat (.tup (rowsZ rs))) (h : webO ws rs = none) :
    f_Web_init [.loc 0, .d (.tup (strsD ws)), .d (.tup (rowsZ rs))] [.ins 11 []] = .ok (.d .non) [.ins 11 [("places", .tup (strsD ws)), ("bonds", .tup (rowsZ rs))]] := by
  have ck := check_web_ok hp ht
  rw [h] at ck
  unfold f_Web_init
  rw [fn_ev]
  simp [m_Web_init, start0, pick, ck, errO]
  rfl
theorem init_bad {p t : D} {es : List D} (h : f_check_web [.d p, .d t] [] = .ex 4 es []) : f_Web_init [.loc 0, .d p, .d t] [.ins 11 []] = .ex 4 es [.ins 11 []] := by
  unfold f_Web_init
  rw [fn_ev]
  simp [m_Web_init, start0, pick, h]
theorem mk_web {ws : List Str} {rs : List RowZ} (hp : Dat (.tup (strsD ws))) (ht : Dat (.tup (rowsZ rs))) (h : webO ws rs = none) {ms : Ms} : mkS 11 (fld 11) (bndS f_Web_init [0, 1, 2] []) [.d (.tup (strsD ws)), .d (.tup (rowsZ rs))] ms = .ok (.d (webX ws rs)) ms :=
  mk_ok (xs := [.tup (strsD ws), .tup (rowsZ rs)]) rfl (init_web hp ht h) rfl
theorem mk_web_kw {ws : List Str} {rs : List RowZ} (hp : Dat (.tup (strsD ws))) (ht : Dat (.tup (rowsZ rs))) (h : webO ws rs = none) {ms : Ms} : mkS 11 (fld 11) (bndS f_Web_init [0, 2, 1] []) [.d (.tup (rowsZ rs)), .d (.tup (strsD ws))] ms = .ok (.d (webX ws rs)) ms :=
  mk_ok (xs := [.tup (strsD ws), .tup (rowsZ rs)]) rfl (init_web hp ht h) rfl
theorem mk_web_bad {p t : D} {es : List D} (h : f_check_web [.d p, .d t] [] = .ex 4 es []) {ms : Ms} : mkS 11 (fld 11) (bndS f_Web_init [0, 1, 2] []) [.d p, .d t] ms = .ex 4 es ms :=
  mk_ex (xs := [p, t]) rfl (init_bad h)
theorem web_posts {ws : List Str} {rs : List RowZ} : f_Web_posts [.d (webX ws rs)] [] = .ok (.d (.tup (strsD ws))) [] := rfl
theorem web_ties {ws : List Str} {rs : List RowZ} : f_Web_ties [.d (webX ws rs)] [] = .ok (.d (.tup (rowsZ rs))) [] := rfl
end Ga
set_option Elab.async false
set_option linter.all false
set_option maxRecDepth 100000
set_option maxHeartbeats 1000000
/-! Wd0: plain data has a repr; how deep and how heavy it is. -/
namespace Ga
open PySem L2 Fw
mutual
def deepD : D → Nat
  | .tup ds => deepDs ds + 1
  | _ => 0
def deepDs : List D → Nat
  | [] => 0
  | d :: ds => max (deepD d) (deepDs ds)
end
mutual
def wgtD : D → Nat
  | .tup ds => wgtDs ds
  | .int i => PyData.weight (.int i)
  | .str x => x.length
  | _ => 0
def wgtDs : List D → Nat
  | [] => 0
  | d :: ds => wgtD d + 1 + wgtDs ds
end
theorem rep_int2 {a : Int} (h : a.natAbs < 10 ^ 31) : Rep 0 (PyData.weight (.int a)) (.int a) := by
  obtain ⟨p, r⟩ := rep_int h
  have : p = .int a := (Option.some.inj (r.to.symm.trans rfl))
  subst this
  exact ⟨_, { r with wt := Nat.le_refl _ }⟩
theorem wgt_int {a : Int} (h : a.natAbs < 10 ^ 31) : wgtD (.int a) ≤ 104 := by
  obtain ⟨p, r⟩ := rep_int h
  have : p = .int a := (Option.some.inj (r.to.symm.trans rfl))
  subst this
  exact r.wt
mutual
theorem rep_dat : ∀ (d : D), Dat d → Rep (deepD d) (wgtD d) d
  | .non, _ => rep_non.mono (Nat.zero_le _) (Nat.zero_le _)
  | .bl b, _ => (rep_bl b).mono (Nat.zero_le _) (Nat.zero_le _)
  | .int i, h => (rep_int2 h).mono (Nat.zero_le _) (Nat.le_refl _)
  | .str x, h => (rep_str h.1 (Nat.le_refl _)).mono (Nat.zero_le _) (Nat.le_refl _)
  | .tup ds, h => by
    obtain ⟨ps, h1, h2, h3, h4, h5, h6, h7⟩ := rep_dats ds h.2
    refine ⟨.tuple ps, ?_, ?_, ?_, ?_, ?_, ?_, ?_⟩
    · simp only [toP, h1, Option.map_some]
    · simp only [PyData.showable]; exact h2
    · simp only [PyData.depth, deepD]; omega
    · simp only [PyData.hasDict]; exact h4
    · simp only [PyData.leavesShort]; exact h5
    · simp only [PyData.weight, wgtD]; exact h6
    · simp only [PyData.canLay0]; exact h7
  | .lst _, h => h.elim
  | .frz _, h => h.elim
  | .obj _ _, h => h.elim
  | .dic _ _, h => h.elim
  | .dit _ _, h => h.elim
  | .fn _, h => h.elim
  | .ty _, h => h.elim
theorem rep_dats : ∀ (l : List D), Dats l → ∃ ps, toPs l = some ps ∧ PyData.showableAll ps = true ∧ PyData.depthAll ps ≤ deepDs l ∧ PyData.hasDictAll ps = false ∧ PyData.leavesShortAll 40 ps = true ∧ PyData.weightAll ps ≤ wgtDs l ∧ PyData.canLayAll0 ps = true
  | [], _ => ⟨[], rfl, rfl, Nat.zero_le _, rfl, rfl, by simp [PyData.weightAll], rfl⟩
  | x :: l, h => by
    obtain ⟨p, r⟩ := rep_dat x h.1
    obtain ⟨ps, h1, h2, h3, h4, h5, h6, h7⟩ := rep_dats l h.2
    refine ⟨p :: ps, ?_, ?_, ?_, ?_, ?_, ?_, ?_⟩
    · simp only [toPs, r.to, h1, Option.bind_some, Option.map_some]
    · simp only [PyData.showableAll, r.sh, h2, Bool.and_self]
    · simp only [PyData.depthAll, deepDs]; have := r.dp; omega
    · simp only [PyData.hasDictAll, r.nd, h4, Bool.or_self]
    · simp only [PyData.leavesShortAll, r.lv, h5, Bool.and_self]
    · simp only [PyData.weightAll, wgtDs]
      have := r.wt; omega
    · simp only [PyData.canLayAll0, r.cl, h7, Bool.and_self]
end
theorem deep_mem : ∀ {ds : List D} {x : D}, x ∈ ds → deepD x ≤ deepDs ds
  | d :: ds, x, h => by
    unfold deepDs
    rcases List.mem_cons.mp h with rfl | h
    · omega
    · have := deep_mem h; omega
theorem deep_le {ds : List D} {n : Nat} (h : ∀ x ∈ ds, deepD x ≤ n) : deepDs ds ≤ n := by
  induction ds with
  | nil => exact Nat.zero_le _
  | cons d ds ih =>
    unfold deepDs
    have h1 := h d List.mem_cons_self
    have h2 := ih fun x hx => h x (List.mem_cons_of_mem _ hx)
    omega
theorem wgts_app : ∀ (a b : List D), wgtDs (a ++ b) = wgtDs a + wgtDs b
  | [], b => by simp [wgtDs]
  | x :: a, b => by
    rw [List.cons_append, wgtDs, wgtDs, wgts_app a b]; omega
/-- a list of such data, for == with [] -/
theorem rep_lst_dat {l : List D} (h : ∀ x ∈ l, Dat x) {n : Nat} (hn : ∀ x ∈ l, deepD x ≤ n) : ∃ W, Rep (n + 1) W (.lst l) := by
  have ds := dats_iff.mpr h
  obtain ⟨ps, h1, h2, h3, h4, h5, h6, h7⟩ := rep_dats l ds
  refine ⟨wgtDs l, .list ps, ?_, ?_, ?_, ?_, ?_, ?_, ?_⟩
  · simp only [toP, h1, Option.map_some]
  · simp only [PyData.showable]; exact h2
  · simp only [PyData.depth]; have := deep_le hn; omega
  · simp only [PyData.hasDict]; exact h4
  · simp only [PyData.leavesShort]; exact h5
  · simp only [PyData.weight]; exact h6
  · simp only [PyData.canLay0]; exact h7
end Ga
set_option Elab.async false
set_option linter.all false
set_option maxRecDepth 100000
set_option maxHeartbeats 1000000
/-! We1: the drawn web is a web. -/
namespace Ga
open PySem L2 Fw
theorem firstO_none {bad : Nat → Bool} : ∀ (n i : Nat), (∀ j, i ≤ j → j < i + n → bad j = false) → firstO bad i n = none
  | 0, _, _ => rfl
  | n + 1, i, h => by
    unfold firstO
    rw [h i (Nat.le_refl _) (by omega), if_neg (by decide)]
    exact firstO_none n (i + 1) fun j h1 h2 => h j (by omega) (by omega)
theorem take_no {ws : List Str} (h : ws.Nodup) {i : Nat} (hi : i < ws.length) : (ws.take i).contains ws[i] = false := by
  rw [Bool.eq_false_iff]
  intro z
  have hm : ws[i] ∈ ws.take i := by simpa using z
  obtain ⟨j, hj, e⟩ := List.mem_take_iff_getElem.mp hm
  have := (List.getElem_inj h).mp e
  omega
theorem odd_no {m : Nat} {ws : List Str} (h : Names m ws) {i : Nat} (hi : i < ws.length) : oddName ws i = false := by
  unfold oddName
  have g1 : ws.getD i Str.empty = ws[i] := by rw [List.getD_eq_getElem?_getD, List.getElem?_eq_getElem hi]; rfl
  rw [g1, h.nm _ (List.getElem_mem hi), take_no h.nd hi]; rfl
def toZ (r : Row) : RowZ := ⟨r.t, r.p, r.q, (r.lo : Nat), (r.hi : Nat)⟩
theorem rows_toZ (rs : List Row) : rowsD rs = rowsZ (rs.map toZ) := by
  unfold rowsD rowsZ
  rw [List.map_map]; rfl
theorem good_web {many bonds limit : Nat} {ws ts : List Str} {rs : List Row} (h1 : 1 ≤ many) (g : GoodW many bonds limit ws ts rs) : webO ws (rs.map toZ) = none := by
  unfold webO
  have ne : ws.isEmpty = false := by
    cases ws with
    | nil => have := g.posts.len; simp at this; omega
    | cons a b => rfl
  rw [ne, if_neg (by decide), firstO_none _ _ fun j _ hj => odd_no g.posts (by omega)]
  dsimp only
  rw [firstO_none _ _ fun j _ hj => ?_]
  have hj : j < rs.length := by simpa using hj
  have e : (rs.map toZ)[j]? = some (toZ rs[j]) := by simp [hj]
  unfold tieAt
  rw [e]
  dsimp only
  obtain ⟨i1, i2, i3, i4, i5⟩ := g.ends _ (List.getElem_mem hj)
  have tl : rs.length ≤ ts.length := by rw [g.titles.len]; have := g.len; omega
  have tj : (toZ rs[j]).t = ts[j]'(by omega) := by
    have := congrArg (fun l => l[j]?) g.tt
    simp only [List.getElem?_map, List.getElem?_take, hj, if_true, List.getElem?_eq_getElem hj, Option.map_some] at this
    rw [List.getElem?_eq_getElem (show j < ts.length by omega)] at this
    exact Option.some.inj this
  have tk : ((rs.map toZ).take j).map RowZ.t = ts.take j := by
    rw [← List.map_take, List.map_map]
    have : (rs.take j).map Row.t = ts.take j := by
      rw [List.map_take, g.tt, List.take_take, Nat.min_eq_left (by omega)]
    exact this
  have n1 : nameL (TL.tl (toZ rs[j]).t) = true := by rw [tj]; exact g.titles.nm _ (List.getElem_mem _)
  have n2 : (((rs.map toZ).take j).map RowZ.t).contains (toZ rs[j]).t = false := by rw [tk, tj]; exact take_no g.titles.nd _
  have c1 : ws.contains (toZ rs[j]).p = true := List.contains_iff_mem.mpr i1
  have c2 : ws.contains (toZ rs[j]).q = true := List.contains_iff_mem.mpr i2
  have c3 : ((toZ rs[j]).p == (toZ rs[j]).q) = false := beq_false_of_ne i3
  have c4 : (0 : Int) ≤ (toZ rs[j]).lo := Int.natCast_nonneg _
  have c5 : (toZ rs[j]).lo ≤ (toZ rs[j]).hi := by show ((rs[j].lo : Nat) : Int) ≤ ((rs[j].hi : Nat) : Int); omega
  unfold tieO
  rw [n1, n2, c1, c2, c3, decide_eq_true c4, decide_eq_true c5]
  rfl
end Ga
set_option Elab.async false
set_option linter.all false
set_option maxRecDepth 100000
set_option maxHeartbeats 1000000
/-! We2: the repr of a plain text is short and plain. -/
namespace Ga
open PySem L2 Fw Builtin.Str
/-- a line's end or a visible sign -/
def clnB (c : Nat) : Bool := decide (c = 10) || (decide (32 ≤ c) && decide (c < 127))
theorem rc_ok : ∀ c : Fin 127, clnB c.val = true → ((reprChar 39 c.val).length ≤ 2 ∧ (reprChar 39 c.val).all clnB = true) ∧ ((reprChar 34 c.val).length ≤ 2 ∧ (reprChar 34 c.val).all clnB = true) := by decide +kernel
theorem cln_lt {c : Nat} (h : clnB c = true) : c < 127 := by
  unfold clnB at h
  simp only [Bool.or_eq_true, Bool.and_eq_true, decide_eq_true_eq] at h
  omega
theorem quote_ok (x : Str) : reprQuote x = 39 ∨ reprQuote x = 34 := by
  unfold reprQuote
  split <;> simp
theorem fold_cln {q : Nat} (hq : q = 39 ∨ q = 34) : ∀ (l : List Nat) (acc : Array Nat), l.all clnB = true → acc.toList.all clnB = true →
    (l.foldl (fun out c => out ++ (reprChar q c).toArray) acc).size ≤ acc.size + 2 * l.length ∧ (l.foldl (fun out c => out ++ (reprChar q c).toArray) acc).toList.all clnB = true
  | [], acc, _, h => ⟨by simp, h⟩
  | c :: l, acc, hl, h => by
    rw [List.all_cons, Bool.and_eq_true] at hl
    have rc : (reprChar q c).length ≤ 2 ∧ (reprChar q c).all clnB = true := by
      have := rc_ok ⟨c, cln_lt hl.1⟩ hl.1
      rcases hq with rfl | rfl
      · exact this.1
      · exact this.2
    obtain ⟨h1, h2⟩ := fold_cln hq l (acc ++ (reprChar q c).toArray) hl.2 (by
      rw [Array.toList_append, List.all_append, h]
      simpa using rc.2)
    rw [List.foldl_cons]
    refine ⟨?_, h2⟩
    have rz : (reprChar q c).toArray.size = (reprChar q c).length := by simp
    rw [Array.size_append, rz] at h1
    rw [List.length_cons]
    omega
theorem repr_cln {x : Str} (h : (TL.tl x).all clnB = true) : (reprText x).length ≤ 2 * x.length + 2 ∧ (TL.tl (reprText x)).all clnB = true := by
  have hq := quote_ok x
  have c1 : clnB (reprQuote x) = true := by rcases hq with e | e <;> rw [e] <;> decide
  obtain ⟨h1, h2⟩ := fold_cln hq (TL.tl x) #[reprQuote x] h (by simpa using c1)
  unfold reprText
  constructor
  · show ((x.cps.foldl (fun out c => out ++ (reprChar (reprQuote x) c).toArray) #[reprQuote x]).push (reprQuote x)).size ≤ _
    rw [Array.size_push, ← Array.foldl_toList]
    have e : (TL.tl x).length = x.length := (str_len x).symm
    rw [e] at h1
    have e1 : (#[reprQuote x] : Array Nat).size = 1 := rfl
    rw [e1] at h1
    have h1' : (x.cps.toList.foldl (fun out c => out ++ (reprChar (reprQuote x) c).toArray) #[reprQuote x]).size ≤ 1 + 2 * x.length := h1
    omega
  · show ((x.cps.foldl (fun out c => out ++ (reprChar (reprQuote x) c).toArray) #[reprQuote x]).push (reprQuote x)).toList.all clnB = true
    rw [Array.toList_push, List.all_append, ← Array.foldl_toList]
    have h2' : (x.cps.toList.foldl (fun out c => out ++ (reprChar (reprQuote x) c).toArray) #[reprQuote x]).toList.all clnB = true := h2
    rw [h2']
    simpa using c1
end Ga
set_option Elab.async false
set_option linter.all false
set_option maxRecDepth 100000
set_option maxHeartbeats 1000000
/-! We3: how long a repr is. -/
namespace Ga
open PySem L2 Fw
mutual
/-- all its texts are of visible signs -/
def Cln : D → Prop
  | .str x => (TL.tl x).all clnB = true
  | .tup ds => Clns ds
  | _ => True
def Clns : List D → Prop
  | [] => True
  | d :: ds => Cln d ∧ Clns ds
end
theorem clns_iff : ∀ {ds : List D}, Clns ds ↔ ∀ x ∈ ds, Cln x
  | [] => ⟨fun _ _ h => (nomatch h), fun _ => trivial⟩
  | d :: ds => ⟨fun h x hx => by
      rcases List.mem_cons.mp hx with rfl | hx
      · exact h.1
      · exact clns_iff.mp h.2 x hx, fun h => ⟨h d List.mem_cons_self, clns_iff.mpr fun x hx => h x (List.mem_cons_of_mem _ hx)⟩⟩
mutual
def shl : D → Nat
  | .str x => 2 * x.length + 2
  | .tup ds => shls ds + 3
  | _ => 40
def shls : List D → Nat
  | [] => 0
  | d :: ds => shl d + 2 + shls ds
end
theorem cln_app {a b : Str} (h : (TL.tl a).all clnB = true) (h2 : (TL.tl b).all clnB = true) : (TL.tl (a ++ b)).all clnB = true := by
  rw [tl_app, List.all_append, h, h2]; rfl
theorem cln_int {i : Int} (h : i.natAbs < 10 ^ 31) : (TL.tl (itx i)).all clnB = true := by
  rw [List.all_eq_true]
  intro c hc
  by_cases h0 : 0 ≤ i
  · obtain ⟨n, rfl⟩ := Int.eq_ofNat_of_zero_le h0
    have e : TL.tl (itx (n : Int)) = TL.numL n := tl_str n
    rw [e] at hc
    have := TL.numL_digits n c hc
    unfold clnB
    have h1 : 32 ≤ c := by omega
    have h2 : c < 127 := by omega
    rw [decide_eq_true h1, decide_eq_true h2]; simp
  · obtain ⟨n, hn⟩ : ∃ n : Nat, i = -(n : Int) := ⟨i.natAbs, by omega⟩
    subst hn
    have hp : n ≠ 0 := by omega
    have e : (toString (-(n : Int)) : String) = "-" ++ toString (n : Int) := by
      cases n with
      | zero => exact absurd rfl hp
      | succ n => rfl
    have hc : c ∈ (Str.ofString (toString (-(n : Int)))).cps.toList := by unfold itx at hc; exact hc
    rw [PySem.Str.ofString_eq_toList] at hc
    simp only [List.mem_map] at hc
    obtain ⟨ch, h1, rfl⟩ := hc
    rw [e, String.toList_append] at h1
    rcases List.mem_append.mp h1 with h1 | h1
    · have : ch = '-' := by simpa using h1
      subst this; decide
    · have hm : ch.toNat ∈ TL.tl (itx (n : Int)) := by
        unfold itx
        show _ ∈ (Str.ofString (toString (n : Int))).cps.toList
        rw [PySem.Str.ofString_eq_toList]
        exact List.mem_map_of_mem h1
      rw [show TL.tl (itx (n : Int)) = TL.numL n from tl_str n] at hm
      have := TL.numL_digits n _ hm
      have h2 : 32 ≤ ch.toNat := by omega
      have h3 : ch.toNat < 127 := by omega
      unfold clnB
      rw [decide_eq_true h2, decide_eq_true h3]; simp
theorem join_cln : ∀ ts : List Str, (∀ t ∈ ts, (TL.tl t).all clnB = true) → (TL.tl (Str.join (Str.ofString ", ") ts)).all clnB = true
  | [], _ => rfl
  | [t], h => h t (by simp)
  | t :: u :: ts, h => by
    have e : Str.join (Str.ofString ", ") (t :: u :: ts) = t ++ Str.ofString ", " ++ Str.join (Str.ofString ", ") (u :: ts) := rfl
    rw [e]
    refine cln_app (cln_app (h t (by simp)) (by decide +kernel)) (join_cln (u :: ts) fun x hx => h x (List.mem_cons_of_mem _ hx))
mutual
theorem shown_dat : ∀ (d : D), Dat d → Cln d → ∃ p, toP d = some p ∧ p.shown.length ≤ shl d ∧ (TL.tl p.shown).all clnB = true
  | .non, _, _ => ⟨.none, rfl, by show (PyData.shown .none).length ≤ 40; decide +kernel, by decide +kernel⟩
  | .bl true, _, _ => ⟨.bool true, rfl, by show (PyData.shown (.bool true)).length ≤ 40; decide +kernel, by decide +kernel⟩
  | .bl false, _, _ => ⟨.bool false, rfl, by show (PyData.shown (.bool false)).length ≤ 40; decide +kernel, by decide +kernel⟩
  | .int i, h, _ => ⟨.int i, rfl, by
      rw [PyData.shown_int]
      exact Nat.le_trans (itx_len h) (by show 32 ≤ 40; decide), by
      rw [PyData.shown_int]
      exact cln_int h⟩
  | .str x, h, hc => ⟨.str x, rfl, (repr_cln hc).1, (repr_cln hc).2⟩
  | .tup ds, h, hc => by
    obtain ⟨ps, h1, h2, h3⟩ := shown_dats ds h.2 hc
    refine ⟨.tuple ps, by simp only [toP, h1, Option.map_some], ?_, ?_⟩
    · have t := tupleText_len_le (PyData.shownAll ps)
      have l := PyData.shownAll_length ps
      show (tupleText (PyData.shownAll ps)).length ≤ shls ds + 3
      omega
    · show (TL.tl (tupleText (PyData.shownAll ps))).all clnB = true
      unfold tupleText
      refine cln_app (cln_app (by decide +kernel) (join_cln _ h3)) ?_
      split <;> decide +kernel
  | .lst _, h, _ => h.elim
  | .frz _, h, _ => h.elim
  | .obj _ _, h, _ => h.elim
  | .dic _ _, h, _ => h.elim
  | .dit _ _, h, _ => h.elim
  | .fn _, h, _ => h.elim
  | .ty _, h, _ => h.elim
theorem shown_dats : ∀ (l : List D), Dats l → Clns l → ∃ ps, toPs l = some ps ∧ ((PyData.shownAll ps).map (·.length)).sum + 2 * ps.length ≤ shls l ∧ ∀ t ∈ PyData.shownAll ps, (TL.tl t).all clnB = true
  | [], _, _ => ⟨[], rfl, by simp [PyData.shownAll, shls], (fun t h => by simp [PyData.shownAll] at h)⟩
  | x :: l, h, hc => by
    obtain ⟨p, h1, h2, h3⟩ := shown_dat x h.1 hc.1
    obtain ⟨ps, h4, h5, h6⟩ := shown_dats l h.2 hc.2
    refine ⟨p :: ps, by simp only [toPs, h1, h4, Option.bind_some, Option.map_some], ?_, fun t ht => ?_⟩
    · simp only [PyData.shownAll, List.map_cons, List.sum_cons, List.length_cons, shls]
      omega
    · simp only [PyData.shownAll, List.mem_cons] at ht
      rcases ht with rfl | ht
      · exact h3
      · exact h6 t ht
end
/-- its repr, told -/
theorem repr_dat {d : D} (h : Dat d) (hc : Cln d) (hk : deepD d ≤ 40) (hs : shl d ≤ 1000000) {ms : Ms} : Fw.c1 reprD [.d d] ms = .ok (.d (.str (reprO d))) ms := by
  obtain ⟨p, h1, h2, _⟩ := shown_dat d h hc
  obtain ⟨p', r⟩ := rep_dat d h
  have e : p' = p := Option.some.inj (r.to.symm.trans h1)
  subst e
  have hb : (p'.showable && decide (p'.depth ≤ 40) && few p'.shown.length && !p'.hasDict) = true := by
    rw [r.sh, r.nd, decide_eq_true (by have := r.dp; omega : p'.depth ≤ 40), few_ev, decide_eq_true (by omega : p'.shown.length ≤ 1000000)]
    rfl
  have e1 : reprD d = some (.str p'.shown) := by
    unfold reprD
    rw [r.to]
    show (match (p'.showable && decide (p'.depth ≤ 40) && few p'.shown.length && !p'.hasDict) with
      | true => some (D.str p'.shown)
      | false => none) = _
    rw [hb]
  have e2 : reprO d = p'.shown := by unfold reprO; rw [r.to]
  show (match (some d).bind reprD with
    | some d => R.ok (S.d d) ms
    | none => .bad) = _
  rw [show (some d).bind reprD = some (.str p'.shown) from e1, e2]
theorem reprO_dat {d : D} (h : Dat d) (hc : Cln d) : (reprO d).length ≤ shl d ∧ (TL.tl (reprO d)).all clnB = true := by
  obtain ⟨p, h1, h2, h3⟩ := shown_dat d h hc
  have e2 : reprO d = p.shown := by unfold reprO; rw [h1]
  rw [e2]; exact ⟨h2, h3⟩
end Ga
set_option Elab.async false
set_option linter.all false
set_option maxRecDepth 100000
set_option maxHeartbeats 1000000
/-! We4: equality of webs. -/
namespace Ga
open PySem L2 Fw
theorem eq_tups {a b : List D} (ha : Dat (.tup a)) (hb : Dat (.tup b)) (da : deepD (.tup a) ≤ 60) (db : deepD (.tup b) ≤ 60) {ms : Ms} : gEq false (.d (.tup a)) (.d (.tup b)) ms = .ok (.d (.bl (eqD (.tup a) (.tup b)))) ms := by
  rw [gEq_not rfl, eq_rep (rep_dat _ ha) (by omega) (rep_dat _ hb) (by omega)]; rfl
theorem web_eq_ok {ws ws' : List Str} {rs rs' : List RowZ} (h1 : Dat (.tup (strsD ws))) (h2 : Dat (.tup (rowsZ rs))) (h3 : Dat (.tup (strsD ws'))) (h4 : Dat (.tup (rowsZ rs')))
    (d1 : deepD (.tup (strsD ws)) ≤ 60) (d2 : deepD (.tup (rowsZ rs)) ≤ 60) (d3 : deepD (.tup (strsD ws')) ≤ 60) (d4 : deepD (.tup (rowsZ rs')) ≤ 60) :
    f_Web_eq [.d (webX ws rs), .d (webX ws' rs')] [] = .ok (.d (.bl (eqD (.tup (strsD ws)) (.tup (strsD ws')) && eqD (.tup (rowsZ rs)) (.tup (rowsZ rs'))))) [] := by
  have e1 := fun ms => eq_tups (ms := ms) h1 h3 d1 d3
  have e2 := fun ms => eq_tups (ms := ms) h2 h4 d2 d4
  have i1 : cIsi [10, 11] [11] subT [.d (webX ws' rs'), .d (.fn 11)] [] = .ok (.d (.bl true)) [] := rfl
  unfold f_Web_eq
  rw [fn_ev]
  cases hq : eqD (.tup (strsD ws)) (.tup (strsD ws'))
  · rw [hq] at e1
    simp [m_Web_eq, start0, i1, mAttr, List.lookup, fldG, noEx, e1]
  · rw [hq] at e1
    simp [m_Web_eq, start0, i1, mAttr, List.lookup, fldG, noEx, e1, e2]
theorem web_ne_ok {ws : List Str} {rs : List RowZ} {d : D} (h : Dat d) : f_Web_eq [.d (webX ws rs), .d d] [] = .ok (.d (.bl false)) [] := by
  have i1 : cIsi [10, 11] [11] subT [.d d, .d (.fn 11)] [] = .ok (.d (.bl false)) [] := by
    cases d <;> first | rfl | exact h.elim
  unfold f_Web_eq
  rw [fn_ev]
  simp [m_Web_eq, start0, i1]
theorem eq_pair {a b c d : D} (ha : Dat a) (hb : Dat b) (hc : Dat c) (hd : Dat d) : eqD (.tup [a, b]) (.tup [c, d]) = (eqD a c && eqD b d) := by
  obtain ⟨p, r1⟩ := rep_dat a ha
  obtain ⟨q, r2⟩ := rep_dat b hb
  obtain ⟨u, r3⟩ := rep_dat c hc
  obtain ⟨v, r4⟩ := rep_dat d hd
  have e1 : toP (.tup [a, b]) = some (.tuple [p, q]) := by simp [toP, toPs, r1.to, r2.to]
  have e2 : toP (.tup [c, d]) = some (.tuple [u, v]) := by simp [toP, toPs, r3.to, r4.to]
  unfold eqD
  rw [e1, e2, r1.to, r2.to, r3.to, r4.to]
  simp [PyData.eqv, PyData.eqvAll]
end Ga
set_option Elab.async false
set_option linter.all false
set_option maxRecDepth 100000
set_option maxHeartbeats 1000000
/-! V5: bounds of plain data. -/
namespace Ga
open PySem L2 Fw
mutual
/-- plain, its ints to I, its tuples of T items at most, its texts of visible signs -/
def QD (I T : Nat) : D → Prop
  | .non => True
  | .bl _ => True
  | .int i => i.natAbs ≤ I
  | .str x => (TL.tl x).all clnB = true
  | .tup ds => ds.length ≤ T ∧ QDs I T ds
  | _ => False
def QDs (I T : Nat) : List D → Prop
  | [] => True
  | d :: ds => QD I T d ∧ QDs I T ds
end
theorem qds_iff {I T : Nat} : ∀ {ds : List D}, QDs I T ds ↔ ∀ x ∈ ds, QD I T x
  | [] => ⟨fun _ _ h => (nomatch h), fun _ => trivial⟩
  | d :: ds => ⟨fun h x hx => by
      rcases List.mem_cons.mp hx with rfl | hx
      · exact h.1
      · exact qds_iff.mp h.2 x hx, fun h => ⟨h d List.mem_cons_self, qds_iff.mpr fun x hx => h x (List.mem_cons_of_mem _ hx)⟩⟩
mutual
theorem qd_mono {I T I' T' : Nat} (h1 : I ≤ I') (h2 : T ≤ T') : ∀ (d : D), QD I T d → QD I' T' d
  | .non, _ => trivial
  | .bl _, _ => trivial
  | .int _, h => Nat.le_trans h h1
  | .str _, h => h
  | .tup ds, h => ⟨Nat.le_trans h.1 h2, qds_mono h1 h2 ds h.2⟩
  | .lst _, h => h.elim
  | .frz _, h => h.elim
  | .obj _ _, h => h.elim
  | .dic _ _, h => h.elim
  | .dit _ _, h => h.elim
  | .fn _, h => h.elim
  | .ty _, h => h.elim
theorem qds_mono {I T I' T' : Nat} (h1 : I ≤ I') (h2 : T ≤ T') : ∀ (l : List D), QDs I T l → QDs I' T' l
  | [], _ => trivial
  | x :: l, h => ⟨qd_mono h1 h2 x h.1, qds_mono h1 h2 l h.2⟩
end
mutual
theorem qd_dat {I T : Nat} (hI : I < 10 ^ 31) (hT : T ≤ 1000) : ∀ (d : D), QD I T d → shl d ≤ 200000 → Dat d ∧ Cln d
  | .non, _, _ => ⟨trivial, trivial⟩
  | .bl _, _, _ => ⟨trivial, trivial⟩
  | .int i, h, _ => ⟨Nat.lt_of_le_of_lt h hI, trivial⟩
  | .str x, h, hs => ⟨⟨fun c hc => by
      have := cln_lt (List.all_eq_true.mp h c hc); omega, by
      have : 2 * x.length + 2 ≤ 200000 := hs
      omega⟩, h⟩
  | .tup ds, h, hs => by
    have hs' : shls ds + 3 ≤ 200000 := hs
    obtain ⟨h1, h2⟩ := qds_dat hI hT ds h.2 (by omega)
    exact ⟨⟨Nat.le_trans h.1 hT, h1⟩, h2⟩
  | .lst _, h, _ => h.elim
  | .frz _, h, _ => h.elim
  | .obj _ _, h, _ => h.elim
  | .dic _ _, h, _ => h.elim
  | .dit _ _, h, _ => h.elim
  | .fn _, h, _ => h.elim
  | .ty _, h, _ => h.elim
theorem qds_dat {I T : Nat} (hI : I < 10 ^ 31) (hT : T ≤ 1000) : ∀ (l : List D), QDs I T l → shls l ≤ 200000 → Dats l ∧ Clns l
  | [], _, _ => ⟨trivial, trivial⟩
  | x :: l, h, hs => by
    have hs' : shl x + 2 + shls l ≤ 200000 := hs
    obtain ⟨h1, h2⟩ := qd_dat hI hT x h.1 (by omega)
    obtain ⟨h3, h4⟩ := qds_dat hI hT l h.2 (by omega)
    exact ⟨⟨h1, h3⟩, ⟨h2, h4⟩⟩
end
theorem shls_app : ∀ (a b : List D), shls (a ++ b) = shls a + shls b
  | [], b => by simp [shls]
  | x :: a, b => by rw [List.cons_append, shls, shls, shls_app a b]; omega
theorem shls_mem : ∀ {l : List D} {x : D}, x ∈ l → shl x + 2 ≤ shls l
  | d :: l, x, h => by
    unfold shls
    rcases List.mem_cons.mp h with rfl | h
    · omega
    · have := shls_mem h; omega
theorem shls_le {n : Nat} : ∀ {l : List D}, (∀ x ∈ l, shl x ≤ n) → shls l ≤ l.length * (n + 2)
  | [], _ => Nat.zero_le _
  | x :: l, h => by
    have h1 := h x List.mem_cons_self
    have h2 := shls_le fun y hy => h y (List.mem_cons_of_mem _ hy)
    rw [shls, List.length_cons, Nat.succ_mul]; omega
/-- the pair -/
abbrev prD (ps rs : List D) : D := .tup [.tup ps, .tup rs]
/-- what is asked of a changed value -/
structure CV (I T n X : Nat) (v : D) : Prop where
  q : QD I T v
  deep : deepD v ≤ n
  sh : shl v ≤ X
theorem cv_tup {I T n X : Nat} {l : List D} (h : ∀ x ∈ l, QD I T x ∧ deepD x ≤ n) (hT : l.length ≤ T) (hX : shls l + 3 ≤ X) : CV I T (n + 1) X (.tup l) :=
  ⟨⟨hT, qds_iff.mpr fun x hx => (h x hx).1⟩, by
    show deepDs l + 1 ≤ n + 1
    have := deep_le fun x hx => (h x hx).2
    omega, hX⟩
theorem cv_mono {I T n X I' T' n' X' : Nat} {v : D} (h : CV I T n X v) (h1 : I ≤ I') (h2 : T ≤ T') (h3 : n ≤ n') (h4 : X ≤ X') : CV I' T' n' X' v :=
  ⟨qd_mono h1 h2 v h.q, Nat.le_trans h.deep h3, Nat.le_trans h.sh h4⟩
theorem cv_pr {I T n X : Nat} {a b : D} (ha : QD I T a ∧ deepD a ≤ n) (hb : QD I T b ∧ deepD b ≤ n) (hT : 2 ≤ T) (hX : shl a + shl b + 7 ≤ X) : CV I T (n + 1) X (.tup [a, b]) :=
  cv_tup (fun x hx => by
    simp only [List.mem_cons, List.not_mem_nil, or_false] at hx
    rcases hx with rfl | rfl
    · exact ha
    · exact hb) hT (by simp only [shls]; omega)
theorem name_fit {z : Str} (h : nameL (TL.tl z) = true) : z.length ≤ 6 ∧ (TL.tl z).all clnB = true := by
  unfold nameL at h
  simp only [Bool.and_eq_true, decide_eq_true_eq] at h
  obtain ⟨⟨⟨h1, h2⟩, h3⟩, h4⟩ := h
  refine ⟨h2, ?_⟩
  rw [List.all_eq_true] at h4 ⊢
  intro c hc
  have := h4 c hc
  unfold isAln isLow isDig at this
  simp only [Bool.or_eq_true, Bool.and_eq_true, decide_eq_true_eq] at this
  unfold clnB
  simp only [Bool.or_eq_true, Bool.and_eq_true, decide_eq_true_eq]
  omega
theorem good_qd {many bonds limit : Nat} {ws ts : List Str} {rs : List Row} (g : GoodW many bonds limit ws ts rs) (hm : many ≤ 20) (hb : bonds ≤ 20) (hl : limit ≤ 1000) : CV (10 ^ 30) 20 3 3500 (prD (strsD ws) (rowsD rs)) := by
  have hw : ∀ z ∈ ws, z.length ≤ 6 ∧ (TL.tl z).all clnB = true := fun z hz => name_fit (g.posts.nm z hz)
  have ht : ∀ r ∈ rs, r.t.length ≤ 6 ∧ (TL.tl r.t).all clnB = true := fun r hr => by
    refine name_fit (g.titles.nm _ ?_)
    have : r.t ∈ rs.map Row.t := List.mem_map_of_mem hr
    rw [g.tt] at this
    exact List.mem_of_mem_take this
  have lw := g.posts.len
  have lr := g.len
  have e1 : ∀ x ∈ strsD ws, (QD (10 ^ 30) 20 x ∧ deepD x ≤ 0) ∧ shl x ≤ 14 := fun x hx => by
    obtain ⟨z, hz, rfl⟩ := List.mem_map.mp hx
    obtain ⟨a, b⟩ := hw z hz
    exact ⟨⟨b, Nat.le_refl _⟩, by show 2 * z.length + 2 ≤ 14; omega⟩
  have e2 : ∀ x ∈ rowsD rs, (QD (10 ^ 30) 20 x ∧ deepD x ≤ 1) ∧ shl x ≤ 140 := fun x hx => by
    obtain ⟨r, hr, rfl⟩ := List.mem_map.mp hx
    obtain ⟨a, b⟩ := ht r hr
    obtain ⟨p1, p2, _, p3, p4⟩ := g.ends r hr
    obtain ⟨a1, b1⟩ := hw _ p1
    obtain ⟨a2, b2⟩ := hw _ p2
    have c := cv_tup (I := 10 ^ 30) (T := 20) (n := 0) (X := 140) (l := [.str r.t, .str r.p, .str r.q, .int (r.lo : Nat), .int (r.hi : Nat)]) (fun x hx => by
      simp only [List.mem_cons, List.not_mem_nil, or_false] at hx
      rcases hx with rfl | rfl | rfl | rfl | rfl
      · exact ⟨b, Nat.le_refl _⟩
      · exact ⟨b1, Nat.le_refl _⟩
      · exact ⟨b2, Nat.le_refl _⟩
      · exact ⟨show Int.natAbs _ ≤ _ by omega, Nat.le_refl _⟩
      · exact ⟨show Int.natAbs _ ≤ _ by omega, Nat.le_refl _⟩) (by simp) (by simp only [shls, shl]; omega)
    exact ⟨⟨c.q, c.deep⟩, c.sh⟩
  have c1 := cv_tup (I := 10 ^ 30) (T := 20) (n := 0) (X := 20 * 16 + 3) (l := strsD ws) (fun x hx => (e1 x hx).1) (by rw [strs_len]; omega) (by
    have := shls_le fun x hx => (e1 x hx).2
    rw [strs_len] at this
    have : ws.length * (14 + 2) ≤ 20 * 16 := by omega
    omega)
  have c2 := cv_tup (I := 10 ^ 30) (T := 20) (n := 1) (X := 20 * 142 + 3) (l := rowsD rs) (fun x hx => (e2 x hx).1) (by rw [rows_len]; omega) (by
    have := shls_le fun x hx => (e2 x hx).2
    rw [rows_len] at this
    have : rs.length * (140 + 2) ≤ 20 * 142 := by omega
    omega)
  exact cv_pr (n := 2) ⟨c1.q, Nat.le_trans c1.deep (by decide)⟩ ⟨c2.q, c2.deep⟩ (by decide) (by have := c1.sh; have := c2.sh; omega)
end Ga
set_option Elab.async false
set_option linter.all false
set_option maxRecDepth 100000
set_option maxHeartbeats 1000000
namespace Ga
open PySem L2 Fw
theorem sg_mem {z : Str} {x : D} (h : x ∈ signs z) : ∃ c, c ∈ TL.tl z ∧ x = .str ⟨#[c]⟩ := by
  unfold signs at h
  obtain ⟨c, hc, rfl⟩ := List.mem_map.mp h
  exact ⟨c, hc, rfl⟩
def sgD (x : D) : Bool := match x with
  | .str ⟨⟨[c]⟩⟩ => isDig c
  | _ => false
theorem signs_all (l : List Nat) : (signs ⟨⟨l⟩⟩).map (fun x => D.bl (sgD x)) = l.map (fun c => D.bl (isDig c)) := by
  unfold signs
  rw [List.map_map]; rfl
theorem str0 (c : Nat) : ((⟨⟨[c]⟩⟩ : Str) == Str.ofString "0") = decide (c = 48) := by
  show ((⟨⟨[c]⟩⟩ : Str) == ⟨⟨[48]⟩⟩) = _
  by_cases h : c = 48
  · subst h; decide
  · rw [decide_eq_false h]
    refine beq_eq_false_iff_ne.mpr fun z => h ?_
    injection z with z; injection z with z; injection z
theorem str0' (l : List Nat) : ((⟨⟨48 :: l⟩⟩ : Str) != Str.ofString "0") = decide (l ≠ []) := by
  show ((⟨⟨48 :: l⟩⟩ : Str) != ⟨⟨[48]⟩⟩) = _
  cases l with
  | nil => decide
  | cons a l =>
    rw [decide_eq_true (by simp)]
    refine bne_iff_ne.mpr fun z => ?_
    injection z with z; injection z with z; injection z with _ z; cases z
theorem len_mk (l : List Nat) : Str.length ⟨⟨l⟩⟩ = l.length := rfl
theorem int_digits {l : List Nat} (h : NumText.AllDigits l) (h1 : l ≠ []) (h2 : l.length ≤ 9) {ms : Ms} : cOr (c1 intD) (c1 intS) [.d (.str ⟨⟨l⟩⟩)] ms = .ok (.d (.int (NumText.digitsVal l))) ms := by
  have e : PySem.intText? ⟨⟨l⟩⟩ = some ((NumText.digitsVal l : Nat) : Int) := PySem.intText_digits (x := ⟨⟨l⟩⟩) h h1 (by rw [len_mk]; omega)
  unfold cOr
  rw [show c1 intD [.d (.str ⟨⟨l⟩⟩)] ms = .bad from rfl]
  show c1 intS [.d (.str ⟨⟨l⟩⟩)] ms = _
  unfold c1 intS
  simp [len_mk, e, show l.length ≤ 640 by omega]
def digL (l : List Nat) : List D := l.map fun c => .bl (isDig c)
theorem all_digL (l : List Nat) : allD (digL l) = some (.bl (l.all isDig)) := allD_f
theorem comp_dig {l : List Nat} (hl : l.length ≤ 1000000) : mLc false (iSeq (mVar 0)) (gSet 1) ((fun _ ms => .ok true ms)) (mOp (gIn false) (mVar 1) (mC (.d (.str "0123456789")))) [1] [some (.d (.str ⟨⟨l⟩⟩)), none] [] = .ok (.d (.lst (digL l))) [] := by
  unfold digL
  rw [← signs_all]
  refine lc_all (fun x => .bl (sgD x)) (itS_ rfl) (fun x hx => ?_) (by simp [signs]; exact hl)
  obtain ⟨c, _, rfl⟩ := sg_mem hx
  exact ⟨_, rfl, rfl, by simp [wipeE, inDig, sgD]⟩
theorem number_of_ok {z : Str} (hz : z.length ≤ 1000000) : f_number_of [.d (.str z)] [] = .ok (.d (numO z)) [] := by
  obtain ⟨⟨l⟩⟩ := z
  have hl : l.length ≤ 1000000 := hz
  unfold f_number_of
  rw [fn_ev]
  cases l with
  | nil => simp [m_number_of, start0, len_str hz, len_mk, numO, numB]
  | cons c l =>
    by_cases h9 : l.length + 1 ≤ 9
    · have h9i : (l.length : Int) + 1 ≤ 9 := by omega
      cases ha : (c :: l).all isDig with
      | true =>
        have hd := allDig_iff.mp ha
        by_cases h0 : c = 48
        · subst h0
          by_cases hn : l = []
          · subst hn
            simp [m_number_of, start0, len_str hz, len_mk, comp_dig hl, all_digL, ha, h9, gIxs hz, atI, ixN, str0, str0', int_digits hd, numO, numB]
          · have : 1 < l.length + 1 := by have := List.length_pos_iff.mpr hn; omega
            simp [m_number_of, start0, len_str hz, len_mk, comp_dig hl, all_digL, ha, h9, h9i, gIxs hz, atI, ixN, str0, str0', hn, numO, numB]
        · simp [m_number_of, start0, len_str hz, len_mk, comp_dig hl, all_digL, ha, h9, h9i, gIxs hz, atI, ixN, str0, str0', h0, int_digits hd, numO, numB]
      | false =>
        simp [m_number_of, start0, len_str hz, len_mk, comp_dig hl, all_digL, ha, h9, h9i, numO, numB]
    · have h9i : ¬ ((l.length : Int) + 1 ≤ 9) := by omega
      simp [m_number_of, start0, len_str hz, len_mk, h9, h9i, numO, numB]
end Ga
set_option Elab.async false
set_option linter.all false
set_option maxRecDepth 100000
set_option maxHeartbeats 1000000
namespace Ga
open PySem L2 Fw
theorem is_whole_int {a : Int} : f_is_whole [.d (.int a)] [] = .ok (.d (.bl true)) [] := rfl
theorem sinit_ok {a b : Int} (h : 0 ≤ a) (h2 : a ≤ b) : f_Span_init [.loc 0, .d (.int a), .d (.int b)] [.ins 10 []] = .ok (.d .non) [.ins 10 [("low", .int a), ("high", .int b)]] := by
  unfold f_Span_init
  rw [fn_ev]
  simp [m_Span_init, start0, is_whole_int, pick, h, h2]
  rfl
theorem sinit_bad {a b : Int} (h : ¬ (0 ≤ a ∧ a ≤ b)) : f_Span_init [.loc 0, .d (.int a), .d (.int b)] [.ins 10 []] = .ex 1 [.int b, .int a] [.ins 10 []] := by
  unfold f_Span_init
  rw [fn_ev]
  by_cases h1 : 0 ≤ a
  · have h2 : ¬ a ≤ b := fun z => h ⟨h1, z⟩
    simp [m_Span_init, start0, is_whole_int, pick, h1, h2, sRaise]
  · simp [m_Span_init, start0, is_whole_int, pick, h1, sRaise]
abbrev span (a b : Int) : D := .obj 10 [.int a, .int b]
theorem mk_span {a b : Int} (h : 0 ≤ a) (h2 : a ≤ b) {ms : Ms} : mkS 10 (fld 10) (bndS f_Span_init [0, 1, 2] []) [.d (.int a), .d (.int b)] ms = .ok (.d (span a b)) ms :=
  mk_ok (xs := [.int a, .int b]) rfl (sinit_ok h h2) rfl
theorem mk_span_bad {a b : Int} (h : ¬ (0 ≤ a ∧ a ≤ b)) {ms : Ms} : mkS 10 (fld 10) (bndS f_Span_init [0, 1, 2] []) [.d (.int a), .d (.int b)] ms = .ex 1 [.int b, .int a] ms :=
  mk_ex (xs := [.int a, .int b]) rfl (sinit_bad h)
theorem least_ok {a b : Int} : f_Span_least [.d (span a b)] [] = .ok (.d (.int a)) [] := rfl
theorem greatest_ok {a b : Int} : f_Span_greatest [.d (span a b)] [] = .ok (.d (.int b)) [] := rfl
/-- the text of a span -/
def spanT (a b : Int) : Str := if a = b then itx a else itx a ++ Str.ofString ".." ++ itx b
theorem str_ok {a b : Int} (ha : a.natAbs < 10 ^ 31) (hb : b.natAbs < 10 ^ 31) : f_Span_str [.d (span a b)] [] = .ok (.d (.str (spanT a b))) [] := by
  have l1 := itx_len ha
  have l2 := itx_len hb
  unfold f_Span_str span
  rw [fn_ev]
  by_cases h : a = b
  · subst h
    simp [m_Span_str, start0, mAttr, List.lookup, fldG, noEx, str_int ha, spanT]
  · have e1 : (Str.ofString "..").length = 2 := rfl
    have l3 : (itx a ++ Str.ofString "..").length ≤ 1000000 := by rw [PySem.Str.length_append, e1]; omega
    have l4 : (itx a ++ Str.ofString ".." ++ itx b).length ≤ 1000000 := by rw [PySem.Str.length_append, PySem.Str.length_append, e1]; omega
    simp [m_Span_str, start0, mAttr, List.lookup, fldG, noEx, spanT, h, fmt_int ha, fmt_int hb, fmt_str (a := Str.ofString "..") (by rw [e1]; decide), jsK_str (acc := Str.empty) (y := itx a) (by rw [empty_app]; omega), jsK_str l3, jsK_str l4]
end Ga
set_option Elab.async false
set_option linter.all false
set_option maxRecDepth 100000
set_option maxHeartbeats 1000000
namespace Ga
open PySem L2 Fw
abbrev val (l : List Nat) : Int := (NumText.digitsVal l : Nat)
def readO (l : List Nat) : Option (Int × Int) := match TL.par dots [] l with
  | none => if numB l = true then some (val l, val l) else none
  | some (a, b) => if numB a = true ∧ numB b = true ∧ val a < val b then some (val a, val b) else none
theorem mkS_tl (l : List Nat) : TL.tl ⟨⟨l⟩⟩ = l := rfl
theorem numO_t {l : List Nat} (h : numB l = true) : numO ⟨⟨l⟩⟩ = .int (val l) := by unfold numO; rw [mkS_tl, if_pos h]
theorem numO_f {l : List Nat} (h : numB l = false) : numO ⟨⟨l⟩⟩ = .non := by unfold numO; rw [mkS_tl, if_neg (by rw [h]; decide)]
theorem part_some {l a b : List Nat} (h : TL.par dots [] l = some (a, b)) : Txt.partition ⟨⟨l⟩⟩ (Str.ofString "..") = (⟨⟨a⟩⟩, Str.ofString "..", ⟨⟨b⟩⟩) := by
  have := TL.partition_par ⟨⟨l⟩⟩ (Str.ofString "..") (by rw [tl_dots]; decide)
  rw [this, tl_dots]
  show (match TL.par dots [] l with | some (a, b) => _ | none => _) = _
  rw [h]
theorem part_none {l : List Nat} (h : TL.par dots [] l = none) : Txt.partition ⟨⟨l⟩⟩ (Str.ofString "..") = (⟨⟨l⟩⟩, Str.empty, Str.empty) := by
  have := TL.partition_par ⟨⟨l⟩⟩ (Str.ofString "..") (by rw [tl_dots]; decide)
  rw [this, tl_dots]
  show (match TL.par dots [] l with | some (a, b) => _ | none => _) = _
  rw [h]
theorem part_ev {z : Str} (hz : z.length ≤ 1000000) {ms : Ms} : gPart (.d (.str z)) [.d (.str "..")] ms = .ok (.d (.tup [.str (Txt.partition z "..").1, .str (Txt.partition z "..").2.1, .str (Txt.partition z "..").2.2])) ms := by
  unfold gPart
  have : (!((Str.ofString "..").length == 0) && few z.length) = true := by rw [few_ev, decide_eq_true hz]; rfl
  dsimp only
  rw [this]
theorem par_len {l a b : List Nat} (h : TL.par dots [] l = some (a, b)) : a.length ≤ l.length ∧ b.length ≤ l.length := by
  have := congrArg List.length (par_sound l [] h)
  simp [dots] at this
  omega
theorem read_ok {l : List Nat} (hz : l.length ≤ 1000000) : f_Span_read [.d (.fn 10), .d (.str ⟨⟨l⟩⟩)] [] = match readO l with
    | some (a, b) => .ok (.d (span a b)) []
    | none => .ex 3 [.int 0] [] := by
  unfold f_Span_read
  rw [fn_ev]
  have hz' : Str.length ⟨⟨l⟩⟩ ≤ 1000000 := hz
  unfold readO
  cases hp : TL.par dots [] l with
  | none =>
    have e1 : (Str.empty == Str.ofString "..") = false := by decide +kernel
    cases hn : numB l with
    | true =>
      have this : (0 : Int) ≤ val l := Int.natCast_nonneg _
      simp [m_Span_read, start0, mBM, tyS, part_ev hz', part_none hp, gUn, gsCons, gsNil, number_of_ok hz', numO_t hn, pick, e1, mCallV, mk_span (this) (Int.le_refl _)]
    | false =>
      simp [m_Span_read, start0, mBM, tyS, part_ev hz', part_none hp, gUn, gsCons, gsNil, number_of_ok hz', numO_f hn, pick, e1, sRaise]
  | some p =>
    obtain ⟨a, b⟩ := p
    obtain ⟨la, lb⟩ := par_len hp
    have ha' : Str.length ⟨⟨a⟩⟩ ≤ 1000000 := Nat.le_trans la hz
    have hb' : Str.length ⟨⟨b⟩⟩ ≤ 1000000 := Nat.le_trans lb hz
    have va : (0 : Int) ≤ val a := Int.natCast_nonneg _
    cases hna : numB a with
    | false => simp [m_Span_read, start0, mBM, tyS, part_ev hz', part_some hp, gUn, gsCons, gsNil, number_of_ok ha', number_of_ok hb', numO_f hna, pick, sRaise, hna]
    | true =>
      cases hnb : numB b with
      | false => simp [m_Span_read, start0, mBM, tyS, part_ev hz', part_some hp, gUn, gsCons, gsNil, number_of_ok ha', number_of_ok hb', numO_t hna, numO_f hnb, pick, sRaise, hna, hnb]
      | true =>
        by_cases hlt : val a < val b
        · have h1 : ¬ val b < val a := by omega
          have h2 : ¬ val a = val b := by omega
          simp [m_Span_read, start0, mBM, tyS, part_ev hz', part_some hp, gUn, gsCons, gsNil, number_of_ok ha', number_of_ok hb', numO_t hna, numO_t hnb, pick, sRaise, hna, hnb, hlt, h1, h2, mCallV, mk_span va (show val a ≤ val b by omega)]
        · by_cases h1 : val b < val a
          · simp [m_Span_read, start0, mBM, tyS, part_ev hz', part_some hp, gUn, gsCons, gsNil, number_of_ok ha', number_of_ok hb', numO_t hna, numO_t hnb, pick, sRaise, hna, hnb, hlt, h1]
          · have h2 : val a = val b := by omega
            simp [m_Span_read, start0, mBM, tyS, part_ev hz', part_some hp, gUn, gsCons, gsNil, number_of_ok ha', number_of_ok hb', numO_t hna, numO_t hnb, pick, sRaise, hna, hnb, hlt, h1, h2]
theorem val_sm {l : List Nat} (h : numB l = true) : (val l).natAbs < 10 ^ 31 := by
  have := num_lt h
  show (NumText.digitsVal l : Int).natAbs < _
  omega
theorem read_sm {l : List Nat} {a b : Int} (h : readO l = some (a, b)) : a.natAbs < 10 ^ 31 ∧ b.natAbs < 10 ^ 31 ∧ 0 ≤ a ∧ a ≤ b := by
  unfold readO at h
  split at h
  · split at h
    · rename_i hn; cases h; exact ⟨val_sm hn, val_sm hn, Int.natCast_nonneg _, Int.le_refl _⟩
    · cases h
  · split at h
    · rename_i hn; cases h; exact ⟨val_sm hn.1, val_sm hn.2.1, Int.natCast_nonneg _, by omega⟩
    · cases h
/-- the text back -/
theorem read_text {l : List Nat} {a b : Int} (h : readO l = some (a, b)) : spanT a b = ⟨⟨l⟩⟩ := by
  unfold readO at h
  split at h
  · split at h
    · rename_i hn
      cases h
      unfold spanT
      rw [if_pos rfl]
      exact num_text (z := ⟨⟨l⟩⟩) hn
    · cases h
  · rename_i x y hp
    split at h
    · rename_i hn
      cases h
      have e1 : itx (val x) = ⟨⟨x⟩⟩ := num_text (z := ⟨⟨x⟩⟩) hn.1
      have e2 : itx (val y) = ⟨⟨y⟩⟩ := num_text (z := ⟨⟨y⟩⟩) hn.2.1
      unfold spanT
      rw [if_neg (by omega), e1, e2]
      refine str_ext ?_
      have := par_sound l [] hp
      rw [List.nil_append] at this
      rw [TL.tl_append, TL.tl_append, tl_dots, List.append_assoc]
      exact this.symm
    · cases h
end Ga
set_option Elab.async false
set_option linter.all false
set_option maxRecDepth 100000
set_option maxHeartbeats 1000000
/-! Y1: numbers and spans read back. -/
namespace Ga
open PySem L2 Fw
theorem numB_num {n : Nat} (h : n < 10 ^ 9) : numB (TL.numL n) = true := by
  have h1 := TL.numL_len (n := n) (k := 9) (by decide) h
  have h2 : 0 < (TL.numL n).length := List.length_pos_iff.mpr (TL.numL_ne n)
  have h3 : (TL.numL n).all isDig = true := allDig_iff.mpr (TL.numL_digits n)
  have h4 : ¬ ((TL.numL n)[0]? = some 48 ∧ 1 < (TL.numL n).length) := fun ⟨z1, z2⟩ => by
    cases e : TL.numL n with
    | nil => rw [e] at h2; simp at h2
    | cons c r =>
      rw [e] at z1 z2
      have hc : c = 48 := by simpa using z1
      subst hc
      have v := TL.numL_val n
      rw [e] at v
      have v2 : NumText.digitsVal r = n := v
      have ad : NumText.AllDigits r := fun x hx => TL.numL_digits n x (by rw [e]; exact List.mem_cons_of_mem _ hx)
      have lt := val_lt r ad
      rw [v2] at lt
      have rp : 0 < r.length := by simp at z2; exact z2
      have := TL.numL_len (n := n) (k := r.length) rp lt
      rw [e] at this
      simp at this
      omega
  unfold numB
  rw [decide_eq_true h2, decide_eq_true h1, h3]
  simp only [Bool.true_and, Bool.not_eq_true', Bool.and_eq_false_iff, decide_eq_false_iff_not]
  by_cases z : (TL.numL n)[0]? = some 48
  · exact .inr fun y => h4 ⟨z, y⟩
  · exact .inl z
theorem no46 (n : Nat) : 46 ∉ TL.numL n := TL.numL_free (.inl (by decide))
theorem tl_itx (n : Nat) : TL.tl (itx (n : Int)) = TL.numL n := tl_str n
theorem read_back {a b : Nat} (h : a ≤ b) (hb : b < 10 ^ 9) : readO (TL.tl (spanT (a : Int) (b : Int))) = some ((a : Int), (b : Int)) := by
  have na := numB_num (n := a) (by omega)
  have nb := numB_num hb
  have va : val (TL.numL a) = (a : Int) := by unfold val; rw [TL.numL_val]
  have vb : val (TL.numL b) = (b : Int) := by unfold val; rw [TL.numL_val]
  unfold spanT readO
  by_cases e : a = b
  · subst e
    rw [if_pos rfl, tl_itx]
    have p : TL.par dots [] (TL.numL a) = none := TL.par_none1 (s := 46) (S := [46]) (no46 a)
    rw [p]
    dsimp only
    rw [if_pos na, va]
  · rw [if_neg (by omega), TL.tl_append, TL.tl_append, tl_dots, tl_itx, tl_itx, List.append_assoc]
    have p : TL.par dots [] (TL.numL a ++ (dots ++ TL.numL b)) = some (TL.numL a, TL.numL b) := TL.par_part1 (s := 46) (S := [46]) (acc := []) (no46 a)
    rw [p]
    dsimp only
    rw [va, vb, if_pos ⟨na, nb, by omega⟩]
theorem spanT_sm {a b : Nat} (ha : a ≤ 1000) (hb : b ≤ 1000) : (spanT (a : Int) (b : Int)).length ≤ 10 ∧ ∀ c ∈ TL.tl (spanT (a : Int) (b : Int)), c = 46 ∨ (48 ≤ c ∧ c ≤ 57) := by
  have la : (itx (a : Int)).length ≤ 4 := by rw [str_len, tl_itx]; exact TL.numL_len (by decide) (by omega)
  have lb : (itx (b : Int)).length ≤ 4 := by rw [str_len, tl_itx]; exact TL.numL_len (by decide) (by omega)
  have da : ∀ c ∈ TL.tl (itx (a : Int)), 48 ≤ c ∧ c ≤ 57 := fun c hc => by rw [tl_itx] at hc; exact TL.numL_digits a c hc
  have db : ∀ c ∈ TL.tl (itx (b : Int)), 48 ≤ c ∧ c ≤ 57 := fun c hc => by rw [tl_itx] at hc; exact TL.numL_digits b c hc
  have ld : (Str.ofString "..").length = 2 := rfl
  unfold spanT
  split
  · exact ⟨by omega, fun c hc => .inr (da c hc)⟩
  · refine ⟨by rw [PySem.Str.length_append, PySem.Str.length_append]; omega, fun c hc => ?_⟩
    rw [TL.tl_append, TL.tl_append, tl_dots] at hc
    simp only [List.mem_append] at hc
    rcases hc with (hc | hc) | hc
    · exact .inr (da c hc)
    · exact .inl (by simpa [dots] using hc)
    · exact .inr (db c hc)
end Ga
set_option Elab.async false
set_option linter.all false
set_option maxRecDepth 100000
set_option maxHeartbeats 1000000
/-! Y2: the lines of a web's text. -/
namespace Ga
open PySem L2 Fw
theorem ofStrs_strs : ∀ l : List Str, ofStrs (strsD l) = some l
  | [] => rfl
  | x :: l => by
    show (ofStrs (strsD l)).map (x :: ·) = _
    rw [ofStrs_strs l]; rfl
def joinN (a : Str) (l : List Str) : Nat := (l.map (·.length)).sum + l.length * a.length
theorem join_strs {a : Str} {l : List Str} {s : S} {ms : Ms} (hs : view s ms = some (.lst (strsD l)) ∨ view s ms = some (.tup (strsD l))) (h : joinN a l ≤ 1000000) : gJoin (.d (.str a)) [s] ms = .ok (.d (.str (Txt.join a l))) ms := by
  have f : few ((l.map (·.length)).sum + l.length * a.length) = true := by rw [few_ev]; exact decide_eq_true h
  unfold gJoin
  dsimp only
  rcases hs with hs | hs
  · rw [hs]
    dsimp only
    rw [ofStrs_strs]
    dsimp only
    rw [f]
  · rw [hs]
    dsimp only
    rw [ofStrs_strs]
    dsimp only
    rw [f]
theorem sum_lens {n : Nat} : ∀ {l : List Str}, (∀ x ∈ l, x.length ≤ n) → (l.map (·.length)).sum ≤ l.length * n
  | [], _ => by simp
  | x :: l, h => by
    have h1 := sum_lens fun y hy => h y (List.mem_cons_of_mem _ hy)
    have h2 := h x List.mem_cons_self
    rw [List.map_cons, List.sum_cons, List.length_cons, Nat.succ_mul]; omega
theorem joinN_le {a : Str} {l : List Str} {n : Nat} (h : ∀ x ∈ l, x.length ≤ n) : joinN a l ≤ l.length * (n + a.length) := by
  have := sum_lens h
  unfold joinN
  rw [Nat.mul_add]; omega
theorem join_len {a : Str} : ∀ l : List Str, (Txt.join a l).length ≤ joinN a l := fun l => by
  rw [TL.join_eq]
  have go : ∀ l : List Str, (Str.join a l).length ≤ joinN a l := fun l => by
    induction l with
    | nil => exact Nat.zero_le _
    | cons x l ih =>
      cases l with
      | nil => show x.length ≤ _; simp [joinN]
      | cons y r =>
        show (x ++ a ++ Str.join a (y :: r)).length ≤ _
        rw [PySem.Str.length_append, PySem.Str.length_append]
        have e : joinN a (x :: y :: r) = x.length + a.length + joinN a (y :: r) := by
          unfold joinN
          simp only [List.map_cons, List.sum_cons, List.length_cons, Nat.succ_mul]
          omega
        omega
  exact go l
def linesP (ws : List Str) : List Str := Str.ofString "posts" :: ws
def linesR (r : Row) : List Str := [Str.ofString "tie", r.t, r.p, r.q, spanT (r.lo : Nat) (r.hi : Nat)]
def sp1 : Str := Str.ofString " "
def nl1 : Str := Str.ofString "\n"
def lineP (ws : List Str) : Str := Txt.join sp1 (linesP ws)
def lineR (r : Row) : Str := Txt.join sp1 (linesR r)
def linesW (ws : List Str) (rs : List Row) : List Str := lineP ws :: rs.map lineR
def webT (ws : List Str) (rs : List Row) : Str := Txt.join nl1 (linesW ws rs)
theorem tl_sp : TL.tl sp1 = [32] := by decide +kernel
theorem tl_nl : TL.tl nl1 = [10] := by decide +kernel
/-- what the law's webs are -/
structure Fine (ws : List Str) (rs : List Row) : Prop where
  ne : ws ≠ []
  wl : ws.length ≤ 20
  wn : ∀ z ∈ ws, nameL (TL.tl z) = true
  wd : ws.Nodup
  rl : rs.length ≤ 20
  tn : ∀ r ∈ rs, nameL (TL.tl r.t) = true
  td : (rs.map Row.t).Nodup
  en : ∀ r ∈ rs, r.p ∈ ws ∧ r.q ∈ ws ∧ r.p ≠ r.q ∧ r.lo ≤ r.hi ∧ r.hi ≤ 1000
theorem good_fine {many bonds limit : Nat} {ws ts : List Str} {rs : List Row} (g : GoodW many bonds limit ws ts rs) (h1 : 1 ≤ many) (hm : many ≤ 20) (hb : bonds ≤ 20) (hl : limit ≤ 1000) : Fine ws rs where
  ne := fun e => by have := g.posts.len; rw [e] at this; simp at this; omega
  wl := by have := g.posts.len; omega
  wn := g.posts.nm
  wd := g.posts.nd
  rl := by have := g.len; omega
  tn := fun r hr => by
    refine g.titles.nm _ ?_
    have : r.t ∈ rs.map Row.t := List.mem_map_of_mem hr
    rw [g.tt] at this
    exact List.mem_of_mem_take this
  td := by rw [g.tt]; exact g.titles.nd.sublist (List.take_sublist _ _)
  en := fun r hr => by
    obtain ⟨a, b, c, d, e⟩ := g.ends r hr
    exact ⟨a, b, c, d, by omega⟩
theorem name_signs {z : Str} (h : nameL (TL.tl z) = true) : ∀ c ∈ TL.tl z, 48 ≤ c ∧ c ≤ 122 := fun c hc => by
  unfold nameL at h
  simp only [Bool.and_eq_true] at h
  have := List.all_eq_true.mp h.2 c hc
  unfold isAln isLow isDig at this
  simp only [Bool.or_eq_true, Bool.and_eq_true, decide_eq_true_eq] at this
  omega
theorem fine_row {ws : List Str} {rs : List Row} (f : Fine ws rs) {r : Row} (hr : r ∈ rs) : ∀ x ∈ linesR r, x.length ≤ 10 ∧ ∀ c ∈ TL.tl x, 46 ≤ c ∧ c ≤ 122 := fun x hx => by
  obtain ⟨e1, e2, _, e3, e4⟩ := f.en r hr
  have nm : ∀ {z : Str}, nameL (TL.tl z) = true → z.length ≤ 10 ∧ ∀ c ∈ TL.tl z, 46 ≤ c ∧ c ≤ 122 := fun {z} h => ⟨by have := (name_fit h).1; omega, fun c hc => by have := name_signs h c hc; omega⟩
  unfold linesR at hx
  simp only [List.mem_cons, List.not_mem_nil, or_false] at hx
  rcases hx with rfl | rfl | rfl | rfl | rfl
  · exact ⟨by decide +kernel, by decide +kernel⟩
  · exact nm (f.tn r hr)
  · exact nm (f.wn _ e1)
  · exact nm (f.wn _ e2)
  · obtain ⟨a, b⟩ := spanT_sm (a := r.lo) (b := r.hi) (by omega) e4
    exact ⟨a, fun c hc => by rcases b c hc with h | h <;> omega⟩
theorem fine_posts {ws : List Str} {rs : List Row} (f : Fine ws rs) : ∀ x ∈ linesP ws, x.length ≤ 10 ∧ ∀ c ∈ TL.tl x, 46 ≤ c ∧ c ≤ 122 := fun x hx => by
  rcases List.mem_cons.mp hx with rfl | hx
  · exact ⟨by decide +kernel, by decide +kernel⟩
  · exact ⟨by have := (name_fit (f.wn x hx)).1; omega, fun c hc => by have := name_signs (f.wn x hx) c hc; omega⟩
end Ga
set_option Elab.async false
set_option linter.all false
set_option maxRecDepth 100000
set_option maxHeartbeats 1000000
/-! Y3: the law composes the text. -/
namespace Ga
open PySem L2 Fw
noncomputable def shB : Fw.Env → Ms → T := sCons (sSet 8 (mOp gAdd (mB1 (Fw.c1 strD) (aCons (mVar 6) (aNil))) (mOp gMul (mOp gAdd (mC (.d (.str ".."))) (mB1 (Fw.c1 strD) (aCons (mVar 7) (aNil)))) (mB1 (Fw.c1 intD) (aCons (mOp gLt (mVar 6) (mVar 7)) (aNil))))))
 (sExpr (mBM .list gAppend (mVar 2) (aCons (mBM .str gJoin (mC (.d (.str " "))) (aCons (mLst (aCons (mC (.d (.str "tie"))) (aCons (mVar 3) (aCons (mVar 4) (aCons (mVar 5) (aCons (mVar 8) (aNil))))))) (aNil))) (aNil))))
theorem itx_sm {a : Nat} (h : a ≤ 1000) : (itx (a : Int)).length ≤ 4 := by rw [str_len, tl_itx]; exact TL.numL_len (by decide) (by omega)
theorem app_empty (x : Str) : x ++ Str.empty = x := str_ext (by rw [TL.tl_append]; exact List.append_nil _)
theorem empty_app2 (x : Str) : Str.empty ++ x = x := str_ext (by rw [TL.tl_append]; exact List.nil_append _)
theorem app_assoc (x y z : Str) : x ++ y ++ z = x ++ (y ++ z) := str_ext (by rw [TL.tl_append, TL.tl_append, TL.tl_append, TL.tl_append, List.append_assoc])
theorem sh_step {ws : List Str} {rs : List Row} (f : Fine ws rs) {r : Row} (hr : r ∈ rs) {L : List Str} (hL : L.length ≤ 1000) {o0 o1 o8 : Option S} {ms : Ms} (hms : ms = [.lst (strsD L)]) :
    shB [o0, o1, some (.loc 0), some (.d (.str r.t)), some (.d (.str r.p)), some (.d (.str r.q)), some (.d (.int (r.lo : Nat))), some (.d (.int (r.hi : Nat))), o8] ms = .nx [o0, o1, some (.loc 0), some (.d (.str r.t)), some (.d (.str r.p)), some (.d (.str r.q)), some (.d (.int (r.lo : Nat))), some (.d (.int (r.hi : Nat))), some (.d (.str (spanT (r.lo : Nat) (r.hi : Nat))))] [.lst (strsD (L ++ [lineR r]))] := by
  subst hms
  obtain ⟨_, _, _, h1, h2⟩ := f.en r hr
  obtain ⟨t, p, q, lo, hi⟩ := r
  dsimp only at h1 h2 ⊢
  have la := itx_sm (a := lo) (by omega)
  have lb := itx_sm h2
  have ld : (Str.ofString "..").length = 2 := rfl
  have sa := fun ms => str_int (a := (lo : Int)) (by omega) (ms := ms)
  have sb := fun ms => str_int (a := (hi : Int)) (by omega) (ms := ms)
  have a1 := fun ms => addSS (a := Str.ofString "..") (b := itx (hi : Int)) (ms := ms) (by omega)
  have ln : joinN sp1 (linesR ⟨t, p, q, lo, hi⟩) ≤ 1000000 := Nat.le_trans (joinN_le (n := 10) fun x hx => (fine_row f hr x hx).1) (by show 5 * (10 + 1) ≤ 1000000; decide)
  have jn : ∀ ms, gJoin (.d (.str " ")) [.d (.lst [.str "tie", .str t, .str p, .str q, .str (spanT (lo : Int) (hi : Int))])] ms = .ok (.d (.str (lineR ⟨t, p, q, lo, hi⟩))) ms := fun ms => join_strs (l := linesR ⟨t, p, q, lo, hi⟩) (.inl rfl) ln
  have ap : gAppend (.loc 0) [.d (.str (lineR ⟨t, p, q, lo, hi⟩))] [.lst (strsD L)] = .ok (.d .non) [.lst (strsD (L ++ [lineR ⟨t, p, q, lo, hi⟩]))] := by
    have := append_loc (ms := [.lst (strsD L)]) (n := 0) (l := strsD L) (y := .str (lineR ⟨t, p, q, lo, hi⟩)) rfl (by rw [strs_len]; omega)
    rw [this]
    simp [strsD]
  obtain ⟨LR, hLR⟩ : ∃ LR, LR = lineR ⟨t, p, q, lo, hi⟩ := ⟨_, rfl⟩
  rw [← hLR] at jn ap ⊢
  obtain ⟨SP, hSP⟩ : ∃ SP, SP = spanT (lo : Int) (hi : Int) := ⟨_, rfl⟩
  rw [← hSP] at jn ⊢
  by_cases h : lo < hi
  · have hi' : (lo : Int) < (hi : Int) := by omega
    have m1 : ∀ ms, gMul (.d (.str (Str.ofString ".." ++ itx (hi : Int)))) (.d (.int 1)) ms = .ok (.d (.str (Str.ofString ".." ++ itx (hi : Int)))) ms := fun ms => by
      rw [mulSI (by rw [PySem.Str.length_append]; omega) (by decide) (by decide)]
      congr 3
    have a2 := fun ms => addSS (a := itx (lo : Int)) (b := Str.ofString ".." ++ itx (hi : Int)) (ms := ms) (by rw [PySem.Str.length_append]; omega)
    have es : SP = itx (lo : Int) ++ (Str.ofString ".." ++ itx (hi : Int)) := by
      rw [hSP]; unfold spanT
      rw [if_neg (by omega), app_assoc]
    have i1 : ∀ ms, Fw.c1 intD [.d (.bl true)] ms = .ok (.d (.int 1)) ms := fun ms => rfl
    rw [es] at jn ⊢
    simp [shB, sa, sb, a1, m1, a2, h, hi', i1, jn, ap]
  · have e : lo = hi := by omega
    have hi' : ¬ (lo : Int) < (hi : Int) := by omega
    have m1 : ∀ ms, gMul (.d (.str (Str.ofString ".." ++ itx (hi : Int)))) (.d (.int 0)) ms = .ok (.d (.str Str.empty)) ms := fun ms => by
      rw [mulSI (by rw [PySem.Str.length_append]; omega) (by decide) (by decide)]
      congr 3
    have a2 := fun ms => addSS (a := itx (lo : Int)) (b := Str.empty) (ms := ms) (by show _ + 0 ≤ _; omega)
    have es : SP = itx (lo : Int) := by
      rw [hSP]; unfold spanT
      rw [if_pos (by omega)]
    have i1 : ∀ ms, Fw.c1 intD [.d (.bl false)] ms = .ok (.d (.int 0)) ms := fun ms => rfl
    have ae := app_empty (itx (lo : Int))
    rw [es] at jn ⊢
    simp [shB, sa, sb, a1, m1, a2, h, hi', i1, jn, ap, ae]
theorem shown_run {ws : List Str} {rs : List Row} (f : Fine ws rs) : ∃ r, f__law_shown [.d (.tup (strsD ws)), .d (.tup (rowsD rs))] [] = .ok (.d (.str (webT ws rs))) r := by
  have lp : joinN sp1 (linesP ws) ≤ 1000000 := Nat.le_trans (joinN_le (n := 10) fun x hx => (fine_posts f x hx).1) (by
    have := f.wl
    show (ws.length + 1) * (10 + 1) ≤ 1000000
    omega)
  have j1 : ∀ ms, gJoin (.d (.str " ")) [.d (.lst (strsD (linesP ws)))] ms = .ok (.d (.str (lineP ws))) ms := fun ms => join_strs (l := linesP ws) (.inl rfl) lp
  have c1 : ∀ ms, cLst [.d (.tup (strsD ws))] ms = .ok (.d (.lst (strsD ws))) ms := fun ms => rfl
  have c2 : ∀ ms, gAdd (.d (.lst [.str "posts"])) (.d (.lst (strsD ws))) ms = .ok (.d (.lst (strsD (linesP ws)))) ms := fun ms => addLL (a := [.str "posts"]) (b := strsD ws) (by have := f.wl; rw [strs_len]; simp; omega)
  have rowl : ∀ r ∈ rs, (lineR r).length ≤ 60 := fun r hr => by
    have a := join_len (a := sp1) (linesR r)
    have b := joinN_le (a := sp1) (n := 10) fun x hx => (fine_row f hr x hx).1
    have c : (linesR r).length * (10 + sp1.length) = 55 := rfl
    unfold lineR; omega
  have l1 : (lineP ws).length ≤ 300 := by
    have a := join_len (a := sp1) (linesP ws)
    have b := joinN_le (a := sp1) (n := 10) fun x hx => (fine_posts f x hx).1
    have c : (linesP ws).length * (10 + sp1.length) = (ws.length + 1) * 11 := rfl
    have := f.wl
    unfold lineP; omega
  have lw : joinN nl1 (linesW ws rs) ≤ 1000000 := Nat.le_trans (joinN_le (n := 300) fun x hx => by
    rcases List.mem_cons.mp hx with rfl | hx
    · exact l1
    · obtain ⟨r, hr, rfl⟩ := List.mem_map.mp hx
      have := rowl r hr; omega) (by
    have e : (linesW ws rs).length = rs.length + 1 := by simp [linesW]
    have := f.rl
    rw [e]
    show (rs.length + 1) * (300 + 1) ≤ 1000000
    omega)
  have loop : Nx (sFor (iSeq (mVar 1)) (gUn 5 (gsCons (gSet 3) (gsCons (gSet 4) (gsCons (gSet 5) (gsCons (gSet 6) (gsCons (gSet 7) (gsNil))))))) shB [some (.d (.tup (strsD ws))), some (.d (.tup (rowsD rs))), some (.loc 0), none, none, none, none, none, none] [.lst (strsD [lineP ws])])
      (fun e m => ∃ o3 o4 o5 o6 o7 o8, e = [some (.d (.tup (strsD ws))), some (.d (.tup (rowsD rs))), some (.loc 0), o3, o4, o5, o6, o7, o8] ∧ m = [.lst (strsD (linesW ws rs))]) := by
    refine Nx_mono (Nx_forI (P := fun i e m => ∃ o3 o4 o5 o6 o7 o8, e = [some (.d (.tup (strsD ws))), some (.d (.tup (rowsD rs))), some (.loc 0), o3, o4, o5, o6, o7, o8] ∧ m = [.lst (strsD (lineP ws :: (rs.take i).map lineR))]) (xs := (rowsD rs).map S.d) (ms1 := [.lst (strsD [lineP ws])]) (itT_ rfl) ⟨_, _, _, _, _, _, rfl, rfl⟩ ?_) ?_
    · rintro i x hx e m ⟨o3, o4, o5, o6, o7, o8, rfl, rfl⟩
      obtain ⟨d, hd, rfl⟩ := map_get hx
      unfold rowsD at hd
      rw [List.getElem?_map, Option.map_eq_some_iff] at hd
      obtain ⟨r, hr, rfl⟩ := hd
      have hi : i < rs.length := (List.getElem?_eq_some_iff.mp hr).1
      have hm : r ∈ rs := List.mem_of_getElem? hr
      have st := sh_step f hm (L := lineP ws :: (rs.take i).map lineR) (by have := f.rl; simp; omega) (o0 := some (.d (.tup (strsD ws)))) (o1 := some (.d (.tup (rowsD rs)))) (o8 := o8) rfl
      refine ⟨_, rfl, ⟨_, _, st, _, _, _, _, _, _, rfl, ?_⟩⟩
      have e : rs.take (i + 1) = rs.take i ++ [r] := by
        rw [List.take_add_one, hr]; rfl
      rw [e, List.map_append]
      rfl
    · rintro e m ⟨o3, o4, o5, o6, o7, o8, rfl, rfl⟩
      refine ⟨o3, o4, o5, o6, o7, o8, rfl, ?_⟩
      unfold linesW
      rw [List.length_map, rows_len, List.take_length]
  obtain ⟨e, m, he, o3, o4, o5, o6, o7, o8, rfl, rfl⟩ := loop
  have jw : gJoin (.d (.str "\n")) [.loc 0] [.lst (strsD (linesW ws rs))] = .ok (.d (.str (webT ws rs))) [.lst (strsD (linesW ws rs))] := join_strs (l := linesW ws rs) (.inl rfl) lw
  refine ⟨[.lst (strsD (linesW ws rs))], ?_⟩
  unfold f__law_shown
  rw [fn_ev]
  have run : m__law_shown (start0 9 [.d (.tup (strsD ws)), .d (.tup (rowsD rs))]) [] = .rt (.d (.str (webT ws rs))) [.lst (strsD (linesW ws rs))] := by
    have sh : m__law_shown = sCons (sSet 2 (mNew (aCons (mBM .str gJoin (mC (.d (.str " "))) (aCons (mOp gAdd (mLst (aCons (mC (.d (.str "posts"))) (aNil))) (mB1 (cLst) (aCons (mVar 0) (aNil)))) (aNil))) (aNil)))) (sCons (sFor (iSeq (mVar 1)) (gUn 5 (gsCons (gSet 3) (gsCons (gSet 4) (gsCons (gSet 5) (gsCons (gSet 6) (gsCons (gSet 7) (gsNil))))))) shB) (sRet (mBM .str gJoin (mC (.d (.str "\n"))) (aCons (mVar 2) (aNil))))) := rfl
    have first : sSet 2 (mNew (aCons (mBM .str gJoin (mC (.d (.str " "))) (aCons (mOp gAdd (mLst (aCons (mC (.d (.str "posts"))) (aNil))) (mB1 (cLst) (aCons (mVar 0) (aNil)))) (aNil))) (aNil))) (start0 9 [.d (.tup (strsD ws)), .d (.tup (rowsD rs))]) [] = .nx [some (.d (.tup (strsD ws))), some (.d (.tup (rowsD rs))), some (.loc 0), none, none, none, none, none, none] [.lst (strsD [lineP ws])] := by
      have nl : newL [.d (.str (lineP ws))] [] = .ok (.loc 0) [.lst (strsD [lineP ws])] := rfl
      simp [start0, c1, c2, j1]
      rfl
    rw [sh, ev_cons, first, seq_nx, ev_cons, he, seq_nx]
    simp [jw]
  rw [run]; rfl
end Ga
set_option Elab.async false
set_option linter.all false
set_option maxRecDepth 100000
set_option maxHeartbeats 1000000
/-! Y4: the web's own text. -/
namespace Ga
open PySem L2 Fw
theorem ev_fmtO {tab : MTab} {me : Fw.Env → Ms → R S} {env : Fw.Env} {ms : Ms} : mFmtO tab me env ms = (me env ms).bind fun x ms1 => cOwn tab [x] ms1 := rfl
theorem ev_star {me : Fw.Env → Ms → R S} {m : Fw.Env → Ms → R (List S)} {env : Fw.Env} {ms : Ms} : aStar me m env ms = (me env ms).bind fun y ms1 => match itemsOf y ms1 with
  | some ds => (m env ms1).bind fun ss ms2 => .ok (ds.map S.d ++ ss) ms2
  | none => .bad := rfl
theorem own_span {a b : Nat} (ha : a ≤ 1000) (hb : b ≤ 1000) {ms : Ms} : cOwn [(10, bndS f_Span_str [0] [])] [.d (span (a : Int) (b : Int))] ms = .ok (.d (.str (spanT (a : Int) (b : Int)))) ms := by
  have e := str_ok (a := (a : Int)) (b := (b : Int)) (by omega) (by omega)
  unfold cOwn
  simp only [List.lookup, beq_self_eq_true]
  simp [pick, e, asStr]
def tieT : Str := Str.ofString "tie "
theorem tl_tie : TL.tl tieT = [116, 105, 101, 32] := by decide +kernel
theorem tl_ti : TL.tl (Str.ofString "tie") = [116, 105, 101] := by decide +kernel
theorem row_txt (r : Row) : tieT ++ r.t ++ sp1 ++ r.p ++ sp1 ++ r.q ++ sp1 ++ spanT (r.lo : Nat) (r.hi : Nat) = lineR r := by
  unfold lineR
  rw [TL.join_eq]
  refine str_ext ?_
  rw [TL.tl_join]
  simp only [TL.tl_append, linesR, List.map_cons, List.map_nil, TL.joinL, tl_tie, tl_ti, tl_sp]
  simp
noncomputable def wsB : Fw.Env → Ms → T := sExpr (mBM .list gAppend (mVar 1) (aCons (mJs [mC (.d (.str "tie ")), mFmt (mVar 2), mC (.d (.str " ")), mFmt (mVar 3), mC (.d (.str " ")), mFmt (mVar 4), mC (.d (.str " ")), mFmtO [(10, bndS f_Span_str [0] [])] (mCallN (mkS 10 (fld 10) (bndS f_Span_init [0, 1, 2] [])) (mLen 2 (aCons (mVar 5) (aCons (mVar 6) (aNil)))))] Str.empty) (aNil)))
theorem ws_step {ws : List Str} {rs : List Row} (f : Fine ws rs) {r : Row} (hr : r ∈ rs) {L : List Str} (hL : L.length ≤ 1000) {o0 : Option S} {ms : Ms} (hms : ms = [.lst (strsD L)]) :
    wsB [o0, some (.loc 0), some (.d (.str r.t)), some (.d (.str r.p)), some (.d (.str r.q)), some (.d (.int (r.lo : Nat))), some (.d (.int (r.hi : Nat)))] ms = .nx [o0, some (.loc 0), some (.d (.str r.t)), some (.d (.str r.p)), some (.d (.str r.q)), some (.d (.int (r.lo : Nat))), some (.d (.int (r.hi : Nat)))] [.lst (strsD (L ++ [lineR r]))] := by
  subst hms
  obtain ⟨_, _, _, h1, h2⟩ := f.en r hr
  have fr := fine_row f hr
  have tx := row_txt r
  have lt := (fr r.t (by simp [linesR])).1
  have lp := (fr r.p (by simp [linesR])).1
  have lq := (fr r.q (by simp [linesR])).1
  have ls := (fr (spanT (r.lo : Nat) (r.hi : Nat)) (by simp [linesR])).1
  have mk := fun ms => mk_span (a := (r.lo : Int)) (b := (r.hi : Int)) (by omega) (by omega) (ms := ms)
  have os := fun ms => own_span (a := r.lo) (b := r.hi) (by omega) h2 (ms := ms)
  have ap : gAppend (.loc 0) [.d (.str (lineR r))] [.lst (strsD L)] = .ok (.d .non) [.lst (strsD (L ++ [lineR r]))] := by
    have := append_loc (ms := [.lst (strsD L)]) (n := 0) (l := strsD L) (y := .str (lineR r)) rfl (by rw [strs_len]; omega)
    rw [this]
    simp [strsD]
  obtain ⟨t, p, q, lo, hi⟩ := r
  dsimp only at *
  obtain ⟨LR, hLR⟩ : ∃ LR, LR = lineR ⟨t, p, q, lo, hi⟩ := ⟨_, rfl⟩
  rw [← hLR] at tx ap ⊢
  obtain ⟨SP, hSP⟩ : ∃ SP, SP = spanT (lo : Int) (hi : Int) := ⟨_, rfl⟩
  rw [← hSP] at tx ls os
  have l0 : tieT.length = 4 := rfl
  have l1 : sp1.length = 1 := rfl
  have e0 : Str.ofString "tie " = tieT := rfl
  have e1 : Str.ofString " " = sp1 := rfl
  have f1 := fun ms => fmt_str (a := t) (ms := ms) (by omega)
  have f2 := fun ms => fmt_str (a := p) (ms := ms) (by omega)
  have f3 := fun ms => fmt_str (a := q) (ms := ms) (by omega)
  have js : ∀ env ms, env = [o0, some (.loc 0), some (.d (.str t)), some (.d (.str p)), some (.d (.str q)), some (.d (.int (lo : Int))), some (.d (.int (hi : Int)))] → mJs [mC (.d (.str tieT)), mFmt (mVar 2), mC (.d (.str sp1)), mFmt (mVar 3), mC (.d (.str sp1)), mFmt (mVar 4), mC (.d (.str sp1)), mFmtO [(10, bndS f_Span_str [0] [])] (mCallN (mkS 10 (fld 10) (bndS f_Span_init [0, 1, 2] [])) (mLen 2 (aCons (mVar 5) (aCons (mVar 6) (aNil)))))] Str.empty env ms = .ok (.d (.str LR)) ms := by
    intro env ms he
    subst he
    rw [ev_js, ev_c, bind_ok, jsK_str (by rw [empty_app]; omega), empty_app]
    rw [ev_js, ev_fmt, ev_var]
    simp only [List.getElem?_cons_zero, List.getElem?_cons_succ, bind_ok, f1]
    rw [jsK_str (by rw [PySem.Str.length_append]; omega), ev_js, ev_c, bind_ok, jsK_str (by simp only [PySem.Str.length_append]; omega), ev_js, ev_fmt, ev_var]
    simp only [List.getElem?_cons_zero, List.getElem?_cons_succ, bind_ok, f2]
    rw [jsK_str (by simp only [PySem.Str.length_append]; omega), ev_js, ev_c, bind_ok, jsK_str (by simp only [PySem.Str.length_append]; omega), ev_js, ev_fmt, ev_var]
    simp only [List.getElem?_cons_zero, List.getElem?_cons_succ, bind_ok, f3]
    rw [jsK_str (by simp only [PySem.Str.length_append]; omega), ev_js, ev_c, bind_ok, jsK_str (by simp only [PySem.Str.length_append]; omega), ev_js, ev_fmtO]
    have cn : (mCallN (mkS 10 (fld 10) (bndS f_Span_init [0, 1, 2] [])) (mLen 2 (aCons (mVar 5) (aCons (mVar 6) (aNil))))) [o0, some (.loc 0), some (.d (.str t)), some (.d (.str p)), some (.d (.str q)), some (.d (.int (lo : Int))), some (.d (.int (hi : Int)))] ms = .ok (.d (span (lo : Int) (hi : Int))) ms := by
      simp [mk]
    rw [cn, bind_ok, os, bind_ok, jsK_str (by simp only [PySem.Str.length_append]; omega), ev_js0, tx]
  unfold wsB
  rw [e0, e1]
  have js2 := js _ [.lst (strsD L)] rfl
  rw [ev_expr, ev_bm, ev_var]
  simp only [List.getElem?_cons_zero, List.getElem?_cons_succ, bind_ok]
  have t1 : tyS .list (.loc 0) [.lst (strsD L)] = true := rfl
  rw [t1, if_pos rfl, ev_aCons, js2]
  simp only [bind_ok, ev_aNil]
  rw [ap]; rfl
end Ga
set_option Elab.async false
set_option linter.all false
set_option maxRecDepth 100000
set_option maxHeartbeats 1000000
/-! Y5: str of a web. -/
namespace Ga
open PySem L2 Fw
structure Lens (ws : List Str) (rs : List Row) : Prop where
  jp : joinN sp1 (linesP ws) ≤ 1000000
  jw : joinN nl1 (linesW ws rs) ≤ 8000
  lp : (lineP ws).length ≤ 300
  lr : ∀ r ∈ rs, (lineR r).length ≤ 60
theorem fine_lens {ws : List Str} {rs : List Row} (f : Fine ws rs) : Lens ws rs := by
  have lp : joinN sp1 (linesP ws) ≤ 1000000 := Nat.le_trans (joinN_le (n := 10) fun x hx => (fine_posts f x hx).1) (by
    have := f.wl
    show (ws.length + 1) * (10 + 1) ≤ 1000000
    omega)
  have rowl : ∀ r ∈ rs, (lineR r).length ≤ 60 := fun r hr => by
    have a := join_len (a := sp1) (linesR r)
    have b := joinN_le (a := sp1) (n := 10) fun x hx => (fine_row f hr x hx).1
    have c : (linesR r).length * (10 + sp1.length) = 55 := rfl
    unfold lineR; omega
  have l1 : (lineP ws).length ≤ 300 := by
    have a := join_len (a := sp1) (linesP ws)
    have b := joinN_le (a := sp1) (n := 10) fun x hx => (fine_posts f x hx).1
    have c : (linesP ws).length * (10 + sp1.length) = (ws.length + 1) * 11 := rfl
    have := f.wl
    unfold lineP; omega
  refine ⟨lp, Nat.le_trans (joinN_le (n := 300) fun x hx => by
    rcases List.mem_cons.mp hx with rfl | hx
    · exact l1
    · obtain ⟨r, hr, rfl⟩ := List.mem_map.mp hx
      have := rowl r hr; omega) ?_, l1, rowl⟩
  have e : (linesW ws rs).length = rs.length + 1 := by simp [linesW]
  have := f.rl
  rw [e]
  show (rs.length + 1) * (300 + 1) ≤ 8000
  omega
theorem str_run {ws : List Str} {rs : List Row} (f : Fine ws rs) : ∃ r, f_Web_str [.d (webX ws (rs.map toZ))] [] = .ok (.d (.str (webT ws rs))) r := by
  have L := fine_lens f
  have j1 : ∀ ms, gJoin (.d (.str " ")) [.d (.lst (strsD (linesP ws)))] ms = .ok (.d (.str (lineP ws))) ms := fun ms => join_strs (l := linesP ws) (.inl rfl) L.jp
  have loop : Nx (sFor (iSeq (mAttr "bonds" [(11, fldG 1)] (mVar 0))) (gUn 5 (gsCons (gSet 2) (gsCons (gSet 3) (gsCons (gSet 4) (gsCons (gSet 5) (gsCons (gSet 6) (gsNil))))))) wsB [some (.d (webX ws (rs.map toZ))), some (.loc 0), none, none, none, none, none] [.lst (strsD [lineP ws])])
      (fun e m => ∃ o2 o3 o4 o5 o6, e = [some (.d (webX ws (rs.map toZ))), some (.loc 0), o2, o3, o4, o5, o6] ∧ m = [.lst (strsD (linesW ws rs))]) := by
    refine Nx_mono (Nx_forI (P := fun i e m => ∃ o2 o3 o4 o5 o6, e = [some (.d (webX ws (rs.map toZ))), some (.loc 0), o2, o3, o4, o5, o6] ∧ m = [.lst (strsD (lineP ws :: (rs.take i).map lineR))]) (xs := (rowsD rs).map S.d) (ms1 := [.lst (strsD [lineP ws])]) (itT_ (l := rowsD rs) (by rw [rows_toZ]; rfl)) ⟨_, _, _, _, _, rfl, rfl⟩ ?_) ?_
    · rintro i x hx e m ⟨o2, o3, o4, o5, o6, rfl, rfl⟩
      obtain ⟨d, hd, rfl⟩ := map_get hx
      unfold rowsD at hd
      rw [List.getElem?_map, Option.map_eq_some_iff] at hd
      obtain ⟨r, hr, rfl⟩ := hd
      have hi : i < rs.length := (List.getElem?_eq_some_iff.mp hr).1
      have hm : r ∈ rs := List.mem_of_getElem? hr
      have st := ws_step f hm (L := lineP ws :: (rs.take i).map lineR) (by have := f.rl; simp; omega) (o0 := some (.d (webX ws (rs.map toZ)))) rfl
      refine ⟨_, rfl, ⟨_, _, st, _, _, _, _, _, rfl, ?_⟩⟩
      have e : rs.take (i + 1) = rs.take i ++ [r] := by
        rw [List.take_add_one, hr]; rfl
      rw [e, List.map_append]
      rfl
    · rintro e m ⟨o2, o3, o4, o5, o6, rfl, rfl⟩
      refine ⟨o2, o3, o4, o5, o6, rfl, ?_⟩
      unfold linesW
      rw [List.length_map, rows_len, List.take_length]
  obtain ⟨e, m, he, o2, o3, o4, o5, o6, rfl, rfl⟩ := loop
  have jw : gJoin (.d (.str "\n")) [.loc 0] [.lst (strsD (linesW ws rs))] = .ok (.d (.str (webT ws rs))) [.lst (strsD (linesW ws rs))] := join_strs (l := linesW ws rs) (.inl rfl) (Nat.le_trans L.jw (by decide))
  refine ⟨[.lst (strsD (linesW ws rs))], ?_⟩
  unfold f_Web_str
  rw [fn_ev]
  have run : m_Web_str (start0 7 [.d (webX ws (rs.map toZ))]) [] = .rt (.d (.str (webT ws rs))) [.lst (strsD (linesW ws rs))] := by
    have sh : m_Web_str = sCons (sSet 1 (mNew (aCons (mBM .str gJoin (mC (.d (.str " "))) (aCons (mLst (aCons (mC (.d (.str "posts"))) (aStar (mAttr "places" [(11, fldG 0)] (mVar 0)) (aNil)))) (aNil))) (aNil)))) (sCons (sFor (iSeq (mAttr "bonds" [(11, fldG 1)] (mVar 0))) (gUn 5 (gsCons (gSet 2) (gsCons (gSet 3) (gsCons (gSet 4) (gsCons (gSet 5) (gsCons (gSet 6) (gsNil))))))) wsB) (sRet (mBM .str gJoin (mC (.d (.str "\n"))) (aCons (mVar 1) (aNil))))) := rfl
    have args : (aCons (mC (.d (.str "posts"))) (aStar (mAttr "places" [(11, fldG 0)] (mVar 0)) (aNil))) (start0 7 [.d (webX ws (rs.map toZ))]) [] = .ok ((strsD (linesP ws)).map S.d) [] := by
      rw [ev_aCons, ev_c, bind_ok, ev_star]
      have a1 : mAttr "places" [(11, fldG 0)] (mVar 0) (start0 7 [.d (webX ws (rs.map toZ))]) [] = .ok (.d (.tup (strsD ws))) [] := rfl
      rw [a1, bind_ok]
      have a2 : itemsOf (.d (.tup (strsD ws))) [] = some (strsD ws) := rfl
      rw [a2]
      simp only [ev_aNil, bind_ok, List.append_nil]
      rfl
    have ds : ∀ l : List D, l.length ≤ 1000000 → dispD .lst (l.map S.d) [] = .ok (.d (.lst l)) [] := fun l hl => by
      have td : ∀ l : List D, toDs (l.map S.d) = some l := fun l => by
        induction l with
        | nil => rfl
        | cons x l ih => show (toDs (l.map S.d)).map (x :: ·) = _; rw [ih]; rfl
      unfold dispD
      rw [td]
      dsimp only
      rw [few_ev, decide_eq_true hl]
    have first : sSet 1 (mNew (aCons (mBM .str gJoin (mC (.d (.str " "))) (aCons (mLst (aCons (mC (.d (.str "posts"))) (aStar (mAttr "places" [(11, fldG 0)] (mVar 0)) (aNil)))) (aNil))) (aNil))) (start0 7 [.d (webX ws (rs.map toZ))]) [] = .nx [some (.d (webX ws (rs.map toZ))), some (.loc 0), none, none, none, none, none] [.lst (strsD [lineP ws])] := by
      have ls : mLst (aCons (mC (.d (.str "posts"))) (aStar (mAttr "places" [(11, fldG 0)] (mVar 0)) (aNil))) (start0 7 [.d (webX ws (rs.map toZ))]) [] = .ok (.d (.lst (strsD (linesP ws)))) [] := by
        rw [ev_lst, args, bind_ok]
        exact ds _ (by have := f.wl; rw [strs_len]; simp [linesP]; omega)
      rw [ev_set, ev_new, ev_aCons, ev_bm, ev_c, bind_ok]
      have t1 : tyS .str (.d (.str " ")) [] = true := rfl
      rw [t1, if_pos rfl, ev_aCons, ls]
      simp only [bind_ok, ev_aNil]
      rw [j1]
      rfl
    rw [sh, ev_cons, first, seq_nx, ev_cons, he, seq_nx]
    simp [jw]
  rw [run]; rfl
end Ga
set_option Elab.async false
set_option linter.all false
set_option maxRecDepth 100000
set_option maxHeartbeats 1000000
/-! Y6: the text split again. -/
namespace Ga
open PySem L2 Fw
theorem mem_joinL {S : List Nat} {c : Nat} : ∀ {ps : List (List Nat)}, c ∈ TL.joinL S ps → c ∈ S ∨ ∃ p ∈ ps, c ∈ p
  | [], h => by simp [TL.joinL] at h
  | [p], h => .inr ⟨p, List.mem_cons_self, h⟩
  | p :: q :: r, h => by
    have h : c ∈ p ++ (S ++ TL.joinL S (q :: r)) := h
    simp only [List.mem_append] at h
    rcases h with h | h | h
    · exact .inr ⟨p, List.mem_cons_self, h⟩
    · exact .inl h
    · rcases mem_joinL h with h | ⟨x, hx, h⟩
      · exact .inl h
      · exact .inr ⟨x, List.mem_cons_of_mem _ hx, h⟩
theorem mem_join {a : Str} {c : Nat} {l : List Str} (h : c ∈ TL.tl (Txt.join a l)) : c ∈ TL.tl a ∨ ∃ p ∈ l, c ∈ TL.tl p := by
  rw [TL.join_eq, TL.tl_join] at h
  rcases mem_joinL h with h | ⟨p, hp, h⟩
  · exact .inl h
  · obtain ⟨z, hz, rfl⟩ := List.mem_map.mp hp
    exact .inr ⟨z, hz, h⟩
theorem split_at {a : Str} {s : Nat} (ha : TL.tl a = [s]) (hs : a.cps.all (· < 256) = true) {l : List Str} (hl : l ≠ []) (hp : ∀ p ∈ l, s ∉ TL.tl p) (hn : (Txt.join a l).length + 2 ≤ 1000000) {ms : Ms} :
    gSplit (.d (.str (Txt.join a l))) [.d (.str a)] ms = .ok (.d (.lst (strsD l))) ms := by
  have e := TL.split_join (S := []) ha hs hl hp
  have la : (a.length == 0) = false := by rw [str_len, ha]; rfl
  unfold gSplit
  have c : (!(a.length == 0) && few ((Txt.join a l).length + 2)) = true := by rw [la, few_ev, decide_eq_true hn]; rfl
  dsimp only
  rw [c]
  dsimp only
  rw [e]; rfl
theorem sp_lt : sp1.cps.all (· < 256) = true := by decide +kernel
theorem nl_lt : nl1.cps.all (· < 256) = true := by decide +kernel
section
variable {ws : List Str} {rs : List Row}
theorem lineP_signs (f : Fine ws rs) : ∀ c ∈ TL.tl (lineP ws), c = 32 ∨ (46 ≤ c ∧ c ≤ 122) := fun c hc => by
  rcases mem_join hc with h | ⟨p, hp, h⟩
  · rw [tl_sp] at h; exact .inl (by simpa using h)
  · exact .inr ((fine_posts f p hp).2 c h)
theorem lineR_signs (f : Fine ws rs) {r : Row} (hr : r ∈ rs) : ∀ c ∈ TL.tl (lineR r), c = 32 ∨ (46 ≤ c ∧ c ≤ 122) := fun c hc => by
  rcases mem_join hc with h | ⟨p, hp, h⟩
  · rw [tl_sp] at h; exact .inl (by simpa using h)
  · exact .inr ((fine_row f hr p hp).2 c h)
theorem split_web (f : Fine ws rs) {ms : Ms} : gSplit (.d (.str (webT ws rs))) [.d (.str nl1)] ms = .ok (.d (.lst (strsD (linesW ws rs)))) ms := by
  have L := fine_lens f
  refine split_at tl_nl nl_lt (by simp [linesW]) (fun p hp h => ?_) (by have := join_len (a := nl1) (linesW ws rs); have := L.jw; omega)
  rcases List.mem_cons.mp hp with rfl | hp
  · rcases lineP_signs f _ h with z | z <;> omega
  · obtain ⟨r, hr, rfl⟩ := List.mem_map.mp hp
    rcases lineR_signs f hr _ h with z | z <;> omega
theorem split_posts (f : Fine ws rs) {ms : Ms} : gSplit (.d (.str (lineP ws))) [.d (.str sp1)] ms = .ok (.d (.lst (strsD (linesP ws)))) ms := by
  have L := fine_lens f
  refine split_at tl_sp sp_lt (by simp [linesP]) (fun p hp h => ?_) (by have := L.lp; show (lineP ws).length + 2 ≤ _; omega)
  have := (fine_posts f p hp).2 _ h
  omega
theorem split_row (f : Fine ws rs) {r : Row} (hr : r ∈ rs) {ms : Ms} : gSplit (.d (.str (lineR r))) [.d (.str sp1)] ms = .ok (.d (.lst (strsD (linesR r)))) ms := by
  have L := fine_lens f
  refine split_at tl_sp sp_lt (by simp [linesR]) (fun p hp h => ?_) (by have := L.lr r hr; show (lineR r).length + 2 ≤ _; omega)
  have := (fine_row f hr p hp).2 _ h
  omega
end
end Ga
set_option Elab.async false
set_option linter.all false
set_option maxRecDepth 100000
set_option maxHeartbeats 1000000
/-! Y7: a line read. -/
namespace Ga
open PySem L2 Fw
theorem str_mk (z : Str) : (⟨⟨TL.tl z⟩⟩ : Str) = z := str_ext rfl
theorem is_name_str {z : Str} (h : nameL (TL.tl z) = true) : f_is_name [.d (.str z)] [] = .ok (.d (.bl true)) [] := by
  have e := is_name_ok (l := TL.tl z) (by have := (name_fit h).1; rw [← str_len]; omega)
  rw [h] at e
  rw [show txL (TL.tl z) = z from str_mk z] at e
  exact e
theorem span_of_ok {a b : Nat} (h : a ≤ b) (hb : b ≤ 1000) : f_span_of [.d (.str (spanT (a : Int) (b : Int)))] [] = .ok (.d (.tup [.int (a : Int), .int (b : Int)])) [] := by
  have ls := (spanT_sm (a := a) (b := b) (by omega) hb).1
  have rd := read_ok (l := TL.tl (spanT (a : Int) (b : Int))) (by rw [← str_len]; omega)
  rw [read_back h (by omega), str_mk] at rd
  dsimp only at rd
  obtain ⟨SP, hSP⟩ : ∃ SP, SP = spanT (a : Int) (b : Int) := ⟨_, rfl⟩
  rw [← hSP] at rd ⊢
  unfold f_span_of
  rw [fn_ev]
  simp [m_span_of, start0, sTry, mCMeth, List.lookup, pick, rd, mAttr, propG, noEx, least_ok, greatest_ok]
theorem items_tup {a b : D} {ms : Ms} : itemsOf (.d (.tup [a, b])) ms = some [a, b] := rfl
theorem read_tie_ok {ws : List Str} {rs : List Row} (f : Fine ws rs) {r : Row} (hr : r ∈ rs) {names : List Str} (hn : names.contains r.t = false) : f_read_tie [.d (.str (lineR r)), .d (.lst (strsD ws)), .d (.lst (strsD names))] [] = .ok (.d (rowD r)) [] := by
  obtain ⟨e1, e2, e3, h1, h2⟩ := f.en r hr
  have sp := fun ms => split_row f hr (ms := ms)
  have so := span_of_ok (a := r.lo) (b := r.hi) h1 h2
  have nm := is_name_str (f.tn r hr)
  have c1 := fun ms => in_strs (z := r.t) (ws := names) (y := .lst (strsD names)) (neg := false) (ms := ms) (.inr rfl)
  have c2 := fun ms => in_strs (z := r.p) (ws := ws) (y := .lst (strsD ws)) (neg := true) (ms := ms) (.inr rfl)
  have c3 := fun ms => in_strs (z := r.q) (ws := ws) (y := .lst (strsD ws)) (neg := true) (ms := ms) (.inr rfl)
  rw [hn] at c1
  rw [show ws.contains r.p = true from List.contains_iff_mem.mpr e1] at c2
  rw [show ws.contains r.q = true from List.contains_iff_mem.mpr e2] at c3
  obtain ⟨LR, hLR⟩ : ∃ LR, LR = lineR r := ⟨_, rfl⟩
  rw [← hLR] at sp ⊢
  have sp : ∀ ms, gSplit (.d (.str LR)) [.d (.str " ")] ms = .ok (.d (.lst [.str "tie", .str r.t, .str r.p, .str r.q, .str (spanT (r.lo : Nat) (r.hi : Nat))])) ms := sp
  obtain ⟨t, p, q, lo, hi⟩ := r
  dsimp only at *
  obtain ⟨SP, hSP⟩ : ∃ SP, SP = spanT (lo : Int) (hi : Int) := ⟨_, rfl⟩
  rw [← hSP] at sp so
  have i1 : ∀ ms, gIx (.d (.lst [.str "tie", .str t, .str p, .str q, .str SP])) (.d (.int 1)) ms = .ok (.d (.str t)) ms := fun ms => rfl
  have i2 : ∀ ms, gIx (.d (.lst [.str "tie", .str t, .str p, .str q, .str SP])) (.d (.int 2)) ms = .ok (.d (.str p)) ms := fun ms => rfl
  have i3 : ∀ ms, gIx (.d (.lst [.str "tie", .str t, .str p, .str q, .str SP])) (.d (.int 3)) ms = .ok (.d (.str q)) ms := fun ms => rfl
  have i4 : ∀ ms, gIx (.d (.lst [.str "tie", .str t, .str p, .str q, .str SP])) (.d (.int 4)) ms = .ok (.d (.str SP)) ms := fun ms => rfl
  have i0 : ∀ ms, gIx (.d (.lst [.str "tie", .str t, .str p, .str q, .str SP])) (.d (.int 0)) ms = .ok (.d (.str "tie")) ms := fun ms => rfl
  have ln : ∀ ms, Fw.c1 lenD [.d (.lst [.str "tie", .str t, .str p, .str q, .str SP])] ms = .ok (.d (.int 5)) ms := fun ms => rfl
  obtain ⟨W, hW⟩ : ∃ W, W = D.lst [.str "tie", .str t, .str p, .str q, .str SP] := ⟨_, rfl⟩
  rw [← hW] at sp i0 i1 i2 i3 i4 ln
  have n1 : ∀ ms, gIsN false (.d (.tup [.int (lo : Int), .int (hi : Int)])) (.d .non) ms = .ok (.d (.bl false)) ms := fun ms => rfl
  unfold f_read_tie
  rw [fn_ev]
  simp [m_read_tie, start0, pick, sp, so, nm, c1, c2, c3, i0, i1, i2, i3, i4, ln, e3, n1, ev_star, items_tup, rowD]
/-! comprehensions over a cell that stays -/
theorem comp_mapK {g : S → Fw.Env → Ms → Option Fw.Env} {elt : Fw.Env → Ms → R S} {vs : List Nat} {env : Fw.Env} {ms : Ms} {n : Nat} {c : Cell} (hk : ms[n]? = some c) (h : D → D) : ∀ (xs : List D) (acc : List D),
    (∀ x ∈ xs, ∃ e1, g (.d x) (wipeE env vs) ms = some e1 ∧ elt e1 ms = .ok (.d (h x)) ms) → acc.length + xs.length ≤ 1000000 →
    compL (some (n, c)) g (fun _ ms => .ok true ms) elt vs env (xs.map S.d) acc ms = .ok (acc ++ xs.map h) ms
  | [], acc, _, _ => by simp [compL, chk, hk]
  | x :: xs, acc, hx, hl => by
    obtain ⟨e1, h1, h2⟩ := hx x List.mem_cons_self
    have ih := comp_mapK hk h xs (acc ++ [h x]) (fun y hy => hx y (List.mem_cons_of_mem _ hy)) (by simp at hl ⊢; omega)
    have f : few acc.length = true := by rw [few_ev, decide_eq_true]; simp at hl; omega
    simp only [List.map_cons, compL, chk, hk, if_true, h1, h2, bind_ok, f]
    rw [ih]
    simp
theorem lc_allK {mi : MI} {g : S → Fw.Env → Ms → Option Fw.Env} {elt : Fw.Env → Ms → R S} {vs : List Nat} {env : Fw.Env} {ms : Ms} {n : Nat} {c : Cell} {xs : List D} (h : D → D) (hi : mi env ms = .ok (xs.map S.d, some (n, c)) ms) (hk : ms[n]? = some c)
    (hx : ∀ x ∈ xs, ∃ e1, g (.d x) (wipeE env vs) ms = some e1 ∧ elt e1 ms = .ok (.d (h x)) ms) (hl : xs.length ≤ 1000000) :
    mLc false mi g (fun _ ms => .ok true ms) elt vs env ms = .ok (.d (.lst (xs.map h))) ms := by
  unfold mLc
  rw [hi]
  simp only [bind_ok]
  rw [comp_mapK hk h xs [] hx (by simpa using hl)]
  rfl
theorem it_loc {mo : Fw.Env → Ms → R S} {env : Fw.Env} {ms : Ms} {n : Nat} {l : List D} (h : mo env ms = .ok (.loc n) ms) (hk : ms[n]? = some (.lst l)) : iSeq mo env ms = .ok (l.map S.d, some (n, .lst l)) ms := by
  unfold iSeq Fw.iOr Fw.iList itD
  rw [h]
  simp only [bind_ok, hk]
end Ga
set_option Elab.async false
set_option linter.all false
set_option maxRecDepth 100000
set_option maxHeartbeats 1000000
/-! Y8: the whole text read: its parts. -/
namespace Ga
open PySem L2 Fw
noncomputable def rd1 : Fw.Env → Ms → T :=
 sAsg (gStar (gsCons (gSet 2) (gsCons (gSet 3) (gsNil)))) (mBM .str gSplit (mVar 1) (aCons (mC (.d (.str "\n"))) (aNil)))
noncomputable def rd2 : Fw.Env → Ms → T :=
 sAsg (gStar (gsCons (gSet 4) (gsCons (gSet 5) (gsNil)))) (mBM .str gSplit (mVar 2) (aCons (mC (.d (.str " "))) (aNil)))
noncomputable def rd3 : Fw.Env → Ms → T :=
 sSet 6 (mLc false (iEnu (aCons (mVar 5) (aNil))) (gUn 2 (gsCons (gSet 11) (gsCons (gSet 12) (gsNil)))) ((fun _ ms => .ok true ms)) (mAndV (mCallN (bndS f_is_name [0] []) (mLen 1 (aCons (mVar 12) (aNil)))) (mOp (gIn true) (mVar 12) (mSl (mVar 5) (pNo) (pAt (mVar 11))))) [11, 12])
noncomputable def rd4 : Fw.Env → Ms → T :=
 sIf (mOr (mB (mOp (gEq true) (mVar 4) (mC (.d (.str "posts"))))) (mOr (mB (mOp (gEq false) (mB1 (c1 lenD) (aCons (mVar 5) (aNil))) (mC (.d (.int 0))))) (mNot (mB (mB1 (cSeq allD) (aCons (mVar 6) (aNil))))))) (sRaise 3 1 (mLen 1 (aCons (mC (.d (.int 0))) (aNil)))) (sNil)
noncomputable def rd5 : Fw.Env → Ms → T :=
 sSet 7 (mNew (aNil))
noncomputable def rd6 : Fw.Env → Ms → T :=
 sFor (iEnuS (mApp 1 1 (aCons (mVar 3) (aNil)) (aCons (mC (.d (.int 1))) (aNil)))) (gUn 2 (gsCons (gSet 8) (gsCons (gSet 9) (gsNil)))) (sCons (sSet 10 (mCallN (bndS f_read_tie [0, 1, 2] []) (mLen 3 (aCons (mVar 9) (aCons (mVar 5) (aCons (mLc false (iSeq (mVar 7)) (gStar (gsCons (gSet 13) (gsCons (gSet 14) (gsNil)))) ((fun _ ms => .ok true ms)) (mVar 13) [13, 14]) (aNil)))))))
 (sCons (sIf (mB (mOp (gIsN false) (mVar 10) (mC (.d .non)))) (sRaise 3 1 (mLen 1 (aCons (mVar 8) (aNil)))) (sNil))
 (sExpr (mBM .list gAppend (mVar 7) (aCons (mVar 10) (aNil))))))
noncomputable def rd7 : Fw.Env → Ms → T :=
 sRet (mCallV [(11, mkS 11 (fld 11) (bndS f_Web_init [0, 1, 2] []))] (mVar 0) (mLen 2 (aCons (mB1 (cTup) (aCons (mVar 5) (aNil))) (aCons (mB1 (cTup) (aCons (mVar 7) (aNil))) (aNil)))))
theorem rd_eq : m_Web_read = sCons rd1 (sCons rd2 (sCons rd3 (sCons rd4 (sCons rd5 (sCons rd6 rd7))))) := rfl
theorem gStar_lst {gs : List S → Fw.Env → Ms → Option Fw.Env} {x : D} {l : List D} (h : l.length ≤ 16000) {env : Fw.Env} {ms : Ms} : gStar gs (.d (.lst (x :: l))) env ms = gs [.d x, .d (.lst l)] env ms := by
  have e : Nat.ble l.length 16000 = true := Nat.ble_eq.mpr h
  show (match Nat.ble l.length 16000 with
    | true => gs [.d x, .d (.lst l)] env ms
    | false => none) = _
  rw [e]
theorem gStar_tup {gs : List S → Fw.Env → Ms → Option Fw.Env} {x : D} {l : List D} (h : l.length ≤ 16000) {env : Fw.Env} {ms : Ms} : gStar gs (.d (.tup (x :: l))) env ms = gs [.d x, .d (.lst l)] env ms := by
  have e : Nat.ble l.length 16000 = true := Nat.ble_eq.mpr h
  show (match Nat.ble l.length 16000 with
    | true => gs [.d x, .d (.lst l)] env ms
    | false => none) = _
  rw [e]
theorem mem_numbered {n : Int} {ds : List D} {x : D} (h : x ∈ numbered n ds) : ∃ (j : Nat) (d : D), ds[j]? = some d ∧ x = .tup [.int (n + (j : Nat)), d] := by
  obtain ⟨i, hi⟩ := List.mem_iff_getElem?.mp h
  obtain ⟨d, h1, h2⟩ := numbered_get (s := .d x) (by rw [List.getElem?_map, hi]; rfl)
  exact ⟨i, d, h1, by cases h2; rfl⟩
section
variable {ws : List Str} {rs : List Row}
abbrev rE (ws : List Str) (rs : List Row) (o5 o6 o7 o8 o9 o10 : Option S) : Fw.Env := [some (.d (.fn 11)), some (.d (.str (webT ws rs))), some (.d (.str (lineP ws))), some (.d (.lst (strsD (rs.map lineR)))), some (.d (.str "posts")), o5, o6, o7, o8, o9, o10, none, none, none, none]
theorem rd_1 (f : Fine ws rs) : rd1 (start0 15 [.d (.fn 11), .d (.str (webT ws rs))]) [] = .nx [some (.d (.fn 11)), some (.d (.str (webT ws rs))), some (.d (.str (lineP ws))), some (.d (.lst (strsD (rs.map lineR)))), none, none, none, none, none, none, none, none, none, none, none] [] := by
  have sp := fun ms => split_web f (ms := ms)
  have sp : ∀ ms, gSplit (.d (.str (webT ws rs))) [.d (.str "\n")] ms = .ok (.d (.lst (.str (lineP ws) :: strsD (rs.map lineR)))) ms := sp
  have gs := fun gs env ms => gStar_lst (gs := gs) (x := .str (lineP ws)) (l := strsD (rs.map lineR)) (env := env) (ms := ms) (by have := f.rl; rw [strs_len, List.length_map]; omega)
  obtain ⟨T, hT⟩ : ∃ T, T = webT ws rs := ⟨_, rfl⟩
  rw [← hT] at sp ⊢
  simp [rd1, start0, sp, gs]
theorem rd_2 (f : Fine ws rs) : rd2 [some (.d (.fn 11)), some (.d (.str (webT ws rs))), some (.d (.str (lineP ws))), some (.d (.lst (strsD (rs.map lineR)))), none, none, none, none, none, none, none, none, none, none, none] [] = .nx (rE ws rs (some (.d (.lst (strsD ws)))) none none none none none) [] := by
  have sp := fun ms => split_posts f (ms := ms)
  have sp : ∀ ms, gSplit (.d (.str (lineP ws))) [.d (.str " ")] ms = .ok (.d (.lst (.str "posts" :: strsD ws))) ms := sp
  have gs := fun gs env ms => gStar_lst (gs := gs) (x := .str "posts") (l := strsD ws) (env := env) (ms := ms) (by have := f.wl; rw [strs_len]; omega)
  obtain ⟨T, hT⟩ : ∃ T, T = webT ws rs := ⟨_, rfl⟩
  rw [← hT]
  obtain ⟨U, hU⟩ : ∃ U, U = lineP ws := ⟨_, rfl⟩
  rw [← hU] at sp ⊢
  simp [rd2, sp, gs]
  exact ⟨hT, hU⟩
def goodL (ws : List Str) : List D := (numbered 0 (strsD ws)).map fun _ => .bl true
theorem rd_3 (f : Fine ws rs) : rd3 (rE ws rs (some (.d (.lst (strsD ws)))) none none none none none) [] = .nx (rE ws rs (some (.d (.lst (strsD ws)))) (some (.d (.lst (goodL ws)))) none none none none) [] := by
  have cm : mLc false (iEnu (aCons (mVar 5) (aNil))) (gUn 2 (gsCons (gSet 11) (gsCons (gSet 12) (gsNil)))) ((fun _ ms => .ok true ms)) (mAndV (mCallN (bndS f_is_name [0] []) (mLen 1 (aCons (mVar 12) (aNil)))) (mOp (gIn true) (mVar 12) (mSl (mVar 5) (pNo) (pAt (mVar 11))))) [11, 12] (rE ws rs (some (.d (.lst (strsD ws)))) none none none none none) [] = .ok (.d (.lst (goodL ws))) [] := by
    refine lc_all (fun _ => .bl true) (xs := numbered 0 (strsD ws)) rfl (fun x hx => ?_) (by rw [numbered_len, strs_len]; have := f.wl; omega)
    obtain ⟨j, d, hd, rfl⟩ := mem_numbered hx
    unfold strsD at hd
    rw [List.getElem?_map, Option.map_eq_some_iff] at hd
    obtain ⟨z, hz, rfl⟩ := hd
    have hj : j < ws.length := (List.getElem?_eq_some_iff.mp hz).1
    have hzj : ws[j] = z := (List.getElem?_eq_some_iff.mp hz).2
    have nm := is_name_str (f.wn z (List.mem_of_getElem? hz))
    have ni := fun ms => in_strs (z := z) (ws := ws.take j) (y := .lst (strsD (ws.take j))) (neg := true) (ms := ms) (.inr rfl)
    have no := take_no f.wd hj
    rw [hzj] at no
    rw [no] at ni
    have ct : cutD (strsD ws) none (some ((j : Nat) : Int)) = strsD (ws.take j) := by
      rw [cutD_pre (by omega), Int.toNat_natCast, strs_take]
    refine ⟨_, rfl, rfl, ?_⟩
    simp [wipeE, pick, nm, ct, ni]
  unfold rd3
  rw [ev_set, cm]
  rfl
theorem all_good (ws : List Str) : allD (goodL ws) = some (.bl true) := by
  unfold goodL
  have := allD_f (l := numbered 0 (strsD ws)) (f := fun _ => true)
  rw [this]
  simp
theorem rd_4 (f : Fine ws rs) : rd4 (rE ws rs (some (.d (.lst (strsD ws)))) (some (.d (.lst (goodL ws)))) none none none none) [] = .nx (rE ws rs (some (.d (.lst (strsD ws)))) (some (.d (.lst (goodL ws)))) none none none none) [] := by
  have hp : ws.length ≠ 0 := fun h => f.ne (List.length_eq_zero_iff.mp h)
  have hp2 : ¬ ((ws.length : Nat) : Int) = 0 := by omega
  have ag := all_good ws
  simp [rd4, ag, hp, hp2, f.ne]
theorem rd_5 {o8 o9 o10 : Option S} : rd5 (rE ws rs (some (.d (.lst (strsD ws)))) (some (.d (.lst (goodL ws)))) none o8 o9 o10) [] = .nx (rE ws rs (some (.d (.lst (strsD ws)))) (some (.d (.lst (goodL ws)))) (some (.loc 0)) o8 o9 o10) [.lst (rowsD [])] := by
  simp [rd5, newL, rowsD]
end
end Ga
set_option Elab.async false
set_option linter.all false
set_option maxRecDepth 100000
set_option maxHeartbeats 1000000
/-! Y9: the whole text read. -/
namespace Ga
open PySem L2 Fw
noncomputable def rdB : Fw.Env → Ms → T := sCons (sSet 10 (mCallN (bndS f_read_tie [0, 1, 2] []) (mLen 3 (aCons (mVar 9) (aCons (mVar 5) (aCons (mLc false (iSeq (mVar 7)) (gStar (gsCons (gSet 13) (gsCons (gSet 14) (gsNil)))) ((fun _ ms => .ok true ms)) (mVar 13) [13, 14]) (aNil)))))))
 (sCons (sIf (mB (mOp (gIsN false) (mVar 10) (mC (.d .non)))) (sRaise 3 1 (mLen 1 (aCons (mVar 8) (aNil)))) (sNil))
 (sExpr (mBM .list gAppend (mVar 7) (aCons (mVar 10) (aNil)))))
theorem rd6_is : rd6 = sFor (iEnuS (mApp 1 1 (aCons (mVar 3) (aNil)) (aCons (mC (.d (.int 1))) (aNil)))) (gUn 2 (gsCons (gSet 8) (gsCons (gSet 9) (gsNil)))) rdB := rfl
def firstD : D → D
  | .tup (x :: _) => x
  | _ => .non
section
variable {ws : List Str} {rs : List Row}
theorem rdB_ok (f : Fine ws rs) {i : Nat} {r : Row} (hr : rs[i]? = some r) {o6 o10 : Option S} {k : Int} :
    rdB (rE ws rs (some (.d (.lst (strsD ws)))) o6 (some (.loc 0)) (some (.d (.int k))) (some (.d (.str (lineR r)))) o10) [.lst (rowsD (rs.take i))] = .nx (rE ws rs (some (.d (.lst (strsD ws)))) o6 (some (.loc 0)) (some (.d (.int k))) (some (.d (.str (lineR r)))) (some (.d (rowD r)))) [.lst (rowsD (rs.take (i + 1)))] := by
  have hi : i < rs.length := (List.getElem?_eq_some_iff.mp hr).1
  have hri : rs[i] = r := (List.getElem?_eq_some_iff.mp hr).2
  have hm : r ∈ rs := List.mem_of_getElem? hr
  have nm : ((rs.take i).map Row.t).contains r.t = false := by
    have := take_no f.td (i := i) (by rw [List.length_map]; exact hi)
    rw [List.getElem_map, hri, ← List.map_take] at this
    exact this
  have rt := read_tie_ok f hm nm
  have cm : mLc false (iSeq (mVar 7)) (gStar (gsCons (gSet 13) (gsCons (gSet 14) (gsNil)))) ((fun _ ms => .ok true ms)) (mVar 13) [13, 14] (rE ws rs (some (.d (.lst (strsD ws)))) o6 (some (.loc 0)) (some (.d (.int k))) (some (.d (.str (lineR r)))) o10) [.lst (rowsD (rs.take i))] = .ok (.d (.lst (strsD ((rs.take i).map Row.t)))) [.lst (rowsD (rs.take i))] := by
    have e : strsD ((rs.take i).map Row.t) = (rowsD (rs.take i)).map firstD := by
      unfold strsD rowsD
      rw [List.map_map, List.map_map]
      rfl
    rw [e]
    refine lc_allK firstD (n := 0) (c := .lst (rowsD (rs.take i))) (it_loc rfl rfl) rfl (fun x hx => ?_) (by have := f.rl; rw [rows_len, List.length_take]; omega)
    obtain ⟨q, hq, rfl⟩ := List.mem_map.mp hx
    unfold rowD
    refine ⟨_, by rw [gStar_tup (by simp)]; rfl, ?_⟩
    rfl
  obtain ⟨NM, hNM⟩ : ∃ NM, NM = (rs.take i).map Row.t := ⟨_, rfl⟩
  rw [← hNM] at rt cm
  have ap : gAppend (.loc 0) [.d (rowD r)] [.lst (rowsD (rs.take i))] = .ok (.d .non) [.lst (rowsD (rs.take (i + 1)))] := by
    have := append_loc (ms := [.lst (rowsD (rs.take i))]) (n := 0) (l := rowsD (rs.take i)) (y := rowD r) rfl (by have := f.rl; rw [rows_len, List.length_take]; omega)
    rw [this]
    have e : rs.take (i + 1) = rs.take i ++ [r] := by
      rw [List.take_add_one, hr]; rfl
    rw [e]
    simp [rowsD]
  have n1 : ∀ ms, gIsN false (.d (rowD r)) (.d .non) ms = .ok (.d (.bl false)) ms := fun ms => rfl
  have cl : (mCallN (bndS f_read_tie [0, 1, 2] []) (mLen 3 (aCons (mVar 9) (aCons (mVar 5) (aCons (mLc false (iSeq (mVar 7)) (gStar (gsCons (gSet 13) (gsCons (gSet 14) (gsNil)))) ((fun _ ms => .ok true ms)) (mVar 13) [13, 14]) (aNil)))))) (rE ws rs (some (.d (.lst (strsD ws)))) o6 (some (.loc 0)) (some (.d (.int k))) (some (.d (.str (lineR r)))) o10) [.lst (rowsD (rs.take i))] = .ok (.d (rowD r)) [.lst (rowsD (rs.take i))] := by
    have v9 : mVar 9 (rE ws rs (some (.d (.lst (strsD ws)))) o6 (some (.loc 0)) (some (.d (.int k))) (some (.d (.str (lineR r)))) o10) [.lst (rowsD (rs.take i))] = .ok (.d (.str (lineR r))) [.lst (rowsD (rs.take i))] := rfl
    have v5 : mVar 5 (rE ws rs (some (.d (.lst (strsD ws)))) o6 (some (.loc 0)) (some (.d (.int k))) (some (.d (.str (lineR r)))) o10) [.lst (rowsD (rs.take i))] = .ok (.d (.lst (strsD ws))) [.lst (rowsD (rs.take i))] := rfl
    rw [ev_callN, ev_len, ev_aCons, v9, bind_ok, ev_aCons, v5, bind_ok, ev_aCons, cm, bind_ok, ev_aNil]
    simp only [bind_ok, lenIs_ev, List.length_cons, List.length_nil, bnd_ev, if_true]
    simp [pick, rt]
  unfold rdB
  rw [ev_cons, ev_set, cl, ofE_ok]
  simp only [List.set_cons_succ, List.set_cons_zero, seq_nx]
  have t1 : tyS .list (.loc 0) [.lst (rowsD (rs.take i))] = true := rfl
  simp [n1, ap]
theorem rd_6 (f : Fine ws rs) {o6 : Option S} : Nx (rd6 (rE ws rs (some (.d (.lst (strsD ws)))) o6 (some (.loc 0)) none none none) [.lst (rowsD [])]) (fun e m => ∃ o8 o9 o10, e = rE ws rs (some (.d (.lst (strsD ws)))) o6 (some (.loc 0)) o8 o9 o10 ∧ m = [.lst (rowsD rs)]) := by
  rw [rd6_is]
  refine Nx_mono (Nx_forI (P := fun i e m => ∃ o8 o9 o10, e = rE ws rs (some (.d (.lst (strsD ws)))) o6 (some (.loc 0)) o8 o9 o10 ∧ m = [.lst (rowsD (rs.take i))]) (xs := (numbered 1 (strsD (rs.map lineR))).map S.d) (ms1 := [.lst (rowsD [])]) rfl ⟨_, _, _, rfl, rfl⟩ ?_) ?_
  · rintro i x hx e m ⟨o8, o9, o10, rfl, rfl⟩
    obtain ⟨d, hd, rfl⟩ := numbered_get hx
    unfold strsD at hd
    rw [List.map_map, List.getElem?_map, Option.map_eq_some_iff] at hd
    obtain ⟨r, hr, rfl⟩ := hd
    exact ⟨_, rfl, _, _, rdB_ok f hr, _, _, _, rfl, rfl⟩
  · rintro e m ⟨o8, o9, o10, rfl, rfl⟩
    refine ⟨o8, o9, o10, rfl, ?_⟩
    rw [List.length_map, numbered_len, strs_len, List.length_map, List.take_length]
theorem web_read_ok (f : Fine ws rs) (hp : Dat (.tup (strsD ws))) (ht : Dat (.tup (rowsZ (rs.map toZ)))) (hw : webO ws (rs.map toZ) = none) : ∃ r, f_Web_read [.d (.fn 11), .d (.str (webT ws rs))] [] = .ok (.d (webX ws (rs.map toZ))) r := by
  obtain ⟨e, m, he, o8, o9, o10, rfl, rfl⟩ := rd_6 f (o6 := some (.d (.lst (goodL ws))))
  refine ⟨[.lst (rowsD rs)], ?_⟩
  unfold f_Web_read
  rw [fn_ev]
  have mk := fun ms => mk_web hp ht hw (ms := ms)
  have ct : cTup [.loc 0] [.lst (rowsD rs)] = .ok (.d (.tup (rowsD rs))) [.lst (rowsD rs)] := cTup_loc rfl
  rw [← rows_toZ] at mk
  have last : rd7 (rE ws rs (some (.d (.lst (strsD ws)))) (some (.d (.lst (goodL ws)))) (some (.loc 0)) o8 o9 o10) [.lst (rowsD rs)] = .rt (.d (webX ws (rs.map toZ))) [.lst (rowsD rs)] := by
    obtain ⟨X, hX⟩ : ∃ X, X = webX ws (rs.map toZ) := ⟨_, rfl⟩
    rw [← hX] at mk ⊢
    simp [rd7, mCallV, List.lookup, ct, mk]
  rw [rd_eq, ev_cons, rd_1 f, seq_nx, ev_cons, rd_2 f, seq_nx, ev_cons, rd_3 f, seq_nx, ev_cons, rd_4 f, seq_nx, ev_cons, rd_5, seq_nx, ev_cons, he, seq_nx, last]
  rfl
end
end Ga
set_option Elab.async false
set_option linter.all false
set_option maxRecDepth 100000
set_option maxHeartbeats 1000000
/-! Y10: equal webs, equal texts. -/
namespace Ga
open PySem L2 Fw
theorem toPs_strs : ∀ ws : List Str, toPs (strsD ws) = some (ws.map PyData.str)
  | [] => rfl
  | z :: ws => by
    show (toP (.str z)).bind (fun p => (toPs (strsD ws)).map (p :: ·)) = _
    rw [toPs_strs ws]; rfl
theorem eqv_strs : ∀ ws ws' : List Str, PyData.eqvAll (ws.map PyData.str) (ws'.map PyData.str) = true ↔ ws = ws'
  | [], [] => by simp [PyData.eqvAll]
  | [], _ :: _ => by simp [PyData.eqvAll]
  | _ :: _, [] => by simp [PyData.eqvAll]
  | a :: ws, b :: ws' => by
    have ih := eqv_strs ws ws'
    simp only [List.map_cons, PyData.eqvAll, PyData.eqv, Bool.and_eq_true, beq_iff_eq, ih, List.cons.injEq]
def rowP (r : Row) : PyData := .tuple [.str r.t, .str r.p, .str r.q, .int (r.lo : Nat), .int (r.hi : Nat)]
theorem toPs_rows : ∀ rs : List Row, toPs (rowsD rs) = some (rs.map rowP)
  | [] => rfl
  | r :: rs => by
    show (toP (rowD r)).bind (fun p => (toPs (rowsD rs)).map (p :: ·)) = _
    rw [toPs_rows rs]; rfl
theorem eqv_row (a b : Row) : PyData.eqv (rowP a) (rowP b) = true ↔ a = b := by
  obtain ⟨t, p, q, lo, hi⟩ := a
  obtain ⟨t', p', q', lo', hi'⟩ := b
  simp only [rowP, PyData.eqv, PyData.eqvAll, Bool.and_eq_true, beq_iff_eq, Row.mk.injEq]
  constructor
  · rintro ⟨a, b, c, d, e, _⟩; exact ⟨a, b, c, by omega, by omega⟩
  · rintro ⟨a, b, c, d, e⟩; exact ⟨a, b, c, by omega, by omega, trivial⟩
theorem eqv_rows : ∀ rs rs' : List Row, PyData.eqvAll (rs.map rowP) (rs'.map rowP) = true ↔ rs = rs'
  | [], [] => by simp [PyData.eqvAll]
  | [], _ :: _ => by simp [PyData.eqvAll]
  | _ :: _, [] => by simp [PyData.eqvAll]
  | a :: rs, b :: rs' => by
    have ih := eqv_rows rs rs'
    have h := eqv_row a b
    simp only [List.map_cons, PyData.eqvAll, Bool.and_eq_true, ih, h, List.cons.injEq]
theorem eqD_strs {ws ws' : List Str} : eqD (.tup (strsD ws)) (.tup (strsD ws')) = true ↔ ws = ws' := by
  unfold eqD
  simp only [toP, toPs_strs, Option.map_some, PyData.eqv]
  exact eqv_strs ws ws'
theorem eqD_rows {rs rs' : List Row} : eqD (.tup (rowsD rs)) (.tup (rowsD rs')) = true ↔ rs = rs' := by
  unfold eqD
  simp only [toP, toPs_rows, Option.map_some, PyData.eqv]
  exact eqv_rows rs rs'
/-- a web of the law -/
structure Web1 (ws : List Str) (rs : List Row) : Prop where
  f : Fine ws rs
  ok : webO ws (rs.map toZ) = none
  cv : CV (10 ^ 30) 20 3 3500 (prD (strsD ws) (rowsD rs))
section
variable {ws ws' : List Str} {rs rs' : List Row}
theorem web1_dat (h : Web1 ws rs) : Dat (prD (strsD ws) (rowsD rs)) ∧ Cln (prD (strsD ws) (rowsD rs)) := qd_dat (I := 10 ^ 30) (T := 20) (by decide) (by decide) _ h.cv.q (Nat.le_trans h.cv.sh (by decide))
theorem web1_p (h : Web1 ws rs) : Dat (.tup (strsD ws)) := (web1_dat h).1.2.1
theorem web1_t (h : Web1 ws rs) : Dat (.tup (rowsD rs)) := (web1_dat h).1.2.2.1
theorem web1_tz (h : Web1 ws rs) : Dat (.tup (rowsZ (rs.map toZ))) := by rw [← rows_toZ]; exact web1_t h
theorem strs_inj : ∀ {a b : List Str}, strsD a = strsD b → a = b := fun {a b} h => by
  have e1 := toPs_strs a
  rw [h, toPs_strs b] at e1
  exact ((eqv_strs a b).mp (by rw [← Option.some.inj e1]; exact (eqv_strs b b).mpr rfl))
theorem rows_inj : ∀ {a b : List Row}, rowsD a = rowsD b → a = b := fun {a b} h => by
  have e1 := toPs_rows a
  rw [h, toPs_rows b] at e1
  exact ((eqv_rows a b).mp (by rw [← Option.some.inj e1]; exact (eqv_rows b b).mpr rfl))
theorem text_inj (h : Web1 ws rs) (h' : Web1 ws' rs') (e : webT ws' rs' = webT ws rs) : ws' = ws ∧ rs' = rs := by
  obtain ⟨r, e1⟩ := web_read_ok h.f (web1_p h) (web1_tz h) h.ok
  obtain ⟨r', e2⟩ := web_read_ok h'.f (web1_p h') (web1_tz h') h'.ok
  rw [e, e1] at e2
  injection e2 with e3 _
  injection e3 with e3
  unfold webX at e3
  injection e3 with _ e4
  injection e4 with e5 e6
  injection e6 with e7 _
  injection e5 with e5
  injection e7 with e7
  rw [← rows_toZ, ← rows_toZ] at e7
  exact ⟨strs_inj e5.symm, rows_inj e7.symm⟩
theorem text_eq (h : Web1 ws rs) (h' : Web1 ws' rs') : (webT ws' rs' == webT ws rs) = (eqD (.tup (strsD ws')) (.tup (strsD ws)) && eqD (.tup (rowsD rs')) (.tup (rowsD rs))) := by
  rw [Bool.eq_iff_iff, beq_iff_eq, Bool.and_eq_true, eqD_strs, eqD_rows]
  exact ⟨fun e => text_inj h h' e, fun ⟨a, b⟩ => by rw [a, b]⟩
end
end Ga
set_option Elab.async false
set_option linter.all false
set_option maxRecDepth 100000
set_option maxHeartbeats 1000000
/-! Y11: one web of the law: its text, its reading. -/
namespace Ga
open PySem L2 Fw
noncomputable def tb1 : Fw.Env → Ms → T :=
 sAsg (gUn 2 (gsCons (gSet 6) (gsCons (gSet 7) (gsNil)))) (mTup (aCons (mCallN (mkS 11 (fld 11) (bndS f_Web_init [0, 1, 2] [])) (mLen 2 (aCons (mVar 4) (aCons (mVar 5) (aNil))))) (aCons (mCallN (bndS f__law_shown [0, 1] []) (mLen 2 (aCons (mVar 4) (aCons (mVar 5) (aNil))))) (aNil))))
noncomputable def tb2 : Fw.Env → Ms → T :=
 sIf (mB (mOp (gEq true) (mB1 (c1 reprD) (aCons (mB1 (cOr (c1 strD) (cOwn [(11, bndS f_Web_str [0] [])])) (aCons (mVar 6) (aNil))) (aNil))) (mB1 (c1 reprD) (aCons (mVar 7) (aNil))))) (sRet (mC (.d (.bl false)))) (sNil)
noncomputable def tb3 : Fw.Env → Ms → T :=
 sSet 8 (mCMeth [(11, bndS f_Web_read [0, 1] [])] (mC (.d (.fn 11))) (mLen 1 (aCons (mVar 7) (aNil))))
noncomputable def tb4 : Fw.Env → Ms → T :=
 sIf (mOr (mNot (mB (mB1 (cIsi [10, 11] [11] subT) (aCons (mVar 8) (aCons (mC (.d (.fn 11))) (aNil)))))) (mOr (mB (mOp (gEq true) (mB1 (c1 reprD) (aCons (mTup (aCons (mAttr "posts" [(11, propG 11 (bndS f_Web_posts [0] []))] (mVar 8)) (aCons (mAttr "ties" [(11, propG 11 (bndS f_Web_ties [0] []))] (mVar 8)) (aNil)))) (aNil))) (mB1 (c1 reprD) (aCons (mTup (aCons (mVar 4) (aCons (mVar 5) (aNil)))) (aNil))))) (mB (mOp (gOr (gEq true) (gNeO [11] [(11, bndS f_Web_eq [0, 1] [])])) (mVar 8) (mVar 6))))) (sRet (mC (.d (.bl false)))) (sNil)
noncomputable def tb5 : Fw.Env → Ms → T :=
 sIf (mB (mOp (gEq true) (mLc false (iSeq (mVar 1)) (gSet 9) (mB (mOp (gEq true) (mOp (gEq false) (mB1 (cOr (c1 strD) (cOwn [(11, bndS f_Web_str [0] [])])) (aCons (mCallN (mkS 11 (fld 11) (bndS f_Web_init [0, 1, 2] [])) (mLen 2 (aCons (mOp gIx (mVar 9) (mC (.d (.int 0)))) (aCons (mOp gIx (mVar 9) (mC (.d (.int 1)))) (aNil))))) (aNil))) (mVar 7)) (mOp (gEq false) (mVar 9) (mTup (aCons (mVar 4) (aCons (mVar 5) (aNil))))))) (mC (.d (.int 1))) [9]) (mLst (aNil)))) (sRet (mC (.d (.bl false)))) (sNil)
noncomputable def tbB : Fw.Env → Ms → T := sCons tb1 (sCons tb2 (sCons tb3 (sCons tb4 tb5)))
noncomputable def wbB : Fw.Env → Ms → T := sCons (sSet 3 (mCallN (bndS f__law_feed [0, 1] []) (mLen 2 (aCons (mVar 0) (aCons (mVar 2) (aNil))))))
 (sExpr (mBM .list gAppend (mVar 1) (aCons (mCallN (bndS f__law_web [0, 1, 2, 3] []) (mLen 4 (aCons (mVar 3) (aCons (mOp gAdd (mC (.d (.int 1))) (mCallN (bndS f__law_take [0, 1] []) (mLen 2 (aCons (mVar 3) (aCons (mC (.d (.int 10))) (aNil)))))) (aCons (mCallN (bndS f__law_take [0, 1] []) (mLen 2 (aCons (mVar 3) (aCons (mC (.d (.int 21))) (aNil))))) (aCons (mOp gIx (mLst (aCons (mC (.d (.int 9))) (aCons (mC (.d (.int 1000))) (aNil)))) (mCallN (bndS f__law_take [0, 1] []) (mLen 2 (aCons (mVar 3) (aCons (mC (.d (.int 2))) (aNil)))))) (aNil))))))) (aNil))))
theorem law_eq : m_law = sCons (sSet 1 (mNew (aNil))) (sCons (sFor (iRng1 (aCons (mB1 (c2 maxI) (aCons (mC (.d (.int 2))) (aCons (mB1 (c2 minI) (aCons (mC (.d (.int 6))) (aCons (mB1 (c1 lenD) (aCons (mVar 0) (aNil))) (aNil)))) (aNil)))) (aNil))) (gSet 2) wbB) (sCons (sFor (iSeq (mOp gAddA (mVar 1) (mSl (mVar 1) (pNo) (pAt (mC (.d (.int 1))))))) (gUn 2 (gsCons (gSet 4) (gsCons (gSet 5) (gsNil)))) tbB) (sRet (mC (.d (.bl true)))))) := rfl
abbrev tE (s0 : S) (o2 o3 : Option S) (ws : List Str) (rs : List Row) (o6 o7 o8 o9 : Option S) : Fw.Env := [some s0, some (.loc 0), o2, o3, some (.d (.tup (strsD ws))), some (.d (.tup (rowsD rs))), o6, o7, o8, o9]
section
variable {ws : List Str} {rs : List Row} {s0 : S} {o2 o3 o6 o7 o8 o9 : Option S} {ms : Ms}
theorem text_fit (h : Web1 ws rs) {ms : Ms} : Fw.c1 reprD [.d (.str (webT ws rs))] ms = .ok (.d (.str (reprO (.str (webT ws rs))))) ms := by
  have L := fine_lens h.f
  have lt : (webT ws rs).length ≤ 8000 := Nat.le_trans (join_len _) L.jw
  have ch : ∀ c ∈ TL.tl (webT ws rs), clnB c = true := fun c hc => by
    have key : c = 10 ∨ c = 32 ∨ (46 ≤ c ∧ c ≤ 122) := by
      rcases mem_join hc with z | ⟨p, hp, z⟩
      · rw [tl_nl] at z; exact .inl (by simpa using z)
      · rcases List.mem_cons.mp hp with rfl | hp
        · exact .inr (lineP_signs h.f c z)
        · obtain ⟨r, hr, rfl⟩ := List.mem_map.mp hp
          exact .inr (lineR_signs h.f hr c z)
    unfold clnB
    simp only [Bool.or_eq_true, Bool.and_eq_true, decide_eq_true_eq]
    omega
  refine repr_dat (d := .str (webT ws rs)) ⟨fun c hc => ?_, by omega⟩ (List.all_eq_true.mpr ch) (Nat.zero_le _) (by show 2 * _ + 2 ≤ _; omega)
  have := cln_lt (ch c hc); omega
theorem own_str (h : Web1 ws rs) {ms : Ms} : Fw.cOr (Fw.c1 strD) (cOwn [(11, bndS f_Web_str [0] [])]) [.d (webX ws (rs.map toZ))] ms = .ok (.d (.str (webT ws rs))) ms := by
  obtain ⟨r, e⟩ := str_run h.f
  unfold Fw.cOr
  rw [show Fw.c1 strD [.d (webX ws (rs.map toZ))] ms = .bad from rfl]
  dsimp only
  unfold cOwn
  simp only [List.lookup, beq_self_eq_true]
  simp [pick, e, asStr]
theorem tb_1 (h : Web1 ws rs) : tb1 (tE s0 o2 o3 ws rs o6 o7 o8 o9) ms = .nx (tE s0 o2 o3 ws rs (some (.d (webX ws (rs.map toZ)))) (some (.d (.str (webT ws rs)))) o8 o9) ms := by
  have mk := fun ms => mk_web (web1_p h) (web1_tz h) h.ok (ms := ms)
  rw [← rows_toZ] at mk
  obtain ⟨r, sh⟩ := shown_run h.f
  obtain ⟨X, hX⟩ : ∃ X, X = webX ws (rs.map toZ) := ⟨_, rfl⟩
  have mk : ∀ ms, mkS 11 (fld 11) (bndS f_Web_init [0, 1, 2] []) [.d (.tup (strsD ws)), .d (.tup (rowsD rs))] ms = .ok (.d X) ms := fun ms => by
    rw [mk, hX]
  rw [← hX]
  obtain ⟨T, hT⟩ : ∃ T, T = webT ws rs := ⟨_, rfl⟩
  rw [← hT] at sh ⊢
  simp [tb1, pick, mk, sh]
theorem tb_2 (h : Web1 ws rs) : tb2 (tE s0 o2 o3 ws rs (some (.d (webX ws (rs.map toZ)))) (some (.d (.str (webT ws rs)))) o8 o9) ms = .nx (tE s0 o2 o3 ws rs (some (.d (webX ws (rs.map toZ)))) (some (.d (.str (webT ws rs)))) o8 o9) ms := by
  have os := fun ms => own_str h (ms := ms)
  have rp := fun ms => text_fit h (ms := ms)
  obtain ⟨X, hX⟩ : ∃ X, X = webX ws (rs.map toZ) := ⟨_, rfl⟩
  rw [← hX] at os ⊢
  obtain ⟨T, hT⟩ : ∃ T, T = webT ws rs := ⟨_, rfl⟩
  rw [← hT] at os rp ⊢
  simp [tb2, os, rp]
theorem tb_3 (h : Web1 ws rs) : tb3 (tE s0 o2 o3 ws rs (some (.d (webX ws (rs.map toZ)))) (some (.d (.str (webT ws rs)))) o8 o9) ms = .nx (tE s0 o2 o3 ws rs (some (.d (webX ws (rs.map toZ)))) (some (.d (.str (webT ws rs)))) (some (.d (webX ws (rs.map toZ)))) o9) ms := by
  obtain ⟨r, rd⟩ := web_read_ok h.f (web1_p h) (web1_tz h) h.ok
  obtain ⟨X, hX⟩ : ∃ X, X = webX ws (rs.map toZ) := ⟨_, rfl⟩
  rw [← hX] at rd ⊢
  obtain ⟨T, hT⟩ : ∃ T, T = webT ws rs := ⟨_, rfl⟩
  rw [← hT] at rd ⊢
  simp [tb3, mCMeth, List.lookup, pick, rd]
theorem web_self (h : Web1 ws rs) {ms : Ms} : gOr (gEq true) (gNeO [11] [(11, bndS f_Web_eq [0, 1] [])]) (.d (webX ws (rs.map toZ))) (.d (webX ws (rs.map toZ))) ms = .ok (.d (.bl false)) ms := by
  have d1 : deepD (.tup (strsD ws)) ≤ 60 := by
    have := h.cv.deep
    have e : deepD (prD (strsD ws) (rowsD rs)) = max (deepD (.tup (strsD ws))) (max (deepD (.tup (rowsD rs))) 0) + 1 := rfl
    omega
  have d2 : deepD (.tup (rowsZ (rs.map toZ))) ≤ 60 := by
    rw [← rows_toZ]
    have := h.cv.deep
    have e : deepD (prD (strsD ws) (rowsD rs)) = max (deepD (.tup (strsD ws))) (max (deepD (.tup (rowsD rs))) 0) + 1 := rfl
    omega
  have e := web_eq_ok (web1_p h) (web1_tz h) (web1_p h) (web1_tz h) d1 d2 d1 d2
  rw [← rows_toZ, eqD_strs.mpr rfl, eqD_rows.mpr rfl] at e
  unfold gOr
  rw [show gEq true (.d (webX ws (rs.map toZ))) (.d (webX ws (rs.map toZ))) ms = .bad from rfl]
  dsimp only
  have e2 : gEqO [11] [(11, bndS f_Web_eq [0, 1] [])] (.d (webX ws (rs.map toZ))) (.d (webX ws (rs.map toZ))) ms = .ok (.d (.bl true)) ms := by
    show asBl (callSem f_Web_eq (pick [0, 1] ([.d (webX ws (rs.map toZ)), .d (webX ws (rs.map toZ))] ++ [])) ms) = _
    simp [pick, e, asBl]
  unfold gNeO
  rw [e2]; rfl
theorem tb_4 (h : Web1 ws rs) : tb4 (tE s0 o2 o3 ws rs (some (.d (webX ws (rs.map toZ)))) (some (.d (.str (webT ws rs)))) (some (.d (webX ws (rs.map toZ)))) o9) ms = .nx (tE s0 o2 o3 ws rs (some (.d (webX ws (rs.map toZ)))) (some (.d (.str (webT ws rs)))) (some (.d (webX ws (rs.map toZ)))) o9) ms := by
  obtain ⟨dd, cc⟩ := web1_dat h
  have rp : ∀ ms, Fw.c1 reprD [.d (.tup [.tup (strsD ws), .tup (rowsD rs)])] ms = .ok (.d (.str (reprO (prD (strsD ws) (rowsD rs))))) ms := fun ms => repr_dat dd cc (Nat.le_trans h.cv.deep (by decide)) (Nat.le_trans h.cv.sh (by decide))
  have ns := fun ms => web_self h (ms := ms)
  have is : ∀ ms, cIsi [10, 11] [11] subT [.d (webX ws (rs.map toZ)), .d (.fn 11)] ms = .ok (.d (.bl true)) ms := fun ms => rfl
  have a1 : f_Web_posts [.d (webX ws (rs.map toZ))] [] = .ok (.d (.tup (strsD ws))) [] := rfl
  have a2 : f_Web_ties [.d (webX ws (rs.map toZ))] [] = .ok (.d (.tup (rowsD rs))) [] := by rw [rows_toZ]; rfl
  have p1 : ∀ ms, propG 11 (bndS f_Web_posts [0] []) [.tup (strsD ws), .tup (rowsZ (rs.map toZ))] ms = .ok (.d (.tup (strsD ws))) ms := fun ms => by
    unfold propG
    simp [pick, a1, noEx]
  have p2 : ∀ ms, propG 11 (bndS f_Web_ties [0] []) [.tup (strsD ws), .tup (rowsZ (rs.map toZ))] ms = .ok (.d (.tup (rowsD rs))) ms := fun ms => by
    unfold propG
    simp [pick, a2, noEx]
  obtain ⟨RP, hRP⟩ : ∃ RP, RP = reprO (prD (strsD ws) (rowsD rs)) := ⟨_, rfl⟩
  rw [← hRP] at rp
  simp [tb4, is, mAttr, List.lookup, p1, p2, rp, ns, noEx]
end
end Ga
set_option Elab.async false
set_option linter.all false
set_option maxRecDepth 100000
set_option maxHeartbeats 1000000
/-! Y12: different webs have different texts; a web drawn. -/
namespace Ga
open PySem L2 Fw
@[simp] theorem atI_two {a b : D} : L2.atI [a, b] 1 = some b := by simp [L2.atI, L2.ixN]
abbrev scrD (ns : List Int) : S := .d (.frz (ns.map .int))
def GoodD (d : D) : Prop := ∃ (ws : List Str) (rs : List Row), Web1 ws rs ∧ d = prD (strsD ws) (rowsD rs)
theorem comp_noneK {g : S → Fw.Env → Ms → Option Fw.Env} {tt : Fw.Env → Ms → R Bool} {elt : Fw.Env → Ms → R S} {vs : List Nat} {env : Fw.Env} {ms : Ms} {n : Nat} {c : Cell} (hk : ms[n]? = some c) : ∀ (xs : List D) (acc : List D),
    (∀ x ∈ xs, ∃ e1, g (.d x) (wipeE env vs) ms = some e1 ∧ tt e1 ms = .ok false ms) → compL (some (n, c)) g tt elt vs env (xs.map S.d) acc ms = .ok acc ms
  | [], acc, _ => by simp [compL, chk, hk]
  | x :: xs, acc, hx => by
    obtain ⟨e1, h1, h2⟩ := hx x List.mem_cons_self
    have ih := comp_noneK (g := g) (tt := tt) (elt := elt) (vs := vs) (env := env) hk xs acc (fun y hy => hx y (List.mem_cons_of_mem _ hy))
    simp only [List.map_cons, compL, chk, hk, if_true, h1, h2, bind_ok]
    exact ih
theorem lc_noneK {mi : MI} {g : S → Fw.Env → Ms → Option Fw.Env} {tt : Fw.Env → Ms → R Bool} {elt : Fw.Env → Ms → R S} {vs : List Nat} {env : Fw.Env} {ms : Ms} {n : Nat} {c : Cell} {xs : List D} (hi : mi env ms = .ok (xs.map S.d, some (n, c)) ms) (hk : ms[n]? = some c)
    (hx : ∀ x ∈ xs, ∃ e1, g (.d x) (wipeE env vs) ms = some e1 ∧ tt e1 ms = .ok false ms) : mLc false mi g tt elt vs env ms = .ok (.d (.lst [])) ms := by
  unfold mLc
  rw [hi]
  simp only [bind_ok]
  rw [comp_noneK hk xs [] hx]
  rfl
section
variable {ws : List Str} {rs : List Row} {s0 : S} {o2 o3 o6 o7 o8 o9 : Option S} {rest : Ms} {L : List D}
theorem web1_deep (h : Web1 ws rs) : deepD (prD (strsD ws) (rowsD rs)) ≤ 60 := Nat.le_trans h.cv.deep (by decide)
theorem tb_5 (h : Web1 ws rs) (hL : ∀ d ∈ L, GoodD d) : tb5 (tE s0 o2 o3 ws rs o6 (some (.d (.str (webT ws rs)))) o8 o9) (.lst L :: rest) = .nx (tE s0 o2 o3 ws rs o6 (some (.d (.str (webT ws rs)))) o8 o9) (.lst L :: rest) := by
  have cm : mLc false (iSeq (mVar 1)) (gSet 9) (mB (mOp (gEq true) (mOp (gEq false) (mB1 (Fw.cOr (Fw.c1 strD) (cOwn [(11, bndS f_Web_str [0] [])])) (aCons (mCallN (mkS 11 (fld 11) (bndS f_Web_init [0, 1, 2] [])) (mLen 2 (aCons (mOp gIx (mVar 9) (mC (.d (.int 0)))) (aCons (mOp gIx (mVar 9) (mC (.d (.int 1)))) (aNil))))) (aNil))) (mVar 7)) (mOp (gEq false) (mVar 9) (mTup (aCons (mVar 4) (aCons (mVar 5) (aNil))))))) (mC (.d (.int 1))) [9] (tE s0 o2 o3 ws rs o6 (some (.d (.str (webT ws rs)))) o8 o9) (.lst L :: rest) = .ok (.d (.lst [])) (.lst L :: rest) := by
    refine lc_noneK (n := 0) (c := .lst L) (xs := L) (it_loc rfl rfl) rfl fun x hx => ?_
    obtain ⟨ws', rs', h', rfl⟩ := hL x hx
    refine ⟨_, rfl, ?_⟩
    obtain ⟨B, hB⟩ : ∃ B, B = (webT ws' rs' == webT ws rs) := ⟨_, rfl⟩
    have mk := fun ms => mk_web (web1_p h') (web1_tz h') h'.ok (ms := ms)
    rw [← rows_toZ] at mk
    have os := fun ms => own_str h' (ms := ms)
    have g1 : ∀ ms, gEq false (.d (.str (webT ws' rs'))) (.d (.str (webT ws rs))) ms = .ok (.d (.bl B)) ms := fun ms => by rw [eqSS, hB]; rfl
    have g2 : ∀ ms, gEq false (.d (.tup [.tup (strsD ws'), .tup (rowsD rs')])) (.d (.tup [.tup (strsD ws), .tup (rowsD rs)])) ms = .ok (.d (.bl B)) ms := fun ms => by
      rw [eq_tups (web1_dat h').1 (web1_dat h).1 (web1_deep h') (web1_deep h), eq_pair (web1_p h') (web1_t h') (web1_p h) (web1_t h), hB, text_eq h h']
    have g3 : ∀ ms, gEq true (.d (.bl B)) (.d (.bl B)) ms = .ok (.d (.bl false)) ms := fun ms => by cases B <;> rfl
    obtain ⟨X, hX⟩ : ∃ X, X = webX ws' (rs'.map toZ) := ⟨_, rfl⟩
    have mk : ∀ ms, mkS 11 (fld 11) (bndS f_Web_init [0, 1, 2] []) [.d (.tup (strsD ws')), .d (.tup (rowsD rs'))] ms = .ok (.d X) ms := fun ms => by rw [mk, hX]
    rw [← hX] at os
    obtain ⟨T', hT'⟩ : ∃ T', T' = webT ws' rs' := ⟨_, rfl⟩
    rw [← hT'] at os g1
    obtain ⟨T, hT⟩ : ∃ T, T = webT ws rs := ⟨_, rfl⟩
    rw [← hT] at g1 ⊢
    simp [-eqSS, wipeE, mk, os, g1, g2, g3]
  have e0 : ∀ ms, gEq true (.d (.lst [])) (.d (.lst [])) ms = .ok (.d (.bl false)) ms := fun ms => rfl
  unfold tb5
  rw [ev_if]
  have c2 : (mB (mOp (gEq true) (mLc false (iSeq (mVar 1)) (gSet 9) (mB (mOp (gEq true) (mOp (gEq false) (mB1 (Fw.cOr (Fw.c1 strD) (cOwn [(11, bndS f_Web_str [0] [])])) (aCons (mCallN (mkS 11 (fld 11) (bndS f_Web_init [0, 1, 2] [])) (mLen 2 (aCons (mOp gIx (mVar 9) (mC (.d (.int 0)))) (aCons (mOp gIx (mVar 9) (mC (.d (.int 1)))) (aNil))))) (aNil))) (mVar 7)) (mOp (gEq false) (mVar 9) (mTup (aCons (mVar 4) (aCons (mVar 5) (aNil))))))) (mC (.d (.int 1))) [9]) (mLst (aNil)))) (tE s0 o2 o3 ws rs o6 (some (.d (.str (webT ws rs)))) o8 o9) (.lst L :: rest) = .ok false (.lst L :: rest) := by
    obtain ⟨E, hE⟩ : ∃ E, E = tE s0 o2 o3 ws rs o6 (some (.d (.str (webT ws rs)))) o8 o9 := ⟨_, rfl⟩
    rw [← hE] at cm ⊢
    simp [cm, e0]
  rw [c2]
  rfl
theorem wb_ok {ns : List Int} {k : Nat} (hL : L.length ≤ 1000) (hg : ∀ d ∈ L, GoodD d) : Nx (wbB [some (scrD ns), some (.loc 0), some (.d (.int k)), o3, none, none, none, none, none, none] (.lst L :: rest))
    (fun e m => ∃ d o3 rest', GoodD d ∧ e = [some (scrD ns), some (.loc 0), some (.d (.int k)), o3, none, none, none, none, none, none] ∧ m = .lst (L ++ [d]) :: rest') := by
  obtain ⟨c, fc, ec⟩ := feed_nat ns k
  obtain ⟨a, c1, f1, ha, e1⟩ := takeI (m := 10) (by decide) (by decide) fc
  obtain ⟨b, c2, f2, hb, e2⟩ := takeI (m := 21) (by decide) (by decide) f1
  obtain ⟨j, c3, f3, hj, e3⟩ := takeI (m := 2) (by decide) (by decide) f2
  have : ∃ lim : Nat, lim ≤ 1000 ∧ L2.atI [D.int 9, .int 1000] (j : Int) = some (.int (lim : Nat)) := by
    obtain ⟨v, ev, hv⟩ := atI_mem (l := [D.int 9, .int 1000]) (r := (j : Int)) (by omega) (by simpa using hj)
    simp only [List.mem_cons, List.not_mem_nil, or_false] at hv
    rcases hv with rfl | rfl
    · exact ⟨9, by decide, ev⟩
    · exact ⟨1000, by decide, ev⟩
  obtain ⟨lim, hl, ev⟩ := this
  obtain ⟨ws, ts, rs, c4, r, f4, g, e4⟩ := web_ok (many := 1 + a) (bonds := b) (limit := lim) (by omega) (by omega) (by omega) (by omega) f3
  have w1 : Web1 ws rs := ⟨good_fine g (by omega) (by omega) (by omega) hl, good_web (by omega) g, good_qd g (by omega) (by omega) hl⟩
  rw [show ((1 + a : Nat) : Int) = 1 + (a : Int) by omega] at e4
  have ap := append_loc (ms := .lst L :: (rest ++ [c4])) (n := 0) (l := L) (y := .tup [.tup (strsD ws), .tup (rowsD rs)]) rfl (by omega)
  refine ⟨[some (scrD ns), some (.loc 0), some (.d (.int k)), some (.loc (rest.length + 1)), none, none, none, none, none, none], .lst (L ++ [.tup [.tup (strsD ws), .tup (rowsD rs)]]) :: (rest ++ [c4]), ?_, _, _, _, ⟨ws, rs, w1, rfl⟩, rfl, rfl⟩
  simp [wbB, pick, ec, e1, e2, e3, ev, e4, ap]
end
end Ga
set_option Elab.async false
set_option linter.all false
set_option maxRecDepth 100000
set_option maxHeartbeats 1000000
namespace Ga
open PySem L2 Fw
theorem addA_loc {ms : Ms} {n : Nat} {a b : List D} (h : ms[n]? = some (.lst a)) (hl : a.length + b.length ≤ 1000000) : gAddA (.loc n) (.d (.lst b)) ms = .ok (.d (.lst (a ++ b))) ms := by
  have e : view (.loc n) ms = some (.lst a) := by show (match ms[n]? with | some (.lst ds) => some (D.lst ds) | _ => none) = _; rw [h]
  unfold gAddA gOr
  rw [show gAdd (.loc n) (.d (.lst b)) ms = .bad from rfl]
  unfold gAddV
  rw [e]
  simp [hl]
abbrev Pw (ns : List Int) (i : Nat) : Fw.Env → Ms → Prop := fun e m => ∃ (L : List D) (rest : Ms) (o2 o3 : Option S), L.length = i ∧ (∀ d ∈ L, GoodD d) ∧ m = .lst L :: rest ∧ e = [some (scrD ns), some (.loc 0), o2, o3, none, none, none, none, none, none]
abbrev Pt (ns : List Int) (L : List D) (rest : Ms) (o2 o3 : Option S) : Fw.Env → Ms → Prop := fun e m => m = .lst L :: rest ∧ ∃ o4 o5 o6 o7 o8 o9, e = [some (scrD ns), some (.loc 0), o2, o3, o4, o5, o6, o7, o8, o9]
theorem plain (ns : List Int) : ∃ ms', f_law [scr ns] [] = .ok (.d (.bl true)) ms' := by
  unfold f_law
  simp only [fn_ev, law_eq, ev_cons]
  have first : sSet 1 (mNew (aNil)) (start0 10 [scr ns]) [] = .nx [some (scrD ns), some (.loc 0), none, none, none, none, none, none, none, none] [.lst []] := by
    simp [start0, newL, scr]
  rw [first, seq_nx]
  have hm : ((max 2 (min 6 (ns.length : Int))).toNat) ≤ 6 := by omega
  refine fin_seq (P := Pw ns (rngS 0 (max 2 (min 6 (ns.length : Int))).toNat).length) (Nx_forI (P := Pw ns) (xs := rngS 0 (max 2 (min 6 (ns.length : Int))).toNat) (ms1 := [.lst []]) ?_ ⟨[], [], none, none, rfl, (fun d hd => by simp at hd), rfl, rfl⟩ ?_) ?_
  · have sl : ∀ ms, Fw.c1 lenD [scrD ns] ms = .ok (.d (.int ns.length)) ms := fun ms => scr_len (ns := ns)
    simp [sl, itR1_ev (j := max 2 (min 6 (ns.length : Int))) (by omega) (by omega)]
  · rintro i x hx e m ⟨L, rest, o2, o3, hl, hg, rfl, rfl⟩
    have hi := (List.getElem?_eq_some_iff.mp hx).1
    rw [rng_len] at hi
    obtain ⟨k, hk, rfl⟩ := mem_rng (List.mem_of_getElem? hx)
    refine ⟨_, rfl, ?_⟩
    simp only [List.set_cons_succ, List.set_cons_zero, Int.zero_add]
    refine Nx_mono (wb_ok (ns := ns) (k := k) (L := L) (rest := rest) (o3 := o3) (by omega) hg) ?_
    rintro e m ⟨d, o3', rest', gd, rfl, rfl⟩
    refine ⟨L ++ [d], rest', _, _, by rw [List.length_append, hl]; rfl, fun x hx => ?_, rfl, rfl⟩
    rcases List.mem_append.mp hx with hx | hx
    · exact hg x hx
    · simp only [List.mem_singleton] at hx; subst hx; exact gd
  · rintro e m ⟨L, rest, o2, o3, hl, hg, rfl, rfl⟩
    rw [rng_len] at hl
    have ct : cutD L none (some 1) = L.take 1 := cutD_pre (by decide)
    have sl : ∀ ms, ms = .lst L :: rest → gSl (.loc 0) none (some 1) ms = .ok (.d (.lst (L.take 1))) ms := fun ms h => by
      subst h
      rw [sl_loc (l := L) rfl, ct]
    have ad := addA_loc (ms := .lst L :: rest) (n := 0) (a := L) (b := L.take 1) rfl (by rw [List.length_take]; omega)
    have s1 := sl _ rfl
    rw [ev_cons]
    refine fin_seq (P := Pt ns L rest o2 o3) (Nx_for (xs := (L ++ L.take 1).map S.d) (ms1 := .lst L :: rest) (itL (by simp [s1, ad])) ⟨rfl, _, _, _, _, _, _, rfl⟩ ?_) ?_
    · rintro x hx e m ⟨rfl, o4, o5, o6, o7, o8, o9, rfl⟩
      obtain ⟨d, hd, rfl⟩ := List.mem_map.mp hx
      have gd : GoodD d := by
        rcases List.mem_append.mp hd with hd | hd
        · exact hg d hd
        · exact hg d (List.mem_of_mem_take hd)
      obtain ⟨ws, rs, h, rfl⟩ := gd
      refine ⟨_, rfl, ?_⟩
      simp only [List.set_cons_succ, List.set_cons_zero]
      refine ⟨tE (scrD ns) o2 o3 ws rs (some (.d (webX ws (rs.map toZ)))) (some (.d (.str (webT ws rs)))) (some (.d (webX ws (rs.map toZ)))) o9, .lst L :: rest, ?_, rfl, _, _, _, _, _, _, rfl⟩
      unfold tbB
      rw [ev_cons, tb_1 h (o6 := o6) (o7 := o7), seq_nx, ev_cons, tb_2 h, seq_nx, ev_cons, tb_3 h, seq_nx, ev_cons, tb_4 h, seq_nx, tb_5 h hg]
    · rintro e m ⟨rfl, o4, o5, o6, o7, o8, o9, rfl⟩
      exact ⟨_, rfl⟩
end Ga
set_option Elab.async false
set_option linter.all false
set_option maxRecDepth 100000
set_option maxHeartbeats 0
namespace Ga
open PySem L2 PySem.Spec PyProof.Rows Fw

def fn : List DefX := [
  ⟨gA "_law_feed", "_law_feed", "_law_feed", defArgs (top 49), defBody (top 49), defScope (top 49), [], []⟩,
  ⟨gA "_law_take", "_law_take", "_law_take", defArgs (top 50), defBody (top 50), defScope (top 50), [], []⟩,
  ⟨gA "_law_mixed", "_law_mixed", "_law_mixed", defArgs (top 51), defBody (top 51), defScope (top 51), [], []⟩,
  ⟨gA "_law_words", "_law_words", "_law_words", defArgs (top 52), defBody (top 52), defScope (top 52), [], []⟩,
  ⟨gA "_law_joints", "_law_joints", "_law_joints", defArgs (top 54), defBody (top 54), defScope (top 54), [], []⟩,
  ⟨gA "_law_bounds", "_law_bounds", "_law_bounds", defArgs (top 53), defBody (top 53), defScope (top 53), [], []⟩,
  ⟨gA "_law_web", "_law_web", "_law_web", defArgs (top 55), defBody (top 55), defScope (top 55), [], []⟩,
  ⟨gA "is_whole", "is_whole", "is_whole", defArgs (top 29), defBody (top 29), defScope (top 29), [], []⟩,
  ⟨gA "is_tie", "is_tie", "is_tie", defArgs (top 40), defBody (top 40), defScope (top 40), [], []⟩,
  ⟨gA "has_form", "has_form", "has_form", defArgs (top 41), defBody (top 41), defScope (top 41), [], []⟩,
  ⟨gA "is_name", "is_name", "is_name", defArgs (top 30), defBody (top 30), defScope (top 30), [], []⟩,
  ⟨gA "check_names", "check_names", "check_names", defArgs (top 42), defBody (top 42), defScope (top 42), [], []⟩,
  ⟨gA "check_tie", "check_tie", "check_tie", defArgs (top 43), defBody (top 43), defScope (top 43), [], []⟩,
  ⟨gA "check_web", "check_web", "check_web", defArgs (top 44), defBody (top 44), defScope (top 44), [], []⟩,
  ⟨mA "Web" "__init__", "__init__", "Web.__init__", defArgs (sub (top 47) 0), defBody (sub (top 47) 0), defScope (sub (top 47) 0), [], []⟩,
  ⟨gA "_law_shown", "_law_shown", "_law_shown", defArgs (top 56), defBody (top 56), defScope (top 56), [], []⟩,
  ⟨mA "Span" "__init__", "__init__", "Span.__init__", defArgs (sub (top 34) 0), defBody (sub (top 34) 0), defScope (sub (top 34) 0), [], []⟩,
  ⟨mA "Span" "__str__", "__str__", "Span.__str__", defArgs (sub (top 34) 15), defBody (sub (top 34) 15), defScope (sub (top 34) 15), [], []⟩,
  ⟨mA "Web" "__str__", "__str__", "Web.__str__", defArgs (sub (top 47) 7), defBody (sub (top 47) 7), defScope (sub (top 47) 7), [], []⟩,
  ⟨gA "number_of", "number_of", "number_of", defArgs (top 31), defBody (top 31), defScope (top 31), [], []⟩,
  ⟨recA "classmethod" (mA "Span" "read"), "read", "Span.read", defArgs (sub (top 34) 3), defBody (sub (top 34) 3), defScope (sub (top 34) 3), [], []⟩,
  ⟨recA "property" (mA "Span" "least"), "least", "Span.least", defArgs (sub (top 34) 4), defBody (sub (top 34) 4), defScope (sub (top 34) 4), [], []⟩,
  ⟨recA "property" (mA "Span" "greatest"), "greatest", "Span.greatest", defArgs (sub (top 34) 5), defBody (sub (top 34) 5), defScope (sub (top 34) 5), [], []⟩,
  ⟨gA "span_of", "span_of", "span_of", defArgs (top 45), defBody (top 45), defScope (top 45), [], []⟩,
  ⟨gA "read_tie", "read_tie", "read_tie", defArgs (top 46), defBody (top 46), defScope (top 46), [], []⟩,
  ⟨recA "classmethod" (mA "Web" "read"), "read", "Web.read", defArgs (sub (top 47) 1), defBody (sub (top 47) 1), defScope (sub (top 47) 1), [], []⟩,
  ⟨recA "property" (mA "Web" "posts"), "posts", "Web.posts", defArgs (sub (top 47) 3), defBody (sub (top 47) 3), defScope (sub (top 47) 3), [], []⟩,
  ⟨recA "property" (mA "Web" "ties"), "ties", "Web.ties", defArgs (sub (top 47) 4), defBody (sub (top 47) 4), defScope (sub (top 47) 4), [], []⟩,
  ⟨mA "Web" "__eq__", "__eq__", "Web.__eq__", defArgs (sub (top 47) 6), defBody (sub (top 47) 6), defScope (sub (top 47) 6), [], []⟩,
  ⟨gA "law", "law", "law", defArgs (top 57), defBody (top 57), defScope (top 57), [], []⟩,
  ⟨mA "InvalidSpan" "__init__", "__init__", "InvalidSpan.__init__", defArgs (sub (top 3) 0), defBody (sub (top 3) 0), defScope (sub (top 3) 0), [], ["__class__"]⟩,
  ⟨mA "InvalidText" "__init__", "__init__", "InvalidText.__init__", defArgs (sub (top 5) 0), defBody (sub (top 5) 0), defScope (sub (top 5) 0), [], ["__class__"]⟩,
  ⟨mA "InvalidWeb" "__init__", "__init__", "InvalidWeb.__init__", defArgs (sub (top 6) 0), defBody (sub (top 6) 0), defScope (sub (top 6) 0), [], ["__class__"]⟩]

def fa : List (PySem.W.Frag → Bool) := [
  fun K => (He.Fa.free "len").ok K,
  fun K => (He.Fa.free "min").ok K,
  fun K => (He.Fa.free "max").ok K,
  fun K => (He.Fa.free "range").ok K,
  fun K => (He.Fa.free "abs").ok K,
  fun K => (He.Fa.free "int").ok K,
  fun K => (He.Fa.glo "_law_feed").ok K,
  fun K => (He.Fa.glo "_law_take").ok K,
  fun K => (He.Fa.free "list").ok K,
  fun K => (He.Fa.glo "_law_mixed").ok K,
  fun K => (He.Fa.free "str").ok K,
  fun K => (He.Fa.glo "_law_words").ok K,
  fun K => (He.Fa.glo "_law_joints").ok K,
  fun K => (He.Fa.free "enumerate").ok K,
  fun K => (He.Fa.glo "_law_bounds").ok K,
  fun K => (He.Fa.free "tuple").ok K,
  fun K => (He.Fa.glo "_law_web").ok K,
  fun K => (He.Fa.free "isinstance").ok K,
  fun K => (He.Fa.free "all").ok K,
  fun K => (He.Fa.free "bool").ok K,
  fun K => (He.Fa.glo "is_whole").ok K,
  fun K => (He.Fa.glo "is_tie").ok K,
  fun K => (He.Fa.glo "has_form").ok K,
  fun K => (He.Fa.int "LONGEST" 6).ok K,
  fun K => (He.Fa.str "LETTERS" "abcdefghijklmnopqrstuvwxyz").ok K,
  fun K => (He.Fa.str "DIGITS" "0123456789").ok K,
  fun K => (He.Fa.glo "is_name").ok K,
  fun K => (He.Fa.glo "check_names").ok K,
  fun K => (He.Fa.glo "check_tie").ok K,
  fun K => (He.Fa.glo "check_web").ok K,
  fun K => bCls (gA "Web" K) K,
  fun K => (He.Fa.noat "Web" "places").ok K,
  fun K => (He.Fa.noat "Web" "bonds").ok K,
  fun K => (He.Fa.mkr "Web").ok K,
  fun K => (He.Fa.glo "Web").ok K,
  fun K => (He.Fa.glo "_law_shown").ok K,
  fun K => bCls (gA "Span" K) K,
  fun K => (He.Fa.noat "Span" "low").ok K,
  fun K => (He.Fa.noat "Span" "high").ok K,
  fun K => (He.Fa.mkr "Span").ok K,
  fun K => (He.Fa.glo "Span").ok K,
  fun K => (He.Fa.str "DOTS" "..").ok K,
  fun K => bSp (gA "Span" K) "__str__" (mA "Span" "__str__" K) K,
  fun K => bFmF (gA "Span" K) K,
  fun K => bSp (gA "Web" K) "__str__" (mA "Web" "__str__" K) K,
  fun K => (He.Fa.free "repr").ok K,
  fun K => (He.Fa.str "POSTS" "posts").ok K,
  fun K => (He.Fa.str "TIE" "tie").ok K,
  fun K => (He.Fa.int "MOST_DIGITS" 9).ok K,
  fun K => (He.Fa.glo "number_of").ok K,
  fun K => bCm (gA "Span" K) "read" (mA "Span" "read" K) (recA "classmethod" (mA "Span" "read") K) K,
  fun K => bTst Γ [(0, false), (1, false), (2, false), (3, true), (4, false), (5, false), (6, false), (7, false), (8, false), (9, false)] (gA "InvalidText") K,
  fun K => (He.Fa.glo "InvalidText").ok K,
  fun K => bProp (gA "Span" K) "least" (mA "Span" "least" K) (recA "property" (mA "Span" "least") K) K,
  fun K => bProp (gA "Span" K) "greatest" (mA "Span" "greatest" K) (recA "property" (mA "Span" "greatest") K) K,
  fun K => (He.Fa.glo "span_of").ok K,
  fun K => (He.Fa.glo "read_tie").ok K,
  fun K => bCm (gA "Web" K) "read" (mA "Web" "read" K) (recA "classmethod" (mA "Web" "read") K) K,
  fun K => bIsi Γ [10, 11] [11] subT K,
  fun K => bProp (gA "Web" K) "posts" (mA "Web" "posts" K) (recA "property" (mA "Web" "posts") K) K,
  fun K => bProp (gA "Web" K) "ties" (mA "Web" "ties" K) (recA "property" (mA "Web" "ties") K) K,
  fun K => bSp (gA "Web" K) "__eq__" (mA "Web" "__eq__" K) K,
  fun K => bEqF ([11].map (Γ K).cls) (gA "Web" K) K,
  fun K => bNeF (gA "Web" K) K,
  fun K => bX Pg.main.file (gA "InvalidSpan" K) (mA "InvalidSpan" "__init__" K) ["low", "high"] K,
  fun K => (He.Fa.glo "InvalidSpan").ok K,
  fun K => (He.Fa.free "super").ok K,
  fun K => bX Pg.main.file (gA "InvalidText" K) (mA "InvalidText" "__init__" K) ["line"] K,
  fun K => bX Pg.main.file (gA "InvalidWeb" K) (mA "InvalidWeb" "__init__" K) ["reason", "index"] K,
  fun K => (He.Fa.glo "InvalidWeb").ok K,
  fun K => (He.Fa.glo "law").ok K]

section
variable {K : PySem.W.Frag}
theorem q0 (c : SaysX fa fn K) : ((He.Fa.free "len").ok K) = true := c.fact 0 (f := fun K => (He.Fa.free "len").ok K) rfl
theorem q1 (c : SaysX fa fn K) : ((He.Fa.free "min").ok K) = true := c.fact 1 (f := fun K => (He.Fa.free "min").ok K) rfl
theorem q2 (c : SaysX fa fn K) : ((He.Fa.free "max").ok K) = true := c.fact 2 (f := fun K => (He.Fa.free "max").ok K) rfl
theorem q3 (c : SaysX fa fn K) : ((He.Fa.free "range").ok K) = true := c.fact 3 (f := fun K => (He.Fa.free "range").ok K) rfl
theorem q4 (c : SaysX fa fn K) : ((He.Fa.free "abs").ok K) = true := c.fact 4 (f := fun K => (He.Fa.free "abs").ok K) rfl
theorem q5 (c : SaysX fa fn K) : ((He.Fa.free "int").ok K) = true := c.fact 5 (f := fun K => (He.Fa.free "int").ok K) rfl
theorem q6 (c : SaysX fa fn K) : ((He.Fa.glo "_law_feed").ok K) = true := c.fact 6 (f := fun K => (He.Fa.glo "_law_feed").ok K) rfl
theorem q7 (c : SaysX fa fn K) : ((He.Fa.glo "_law_take").ok K) = true := c.fact 7 (f := fun K => (He.Fa.glo "_law_take").ok K) rfl
theorem q8 (c : SaysX fa fn K) : ((He.Fa.free "list").ok K) = true := c.fact 8 (f := fun K => (He.Fa.free "list").ok K) rfl
theorem q9 (c : SaysX fa fn K) : ((He.Fa.glo "_law_mixed").ok K) = true := c.fact 9 (f := fun K => (He.Fa.glo "_law_mixed").ok K) rfl
theorem q10 (c : SaysX fa fn K) : ((He.Fa.free "str").ok K) = true := c.fact 10 (f := fun K => (He.Fa.free "str").ok K) rfl
theorem q11 (c : SaysX fa fn K) : ((He.Fa.glo "_law_words").ok K) = true := c.fact 11 (f := fun K => (He.Fa.glo "_law_words").ok K) rfl
theorem q12 (c : SaysX fa fn K) : ((He.Fa.glo "_law_joints").ok K) = true := c.fact 12 (f := fun K => (He.Fa.glo "_law_joints").ok K) rfl
theorem q13 (c : SaysX fa fn K) : ((He.Fa.free "enumerate").ok K) = true := c.fact 13 (f := fun K => (He.Fa.free "enumerate").ok K) rfl
theorem q14 (c : SaysX fa fn K) : ((He.Fa.glo "_law_bounds").ok K) = true := c.fact 14 (f := fun K => (He.Fa.glo "_law_bounds").ok K) rfl
theorem q15 (c : SaysX fa fn K) : ((He.Fa.free "tuple").ok K) = true := c.fact 15 (f := fun K => (He.Fa.free "tuple").ok K) rfl
theorem q16 (c : SaysX fa fn K) : ((He.Fa.glo "_law_web").ok K) = true := c.fact 16 (f := fun K => (He.Fa.glo "_law_web").ok K) rfl
theorem q17 (c : SaysX fa fn K) : ((He.Fa.free "isinstance").ok K) = true := c.fact 17 (f := fun K => (He.Fa.free "isinstance").ok K) rfl
theorem q18 (c : SaysX fa fn K) : ((He.Fa.free "all").ok K) = true := c.fact 18 (f := fun K => (He.Fa.free "all").ok K) rfl
theorem q19 (c : SaysX fa fn K) : ((He.Fa.free "bool").ok K) = true := c.fact 19 (f := fun K => (He.Fa.free "bool").ok K) rfl
theorem q20 (c : SaysX fa fn K) : ((He.Fa.glo "is_whole").ok K) = true := c.fact 20 (f := fun K => (He.Fa.glo "is_whole").ok K) rfl
theorem q21 (c : SaysX fa fn K) : ((He.Fa.glo "is_tie").ok K) = true := c.fact 21 (f := fun K => (He.Fa.glo "is_tie").ok K) rfl
theorem q22 (c : SaysX fa fn K) : ((He.Fa.glo "has_form").ok K) = true := c.fact 22 (f := fun K => (He.Fa.glo "has_form").ok K) rfl
theorem q23 (c : SaysX fa fn K) : ((He.Fa.int "LONGEST" 6).ok K) = true := c.fact 23 (f := fun K => (He.Fa.int "LONGEST" 6).ok K) rfl
theorem q24 (c : SaysX fa fn K) : ((He.Fa.str "LETTERS" "abcdefghijklmnopqrstuvwxyz").ok K) = true := c.fact 24 (f := fun K => (He.Fa.str "LETTERS" "abcdefghijklmnopqrstuvwxyz").ok K) rfl
theorem q25 (c : SaysX fa fn K) : ((He.Fa.str "DIGITS" "0123456789").ok K) = true := c.fact 25 (f := fun K => (He.Fa.str "DIGITS" "0123456789").ok K) rfl
theorem q26 (c : SaysX fa fn K) : ((He.Fa.glo "is_name").ok K) = true := c.fact 26 (f := fun K => (He.Fa.glo "is_name").ok K) rfl
theorem q27 (c : SaysX fa fn K) : ((He.Fa.glo "check_names").ok K) = true := c.fact 27 (f := fun K => (He.Fa.glo "check_names").ok K) rfl
theorem q28 (c : SaysX fa fn K) : ((He.Fa.glo "check_tie").ok K) = true := c.fact 28 (f := fun K => (He.Fa.glo "check_tie").ok K) rfl
theorem q29 (c : SaysX fa fn K) : ((He.Fa.glo "check_web").ok K) = true := c.fact 29 (f := fun K => (He.Fa.glo "check_web").ok K) rfl
theorem q30 (c : SaysX fa fn K) : (bCls (gA "Web" K) K) = true := c.fact 30 (f := fun K => bCls (gA "Web" K) K) rfl
theorem q31 (c : SaysX fa fn K) : ((He.Fa.noat "Web" "places").ok K) = true := c.fact 31 (f := fun K => (He.Fa.noat "Web" "places").ok K) rfl
theorem q32 (c : SaysX fa fn K) : ((He.Fa.noat "Web" "bonds").ok K) = true := c.fact 32 (f := fun K => (He.Fa.noat "Web" "bonds").ok K) rfl
theorem q33 (c : SaysX fa fn K) : ((He.Fa.mkr "Web").ok K) = true := c.fact 33 (f := fun K => (He.Fa.mkr "Web").ok K) rfl
theorem q34 (c : SaysX fa fn K) : ((He.Fa.glo "Web").ok K) = true := c.fact 34 (f := fun K => (He.Fa.glo "Web").ok K) rfl
theorem q35 (c : SaysX fa fn K) : ((He.Fa.glo "_law_shown").ok K) = true := c.fact 35 (f := fun K => (He.Fa.glo "_law_shown").ok K) rfl
theorem q36 (c : SaysX fa fn K) : (bCls (gA "Span" K) K) = true := c.fact 36 (f := fun K => bCls (gA "Span" K) K) rfl
theorem q37 (c : SaysX fa fn K) : ((He.Fa.noat "Span" "low").ok K) = true := c.fact 37 (f := fun K => (He.Fa.noat "Span" "low").ok K) rfl
theorem q38 (c : SaysX fa fn K) : ((He.Fa.noat "Span" "high").ok K) = true := c.fact 38 (f := fun K => (He.Fa.noat "Span" "high").ok K) rfl
theorem q39 (c : SaysX fa fn K) : ((He.Fa.mkr "Span").ok K) = true := c.fact 39 (f := fun K => (He.Fa.mkr "Span").ok K) rfl
theorem q40 (c : SaysX fa fn K) : ((He.Fa.glo "Span").ok K) = true := c.fact 40 (f := fun K => (He.Fa.glo "Span").ok K) rfl
theorem q41 (c : SaysX fa fn K) : ((He.Fa.str "DOTS" "..").ok K) = true := c.fact 41 (f := fun K => (He.Fa.str "DOTS" "..").ok K) rfl
theorem q42 (c : SaysX fa fn K) : (bSp (gA "Span" K) "__str__" (mA "Span" "__str__" K) K) = true := c.fact 42 (f := fun K => bSp (gA "Span" K) "__str__" (mA "Span" "__str__" K) K) rfl
theorem q43 (c : SaysX fa fn K) : (bFmF (gA "Span" K) K) = true := c.fact 43 (f := fun K => bFmF (gA "Span" K) K) rfl
theorem q44 (c : SaysX fa fn K) : (bSp (gA "Web" K) "__str__" (mA "Web" "__str__" K) K) = true := c.fact 44 (f := fun K => bSp (gA "Web" K) "__str__" (mA "Web" "__str__" K) K) rfl
theorem q45 (c : SaysX fa fn K) : ((He.Fa.free "repr").ok K) = true := c.fact 45 (f := fun K => (He.Fa.free "repr").ok K) rfl
theorem q46 (c : SaysX fa fn K) : ((He.Fa.str "POSTS" "posts").ok K) = true := c.fact 46 (f := fun K => (He.Fa.str "POSTS" "posts").ok K) rfl
theorem q47 (c : SaysX fa fn K) : ((He.Fa.str "TIE" "tie").ok K) = true := c.fact 47 (f := fun K => (He.Fa.str "TIE" "tie").ok K) rfl
theorem q48 (c : SaysX fa fn K) : ((He.Fa.int "MOST_DIGITS" 9).ok K) = true := c.fact 48 (f := fun K => (He.Fa.int "MOST_DIGITS" 9).ok K) rfl
theorem q49 (c : SaysX fa fn K) : ((He.Fa.glo "number_of").ok K) = true := c.fact 49 (f := fun K => (He.Fa.glo "number_of").ok K) rfl
theorem q50 (c : SaysX fa fn K) : (bCm (gA "Span" K) "read" (mA "Span" "read" K) (recA "classmethod" (mA "Span" "read") K) K) = true := c.fact 50 (f := fun K => bCm (gA "Span" K) "read" (mA "Span" "read" K) (recA "classmethod" (mA "Span" "read") K) K) rfl
theorem q51 (c : SaysX fa fn K) : (bTst Γ [(0, false), (1, false), (2, false), (3, true), (4, false), (5, false), (6, false), (7, false), (8, false), (9, false)] (gA "InvalidText") K) = true := c.fact 51 (f := fun K => bTst Γ [(0, false), (1, false), (2, false), (3, true), (4, false), (5, false), (6, false), (7, false), (8, false), (9, false)] (gA "InvalidText") K) rfl
theorem q52 (c : SaysX fa fn K) : ((He.Fa.glo "InvalidText").ok K) = true := c.fact 52 (f := fun K => (He.Fa.glo "InvalidText").ok K) rfl
theorem q53 (c : SaysX fa fn K) : (bProp (gA "Span" K) "least" (mA "Span" "least" K) (recA "property" (mA "Span" "least") K) K) = true := c.fact 53 (f := fun K => bProp (gA "Span" K) "least" (mA "Span" "least" K) (recA "property" (mA "Span" "least") K) K) rfl
theorem q54 (c : SaysX fa fn K) : (bProp (gA "Span" K) "greatest" (mA "Span" "greatest" K) (recA "property" (mA "Span" "greatest") K) K) = true := c.fact 54 (f := fun K => bProp (gA "Span" K) "greatest" (mA "Span" "greatest" K) (recA "property" (mA "Span" "greatest") K) K) rfl
theorem q55 (c : SaysX fa fn K) : ((He.Fa.glo "span_of").ok K) = true := c.fact 55 (f := fun K => (He.Fa.glo "span_of").ok K) rfl
theorem q56 (c : SaysX fa fn K) : ((He.Fa.glo "read_tie").ok K) = true := c.fact 56 (f := fun K => (He.Fa.glo "read_tie").ok K) rfl
theorem q57 (c : SaysX fa fn K) : (bCm (gA "Web" K) "read" (mA "Web" "read" K) (recA "classmethod" (mA "Web" "read") K) K) = true := c.fact 57 (f := fun K => bCm (gA "Web" K) "read" (mA "Web" "read" K) (recA "classmethod" (mA "Web" "read") K) K) rfl
theorem q58 (c : SaysX fa fn K) : (bIsi Γ [10, 11] [11] subT K) = true := c.fact 58 (f := fun K => bIsi Γ [10, 11] [11] subT K) rfl
theorem q59 (c : SaysX fa fn K) : (bProp (gA "Web" K) "posts" (mA "Web" "posts" K) (recA "property" (mA "Web" "posts") K) K) = true := c.fact 59 (f := fun K => bProp (gA "Web" K) "posts" (mA "Web" "posts" K) (recA "property" (mA "Web" "posts") K) K) rfl
theorem q60 (c : SaysX fa fn K) : (bProp (gA "Web" K) "ties" (mA "Web" "ties" K) (recA "property" (mA "Web" "ties") K) K) = true := c.fact 60 (f := fun K => bProp (gA "Web" K) "ties" (mA "Web" "ties" K) (recA "property" (mA "Web" "ties") K) K) rfl
theorem q61 (c : SaysX fa fn K) : (bSp (gA "Web" K) "__eq__" (mA "Web" "__eq__" K) K) = true := c.fact 61 (f := fun K => bSp (gA "Web" K) "__eq__" (mA "Web" "__eq__" K) K) rfl
theorem q62 (c : SaysX fa fn K) : (bEqF ([11].map (Γ K).cls) (gA "Web" K) K) = true := c.fact 62 (f := fun K => bEqF ([11].map (Γ K).cls) (gA "Web" K) K) rfl
theorem q63 (c : SaysX fa fn K) : (bNeF (gA "Web" K) K) = true := c.fact 63 (f := fun K => bNeF (gA "Web" K) K) rfl
theorem q64 (c : SaysX fa fn K) : (bX Pg.main.file (gA "InvalidSpan" K) (mA "InvalidSpan" "__init__" K) ["low", "high"] K) = true := c.fact 64 (f := fun K => bX Pg.main.file (gA "InvalidSpan" K) (mA "InvalidSpan" "__init__" K) ["low", "high"] K) rfl
theorem q65 (c : SaysX fa fn K) : ((He.Fa.glo "InvalidSpan").ok K) = true := c.fact 65 (f := fun K => (He.Fa.glo "InvalidSpan").ok K) rfl
theorem q66 (c : SaysX fa fn K) : ((He.Fa.free "super").ok K) = true := c.fact 66 (f := fun K => (He.Fa.free "super").ok K) rfl
theorem q67 (c : SaysX fa fn K) : (bX Pg.main.file (gA "InvalidText" K) (mA "InvalidText" "__init__" K) ["line"] K) = true := c.fact 67 (f := fun K => bX Pg.main.file (gA "InvalidText" K) (mA "InvalidText" "__init__" K) ["line"] K) rfl
theorem q68 (c : SaysX fa fn K) : (bX Pg.main.file (gA "InvalidWeb" K) (mA "InvalidWeb" "__init__" K) ["reason", "index"] K) = true := c.fact 68 (f := fun K => bX Pg.main.file (gA "InvalidWeb" K) (mA "InvalidWeb" "__init__" K) ["reason", "index"] K) rfl
theorem q69 (c : SaysX fa fn K) : ((He.Fa.glo "InvalidWeb").ok K) = true := c.fact 69 (f := fun K => (He.Fa.glo "InvalidWeb").ok K) rfl
theorem q70 (c : SaysX fa fn K) : ((He.Fa.glo "law").ok K) = true := c.fact 70 (f := fun K => (He.Fa.glo "law").ok K) rfl
end

end Ga
set_option Elab.async false
set_option linter.all false
set_option maxRecDepth 100000
set_option maxHeartbeats 0
namespace Ga
open PySem L2 PySem.Spec PyProof.Rows Fw

theorem x_InvalidSpan {K : PySem.W.Frag} {mg : Str → Option Value} {base : Heap} (c : SaysX fa fn K) (KB : K.In base) (GB : base.Ns mainGlobals mg) : ExcOk Pg K mg "InvalidSpan" (gA "InvalidSpan" K) ["low", "high"] := by
  obtain ⟨e, ok⟩ := c.def0 30 rfl
  refine ⟨He.glo_ok KB GB (q65 c), ⟨_, _, _, _, _, _, [("low", "low"), ("high", "high")], ["low", "high"], _, _, _, _, _, _, _, _, _, _, _, _, _, x_ok (prog := Pg) (fs := [("low", "low"), ("high", "high")]) rfl (q64 c) e ok rfl rfl rfl rfl (by decide +kernel), ⟨rfl, rfl, rfl, rfl, rfl, by decide +kernel, by decide +kernel, by decide⟩, rfl, fun _ => rfl, (.cons (.cons .nil)), rfl, rfl, by decide, fun us hl kV doc pm an ct v => match us, hl with | [_, _], _ => rfl⟩, He.free_ok KB GB (q66 c)⟩

theorem x_InvalidText {K : PySem.W.Frag} {mg : Str → Option Value} {base : Heap} (c : SaysX fa fn K) (KB : K.In base) (GB : base.Ns mainGlobals mg) : ExcOk Pg K mg "InvalidText" (gA "InvalidText" K) ["line"] := by
  obtain ⟨e, ok⟩ := c.def0 31 rfl
  refine ⟨He.glo_ok KB GB (q52 c), ⟨_, _, _, _, _, _, [("line", "line")], ["line"], _, _, _, _, _, _, _, _, _, _, _, _, _, x_ok (prog := Pg) (fs := [("line", "line")]) rfl (q67 c) e ok rfl rfl rfl rfl (by decide +kernel), ⟨rfl, rfl, rfl, rfl, rfl, by decide +kernel, by decide +kernel, by decide⟩, rfl, fun _ => rfl, (.cons .nil), rfl, rfl, by decide, fun us hl kV doc pm an ct v => match us, hl with | [_], _ => rfl⟩, He.free_ok KB GB (q66 c)⟩

theorem x_InvalidWeb {K : PySem.W.Frag} {mg : Str → Option Value} {base : Heap} (c : SaysX fa fn K) (KB : K.In base) (GB : base.Ns mainGlobals mg) : ExcOk Pg K mg "InvalidWeb" (gA "InvalidWeb" K) ["reason", "index"] := by
  obtain ⟨e, ok⟩ := c.def0 32 rfl
  refine ⟨He.glo_ok KB GB (q69 c), ⟨_, _, _, _, _, _, [("reason", "reason"), ("index", "index")], ["reason", "index"], _, _, _, _, _, _, _, _, _, _, _, _, _, x_ok (prog := Pg) (fs := [("reason", "reason"), ("index", "index")]) rfl (q68 c) e ok rfl rfl rfl rfl (by decide +kernel), ⟨rfl, rfl, rfl, rfl, rfl, by decide +kernel, by decide +kernel, by decide⟩, rfl, fun _ => rfl, (.cons (.cons .nil)), rfl, rfl, by decide, fun us hl kV doc pm an ct v => match us, hl with | [_, _], _ => rfl⟩, He.free_ok KB GB (q66 c)⟩

theorem sc__law_feed : FnScope ["_law_script", "_law_k", "_law_cell", "_law_seed"] ["_law_script", "_law_k"] (defScope (top 49)) := ⟨rfl, rfl, rfl, by decide +kernel, rfl, by decide +kernel, by decide +kernel⟩

theorem d__law_feed {w : World} {K : PySem.W.Frag} {mg : Str → Option Value} {base : Heap} (c : SaysX fa fn K) (KB : K.In base) (GB : base.Ns mainGlobals mg) : ∃ fd, FunD K "_law_feed" "_law_feed" (defArgs (top 49)) (defBody (top 49)) (defScope (top 49)) [] [] (gA "_law_feed" K) fd ∧ DF Pg w K mg base (Γ K) 1 (gA "_law_feed" K) fd ["_law_script", "_law_k"] f__law_feed := by
  obtain ⟨fd, F0⟩ := c.def_ 0 rfl rfl
  have F : FunD K "_law_feed" "_law_feed" (defArgs (top 49)) (defBody (top 49)) (defScope (top 49)) [] [] (gA "_law_feed" K) fd := F0
  exact ⟨fd, F, d_fn (k := 0) (m := m__law_feed) F sc__law_feed rfl fun cd A outer s H E ok dk =>
   (ss_cons (s_set ok.nd (e_bin o_add (e_bin o_mul e_int (e_var 1)) e_int))
 (ss_cons (s_if (t_cmp1 o_lt (e_var 1) (e_callB cd_len rfl (He.free_ok KB GB (q0 c)) (by decide +kernel) (a_cons (e_var 0) a_nil)) rfl) (ss_one (s_set ok.nd (e_callB cd_abs rfl (He.free_ok KB GB (q4 c)) (by decide +kernel) (a_cons (e_ix (e_var 0) (e_var 1)) a_nil)))) (ss_one (s_if (t_cmp1 o_gt (e_callB cd_len rfl (He.free_ok KB GB (q0 c)) (by decide +kernel) (a_cons (e_var 0) a_nil)) e_int rfl) (ss_one (s_set ok.nd (e_bin o_add (e_var 2) (e_bin o_mul (e_bin o_modI (e_callB cd_abs rfl (He.free_ok KB GB (q4 c)) (by decide +kernel) (a_cons (e_ix (e_var 0) (e_bin o_modI (e_var 1) (e_callB cd_len rfl (He.free_ok KB GB (q0 c)) (by decide +kernel) (a_cons (e_var 0) a_nil)))) a_nil)) e_int) e_int)))) ss_nil)))
 (ss_cons (s_set ok.nd (e_bin o_add (e_bin o_modI (e_bin o_add (e_bin o_mul (e_bin o_modI (e_var 2) e_int) e_int) (e_bin o_mul e_int (e_var 1))) e_int) e_int))
 (ss_one (s_ret (e_new (a_cons (e_bin o_mul (e_var 2) (e_callT cd_int rfl (He.free_ok KB GB (q5 c)) (by decide +kernel) (a_cons (e_cmp1 o_ge (e_var 2) (e_bin o_powI e_int e_int) rfl) a_nil))) (a_cons (e_var 3) (a_cons e_int a_nil)))))))))⟩

theorem sc__law_take : FnScope ["_law_feed_here", "_law_many", "_law_digit", "_law_mix"] ["_law_feed_here", "_law_many"] (defScope (top 50)) := ⟨rfl, rfl, rfl, by decide +kernel, rfl, by decide +kernel, by decide +kernel⟩

theorem d__law_take {w : World} {K : PySem.W.Frag} {mg : Str → Option Value} {base : Heap} (c : SaysX fa fn K) (KB : K.In base) (GB : base.Ns mainGlobals mg) : ∃ fd, FunD K "_law_take" "_law_take" (defArgs (top 50)) (defBody (top 50)) (defScope (top 50)) [] [] (gA "_law_take" K) fd ∧ DF Pg w K mg base (Γ K) 1 (gA "_law_take" K) fd ["_law_feed_here", "_law_many"] f__law_take := by
  obtain ⟨fd, F0⟩ := c.def_ 1 rfl rfl
  have F : FunD K "_law_take" "_law_take" (defArgs (top 50)) (defBody (top 50)) (defScope (top 50)) [] [] (gA "_law_take" K) fd := F0
  exact ⟨fd, F, d_fn (k := 0) (m := m__law_take) F sc__law_take rfl fun cd A outer s H E ok dk =>
   (ss_cons (s_if (t_cmp1 o_gt (e_ix (e_var 0) e_int) e_int rfl) (ss_cons (s_set ok.nd (e_bin o_modI (e_ix (e_var 0) e_int) (e_var 1)))
 (ss_cons (s_sub (e_bin o_divI (e_ix (e_var 0) e_int) (e_var 1)) (e_var 0) e_int)
 (ss_one (s_ret (e_var 2))))) ss_nil)
 (ss_cons (s_sub (e_bin o_add (e_ix (e_var 0) e_int) e_int) (e_var 0) e_int)
 (ss_cons (s_set ok.nd (e_bin o_modI (e_bin o_mul (e_bin o_add (e_ix (e_var 0) e_int) (e_bin o_mul e_int (e_ix (e_var 0) e_int))) e_int) e_int))
 (ss_cons (s_sub (e_bin o_add (e_bin o_modI (e_bin o_add (e_bin o_mul (e_var 3) e_int) e_int) e_int) e_int) (e_var 0) e_int)
 (ss_one (s_ret (e_bin o_modI (e_bin o_divI (e_bin o_add (e_bin o_mul (e_var 3) e_int) (e_ix (e_var 0) e_int)) e_int) (e_var 1))))))))⟩

theorem sc__law_mixed : FnScope ["_law_feed_here", "_law_items", "_law_left", "_law_found", "_law_turn"] ["_law_feed_here", "_law_items"] (defScope (top 51)) := ⟨rfl, rfl, rfl, by decide +kernel, rfl, by decide +kernel, by decide +kernel⟩

theorem d__law_mixed {w : World} {K : PySem.W.Frag} {mg : Str → Option Value} {base : Heap} (c : SaysX fa fn K) (KB : K.In base) (GB : base.Ns mainGlobals mg) : ∃ fd, FunD K "_law_mixed" "_law_mixed" (defArgs (top 51)) (defBody (top 51)) (defScope (top 51)) [] [] (gA "_law_mixed" K) fd ∧ DF Pg w K mg base (Γ K) 2 (gA "_law_mixed" K) fd ["_law_feed_here", "_law_items"] f__law_mixed := by
  obtain ⟨fd, F0⟩ := c.def_ 2 rfl rfl
  obtain ⟨fd__law_take, F__law_take, D__law_take⟩ := d__law_take (w := w) c KB GB
  have F : FunD K "_law_mixed" "_law_mixed" (defArgs (top 51)) (defBody (top 51)) (defScope (top 51)) [] [] (gA "_law_mixed" K) fd := F0
  exact ⟨fd, F, d_fn (k := 1) (m := m__law_mixed) F sc__law_mixed rfl fun cd A outer s H E ok dk =>
   (ss_cons (s_par ok (by decide) (a_cons (e_callT cd_listN rfl (He.free_ok KB GB (q8 c)) (by decide +kernel) (a_cons (e_var 1) a_nil)) (a_cons (e_new a_nil) a_nil)) rfl)
 (ss_cons (s_for ok.own ok.calm (i_range1 rfl (He.free_ok KB GB (q3 c)) (a_cons (e_callB cd_len rfl (He.free_ok KB GB (q0 c)) (by decide +kernel) (a_cons (e_var 2) a_nil)) a_nil)) (g_name ok.nd) (ss_one (s_expr (e_bm (b := .list) PySem.F.plainAttrs_list PySem.F.slot_list_append PySem.F.type_list_append md_append (e_var 3) (a_cons (e_bm (b := .list) PySem.F.plainAttrs_list PySem.F.slot_list_pop PySem.F.type_list_pop md_popAt (e_var 2) (a_cons (e_callN (Cal.fn ok D__law_take (by omega) (bd_of (n := 2) (ks := []) (pk := [0, 1]) F__law_take rfl (by decide) fun _ _ _ _ _ _ us ws h1 h2 => match us, ws, h1, h2 with | [_, _], [], _, _ => rfl) (fun _ => .nil)) rfl (He.glo_ok KB GB (q7 c)) F__law_take.kp (c_pos (a_cons (e_var 0) (a_cons (e_callB cd_len rfl (He.free_ok KB GB (q0 c)) (by decide +kernel) (a_cons (e_var 2) a_nil)) a_nil)))) a_nil)) a_nil)))))
 (ss_one (s_ret (e_frz (e_var 3))))))⟩

theorem sc__law_words : FnScope ["_law_feed_here", "_law_many", "_law_letters", "_law_form", "_law_known", "_law_start", "_law_at", "_law_found", "_law_k", "_law_sign", "_law_figures", "_law_signs", "_law_stem", "_law_longer", "_law_more"] ["_law_feed_here", "_law_many"] (defScope (top 52)) := ⟨rfl, rfl, rfl, by decide +kernel, rfl, by decide +kernel, by decide +kernel⟩

theorem d__law_words {w : World} {K : PySem.W.Frag} {mg : Str → Option Value} {base : Heap} (c : SaysX fa fn K) (KB : K.In base) (GB : base.Ns mainGlobals mg) : ∃ fd, FunD K "_law_words" "_law_words" (defArgs (top 52)) (defBody (top 52)) (defScope (top 52)) [] [] (gA "_law_words" K) fd ∧ DF Pg w K mg base (Γ K) 3 (gA "_law_words" K) fd ["_law_feed_here", "_law_many"] f__law_words := by
  obtain ⟨fd, F0⟩ := c.def_ 3 rfl rfl
  obtain ⟨fd__law_take, F__law_take, D__law_take⟩ := d__law_take (w := w) c KB GB
  obtain ⟨fd__law_mixed, F__law_mixed, D__law_mixed⟩ := d__law_mixed (w := w) c KB GB
  have F : FunD K "_law_words" "_law_words" (defArgs (top 52)) (defBody (top 52)) (defScope (top 52)) [] [] (gA "_law_words" K) fd := F0
  exact ⟨fd, F, d_fn (k := 2) (m := m__law_words) F sc__law_words rfl fun cd A outer s H E ok dk =>
   (ss_cons (s_par ok (by decide) (a_cons e_str (a_cons (e_callN (Cal.fn ok D__law_take (by omega) (bd_of (n := 2) (ks := []) (pk := [0, 1]) F__law_take rfl (by decide) fun _ _ _ _ _ _ us ws h1 h2 => match us, ws, h1, h2 with | [_, _], [], _, _ => rfl) (fun _ => .nil)) rfl (He.glo_ok KB GB (q7 c)) F__law_take.kp (c_pos (a_cons (e_var 0) (a_cons e_int a_nil)))) a_nil)) rfl)
 (ss_cons (s_if (t_cmp1 (o_eq ok) (e_var 3) e_int rfl) (ss_cons (s_set ok.nd e_str)
 (ss_cons (s_set ok.nd (e_callN (Cal.fn ok D__law_take (by omega) (bd_of (n := 2) (ks := []) (pk := [0, 1]) F__law_take rfl (by decide) fun _ _ _ _ _ _ us ws h1 h2 => match us, ws, h1, h2 with | [_, _], [], _, _ => rfl) (fun _ => .nil)) rfl (He.glo_ok KB GB (q7 c)) F__law_take.kp (c_pos (a_cons (e_var 0) (a_cons e_int a_nil)))))
 (ss_one (s_ret (e_callN (Cal.fn ok D__law_mixed (by omega) (bd_of (n := 2) (ks := []) (pk := [0, 1]) F__law_mixed rfl (by decide) fun _ _ _ _ _ _ us ws h1 h2 => match us, ws, h1, h2 with | [_, _], [], _, _ => rfl) (fun _ => .nil)) rfl (He.glo_ok KB GB (q9 c)) F__law_mixed.kp (c_pos (a_cons (e_var 0) (a_cons (e_sl (e_bin o_mulL (e_bm (b := .str) PySem.F.plainAttrs_str PySem.F.slot_str_split PySem.F.type_str_split md_split (e_var 4) (a_cons e_str a_nil)) e_int) (d_at (e_var 5)) (d_at (e_bin o_add (e_var 5) (e_var 1)))) a_nil)))))))) ss_nil)
 (ss_cons (s_if (t_cmp1 (o_eq ok) (e_var 3) e_int rfl) (ss_cons (s_par ok (by decide) (a_cons (e_callN (Cal.fn ok D__law_take (by omega) (bd_of (n := 2) (ks := []) (pk := [0, 1]) F__law_take rfl (by decide) fun _ _ _ _ _ _ us ws h1 h2 => match us, ws, h1, h2 with | [_, _], [], _, _ => rfl) (fun _ => .nil)) rfl (He.glo_ok KB GB (q7 c)) F__law_take.kp (c_pos (a_cons (e_var 0) (a_cons e_int a_nil)))) (a_cons (e_new (a_cons e_str a_nil)) a_nil)) rfl)
 (ss_cons (s_for ok.own ok.calm (i_range1 rfl (He.free_ok KB GB (q3 c)) (a_cons e_int a_nil)) (g_name ok.nd) (ss_one (s_expr (e_bm (b := .list) PySem.F.plainAttrs_list PySem.F.slot_list_append PySem.F.type_list_append md_append (e_var 7) (a_cons (e_bin o_add (e_ix (e_var 7) (e_bin o_divI (e_var 8) e_int)) (e_ix (e_var 2) (e_bin o_add (e_var 6) (e_bin o_modI (e_var 8) e_int)))) a_nil)))))
 (ss_one (s_ret (e_sl (e_callN (Cal.fn ok D__law_mixed (by omega) (bd_of (n := 2) (ks := []) (pk := [0, 1]) F__law_mixed rfl (by decide) fun _ _ _ _ _ _ us ws h1 h2 => match us, ws, h1, h2 with | [_, _], [], _, _ => rfl) (fun _ => .nil)) rfl (He.glo_ok KB GB (q9 c)) F__law_mixed.kp (c_pos (a_cons (e_var 0) (a_cons (e_sl (e_var 7) (d_at e_int) d_no) a_nil)))) d_no (d_at (e_var 1))))))) ss_nil)
 (ss_cons (s_if (t_cmp1 (o_eq ok) (e_var 3) e_int rfl) (ss_cons (s_asg (e_tup (a_cons (e_callN (Cal.fn ok D__law_take (by omega) (bd_of (n := 2) (ks := []) (pk := [0, 1]) F__law_take rfl (by decide) fun _ _ _ _ _ _ us ws h1 h2 => match us, ws, h1, h2 with | [_, _], [], _, _ => rfl) (fun _ => .nil)) rfl (He.glo_ok KB GB (q7 c)) F__law_take.kp (c_pos (a_cons (e_var 0) (a_cons e_int a_nil)))) (a_cons (e_ix (e_var 2) (e_callN (Cal.fn ok D__law_take (by omega) (bd_of (n := 2) (ks := []) (pk := [0, 1]) F__law_take rfl (by decide) fun _ _ _ _ _ _ us ws h1 h2 => match us, ws, h1, h2 with | [_, _], [], _, _ => rfl) (fun _ => .nil)) rfl (He.glo_ok KB GB (q7 c)) F__law_take.kp (c_pos (a_cons (e_var 0) (a_cons e_int a_nil))))) a_nil))) (g_tup ok.calm (gs_cons (g_name ok.nd) (gs_cons (g_name ok.nd) gs_nil))))
 (ss_one (s_ret (e_lc false ok (i_range1 rfl (He.free_ok KB GB (q3 c)) (a_cons (e_var 1) a_nil)) (blkOk_by (N := ["_law_feed_here", "_law_many", "_law_letters", "_law_form", "_law_known", "_law_start", "_law_at", "_law_found", "_law_k", "_law_sign", "_law_figures", "_law_signs", "_law_stem", "_law_longer", "_law_more"]) (sc := defScope (top 52)) (own := [("_law_k", 8)]) (by decide +kernel)) rfl (fun s_ H_ C_ cl_ fp_ => (gv_name (ok.blk s_ H_ _ C_ cl_ fp_).nd)) (fun s_ H_ C_ cl_ fp_ => ts_nil) (fun s_ H_ C_ cl_ fp_ => (e_bin o_add (e_var 9) (e_callT cd_str rfl (He.free_ok KB GB (q10 c)) (by decide +kernel) (a_cons (e_bin o_modI (e_bin o_add (e_var 5) (e_bin o_mul e_int (e_var 8))) e_int) a_nil)))))))) ss_nil)
 (ss_cons (s_set ok.nd (e_bin o_add (e_var 2) e_str))
 (ss_cons (s_set ok.nd (e_ix (e_lst (a_cons (e_callN (Cal.fn ok D__law_take (by omega) (bd_of (n := 2) (ks := []) (pk := [0, 1]) F__law_take rfl (by decide) fun _ _ _ _ _ _ us ws h1 h2 => match us, ws, h1, h2 with | [_, _], [], _, _ => rfl) (fun _ => .nil)) rfl (He.glo_ok KB GB (q7 c)) F__law_take.kp (c_pos (a_cons (e_var 0) (a_cons e_int a_nil)))) (a_cons e_int a_nil))) (e_callT cd_int rfl (He.free_ok KB GB (q5 c)) (by decide +kernel) (a_cons (e_cmp1 (o_eq ok) (e_var 3) e_int rfl) a_nil))))
 (ss_cons (s_set ok.nd (e_bm (b := .str) PySem.F.plainAttrs_str PySem.F.slot_str_join PySem.F.type_str_join md_join e_str (a_cons (e_lc false ok (i_range1 rfl (He.free_ok KB GB (q3 c)) (a_cons (e_var 11) a_nil)) (blkOk_by (N := ["_law_feed_here", "_law_many", "_law_letters", "_law_form", "_law_known", "_law_start", "_law_at", "_law_found", "_law_k", "_law_sign", "_law_figures", "_law_signs", "_law_stem", "_law_longer", "_law_more"]) (sc := defScope (top 52)) (own := [("_law_k", 8)]) (by decide +kernel)) rfl (fun s_ H_ C_ cl_ fp_ => (gv_name (ok.blk s_ H_ _ C_ cl_ fp_).nd)) (fun s_ H_ C_ cl_ fp_ => ts_nil) (fun s_ H_ C_ cl_ fp_ => (e_ix (e_var 10) (e_callN (Cal.fn (ok.blk s_ H_ _ C_ cl_ fp_) D__law_take (by omega) (bd_of (n := 2) (ks := []) (pk := [0, 1]) F__law_take rfl (by decide) fun _ _ _ _ _ _ us ws h1 h2 => match us, ws, h1, h2 with | [_, _], [], _, _ => rfl) (fun _ => .nil)) rfl (He.glo_ok KB GB (q7 c)) F__law_take.kp (c_pos (a_cons (e_var 0) (a_cons (e_bin o_add e_int (e_bin o_mul e_int (e_callT cd_int rfl (He.free_ok KB GB (q5 c)) (by decide +kernel) (a_cons (e_cmp1 o_gt (e_var 8) e_int rfl) a_nil)))) a_nil))))))) a_nil)))
 (ss_cons (s_asg (e_tup (a_cons (e_callN (Cal.fn ok D__law_take (by omega) (bd_of (n := 2) (ks := []) (pk := [0, 1]) F__law_take rfl (by decide) fun _ _ _ _ _ _ us ws h1 h2 => match us, ws, h1, h2 with | [_, _], [], _, _ => rfl) (fun _ => .nil)) rfl (He.glo_ok KB GB (q7 c)) F__law_take.kp (c_pos (a_cons (e_var 0) (a_cons (e_bin o_add (e_callB cd_len rfl (He.free_ok KB GB (q0 c)) (by decide +kernel) (a_cons (e_var 12) a_nil)) e_int) a_nil)))) (a_cons (e_callN (Cal.fn ok D__law_take (by omega) (bd_of (n := 2) (ks := []) (pk := [0, 1]) F__law_take rfl (by decide) fun _ _ _ _ _ _ us ws h1 h2 => match us, ws, h1, h2 with | [_, _], [], _, _ => rfl) (fun _ => .nil)) rfl (He.glo_ok KB GB (q7 c)) F__law_take.kp (c_pos (a_cons (e_var 0) (a_cons e_int a_nil)))) (a_cons (e_callN (Cal.fn ok D__law_take (by omega) (bd_of (n := 2) (ks := []) (pk := [0, 1]) F__law_take rfl (by decide) fun _ _ _ _ _ _ us ws h1 h2 => match us, ws, h1, h2 with | [_, _], [], _, _ => rfl) (fun _ => .nil)) rfl (He.glo_ok KB GB (q7 c)) F__law_take.kp (c_pos (a_cons (e_var 0) (a_cons e_int a_nil)))) a_nil)))) (g_tup ok.calm (gs_cons (g_name ok.nd) (gs_cons (g_name ok.nd) (gs_cons (g_name ok.nd) gs_nil)))))
 (ss_cons (s_if (t_cmp1 (o_eq ok) (e_var 3) e_int rfl) (ss_one (s_asg (e_tup (a_cons e_int (a_cons e_int a_nil))) (g_tup ok.calm (gs_cons (g_name ok.nd) (gs_cons (g_name ok.nd) gs_nil))))) ss_nil)
 (ss_cons (s_set ok.nd (e_new a_nil))
 (ss_cons (s_for ok.own ok.calm (i_range1 rfl (He.free_ok KB GB (q3 c)) (a_cons (e_var 1) a_nil)) (g_name ok.nd) (ss_cons (s_set ok.nd (e_ix (e_var 2) (e_bin o_modI (e_bin o_add (e_var 5) (e_bin o_mul e_int (e_var 8))) e_int)))
 (ss_cons (s_set ok.nd (e_bin o_mul (e_var 9) (e_bin o_mul (e_bin o_modI (e_var 8) e_int) (e_var 13))))
 (ss_one (s_expr (e_bm (b := .list) PySem.F.plainAttrs_list PySem.F.slot_list_append PySem.F.type_list_append md_append (e_var 7) (a_cons (e_bin o_add (e_bin o_add (e_bin o_add (e_sl (e_var 12) d_no (d_at (e_var 6))) (e_var 9)) (e_sl (e_var 12) (d_at (e_var 6)) d_no)) (e_var 14)) a_nil)))))))
 (ss_one (s_ret (e_callN (Cal.fn ok D__law_mixed (by omega) (bd_of (n := 2) (ks := []) (pk := [0, 1]) F__law_mixed rfl (by decide) fun _ _ _ _ _ _ us ws h1 h2 => match us, ws, h1, h2 with | [_, _], [], _, _ => rfl) (fun _ => .nil)) rfl (He.glo_ok KB GB (q9 c)) F__law_mixed.kp (c_pos (a_cons (e_var 0) (a_cons (e_var 7) a_nil)))))))))))))))))⟩

theorem sc__law_joints : FnScope ["_law_feed_here", "_law_many", "_law_bonds", "_law_form", "_law_found", "_law_k", "_law_at", "_law_to", "_law_half"] ["_law_feed_here", "_law_many", "_law_bonds"] (defScope (top 54)) := ⟨rfl, rfl, rfl, by decide +kernel, rfl, by decide +kernel, by decide +kernel⟩

theorem d__law_joints {w : World} {K : PySem.W.Frag} {mg : Str → Option Value} {base : Heap} (c : SaysX fa fn K) (KB : K.In base) (GB : base.Ns mainGlobals mg) : ∃ fd, FunD K "_law_joints" "_law_joints" (defArgs (top 54)) (defBody (top 54)) (defScope (top 54)) [] [] (gA "_law_joints" K) fd ∧ DF Pg w K mg base (Γ K) 2 (gA "_law_joints" K) fd ["_law_feed_here", "_law_many", "_law_bonds"] f__law_joints := by
  obtain ⟨fd, F0⟩ := c.def_ 4 rfl rfl
  obtain ⟨fd__law_take, F__law_take, D__law_take⟩ := d__law_take (w := w) c KB GB
  have F : FunD K "_law_joints" "_law_joints" (defArgs (top 54)) (defBody (top 54)) (defScope (top 54)) [] [] (gA "_law_joints" K) fd := F0
  exact ⟨fd, F, d_fn (k := 1) (m := m__law_joints) F sc__law_joints rfl fun cd A outer s H E ok dk =>
   (ss_cons (s_par ok (by decide) (a_cons (e_callN (Cal.fn ok D__law_take (by omega) (bd_of (n := 2) (ks := []) (pk := [0, 1]) F__law_take rfl (by decide) fun _ _ _ _ _ _ us ws h1 h2 => match us, ws, h1, h2 with | [_, _], [], _, _ => rfl) (fun _ => .nil)) rfl (He.glo_ok KB GB (q7 c)) F__law_take.kp (c_pos (a_cons (e_var 0) (a_cons e_int a_nil)))) (a_cons (e_new a_nil) a_nil)) rfl)
 (ss_cons (s_for ok.own ok.calm (i_range1 rfl (He.free_ok KB GB (q3 c)) (a_cons (e_bin o_mul (e_var 2) (e_callT cd_int rfl (He.free_ok KB GB (q5 c)) (by decide +kernel) (a_cons (e_cmp1 o_gt (e_var 1) e_int rfl) a_nil))) a_nil)) (g_name ok.nd) (ss_cons (s_set ok.nd (e_callN (Cal.fn ok D__law_take (by omega) (bd_of (n := 2) (ks := []) (pk := [0, 1]) F__law_take rfl (by decide) fun _ _ _ _ _ _ us ws h1 h2 => match us, ws, h1, h2 with | [_, _], [], _, _ => rfl) (fun _ => .nil)) rfl (He.glo_ok KB GB (q7 c)) F__law_take.kp (c_pos (a_cons (e_var 0) (a_cons (e_var 1) a_nil)))))
 (ss_cons (s_set ok.nd (e_bin o_modI (e_bin o_add (e_bin o_add (e_var 6) e_int) (e_callN (Cal.fn ok D__law_take (by omega) (bd_of (n := 2) (ks := []) (pk := [0, 1]) F__law_take rfl (by decide) fun _ _ _ _ _ _ us ws h1 h2 => match us, ws, h1, h2 with | [_, _], [], _, _ => rfl) (fun _ => .nil)) rfl (He.glo_ok KB GB (q7 c)) F__law_take.kp (c_pos (a_cons (e_var 0) (a_cons (e_bin o_subI (e_var 1) e_int) a_nil))))) (e_var 1)))
 (ss_cons (s_if (DW.t (w_and (t_cmp1 (o_eq ok) (e_var 3) e_int rfl) (w_and1 (t_cmp1 o_lt (e_var 5) (e_bin o_subI (e_var 1) (e_callT cd_int rfl (He.free_ok KB GB (q5 c)) (by decide +kernel) (a_cons (e_cmp1 (o_eq ok) (e_callN (Cal.fn ok D__law_take (by omega) (bd_of (n := 2) (ks := []) (pk := [0, 1]) F__law_take rfl (by decide) fun _ _ _ _ _ _ us ws h1 h2 => match us, ws, h1, h2 with | [_, _], [], _, _ => rfl) (fun _ => .nil)) rfl (He.glo_ok KB GB (q7 c)) F__law_take.kp (c_pos (a_cons (e_var 0) (a_cons e_int a_nil)))) e_int rfl) a_nil))) rfl)))) (ss_one (s_par ok (by decide) (a_cons (e_var 5) (a_cons (e_bin o_modI (e_bin o_add (e_var 5) e_int) (e_var 1)) a_nil)) rfl)) ss_nil)
 (ss_cons (s_set ok.nd (e_bin o_divI (e_bin o_add (e_var 1) e_int) e_int))
 (ss_one (s_if (DW.t (w_or (t_cmp1 o_lt (e_var 3) e_int rfl) (w_or (t_cmp1 o_lt (e_var 1) e_int rfl) (w_or1 (t_cmp1 (o_eq ok) (e_cmp1 o_lt (e_var 6) (e_var 8) rfl) (e_cmp1 o_lt (e_var 7) (e_var 8) rfl) rfl))))) (ss_one (s_expr (e_bm (b := .list) PySem.F.plainAttrs_list PySem.F.slot_list_append PySem.F.type_list_append md_append (e_var 4) (a_cons (e_tup (a_cons (e_var 6) (a_cons (e_var 7) a_nil))) a_nil)))) ss_nil)))))))
 (ss_one (s_ret (e_frz (e_var 4))))))⟩

theorem sc__law_bounds : FnScope ["_law_feed_here", "_law_near", "_law_limit", "_law_form", "_law_slack"] ["_law_feed_here", "_law_near", "_law_limit"] (defScope (top 53)) := ⟨rfl, rfl, rfl, by decide +kernel, rfl, by decide +kernel, by decide +kernel⟩

theorem d__law_bounds {w : World} {K : PySem.W.Frag} {mg : Str → Option Value} {base : Heap} (c : SaysX fa fn K) (KB : K.In base) (GB : base.Ns mainGlobals mg) : ∃ fd, FunD K "_law_bounds" "_law_bounds" (defArgs (top 53)) (defBody (top 53)) (defScope (top 53)) [] [] (gA "_law_bounds" K) fd ∧ DF Pg w K mg base (Γ K) 2 (gA "_law_bounds" K) fd ["_law_feed_here", "_law_near", "_law_limit"] f__law_bounds := by
  obtain ⟨fd, F0⟩ := c.def_ 5 rfl rfl
  obtain ⟨fd__law_take, F__law_take, D__law_take⟩ := d__law_take (w := w) c KB GB
  have F : FunD K "_law_bounds" "_law_bounds" (defArgs (top 53)) (defBody (top 53)) (defScope (top 53)) [] [] (gA "_law_bounds" K) fd := F0
  exact ⟨fd, F, d_fn (k := 1) (m := m__law_bounds) F sc__law_bounds rfl fun cd A outer s H E ok dk =>
   (ss_cons (s_par ok (by decide) (a_cons (e_callN (Cal.fn ok D__law_take (by omega) (bd_of (n := 2) (ks := []) (pk := [0, 1]) F__law_take rfl (by decide) fun _ _ _ _ _ _ us ws h1 h2 => match us, ws, h1, h2 with | [_, _], [], _, _ => rfl) (fun _ => .nil)) rfl (He.glo_ok KB GB (q7 c)) F__law_take.kp (c_pos (a_cons (e_var 0) (a_cons e_int a_nil)))) (a_cons (e_bin o_add e_int (e_callN (Cal.fn ok D__law_take (by omega) (bd_of (n := 2) (ks := []) (pk := [0, 1]) F__law_take rfl (by decide) fun _ _ _ _ _ _ us ws h1 h2 => match us, ws, h1, h2 with | [_, _], [], _, _ => rfl) (fun _ => .nil)) rfl (He.glo_ok KB GB (q7 c)) F__law_take.kp (c_pos (a_cons (e_var 0) (a_cons (e_ix (e_lst (a_cons e_int (a_cons (e_bin o_add (e_bin o_divI (e_var 2) e_int) e_int) a_nil))) (e_callN (Cal.fn ok D__law_take (by omega) (bd_of (n := 2) (ks := []) (pk := [0, 1]) F__law_take rfl (by decide) fun _ _ _ _ _ _ us ws h1 h2 => match us, ws, h1, h2 with | [_, _], [], _, _ => rfl) (fun _ => .nil)) rfl (He.glo_ok KB GB (q7 c)) F__law_take.kp (c_pos (a_cons (e_var 0) (a_cons e_int a_nil))))) a_nil))))) a_nil)) rfl)
 (ss_cons (s_if (t_cmp1 (o_eq ok) (e_var 3) e_int rfl) (ss_one (s_ret (e_tup (a_cons (e_var 1) (a_cons (e_var 1) a_nil))))) ss_nil)
 (ss_cons (s_if (t_cmp1 (o_eq ok) (e_var 3) e_int rfl) (ss_one (s_ret (e_tup (a_cons e_int (a_cons (e_callB (cd_min ok.calm) rfl (He.free_ok KB GB (q1 c)) (by decide +kernel) (a_cons (e_var 2) (a_cons (e_bin o_add (e_var 1) (e_callN (Cal.fn ok D__law_take (by omega) (bd_of (n := 2) (ks := []) (pk := [0, 1]) F__law_take rfl (by decide) fun _ _ _ _ _ _ us ws h1 h2 => match us, ws, h1, h2 with | [_, _], [], _, _ => rfl) (fun _ => .nil)) rfl (He.glo_ok KB GB (q7 c)) F__law_take.kp (c_pos (a_cons (e_var 0) (a_cons (e_bin o_add (e_var 4) e_int) a_nil))))) a_nil))) a_nil))))) ss_nil)
 (ss_one (s_ret (e_tup (a_cons (e_callB (cd_max ok.calm) rfl (He.free_ok KB GB (q2 c)) (by decide +kernel) (a_cons e_int (a_cons (e_bin o_subI (e_var 1) (e_callN (Cal.fn ok D__law_take (by omega) (bd_of (n := 2) (ks := []) (pk := [0, 1]) F__law_take rfl (by decide) fun _ _ _ _ _ _ us ws h1 h2 => match us, ws, h1, h2 with | [_, _], [], _, _ => rfl) (fun _ => .nil)) rfl (He.glo_ok KB GB (q7 c)) F__law_take.kp (c_pos (a_cons (e_var 0) (a_cons (e_bin o_add (e_var 4) e_int) a_nil))))) a_nil))) (a_cons (e_callB (cd_min ok.calm) rfl (He.free_ok KB GB (q1 c)) (by decide +kernel) (a_cons (e_var 2) (a_cons (e_bin o_add (e_var 1) (e_callN (Cal.fn ok D__law_take (by omega) (bd_of (n := 2) (ks := []) (pk := [0, 1]) F__law_take rfl (by decide) fun _ _ _ _ _ _ us ws h1 h2 => match us, ws, h1, h2 with | [_, _], [], _, _ => rfl) (fun _ => .nil)) rfl (He.glo_ok KB GB (q7 c)) F__law_take.kp (c_pos (a_cons (e_var 0) (a_cons (e_bin o_add (e_var 4) e_int) a_nil))))) a_nil))) a_nil))))))))⟩

theorem sc__law_web : FnScope ["_law_feed_here", "_law_many", "_law_bonds", "_law_limit", "_law_words_here", "_law_loose", "_law_titles", "_law_spots", "_law_found", "_law_at", "_law_to", "_law_near", "_law_bounds_here", "_law_k"] ["_law_feed_here", "_law_many", "_law_bonds", "_law_limit"] (defScope (top 55)) := ⟨rfl, rfl, rfl, by decide +kernel, rfl, by decide +kernel, by decide +kernel⟩

theorem d__law_web {w : World} {K : PySem.W.Frag} {mg : Str → Option Value} {base : Heap} (c : SaysX fa fn K) (KB : K.In base) (GB : base.Ns mainGlobals mg) : ∃ fd, FunD K "_law_web" "_law_web" (defArgs (top 55)) (defBody (top 55)) (defScope (top 55)) [] [] (gA "_law_web" K) fd ∧ DF Pg w K mg base (Γ K) 4 (gA "_law_web" K) fd ["_law_feed_here", "_law_many", "_law_bonds", "_law_limit"] f__law_web := by
  obtain ⟨fd, F0⟩ := c.def_ 6 rfl rfl
  obtain ⟨fd__law_words, F__law_words, D__law_words⟩ := d__law_words (w := w) c KB GB
  obtain ⟨fd__law_take, F__law_take, D__law_take⟩ := d__law_take (w := w) c KB GB
  obtain ⟨fd__law_joints, F__law_joints, D__law_joints⟩ := d__law_joints (w := w) c KB GB
  obtain ⟨fd__law_bounds, F__law_bounds, D__law_bounds⟩ := d__law_bounds (w := w) c KB GB
  have F : FunD K "_law_web" "_law_web" (defArgs (top 55)) (defBody (top 55)) (defScope (top 55)) [] [] (gA "_law_web" K) fd := F0
  exact ⟨fd, F, d_fn (k := 3) (m := m__law_web) F sc__law_web rfl fun cd A outer s H E ok dk =>
   (ss_cons (s_par ok (by decide) (a_cons (e_callN (Cal.fn ok D__law_words (by omega) (bd_of (n := 2) (ks := []) (pk := [0, 1]) F__law_words rfl (by decide) fun _ _ _ _ _ _ us ws h1 h2 => match us, ws, h1, h2 with | [_, _], [], _, _ => rfl) (fun _ => .nil)) rfl (He.glo_ok KB GB (q11 c)) F__law_words.kp (c_pos (a_cons (e_var 0) (a_cons (e_var 1) a_nil)))) (a_cons (e_cmp1 (o_eq ok) (e_callN (Cal.fn ok D__law_take (by omega) (bd_of (n := 2) (ks := []) (pk := [0, 1]) F__law_take rfl (by decide) fun _ _ _ _ _ _ us ws h1 h2 => match us, ws, h1, h2 with | [_, _], [], _, _ => rfl) (fun _ => .nil)) rfl (He.glo_ok KB GB (q7 c)) F__law_take.kp (c_pos (a_cons (e_var 0) (a_cons e_int a_nil)))) e_int rfl) a_nil)) rfl)
 (ss_cons (s_set ok.nd (e_callN (Cal.fn ok D__law_words (by omega) (bd_of (n := 2) (ks := []) (pk := [0, 1]) F__law_words rfl (by decide) fun _ _ _ _ _ _ us ws h1 h2 => match us, ws, h1, h2 with | [_, _], [], _, _ => rfl) (fun _ => .nil)) rfl (He.glo_ok KB GB (q11 c)) F__law_words.kp (c_pos (a_cons (e_var 0) (a_cons (e_callB (cd_max ok.calm) rfl (He.free_ok KB GB (q2 c)) (by decide +kernel) (a_cons e_int (a_cons (e_var 2) a_nil))) a_nil)))))
 (ss_cons (s_setLc false ok (i_range1 rfl (He.free_ok KB GB (q3 c)) (a_cons (e_var 1) a_nil)) (blkOk_by (N := ["_law_feed_here", "_law_many", "_law_bonds", "_law_limit", "_law_words_here", "_law_loose", "_law_titles", "_law_spots", "_law_found", "_law_at", "_law_to", "_law_near", "_law_bounds_here", "_law_k"]) (sc := defScope (top 55)) (own := [("_law_k", 13)]) (by decide +kernel)) rfl (fun s_ H_ C_ cl_ fp_ => (gv_name (ok.blk s_ H_ _ C_ cl_ fp_).nd)) (fun s_ H_ C_ cl_ fp_ => ts_nil) (fun s_ H_ C_ cl_ fp_ => (e_tup (a_cons (e_callN (Cal.fn (ok.blk s_ H_ _ C_ cl_ fp_) D__law_take (by omega) (bd_of (n := 2) (ks := []) (pk := [0, 1]) F__law_take rfl (by decide) fun _ _ _ _ _ _ us ws h1 h2 => match us, ws, h1, h2 with | [_, _], [], _, _ => rfl) (fun _ => .nil)) rfl (He.glo_ok KB GB (q7 c)) F__law_take.kp (c_pos (a_cons (e_var 0) (a_cons (e_bin o_add (e_var 3) e_int) a_nil)))) (a_cons (e_callN (Cal.fn (ok.blk s_ H_ _ C_ cl_ fp_) D__law_take (by omega) (bd_of (n := 2) (ks := []) (pk := [0, 1]) F__law_take rfl (by decide) fun _ _ _ _ _ _ us ws h1 h2 => match us, ws, h1, h2 with | [_, _], [], _, _ => rfl) (fun _ => .nil)) rfl (He.glo_ok KB GB (q7 c)) F__law_take.kp (c_pos (a_cons (e_var 0) (a_cons (e_bin o_add (e_var 3) e_int) a_nil)))) a_nil)))) (sw_true rfl rfl rfl (by decide +kernel)))
 (ss_cons (s_set ok.nd (e_new a_nil))
 (ss_cons (s_for ok.own ok.calm (i_enum rfl (He.free_ok KB GB (q13 c)) (a_cons (e_callN (Cal.fn ok D__law_joints (by omega) (bd_of (n := 3) (ks := []) (pk := [0, 1, 2]) F__law_joints rfl (by decide) fun _ _ _ _ _ _ us ws h1 h2 => match us, ws, h1, h2 with | [_, _, _], [], _, _ => rfl) (fun _ => .nil)) rfl (He.glo_ok KB GB (q12 c)) F__law_joints.kp (c_pos (a_cons (e_var 0) (a_cons (e_var 1) (a_cons (e_var 2) a_nil))))) a_nil)) (g_tup ok.calm (gs_cons (g_name ok.nd) (gs_cons (g_tup ok.calm (gs_cons (g_name ok.nd) (gs_cons (g_name ok.nd) gs_nil))) gs_nil))) (ss_cons (s_set ok.nd (e_callB (cd_max ok.calm) rfl (He.free_ok KB GB (q2 c)) (by decide +kernel) (a_cons (e_callB cd_abs rfl (He.free_ok KB GB (q4 c)) (by decide +kernel) (a_cons (e_bin o_subI (e_ix (e_ix (e_var 7) (e_var 9)) e_int) (e_ix (e_ix (e_var 7) (e_var 10)) e_int)) a_nil)) (a_cons (e_callB cd_abs rfl (He.free_ok KB GB (q4 c)) (by decide +kernel) (a_cons (e_bin o_subI (e_ix (e_ix (e_var 7) (e_var 9)) e_int) (e_ix (e_ix (e_var 7) (e_var 10)) e_int)) a_nil)) a_nil))))
 (ss_cons (s_if (t_val (e_var 5)) (ss_one (s_set ok.nd (e_callN (Cal.fn ok D__law_take (by omega) (bd_of (n := 2) (ks := []) (pk := [0, 1]) F__law_take rfl (by decide) fun _ _ _ _ _ _ us ws h1 h2 => match us, ws, h1, h2 with | [_, _], [], _, _ => rfl) (fun _ => .nil)) rfl (He.glo_ok KB GB (q7 c)) F__law_take.kp (c_pos (a_cons (e_var 0) (a_cons (e_bin o_add (e_var 3) e_int) a_nil)))))) ss_nil)
 (ss_cons (s_set ok.nd (e_callN (Cal.fn ok D__law_bounds (by omega) (bd_of (n := 3) (ks := []) (pk := [0, 1, 2]) F__law_bounds rfl (by decide) fun _ _ _ _ _ _ us ws h1 h2 => match us, ws, h1, h2 with | [_, _, _], [], _, _ => rfl) (fun _ => .nil)) rfl (He.glo_ok KB GB (q14 c)) F__law_bounds.kp (c_pos (a_cons (e_var 0) (a_cons (e_var 11) (a_cons (e_var 3) a_nil))))))
 (ss_one (s_expr (e_bm (b := .list) PySem.F.plainAttrs_list PySem.F.slot_list_append PySem.F.type_list_append md_append (e_var 8) (a_cons (e_tup (a_cons (e_ix (e_var 6) (e_var 13)) (a_cons (e_ix (e_var 4) (e_var 9)) (a_cons (e_ix (e_var 4) (e_var 10)) (a_cons (e_ix (e_var 12) e_int) (a_cons (e_ix (e_var 12) e_int) a_nil)))))) a_nil))))))))
 (ss_one (s_ret (e_tup (a_cons (e_callT cd_tuple rfl (He.free_ok KB GB (q15 c)) (by decide +kernel) (a_cons (e_var 4) a_nil)) (a_cons (e_callT cd_tuple rfl (He.free_ok KB GB (q15 c)) (by decide +kernel) (a_cons (e_var 8) a_nil)) a_nil))))))))))⟩

theorem sc_is_whole : FnScope ["value"] ["value"] (defScope (top 29)) := ⟨rfl, rfl, rfl, by decide +kernel, rfl, by decide +kernel, by decide +kernel⟩

theorem d_is_whole {w : World} {K : PySem.W.Frag} {mg : Str → Option Value} {base : Heap} (c : SaysX fa fn K) (KB : K.In base) (GB : base.Ns mainGlobals mg) : ∃ fd, FunD K "is_whole" "is_whole" (defArgs (top 29)) (defBody (top 29)) (defScope (top 29)) [] [] (gA "is_whole" K) fd ∧ DF Pg w K mg base (Γ K) 1 (gA "is_whole" K) fd ["value"] f_is_whole := by
  obtain ⟨fd, F0⟩ := c.def_ 7 rfl rfl
  have F : FunD K "is_whole" "is_whole" (defArgs (top 29)) (defBody (top 29)) (defScope (top 29)) [] [] (gA "is_whole" K) fd := F0
  exact ⟨fd, F, d_fn (k := 0) (m := m_is_whole) F sc_is_whole rfl fun cd A outer s H E ok dk =>
   (ss_one (s_ret (e_and (e_callB (cd_isi IsiOk.base) rfl (He.free_ok KB GB (q17 c)) (by decide +kernel) (a_cons (e_var 0) (a_cons (e_bty rfl (He.free_ok KB GB (q5 c)) (by decide +kernel)) a_nil))) (e_one (e_not (e_callB (cd_isi IsiOk.base) rfl (He.free_ok KB GB (q17 c)) (by decide +kernel) (a_cons (e_var 0) (a_cons (e_bty rfl (He.free_ok KB GB (q19 c)) (by decide +kernel)) a_nil))))))))⟩

theorem sc_is_tie : FnScope ["value", "word", "number"] ["value"] (defScope (top 40)) := ⟨rfl, rfl, rfl, by decide +kernel, rfl, by decide +kernel, by decide +kernel⟩

theorem d_is_tie {w : World} {K : PySem.W.Frag} {mg : Str → Option Value} {base : Heap} (c : SaysX fa fn K) (KB : K.In base) (GB : base.Ns mainGlobals mg) : ∃ fd, FunD K "is_tie" "is_tie" (defArgs (top 40)) (defBody (top 40)) (defScope (top 40)) [] [] (gA "is_tie" K) fd ∧ DF Pg w K mg base (Γ K) 2 (gA "is_tie" K) fd ["value"] f_is_tie := by
  obtain ⟨fd, F0⟩ := c.def_ 8 rfl rfl
  obtain ⟨fd_is_whole, F_is_whole, D_is_whole⟩ := d_is_whole (w := w) c KB GB
  have F : FunD K "is_tie" "is_tie" (defArgs (top 40)) (defBody (top 40)) (defScope (top 40)) [] [] (gA "is_tie" K) fd := F0
  exact ⟨fd, F, d_fn (k := 1) (m := m_is_tie) F sc_is_tie rfl fun cd A outer s H E ok dk =>
   (ss_cons (s_if (DW.t (w_or (t_not (t_val (e_callB (cd_isi IsiOk.base) rfl (He.free_ok KB GB (q17 c)) (by decide +kernel) (a_cons (e_var 0) (a_cons (e_bty rfl (He.free_ok KB GB (q15 c)) (by decide +kernel)) a_nil))))) (w_or1 (t_cmp1 (o_ne ok) (e_callB cd_len rfl (He.free_ok KB GB (q0 c)) (by decide +kernel) (a_cons (e_var 0) a_nil)) e_int rfl)))) (ss_one (s_ret e_bl)) ss_nil)
 (ss_one (s_ret (e_and (e_callB (cd_all ok.calm) rfl (He.free_ok KB GB (q18 c)) (by decide +kernel) (a_cons (e_lc false ok (i_seq (e_sl (e_var 0) d_no (d_at e_int))) (blkOk_by (N := ["value", "word", "number"]) (sc := defScope (top 40)) (own := [("word", 1)]) (by decide +kernel)) rfl (fun s_ H_ C_ cl_ fp_ => (gv_name (ok.blk s_ H_ _ C_ cl_ fp_).nd)) (fun s_ H_ C_ cl_ fp_ => ts_nil) (fun s_ H_ C_ cl_ fp_ => (e_callB (cd_isi IsiOk.base) rfl (He.free_ok KB GB (q17 c)) (by decide +kernel) (a_cons (e_var 1) (a_cons (e_bty rfl (He.free_ok KB GB (q10 c)) (by decide +kernel)) a_nil))))) a_nil)) (e_one (e_callB (cd_all ok.calm) rfl (He.free_ok KB GB (q18 c)) (by decide +kernel) (a_cons (e_lc false ok (i_seq (e_sl (e_var 0) (d_at e_int) d_no)) (blkOk_by (N := ["value", "word", "number"]) (sc := defScope (top 40)) (own := [("number", 2)]) (by decide +kernel)) rfl (fun s_ H_ C_ cl_ fp_ => (gv_name (ok.blk s_ H_ _ C_ cl_ fp_).nd)) (fun s_ H_ C_ cl_ fp_ => ts_nil) (fun s_ H_ C_ cl_ fp_ => (e_callN (Cal.fn (ok.blk s_ H_ _ C_ cl_ fp_) D_is_whole (by omega) (bd_of (n := 1) (ks := []) (pk := [0]) F_is_whole rfl (by decide) fun _ _ _ _ _ _ us ws h1 h2 => match us, ws, h1, h2 with | [_], [], _, _ => rfl) (fun _ => .nil)) rfl (He.glo_ok KB GB (q20 c)) F_is_whole.kp (c_pos (a_cons (e_var 2) a_nil))))) a_nil)))))))⟩

theorem sc_has_form : FnScope ["posts", "ties", "post", "tie"] ["posts", "ties"] (defScope (top 41)) := ⟨rfl, rfl, rfl, by decide +kernel, rfl, by decide +kernel, by decide +kernel⟩

theorem d_has_form {w : World} {K : PySem.W.Frag} {mg : Str → Option Value} {base : Heap} (c : SaysX fa fn K) (KB : K.In base) (GB : base.Ns mainGlobals mg) : ∃ fd, FunD K "has_form" "has_form" (defArgs (top 41)) (defBody (top 41)) (defScope (top 41)) [] [] (gA "has_form" K) fd ∧ DF Pg w K mg base (Γ K) 3 (gA "has_form" K) fd ["posts", "ties"] f_has_form := by
  obtain ⟨fd, F0⟩ := c.def_ 9 rfl rfl
  obtain ⟨fd_is_tie, F_is_tie, D_is_tie⟩ := d_is_tie (w := w) c KB GB
  have F : FunD K "has_form" "has_form" (defArgs (top 41)) (defBody (top 41)) (defScope (top 41)) [] [] (gA "has_form" K) fd := F0
  exact ⟨fd, F, d_fn (k := 2) (m := m_has_form) F sc_has_form rfl fun cd A outer s H E ok dk =>
   (ss_cons (s_if (DW.t (w_or (t_not (t_val (e_callB (cd_isi IsiOk.base) rfl (He.free_ok KB GB (q17 c)) (by decide +kernel) (a_cons (e_var 0) (a_cons (e_bty rfl (He.free_ok KB GB (q15 c)) (by decide +kernel)) a_nil))))) (w_or1 (t_not (t_val (e_callB (cd_isi IsiOk.base) rfl (He.free_ok KB GB (q17 c)) (by decide +kernel) (a_cons (e_var 1) (a_cons (e_bty rfl (He.free_ok KB GB (q15 c)) (by decide +kernel)) a_nil)))))))) (ss_one (s_ret e_bl)) ss_nil)
 (ss_one (s_ret (e_and (e_callB (cd_all ok.calm) rfl (He.free_ok KB GB (q18 c)) (by decide +kernel) (a_cons (e_lc false ok (i_seq (e_var 0)) (blkOk_by (N := ["posts", "ties", "post", "tie"]) (sc := defScope (top 41)) (own := [("post", 2)]) (by decide +kernel)) rfl (fun s_ H_ C_ cl_ fp_ => (gv_name (ok.blk s_ H_ _ C_ cl_ fp_).nd)) (fun s_ H_ C_ cl_ fp_ => ts_nil) (fun s_ H_ C_ cl_ fp_ => (e_callB (cd_isi IsiOk.base) rfl (He.free_ok KB GB (q17 c)) (by decide +kernel) (a_cons (e_var 2) (a_cons (e_bty rfl (He.free_ok KB GB (q10 c)) (by decide +kernel)) a_nil))))) a_nil)) (e_one (e_callB (cd_all ok.calm) rfl (He.free_ok KB GB (q18 c)) (by decide +kernel) (a_cons (e_lc false ok (i_seq (e_var 1)) (blkOk_by (N := ["posts", "ties", "post", "tie"]) (sc := defScope (top 41)) (own := [("tie", 3)]) (by decide +kernel)) rfl (fun s_ H_ C_ cl_ fp_ => (gv_name (ok.blk s_ H_ _ C_ cl_ fp_).nd)) (fun s_ H_ C_ cl_ fp_ => ts_nil) (fun s_ H_ C_ cl_ fp_ => (e_callN (Cal.fn (ok.blk s_ H_ _ C_ cl_ fp_) D_is_tie (by omega) (bd_of (n := 1) (ks := []) (pk := [0]) F_is_tie rfl (by decide) fun _ _ _ _ _ _ us ws h1 h2 => match us, ws, h1, h2 with | [_], [], _, _ => rfl) (fun _ => .nil)) rfl (He.glo_ok KB GB (q21 c)) F_is_tie.kp (c_pos (a_cons (e_var 3) a_nil))))) a_nil)))))))⟩

theorem sc_is_name : FnScope ["text", "sign"] ["text"] (defScope (top 30)) := ⟨rfl, rfl, rfl, by decide +kernel, rfl, by decide +kernel, by decide +kernel⟩

theorem d_is_name {w : World} {K : PySem.W.Frag} {mg : Str → Option Value} {base : Heap} (c : SaysX fa fn K) (KB : K.In base) (GB : base.Ns mainGlobals mg) : ∃ fd, FunD K "is_name" "is_name" (defArgs (top 30)) (defBody (top 30)) (defScope (top 30)) [] [] (gA "is_name" K) fd ∧ DF Pg w K mg base (Γ K) 1 (gA "is_name" K) fd ["text"] f_is_name := by
  obtain ⟨fd, F0⟩ := c.def_ 10 rfl rfl
  have F : FunD K "is_name" "is_name" (defArgs (top 30)) (defBody (top 30)) (defScope (top 30)) [] [] (gA "is_name" K) fd := F0
  exact ⟨fd, F, d_fn (k := 0) (m := m_is_name) F sc_is_name rfl fun cd A outer s H E ok dk =>
   (ss_cons (s_if (DW.t (w_or (t_not (t_chain o_lt o_le e_int (e_callB cd_len rfl (He.free_ok KB GB (q0 c)) (by decide +kernel) (a_cons (e_var 0) a_nil)) (e_gint rfl (He.int_ok KB GB (q23 c))))) (w_or1 (t_cmp1 (o_notIn ok) (e_ix (e_var 0) e_int) (e_gstr rfl (He.str_ok KB GB (q24 c))) rfl)))) (ss_one (s_ret e_bl)) ss_nil)
 (ss_one (s_ret (e_callB (cd_all ok.calm) rfl (He.free_ok KB GB (q18 c)) (by decide +kernel) (a_cons (e_lc false ok (i_seq (e_var 0)) (blkOk_by (N := ["text", "sign"]) (sc := defScope (top 30)) (own := [("sign", 1)]) (by decide +kernel)) rfl (fun s_ H_ C_ cl_ fp_ => (gv_name (ok.blk s_ H_ _ C_ cl_ fp_).nd)) (fun s_ H_ C_ cl_ fp_ => ts_nil) (fun s_ H_ C_ cl_ fp_ => (e_or (e_cmp1 (o_in (ok.blk s_ H_ _ C_ cl_ fp_)) (e_var 1) (e_gstr rfl (He.str_ok KB GB (q24 c))) rfl) (e_one (e_cmp1 (o_in (ok.blk s_ H_ _ C_ cl_ fp_)) (e_var 1) (e_gstr rfl (He.str_ok KB GB (q25 c))) rfl))))) a_nil)))))⟩

theorem sc_check_names : FnScope ["names", "reason", "index", "name"] ["names", "reason"] (defScope (top 42)) := ⟨rfl, rfl, rfl, by decide +kernel, rfl, by decide +kernel, by decide +kernel⟩

theorem d_check_names {w : World} {K : PySem.W.Frag} {mg : Str → Option Value} {base : Heap} (c : SaysX fa fn K) (KB : K.In base) (GB : base.Ns mainGlobals mg) : ∃ fd, FunD K "check_names" "check_names" (defArgs (top 42)) (defBody (top 42)) (defScope (top 42)) [] [] (gA "check_names" K) fd ∧ DF Pg w K mg base (Γ K) 2 (gA "check_names" K) fd ["names", "reason"] f_check_names := by
  obtain ⟨fd, F0⟩ := c.def_ 11 rfl rfl
  obtain ⟨fd_is_name, F_is_name, D_is_name⟩ := d_is_name (w := w) c KB GB
  have F : FunD K "check_names" "check_names" (defArgs (top 42)) (defBody (top 42)) (defScope (top 42)) [] [] (gA "check_names" K) fd := F0
  exact ⟨fd, F, d_fn (k := 1) (m := m_check_names) F sc_check_names rfl fun cd A outer s H E ok dk =>
   (ss_one (s_for ok.own ok.calm (i_enum rfl (He.free_ok KB GB (q13 c)) (a_cons (e_var 0) a_nil)) (g_tup ok.calm (gs_cons (g_name ok.nd) (gs_cons (g_name ok.nd) gs_nil))) (ss_one (s_if (DW.t (w_or (t_not (t_val (e_callN (Cal.fn ok D_is_name (by omega) (bd_of (n := 1) (ks := []) (pk := [0]) F_is_name rfl (by decide) fun _ _ _ _ _ _ us ws h1 h2 => match us, ws, h1, h2 with | [_], [], _, _ => rfl) (fun _ => .nil)) rfl (He.glo_ok KB GB (q26 c)) F_is_name.kp (c_pos (a_cons (e_var 3) a_nil))))) (w_or1 (t_cmp1 (o_in ok) (e_var 3) (e_sl (e_var 0) d_no (d_at (e_var 2))) rfl)))) (ss_one (s_raise ok (x_InvalidWeb c KB GB) rfl rfl rfl (c_pos (a_cons (e_var 1) (a_cons (e_var 2) a_nil))))) ss_nil))))⟩

theorem sc_check_tie : FnScope ["posts", "ties", "index", "name", "one", "other", "least", "greatest", "tie"] ["posts", "ties", "index"] (defScope (top 43)) := ⟨rfl, rfl, rfl, by decide +kernel, rfl, by decide +kernel, by decide +kernel⟩

theorem d_check_tie {w : World} {K : PySem.W.Frag} {mg : Str → Option Value} {base : Heap} (c : SaysX fa fn K) (KB : K.In base) (GB : base.Ns mainGlobals mg) : ∃ fd, FunD K "check_tie" "check_tie" (defArgs (top 43)) (defBody (top 43)) (defScope (top 43)) [] [] (gA "check_tie" K) fd ∧ DF Pg w K mg base (Γ K) 2 (gA "check_tie" K) fd ["posts", "ties", "index"] f_check_tie := by
  obtain ⟨fd, F0⟩ := c.def_ 12 rfl rfl
  obtain ⟨fd_is_name, F_is_name, D_is_name⟩ := d_is_name (w := w) c KB GB
  have F : FunD K "check_tie" "check_tie" (defArgs (top 43)) (defBody (top 43)) (defScope (top 43)) [] [] (gA "check_tie" K) fd := F0
  exact ⟨fd, F, d_fn (k := 1) (m := m_check_tie) F sc_check_tie rfl fun cd A outer s H E ok dk =>
   (ss_cons (s_asg (e_ix (e_var 1) (e_var 2)) (g_tup ok.calm (gs_cons (g_name ok.nd) (gs_cons (g_name ok.nd) (gs_cons (g_name ok.nd) (gs_cons (g_name ok.nd) (gs_cons (g_name ok.nd) gs_nil)))))))
 (ss_cons (s_if (DW.t (w_or (t_not (t_val (e_callN (Cal.fn ok D_is_name (by omega) (bd_of (n := 1) (ks := []) (pk := [0]) F_is_name rfl (by decide) fun _ _ _ _ _ _ us ws h1 h2 => match us, ws, h1, h2 with | [_], [], _, _ => rfl) (fun _ => .nil)) rfl (He.glo_ok KB GB (q26 c)) F_is_name.kp (c_pos (a_cons (e_var 3) a_nil))))) (w_or1 (t_cmp1 (o_in ok) (e_var 3) (e_lc false ok (i_seq (e_sl (e_var 1) d_no (d_at (e_var 2)))) (blkOk_by (N := ["posts", "ties", "index", "name", "one", "other", "least", "greatest", "tie"]) (sc := defScope (top 43)) (own := [("tie", 8)]) (by decide +kernel)) rfl (fun s_ H_ C_ cl_ fp_ => (gv_name (ok.blk s_ H_ _ C_ cl_ fp_).nd)) (fun s_ H_ C_ cl_ fp_ => ts_nil) (fun s_ H_ C_ cl_ fp_ => (e_ix (e_var 8) e_int))) rfl)))) (ss_one (s_raise ok (x_InvalidWeb c KB GB) rfl rfl rfl (c_pos (a_cons e_str (a_cons (e_var 2) a_nil))))) ss_nil)
 (ss_cons (s_if (DW.t (w_or (t_cmp1 (o_notIn ok) (e_var 4) (e_var 0) rfl) (w_or (t_cmp1 (o_notIn ok) (e_var 5) (e_var 0) rfl) (w_or1 (t_cmp1 (o_eq ok) (e_var 4) (e_var 5) rfl))))) (ss_one (s_raise ok (x_InvalidWeb c KB GB) rfl rfl rfl (c_pos (a_cons e_str (a_cons (e_var 2) a_nil))))) ss_nil)
 (ss_one (s_if (t_not (t_chain o_le o_le e_int (e_var 6) (e_var 7))) (ss_one (s_raise ok (x_InvalidWeb c KB GB) rfl rfl rfl (c_pos (a_cons e_str (a_cons (e_var 2) a_nil))))) ss_nil)))))⟩

theorem sc_check_web : FnScope ["posts", "ties", "index"] ["posts", "ties"] (defScope (top 44)) := ⟨rfl, rfl, rfl, by decide +kernel, rfl, by decide +kernel, by decide +kernel⟩

theorem d_check_web {w : World} {K : PySem.W.Frag} {mg : Str → Option Value} {base : Heap} (c : SaysX fa fn K) (KB : K.In base) (GB : base.Ns mainGlobals mg) : ∃ fd, FunD K "check_web" "check_web" (defArgs (top 44)) (defBody (top 44)) (defScope (top 44)) [] [] (gA "check_web" K) fd ∧ DF Pg w K mg base (Γ K) 4 (gA "check_web" K) fd ["posts", "ties"] f_check_web := by
  obtain ⟨fd, F0⟩ := c.def_ 13 rfl rfl
  obtain ⟨fd_has_form, F_has_form, D_has_form⟩ := d_has_form (w := w) c KB GB
  obtain ⟨fd_check_names, F_check_names, D_check_names⟩ := d_check_names (w := w) c KB GB
  obtain ⟨fd_check_tie, F_check_tie, D_check_tie⟩ := d_check_tie (w := w) c KB GB
  have F : FunD K "check_web" "check_web" (defArgs (top 44)) (defBody (top 44)) (defScope (top 44)) [] [] (gA "check_web" K) fd := F0
  exact ⟨fd, F, d_fn (k := 3) (m := m_check_web) F sc_check_web rfl fun cd A outer s H E ok dk =>
   (ss_cons (s_if (t_not (t_val (e_callN (Cal.fn ok D_has_form (by omega) (bd_of (n := 2) (ks := []) (pk := [0, 1]) F_has_form rfl (by decide) fun _ _ _ _ _ _ us ws h1 h2 => match us, ws, h1, h2 with | [_, _], [], _, _ => rfl) (fun _ => .nil)) rfl (He.glo_ok KB GB (q22 c)) F_has_form.kp (c_pos (a_cons (e_var 0) (a_cons (e_var 1) a_nil)))))) (ss_one (s_raise ok (x_InvalidWeb c KB GB) rfl rfl rfl (c_pos (a_cons e_str (a_cons e_int a_nil))))) ss_nil)
 (ss_cons (s_if (t_cmp1 (o_eq ok) (e_callB cd_len rfl (He.free_ok KB GB (q0 c)) (by decide +kernel) (a_cons (e_var 0) a_nil)) e_int rfl) (ss_one (s_raise ok (x_InvalidWeb c KB GB) rfl rfl rfl (c_pos (a_cons e_str (a_cons e_int a_nil))))) ss_nil)
 (ss_cons (s_expr (e_callN (Cal.fn ok D_check_names (by omega) (bd_of (n := 2) (ks := []) (pk := [0, 1]) F_check_names rfl (by decide) fun _ _ _ _ _ _ us ws h1 h2 => match us, ws, h1, h2 with | [_, _], [], _, _ => rfl) (fun _ => .nil)) rfl (He.glo_ok KB GB (q27 c)) F_check_names.kp (c_pos (a_cons (e_var 0) (a_cons e_str a_nil)))))
 (ss_one (s_for ok.own ok.calm (i_range1 rfl (He.free_ok KB GB (q3 c)) (a_cons (e_callB cd_len rfl (He.free_ok KB GB (q0 c)) (by decide +kernel) (a_cons (e_var 1) a_nil)) a_nil)) (g_name ok.nd) (ss_one (s_expr (e_callN (Cal.fn ok D_check_tie (by omega) (bd_of (n := 3) (ks := []) (pk := [0, 1, 2]) F_check_tie rfl (by decide) fun _ _ _ _ _ _ us ws h1 h2 => match us, ws, h1, h2 with | [_, _, _], [], _, _ => rfl) (fun _ => .nil)) rfl (He.glo_ok KB GB (q28 c)) F_check_tie.kp (c_pos (a_cons (e_var 0) (a_cons (e_var 1) (a_cons (e_var 2) a_nil))))))))))))⟩

theorem sc_Web_init : FnScope ["self", "posts", "ties"] ["self", "posts", "ties"] (defScope (sub (top 47) 0)) := ⟨rfl, rfl, rfl, by decide +kernel, rfl, by decide +kernel, by decide +kernel⟩

theorem d_Web_init {w : World} {K : PySem.W.Frag} {mg : Str → Option Value} {base : Heap} (c : SaysX fa fn K) (KB : K.In base) (GB : base.Ns mainGlobals mg) : ∃ fd, FunD K "__init__" "Web.__init__" (defArgs (sub (top 47) 0)) (defBody (sub (top 47) 0)) (defScope (sub (top 47) 0)) [] [] (mA "Web" "__init__" K) fd ∧ DF Pg w K mg base (Γ K) 5 (mA "Web" "__init__" K) fd ["self", "posts", "ties"] f_Web_init := by
  obtain ⟨fd, F0⟩ := c.def_ 14 rfl rfl
  obtain ⟨fd_check_web, F_check_web, D_check_web⟩ := d_check_web (w := w) c KB GB
  have F : FunD K "__init__" "Web.__init__" (defArgs (sub (top 47) 0)) (defBody (sub (top 47) 0)) (defScope (sub (top 47) 0)) [] [] (mA "Web" "__init__" K) fd := F0
  exact ⟨fd, F, d_fn (k := 4) (m := m_Web_init) F sc_Web_init rfl fun cd A outer s H E ok dk =>
   (ss_cons (s_expr (e_callN (Cal.fn ok D_check_web (by omega) (bd_of (n := 2) (ks := []) (pk := [0, 1]) F_check_web rfl (by decide) fun _ _ _ _ _ _ us ws h1 h2 => match us, ws, h1, h2 with | [_, _], [], _, _ => rfl) (fun _ => .nil)) rfl (He.glo_ok KB GB (q29 c)) F_check_web.kp (c_pos (a_cons (e_var 1) (a_cons (e_var 2) a_nil)))))
 (ss_cons (s_fld (cs := [11]) (e_var 1) (e_var 0) (fun z hz => by rcases List.mem_singleton.mp hz with rfl; exact ⟨(cls_ok (q30 c)), He.noat_ok (q31 c)⟩))
 (ss_one (s_fld (cs := [11]) (e_var 2) (e_var 0) (fun z hz => by rcases List.mem_singleton.mp hz with rfl; exact ⟨(cls_ok (q30 c)), He.noat_ok (q32 c)⟩)))))⟩

theorem sc__law_shown : FnScope ["_law_spots", "_law_bonds", "_law_rows", "_law_title", "_law_begin", "_law_end", "_law_low", "_law_high", "_law_ends"] ["_law_spots", "_law_bonds"] (defScope (top 56)) := ⟨rfl, rfl, rfl, by decide +kernel, rfl, by decide +kernel, by decide +kernel⟩

theorem d__law_shown {w : World} {K : PySem.W.Frag} {mg : Str → Option Value} {base : Heap} (c : SaysX fa fn K) (KB : K.In base) (GB : base.Ns mainGlobals mg) : ∃ fd, FunD K "_law_shown" "_law_shown" (defArgs (top 56)) (defBody (top 56)) (defScope (top 56)) [] [] (gA "_law_shown" K) fd ∧ DF Pg w K mg base (Γ K) 1 (gA "_law_shown" K) fd ["_law_spots", "_law_bonds"] f__law_shown := by
  obtain ⟨fd, F0⟩ := c.def_ 15 rfl rfl
  have F : FunD K "_law_shown" "_law_shown" (defArgs (top 56)) (defBody (top 56)) (defScope (top 56)) [] [] (gA "_law_shown" K) fd := F0
  exact ⟨fd, F, d_fn (k := 0) (m := m__law_shown) F sc__law_shown rfl fun cd A outer s H E ok dk =>
   (ss_cons (s_set ok.nd (e_new (a_cons (e_bm (b := .str) PySem.F.plainAttrs_str PySem.F.slot_str_join PySem.F.type_str_join md_join e_str (a_cons (e_bin o_add (e_lst (a_cons e_str a_nil)) (e_callT cd_list rfl (He.free_ok KB GB (q8 c)) (by decide +kernel) (a_cons (e_var 0) a_nil))) a_nil)) a_nil)))
 (ss_cons (s_for ok.own ok.calm (i_seq (e_var 1)) (g_tup ok.calm (gs_cons (g_name ok.nd) (gs_cons (g_name ok.nd) (gs_cons (g_name ok.nd) (gs_cons (g_name ok.nd) (gs_cons (g_name ok.nd) gs_nil)))))) (ss_cons (s_set ok.nd (e_bin o_add (e_callT cd_str rfl (He.free_ok KB GB (q10 c)) (by decide +kernel) (a_cons (e_var 6) a_nil)) (e_bin o_mul (e_bin o_add e_str (e_callT cd_str rfl (He.free_ok KB GB (q10 c)) (by decide +kernel) (a_cons (e_var 7) a_nil))) (e_callT cd_int rfl (He.free_ok KB GB (q5 c)) (by decide +kernel) (a_cons (e_cmp1 o_lt (e_var 6) (e_var 7) rfl) a_nil)))))
 (ss_one (s_expr (e_bm (b := .list) PySem.F.plainAttrs_list PySem.F.slot_list_append PySem.F.type_list_append md_append (e_var 2) (a_cons (e_bm (b := .str) PySem.F.plainAttrs_str PySem.F.slot_str_join PySem.F.type_str_join md_join e_str (a_cons (e_lst (a_cons e_str (a_cons (e_var 3) (a_cons (e_var 4) (a_cons (e_var 5) (a_cons (e_var 8) a_nil)))))) a_nil)) a_nil))))))
 (ss_one (s_ret (e_bm (b := .str) PySem.F.plainAttrs_str PySem.F.slot_str_join PySem.F.type_str_join md_join e_str (a_cons (e_var 2) a_nil))))))⟩

theorem sc_Span_init : FnScope ["self", "least", "greatest"] ["self", "least", "greatest"] (defScope (sub (top 34) 0)) := ⟨rfl, rfl, rfl, by decide +kernel, rfl, by decide +kernel, by decide +kernel⟩

theorem d_Span_init {w : World} {K : PySem.W.Frag} {mg : Str → Option Value} {base : Heap} (c : SaysX fa fn K) (KB : K.In base) (GB : base.Ns mainGlobals mg) : ∃ fd, FunD K "__init__" "Span.__init__" (defArgs (sub (top 34) 0)) (defBody (sub (top 34) 0)) (defScope (sub (top 34) 0)) [] [] (mA "Span" "__init__" K) fd ∧ DF Pg w K mg base (Γ K) 2 (mA "Span" "__init__" K) fd ["self", "least", "greatest"] f_Span_init := by
  obtain ⟨fd, F0⟩ := c.def_ 16 rfl rfl
  obtain ⟨fd_is_whole, F_is_whole, D_is_whole⟩ := d_is_whole (w := w) c KB GB
  have F : FunD K "__init__" "Span.__init__" (defArgs (sub (top 34) 0)) (defBody (sub (top 34) 0)) (defScope (sub (top 34) 0)) [] [] (mA "Span" "__init__" K) fd := F0
  exact ⟨fd, F, d_fn (k := 1) (m := m_Span_init) F sc_Span_init rfl fun cd A outer s H E ok dk =>
   (ss_cons (s_if (DW.t (w_or (t_not (t_val (e_callN (Cal.fn ok D_is_whole (by omega) (bd_of (n := 1) (ks := []) (pk := [0]) F_is_whole rfl (by decide) fun _ _ _ _ _ _ us ws h1 h2 => match us, ws, h1, h2 with | [_], [], _, _ => rfl) (fun _ => .nil)) rfl (He.glo_ok KB GB (q20 c)) F_is_whole.kp (c_pos (a_cons (e_var 1) a_nil))))) (w_or (t_not (t_val (e_callN (Cal.fn ok D_is_whole (by omega) (bd_of (n := 1) (ks := []) (pk := [0]) F_is_whole rfl (by decide) fun _ _ _ _ _ _ us ws h1 h2 => match us, ws, h1, h2 with | [_], [], _, _ => rfl) (fun _ => .nil)) rfl (He.glo_ok KB GB (q20 c)) F_is_whole.kp (c_pos (a_cons (e_var 2) a_nil))))) (w_or1 (t_not (t_chain o_le o_le e_int (e_var 1) (e_var 2))))))) (ss_one (s_raise ok (x_InvalidSpan c KB GB) rfl rfl rfl (c_pos (a_cons (e_var 1) (a_cons (e_var 2) a_nil))))) ss_nil)
 (ss_cons (s_fld (cs := [10]) (e_var 1) (e_var 0) (fun z hz => by rcases List.mem_singleton.mp hz with rfl; exact ⟨(cls_ok (q36 c)), He.noat_ok (q37 c)⟩))
 (ss_one (s_fld (cs := [10]) (e_var 2) (e_var 0) (fun z hz => by rcases List.mem_singleton.mp hz with rfl; exact ⟨(cls_ok (q36 c)), He.noat_ok (q38 c)⟩)))))⟩

theorem sc_Span_str : FnScope ["self"] ["self"] (defScope (sub (top 34) 15)) := ⟨rfl, rfl, rfl, by decide +kernel, rfl, by decide +kernel, by decide +kernel⟩

theorem d_Span_str {w : World} {K : PySem.W.Frag} {mg : Str → Option Value} {base : Heap} (c : SaysX fa fn K) (KB : K.In base) (GB : base.Ns mainGlobals mg) : ∃ fd, FunD K "__str__" "Span.__str__" (defArgs (sub (top 34) 15)) (defBody (sub (top 34) 15)) (defScope (sub (top 34) 15)) [] [] (mA "Span" "__str__" K) fd ∧ DF Pg w K mg base (Γ K) 1 (mA "Span" "__str__" K) fd ["self"] f_Span_str := by
  obtain ⟨fd, F0⟩ := c.def_ 17 rfl rfl
  have F : FunD K "__str__" "Span.__str__" (defArgs (sub (top 34) 15)) (defBody (sub (top 34) 15)) (defScope (sub (top 34) 15)) [] [] (mA "Span" "__str__" K) fd := F0
  exact ⟨fd, F, d_fn (k := 0) (m := m_Span_str) F sc_Span_str rfl fun cd A outer s H E ok dk =>
   (ss_cons (s_if (t_cmp1 (o_eq ok) (e_attr (e_var 0) (.cons (at_fld (c := 10) (cls_ok (q36 c)) (He.noat_ok (q37 c)) rfl rfl) .nil)) (e_attr (e_var 0) (.cons (at_fld (c := 10) (cls_ok (q36 c)) (He.noat_ok (q38 c)) rfl rfl) .nil)) rfl) (ss_one (s_ret (e_callT cd_str rfl (He.free_ok KB GB (q10 c)) (by decide +kernel) (a_cons (e_attr (e_var 0) (.cons (at_fld (c := 10) (cls_ok (q36 c)) (He.noat_ok (q37 c)) rfl rfl) .nil)) a_nil)))) ss_nil)
 (ss_one (s_ret (e_joined (.cons (e_fmt (e_attr (e_var 0) (.cons (at_fld (c := 10) (cls_ok (q36 c)) (He.noat_ok (q37 c)) rfl rfl) .nil))) (.cons (e_fmt (e_gstr rfl (He.str_ok KB GB (q41 c)))) (.cons (e_fmt (e_attr (e_var 0) (.cons (at_fld (c := 10) (cls_ok (q36 c)) (He.noat_ok (q38 c)) rfl rfl) .nil))) .nil)))))))⟩

theorem sc_Web_str : FnScope ["self", "rows", "name", "one", "other", "least", "greatest"] ["self"] (defScope (sub (top 47) 7)) := ⟨rfl, rfl, rfl, by decide +kernel, rfl, by decide +kernel, by decide +kernel⟩

theorem d_Web_str {w : World} {K : PySem.W.Frag} {mg : Str → Option Value} {base : Heap} (c : SaysX fa fn K) (KB : K.In base) (GB : base.Ns mainGlobals mg) : ∃ fd, FunD K "__str__" "Web.__str__" (defArgs (sub (top 47) 7)) (defBody (sub (top 47) 7)) (defScope (sub (top 47) 7)) [] [] (mA "Web" "__str__" K) fd ∧ DF Pg w K mg base (Γ K) 5 (mA "Web" "__str__" K) fd ["self"] f_Web_str := by
  obtain ⟨fd, F0⟩ := c.def_ 18 rfl rfl
  obtain ⟨fd_Span_init, F_Span_init, D_Span_init⟩ := d_Span_init (w := w) c KB GB
  obtain ⟨fd_Span_str, F_Span_str, D_Span_str⟩ := d_Span_str (w := w) c KB GB
  have F : FunD K "__str__" "Web.__str__" (defArgs (sub (top 47) 7)) (defBody (sub (top 47) 7)) (defScope (sub (top 47) 7)) [] [] (mA "Web" "__str__" K) fd := F0
  exact ⟨fd, F, d_fn (k := 4) (m := m_Web_str) F sc_Web_str rfl fun cd A outer s H E ok dk =>
   (ss_cons (s_set ok.nd (e_new (a_cons (e_bm (b := .str) PySem.F.plainAttrs_str PySem.F.slot_str_join PySem.F.type_str_join md_join e_str (a_cons (e_lst (a_cons e_str (a_star (e_attr (e_var 0) (.cons (at_fld (c := 11) (cls_ok (q30 c)) (He.noat_ok (q31 c)) rfl rfl) .nil)) a_nil))) a_nil)) a_nil)))
 (ss_cons (s_for ok.own ok.calm (i_seq (e_attr (e_var 0) (.cons (at_fld (c := 11) (cls_ok (q30 c)) (He.noat_ok (q32 c)) rfl rfl) .nil))) (g_tup ok.calm (gs_cons (g_name ok.nd) (gs_cons (g_name ok.nd) (gs_cons (g_name ok.nd) (gs_cons (g_name ok.nd) (gs_cons (g_name ok.nd) gs_nil)))))) (ss_one (s_expr (e_bm (b := .list) PySem.F.plainAttrs_list PySem.F.slot_list_append PySem.F.type_list_append md_append (e_var 1) (a_cons (e_joined (.cons e_str (.cons (e_fmt (e_var 2)) (.cons e_str (.cons (e_fmt (e_var 3)) (.cons e_str (.cons (e_fmt (e_var 4)) (.cons e_str (.cons (e_fmtO ok (.cons ⟨⟨_, _, _, _, [0], [], [], _, (sp_ok (q42 c)).1, (sp_ok (q42 c)).2, D_Span_str, (by omega), (bd_of (n := 1) (ks := []) (pk := [0]) F_Span_str rfl (by decide) fun _ _ _ _ _ _ us ws h1 h2 => match us, ws, h1, h2 with | [_], [], _, _ => rfl), (fun _ => .nil), rfl⟩, (fmF_ok (q43 c)).1, (fmF_ok (q43 c)).2⟩ .nil) (e_callN (Cal.make (c := 10) ok (He.mkr_ok (q39 c)) rfl D_Span_init (by omega) (bd_of (n := 3) (ks := []) (pk := [0, 1, 2]) F_Span_init rfl (by decide) fun _ _ _ _ _ _ us ws h1 h2 => match us, ws, h1, h2 with | [_, _, _], [], _, _ => rfl) (fun _ => .nil)) rfl (He.glo_ok KB GB (q40 c)) (He.mkr_ok (q39 c)).kp (c_pos (a_cons (e_var 5) (a_cons (e_var 6) a_nil))))) .nil))))))))) a_nil)))))
 (ss_one (s_ret (e_bm (b := .str) PySem.F.plainAttrs_str PySem.F.slot_str_join PySem.F.type_str_join md_join e_str (a_cons (e_var 1) a_nil))))))⟩

theorem sc_number_of : FnScope ["word", "sign"] ["word"] (defScope (top 31)) := ⟨rfl, rfl, rfl, by decide +kernel, rfl, by decide +kernel, by decide +kernel⟩

theorem d_number_of {w : World} {K : PySem.W.Frag} {mg : Str → Option Value} {base : Heap} (c : SaysX fa fn K) (KB : K.In base) (GB : base.Ns mainGlobals mg) : ∃ fd, FunD K "number_of" "number_of" (defArgs (top 31)) (defBody (top 31)) (defScope (top 31)) [] [] (gA "number_of" K) fd ∧ DF Pg w K mg base (Γ K) 1 (gA "number_of" K) fd ["word"] f_number_of := by
  obtain ⟨fd, F0⟩ := c.def_ 19 rfl rfl
  have F : FunD K "number_of" "number_of" (defArgs (top 31)) (defBody (top 31)) (defScope (top 31)) [] [] (gA "number_of" K) fd := F0
  exact ⟨fd, F, d_fn (k := 0) (m := m_number_of) F sc_number_of rfl fun cd A outer s H E ok dk =>
   (ss_cons (s_if (DW.t (w_or (t_not (t_chain o_lt o_le e_int (e_callB cd_len rfl (He.free_ok KB GB (q0 c)) (by decide +kernel) (a_cons (e_var 0) a_nil)) (e_gint rfl (He.int_ok KB GB (q48 c))))) (w_or1 (t_not (t_val (e_callB (cd_all ok.calm) rfl (He.free_ok KB GB (q18 c)) (by decide +kernel) (a_cons (e_lc false ok (i_seq (e_var 0)) (blkOk_by (N := ["word", "sign"]) (sc := defScope (top 31)) (own := [("sign", 1)]) (by decide +kernel)) rfl (fun s_ H_ C_ cl_ fp_ => (gv_name (ok.blk s_ H_ _ C_ cl_ fp_).nd)) (fun s_ H_ C_ cl_ fp_ => ts_nil) (fun s_ H_ C_ cl_ fp_ => (e_cmp1 (o_in (ok.blk s_ H_ _ C_ cl_ fp_)) (e_var 1) (e_gstr rfl (He.str_ok KB GB (q25 c))) rfl))) a_nil))))))) (ss_one (s_ret e_non)) ss_nil)
 (ss_cons (s_if (DW.t (w_and (t_cmp1 (o_eq ok) (e_ix (e_var 0) e_int) e_str rfl) (w_and1 (t_cmp1 (o_ne ok) (e_var 0) e_str rfl)))) (ss_one (s_ret e_non)) ss_nil)
 (ss_one (s_ret (e_callT (cd_int.or cd_intS) rfl (He.free_ok KB GB (q5 c)) (by decide +kernel) (a_cons (e_var 0) a_nil))))))⟩

theorem sc_Span_read : FnScope ["cls", "text", "least", "dots", "greatest", "low", "high"] ["cls", "text"] (defScope (sub (top 34) 3)) := ⟨rfl, rfl, rfl, by decide +kernel, rfl, by decide +kernel, by decide +kernel⟩

theorem d_Span_read {w : World} {K : PySem.W.Frag} {mg : Str → Option Value} {base : Heap} (c : SaysX fa fn K) (KB : K.In base) (GB : base.Ns mainGlobals mg) : ∃ fd, FunD K "read" "Span.read" (defArgs (sub (top 34) 3)) (defBody (sub (top 34) 3)) (defScope (sub (top 34) 3)) [] [] (recA "classmethod" (mA "Span" "read") K) fd ∧ DF Pg w K mg base (Γ K) 4 (recA "classmethod" (mA "Span" "read") K) fd ["cls", "text"] f_Span_read := by
  obtain ⟨fd, F0⟩ := c.def_ 20 rfl rfl
  obtain ⟨fd_number_of, F_number_of, D_number_of⟩ := d_number_of (w := w) c KB GB
  obtain ⟨fd_Span_init, F_Span_init, D_Span_init⟩ := d_Span_init (w := w) c KB GB
  have F : FunD K "read" "Span.read" (defArgs (sub (top 34) 3)) (defBody (sub (top 34) 3)) (defScope (sub (top 34) 3)) [] [] (recA "classmethod" (mA "Span" "read") K) fd := F0
  exact ⟨fd, F, d_fn (k := 3) (m := m_Span_read) F sc_Span_read rfl fun cd A outer s H E ok dk =>
   (ss_cons (s_asg (e_bm (b := .str) PySem.F.plainAttrs_str PySem.F.slot_str_partition PySem.F.type_str_partition md_partition (e_var 1) (a_cons (e_gstr rfl (He.str_ok KB GB (q41 c))) a_nil)) (g_tup ok.calm (gs_cons (g_name ok.nd) (gs_cons (g_name ok.nd) (gs_cons (g_name ok.nd) gs_nil)))))
 (ss_cons (s_set ok.nd (e_callN (Cal.fn ok D_number_of (by omega) (bd_of (n := 1) (ks := []) (pk := [0]) F_number_of rfl (by decide) fun _ _ _ _ _ _ us ws h1 h2 => match us, ws, h1, h2 with | [_], [], _, _ => rfl) (fun _ => .nil)) rfl (He.glo_ok KB GB (q49 c)) F_number_of.kp (c_pos (a_cons (e_var 2) a_nil))))
 (ss_cons (s_set ok.nd (e_if (t_cmp1 (o_eq ok) (e_var 3) (e_gstr rfl (He.str_ok KB GB (q41 c))) rfl) (e_callN (Cal.fn ok D_number_of (by omega) (bd_of (n := 1) (ks := []) (pk := [0]) F_number_of rfl (by decide) fun _ _ _ _ _ _ us ws h1 h2 => match us, ws, h1, h2 with | [_], [], _, _ => rfl) (fun _ => .nil)) rfl (He.glo_ok KB GB (q49 c)) F_number_of.kp (c_pos (a_cons (e_var 4) a_nil))) (e_var 5)))
 (ss_cons (s_if (DW.t (w_or (t_cmp1 o_isN (e_var 5) e_non rfl) (w_or (t_cmp1 o_isN (e_var 6) e_non rfl) (w_or (t_cmp1 o_gt (e_var 5) (e_var 6) rfl) (w_or1 (DW.t (w_and (t_cmp1 (o_eq ok) (e_var 3) (e_gstr rfl (He.str_ok KB GB (q41 c))) rfl) (w_and1 (t_cmp1 (o_eq ok) (e_var 5) (e_var 6) rfl))))))))) (ss_one (s_raise ok (x_InvalidText c KB GB) rfl rfl rfl (c_pos (a_cons e_int a_nil)))) ss_nil)
 (ss_one (s_ret (e_callV (e_var 0) (.cons ⟨(He.mkr_ok (q39 c)).kp, (Cal.make (c := 10) ok (He.mkr_ok (q39 c)) rfl D_Span_init (by omega) (bd_of (n := 3) (ks := []) (pk := [0, 1, 2]) F_Span_init rfl (by decide) fun _ _ _ _ _ _ us ws h1 h2 => match us, ws, h1, h2 with | [_, _, _], [], _, _ => rfl) (fun _ => .nil))⟩ .nil) (c_pos (a_cons (e_var 5) (a_cons (e_var 6) a_nil))))))))))⟩

theorem sc_Span_least : FnScope ["self"] ["self"] (defScope (sub (top 34) 4)) := ⟨rfl, rfl, rfl, by decide +kernel, rfl, by decide +kernel, by decide +kernel⟩

theorem d_Span_least {w : World} {K : PySem.W.Frag} {mg : Str → Option Value} {base : Heap} (c : SaysX fa fn K) (KB : K.In base) (GB : base.Ns mainGlobals mg) : ∃ fd, FunD K "least" "Span.least" (defArgs (sub (top 34) 4)) (defBody (sub (top 34) 4)) (defScope (sub (top 34) 4)) [] [] (recA "property" (mA "Span" "least") K) fd ∧ DF Pg w K mg base (Γ K) 1 (recA "property" (mA "Span" "least") K) fd ["self"] f_Span_least := by
  obtain ⟨fd, F0⟩ := c.def_ 21 rfl rfl
  have F : FunD K "least" "Span.least" (defArgs (sub (top 34) 4)) (defBody (sub (top 34) 4)) (defScope (sub (top 34) 4)) [] [] (recA "property" (mA "Span" "least") K) fd := F0
  exact ⟨fd, F, d_fn (k := 0) (m := m_Span_least) F sc_Span_least rfl fun cd A outer s H E ok dk =>
   (ss_one (s_ret (e_attr (e_var 0) (.cons (at_fld (c := 10) (cls_ok (q36 c)) (He.noat_ok (q37 c)) rfl rfl) .nil))))⟩

theorem sc_Span_greatest : FnScope ["self"] ["self"] (defScope (sub (top 34) 5)) := ⟨rfl, rfl, rfl, by decide +kernel, rfl, by decide +kernel, by decide +kernel⟩

theorem d_Span_greatest {w : World} {K : PySem.W.Frag} {mg : Str → Option Value} {base : Heap} (c : SaysX fa fn K) (KB : K.In base) (GB : base.Ns mainGlobals mg) : ∃ fd, FunD K "greatest" "Span.greatest" (defArgs (sub (top 34) 5)) (defBody (sub (top 34) 5)) (defScope (sub (top 34) 5)) [] [] (recA "property" (mA "Span" "greatest") K) fd ∧ DF Pg w K mg base (Γ K) 1 (recA "property" (mA "Span" "greatest") K) fd ["self"] f_Span_greatest := by
  obtain ⟨fd, F0⟩ := c.def_ 22 rfl rfl
  have F : FunD K "greatest" "Span.greatest" (defArgs (sub (top 34) 5)) (defBody (sub (top 34) 5)) (defScope (sub (top 34) 5)) [] [] (recA "property" (mA "Span" "greatest") K) fd := F0
  exact ⟨fd, F, d_fn (k := 0) (m := m_Span_greatest) F sc_Span_greatest rfl fun cd A outer s H E ok dk =>
   (ss_one (s_ret (e_attr (e_var 0) (.cons (at_fld (c := 10) (cls_ok (q36 c)) (He.noat_ok (q38 c)) rfl rfl) .nil))))⟩

theorem sc_span_of : FnScope ["word", "found"] ["word"] (defScope (top 45)) := ⟨rfl, rfl, rfl, by decide +kernel, rfl, by decide +kernel, by decide +kernel⟩

theorem d_span_of {w : World} {K : PySem.W.Frag} {mg : Str → Option Value} {base : Heap} (c : SaysX fa fn K) (KB : K.In base) (GB : base.Ns mainGlobals mg) : ∃ fd, FunD K "span_of" "span_of" (defArgs (top 45)) (defBody (top 45)) (defScope (top 45)) [] [] (gA "span_of" K) fd ∧ DF Pg w K mg base (Γ K) 5 (gA "span_of" K) fd ["word"] f_span_of := by
  obtain ⟨fd, F0⟩ := c.def_ 23 rfl rfl
  obtain ⟨fd_Span_read, F_Span_read, D_Span_read⟩ := d_Span_read (w := w) c KB GB
  obtain ⟨fd_Span_least, F_Span_least, D_Span_least⟩ := d_Span_least (w := w) c KB GB
  obtain ⟨fd_Span_greatest, F_Span_greatest, D_Span_greatest⟩ := d_Span_greatest (w := w) c KB GB
  have F : FunD K "span_of" "span_of" (defArgs (top 45)) (defBody (top 45)) (defScope (top 45)) [] [] (gA "span_of" K) fd := F0
  exact ⟨fd, F, d_fn (k := 4) (m := m_span_of) F sc_span_of rfl fun cd A outer s H E ok dk =>
   (ss_cons (s_try ok dk (fun W_ pn_ xe_ ok2 => (ss_one (s_set ok2.nd (e_cmeth (e_gfn 10 rfl (He.glo_ok KB GB (q40 c))) (.cons ⟨_, _, _, (cm_ok (q50 c)).1, (cm_ok (q50 c)).2, (Cal.fn ok2 D_Span_read (by omega) (bd_of (n := 2) (ks := []) (pk := [0, 1]) F_Span_read rfl (by decide) fun _ _ _ _ _ _ us ws h1 h2 => match us, ws, h1, h2 with | [_, _], [], _, _ => rfl) (fun _ => .nil))⟩ .nil) (c_pos (a_cons (e_var 0) a_nil)))))) (.plain (names_own rfl (He.glo_ok KB GB (q52 c))) (tst_ok (Γ := Γ) (D := gA "InvalidText") rfl (q51 c)) (fun a oe cls d pn hz hf => (ss_one (s_ret e_non)))  .nil))
 (ss_one (s_ret (e_tup (a_cons (e_attr (e_var 1) (.cons (at_prop (c := 10) ok (cls_ok (q36 c)) (prop_ok (q53 c)) D_Span_least (by omega) (bd_of (n := 1) (ks := []) (pk := [0]) F_Span_least rfl (by decide) fun _ _ _ _ _ _ us ws h1 h2 => match us, ws, h1, h2 with | [_], [], _, _ => rfl) (fun _ => .nil)) .nil)) (a_cons (e_attr (e_var 1) (.cons (at_prop (c := 10) ok (cls_ok (q36 c)) (prop_ok (q54 c)) D_Span_greatest (by omega) (bd_of (n := 1) (ks := []) (pk := [0]) F_Span_greatest rfl (by decide) fun _ _ _ _ _ _ us ws h1 h2 => match us, ws, h1, h2 with | [_], [], _, _ => rfl) (fun _ => .nil)) .nil)) a_nil))))))⟩

theorem sc_read_tie : FnScope ["row", "posts", "names", "words", "bounds"] ["row", "posts", "names"] (defScope (top 46)) := ⟨rfl, rfl, rfl, by decide +kernel, rfl, by decide +kernel, by decide +kernel⟩

theorem d_read_tie {w : World} {K : PySem.W.Frag} {mg : Str → Option Value} {base : Heap} (c : SaysX fa fn K) (KB : K.In base) (GB : base.Ns mainGlobals mg) : ∃ fd, FunD K "read_tie" "read_tie" (defArgs (top 46)) (defBody (top 46)) (defScope (top 46)) [] [] (gA "read_tie" K) fd ∧ DF Pg w K mg base (Γ K) 6 (gA "read_tie" K) fd ["row", "posts", "names"] f_read_tie := by
  obtain ⟨fd, F0⟩ := c.def_ 24 rfl rfl
  obtain ⟨fd_span_of, F_span_of, D_span_of⟩ := d_span_of (w := w) c KB GB
  obtain ⟨fd_is_name, F_is_name, D_is_name⟩ := d_is_name (w := w) c KB GB
  have F : FunD K "read_tie" "read_tie" (defArgs (top 46)) (defBody (top 46)) (defScope (top 46)) [] [] (gA "read_tie" K) fd := F0
  exact ⟨fd, F, d_fn (k := 5) (m := m_read_tie) F sc_read_tie rfl fun cd A outer s H E ok dk =>
   (ss_cons (s_set ok.nd (e_bm (b := .str) PySem.F.plainAttrs_str PySem.F.slot_str_split PySem.F.type_str_split md_split (e_var 0) (a_cons e_str a_nil)))
 (ss_cons (s_set ok.nd (e_if (DW.t (w_and (t_cmp1 (o_eq ok) (e_callB cd_len rfl (He.free_ok KB GB (q0 c)) (by decide +kernel) (a_cons (e_var 3) a_nil)) e_int rfl) (w_and1 (t_cmp1 (o_eq ok) (e_ix (e_var 3) e_int) (e_gstr rfl (He.str_ok KB GB (q47 c))) rfl)))) (e_callN (Cal.fn ok D_span_of (by omega) (bd_of (n := 1) (ks := []) (pk := [0]) F_span_of rfl (by decide) fun _ _ _ _ _ _ us ws h1 h2 => match us, ws, h1, h2 with | [_], [], _, _ => rfl) (fun _ => .nil)) rfl (He.glo_ok KB GB (q55 c)) F_span_of.kp (c_pos (a_cons (e_ix (e_var 3) e_int) a_nil))) e_non))
 (ss_cons (s_if (DW.t (w_or (t_cmp1 o_isN (e_var 4) e_non rfl) (w_or (t_not (t_val (e_callN (Cal.fn ok D_is_name (by omega) (bd_of (n := 1) (ks := []) (pk := [0]) F_is_name rfl (by decide) fun _ _ _ _ _ _ us ws h1 h2 => match us, ws, h1, h2 with | [_], [], _, _ => rfl) (fun _ => .nil)) rfl (He.glo_ok KB GB (q26 c)) F_is_name.kp (c_pos (a_cons (e_ix (e_var 3) e_int) a_nil))))) (w_or1 (t_cmp1 (o_in ok) (e_ix (e_var 3) e_int) (e_var 2) rfl))))) (ss_one (s_ret e_non)) ss_nil)
 (ss_cons (s_if (DW.t (w_or (t_cmp1 (o_notIn ok) (e_ix (e_var 3) e_int) (e_var 1) rfl) (w_or (t_cmp1 (o_notIn ok) (e_ix (e_var 3) e_int) (e_var 1) rfl) (w_or1 (t_cmp1 (o_eq ok) (e_ix (e_var 3) e_int) (e_ix (e_var 3) e_int) rfl))))) (ss_one (s_ret e_non)) ss_nil)
 (ss_one (s_ret (e_tup (a_cons (e_ix (e_var 3) e_int) (a_cons (e_ix (e_var 3) e_int) (a_cons (e_ix (e_var 3) e_int) (a_star (e_var 4) a_nil)))))))))))⟩

theorem sc_Web_read : FnScope ["cls", "text", "first", "rows", "word", "posts", "good", "ties", "line", "row", "tie", "index", "post", "name", "more"] ["cls", "text"] (defScope (sub (top 47) 1)) := ⟨rfl, rfl, rfl, by decide +kernel, rfl, by decide +kernel, by decide +kernel⟩

theorem d_Web_read {w : World} {K : PySem.W.Frag} {mg : Str → Option Value} {base : Heap} (c : SaysX fa fn K) (KB : K.In base) (GB : base.Ns mainGlobals mg) : ∃ fd, FunD K "read" "Web.read" (defArgs (sub (top 47) 1)) (defBody (sub (top 47) 1)) (defScope (sub (top 47) 1)) [] [] (recA "classmethod" (mA "Web" "read") K) fd ∧ DF Pg w K mg base (Γ K) 7 (recA "classmethod" (mA "Web" "read") K) fd ["cls", "text"] f_Web_read := by
  obtain ⟨fd, F0⟩ := c.def_ 25 rfl rfl
  obtain ⟨fd_is_name, F_is_name, D_is_name⟩ := d_is_name (w := w) c KB GB
  obtain ⟨fd_read_tie, F_read_tie, D_read_tie⟩ := d_read_tie (w := w) c KB GB
  obtain ⟨fd_Web_init, F_Web_init, D_Web_init⟩ := d_Web_init (w := w) c KB GB
  have F : FunD K "read" "Web.read" (defArgs (sub (top 47) 1)) (defBody (sub (top 47) 1)) (defScope (sub (top 47) 1)) [] [] (recA "classmethod" (mA "Web" "read") K) fd := F0
  exact ⟨fd, F, d_fn (k := 6) (m := m_Web_read) F sc_Web_read rfl fun cd A outer s H E ok dk =>
   (ss_cons (s_asg (e_bm (b := .str) PySem.F.plainAttrs_str PySem.F.slot_str_split PySem.F.type_str_split md_split (e_var 1) (a_cons e_str a_nil)) (g_star ok.calm (gs_cons (g_name ok.nd) (gs_cons (g_name ok.nd) gs_nil))))
 (ss_cons (s_asg (e_bm (b := .str) PySem.F.plainAttrs_str PySem.F.slot_str_split PySem.F.type_str_split md_split (e_var 2) (a_cons e_str a_nil)) (g_star ok.calm (gs_cons (g_name ok.nd) (gs_cons (g_name ok.nd) gs_nil))))
 (ss_cons (s_setLc false ok (i_enum rfl (He.free_ok KB GB (q13 c)) (a_cons (e_var 5) a_nil)) (blkOk_by (N := ["cls", "text", "first", "rows", "word", "posts", "good", "ties", "line", "row", "tie", "index", "post", "name", "more"]) (sc := defScope (sub (top 47) 1)) (own := [("index", 11), ("post", 12)]) (by decide +kernel)) rfl (fun s_ H_ C_ cl_ fp_ => (gv_tup (ok.blk s_ H_ _ C_ cl_ fp_).calm (gsv_cons (gv_name (ok.blk s_ H_ _ C_ cl_ fp_).nd) (gsv_cons (gv_name (ok.blk s_ H_ _ C_ cl_ fp_).nd) gsv_nil)))) (fun s_ H_ C_ cl_ fp_ => ts_nil) (fun s_ H_ C_ cl_ fp_ => (e_and (e_callN (Cal.fn (ok.blk s_ H_ _ C_ cl_ fp_) D_is_name (by omega) (bd_of (n := 1) (ks := []) (pk := [0]) F_is_name rfl (by decide) fun _ _ _ _ _ _ us ws h1 h2 => match us, ws, h1, h2 with | [_], [], _, _ => rfl) (fun _ => .nil)) rfl (He.glo_ok KB GB (q26 c)) F_is_name.kp (c_pos (a_cons (e_var 12) a_nil))) (e_one (e_cmp1 (o_notIn (ok.blk s_ H_ _ C_ cl_ fp_)) (e_var 12) (e_sl (e_var 5) d_no (d_at (e_var 11))) rfl)))) (sw_true rfl rfl rfl (by decide +kernel)))
 (ss_cons (s_if (DW.t (w_or (t_cmp1 (o_ne ok) (e_var 4) (e_gstr rfl (He.str_ok KB GB (q46 c))) rfl) (w_or (t_cmp1 (o_eq ok) (e_callB cd_len rfl (He.free_ok KB GB (q0 c)) (by decide +kernel) (a_cons (e_var 5) a_nil)) e_int rfl) (w_or1 (t_not (t_val (e_callB (cd_all ok.calm) rfl (He.free_ok KB GB (q18 c)) (by decide +kernel) (a_cons (e_var 6) a_nil)))))))) (ss_one (s_raise ok (x_InvalidText c KB GB) rfl rfl rfl (c_pos (a_cons e_int a_nil)))) ss_nil)
 (ss_cons (s_set ok.nd (e_new a_nil))
 (ss_cons (s_for ok.own ok.calm (i_enumS rfl (He.free_ok KB GB (q13 c)) (c_kw (a_cons (e_var 3) a_nil) (k_cons e_int k_nil))) (g_tup ok.calm (gs_cons (g_name ok.nd) (gs_cons (g_name ok.nd) gs_nil))) (ss_cons (s_set ok.nd (e_callN (Cal.fn ok D_read_tie (by omega) (bd_of (n := 3) (ks := []) (pk := [0, 1, 2]) F_read_tie rfl (by decide) fun _ _ _ _ _ _ us ws h1 h2 => match us, ws, h1, h2 with | [_, _, _], [], _, _ => rfl) (fun _ => .nil)) rfl (He.glo_ok KB GB (q56 c)) F_read_tie.kp (c_pos (a_cons (e_var 9) (a_cons (e_var 5) (a_cons (e_lc false ok (i_seq (e_var 7)) (blkOk_by (N := ["cls", "text", "first", "rows", "word", "posts", "good", "ties", "line", "row", "tie", "index", "post", "name", "more"]) (sc := defScope (sub (top 47) 1)) (own := [("name", 13), ("more", 14)]) (by decide +kernel)) rfl (fun s_ H_ C_ cl_ fp_ => (gv_star (ok.blk s_ H_ _ C_ cl_ fp_).calm (gsv_cons (gv_name (ok.blk s_ H_ _ C_ cl_ fp_).nd) (gsv_cons (gv_name (ok.blk s_ H_ _ C_ cl_ fp_).nd) gsv_nil)))) (fun s_ H_ C_ cl_ fp_ => ts_nil) (fun s_ H_ C_ cl_ fp_ => (e_var 13))) a_nil))))))
 (ss_cons (s_if (t_cmp1 o_isN (e_var 10) e_non rfl) (ss_one (s_raise ok (x_InvalidText c KB GB) rfl rfl rfl (c_pos (a_cons (e_var 8) a_nil)))) ss_nil)
 (ss_one (s_expr (e_bm (b := .list) PySem.F.plainAttrs_list PySem.F.slot_list_append PySem.F.type_list_append md_append (e_var 7) (a_cons (e_var 10) a_nil)))))))
 (ss_one (s_ret (e_callV (e_var 0) (.cons ⟨(He.mkr_ok (q33 c)).kp, (Cal.make (c := 11) ok (He.mkr_ok (q33 c)) rfl D_Web_init (by omega) (bd_of (n := 3) (ks := []) (pk := [0, 1, 2]) F_Web_init rfl (by decide) fun _ _ _ _ _ _ us ws h1 h2 => match us, ws, h1, h2 with | [_, _, _], [], _, _ => rfl) (fun _ => .nil))⟩ .nil) (c_pos (a_cons (e_callT cd_tuple rfl (He.free_ok KB GB (q15 c)) (by decide +kernel) (a_cons (e_var 5) a_nil)) (a_cons (e_callT cd_tuple rfl (He.free_ok KB GB (q15 c)) (by decide +kernel) (a_cons (e_var 7) a_nil)) a_nil))))))))))))⟩

theorem sc_Web_posts : FnScope ["self"] ["self"] (defScope (sub (top 47) 3)) := ⟨rfl, rfl, rfl, by decide +kernel, rfl, by decide +kernel, by decide +kernel⟩

theorem d_Web_posts {w : World} {K : PySem.W.Frag} {mg : Str → Option Value} {base : Heap} (c : SaysX fa fn K) (KB : K.In base) (GB : base.Ns mainGlobals mg) : ∃ fd, FunD K "posts" "Web.posts" (defArgs (sub (top 47) 3)) (defBody (sub (top 47) 3)) (defScope (sub (top 47) 3)) [] [] (recA "property" (mA "Web" "posts") K) fd ∧ DF Pg w K mg base (Γ K) 1 (recA "property" (mA "Web" "posts") K) fd ["self"] f_Web_posts := by
  obtain ⟨fd, F0⟩ := c.def_ 26 rfl rfl
  have F : FunD K "posts" "Web.posts" (defArgs (sub (top 47) 3)) (defBody (sub (top 47) 3)) (defScope (sub (top 47) 3)) [] [] (recA "property" (mA "Web" "posts") K) fd := F0
  exact ⟨fd, F, d_fn (k := 0) (m := m_Web_posts) F sc_Web_posts rfl fun cd A outer s H E ok dk =>
   (ss_one (s_ret (e_attr (e_var 0) (.cons (at_fld (c := 11) (cls_ok (q30 c)) (He.noat_ok (q31 c)) rfl rfl) .nil))))⟩

theorem sc_Web_ties : FnScope ["self"] ["self"] (defScope (sub (top 47) 4)) := ⟨rfl, rfl, rfl, by decide +kernel, rfl, by decide +kernel, by decide +kernel⟩

theorem d_Web_ties {w : World} {K : PySem.W.Frag} {mg : Str → Option Value} {base : Heap} (c : SaysX fa fn K) (KB : K.In base) (GB : base.Ns mainGlobals mg) : ∃ fd, FunD K "ties" "Web.ties" (defArgs (sub (top 47) 4)) (defBody (sub (top 47) 4)) (defScope (sub (top 47) 4)) [] [] (recA "property" (mA "Web" "ties") K) fd ∧ DF Pg w K mg base (Γ K) 1 (recA "property" (mA "Web" "ties") K) fd ["self"] f_Web_ties := by
  obtain ⟨fd, F0⟩ := c.def_ 27 rfl rfl
  have F : FunD K "ties" "Web.ties" (defArgs (sub (top 47) 4)) (defBody (sub (top 47) 4)) (defScope (sub (top 47) 4)) [] [] (recA "property" (mA "Web" "ties") K) fd := F0
  exact ⟨fd, F, d_fn (k := 0) (m := m_Web_ties) F sc_Web_ties rfl fun cd A outer s H E ok dk =>
   (ss_one (s_ret (e_attr (e_var 0) (.cons (at_fld (c := 11) (cls_ok (q30 c)) (He.noat_ok (q32 c)) rfl rfl) .nil))))⟩

theorem sc_Web_eq : FnScope ["self", "other"] ["self", "other"] (defScope (sub (top 47) 6)) := ⟨rfl, rfl, rfl, by decide +kernel, rfl, by decide +kernel, by decide +kernel⟩

theorem d_Web_eq {w : World} {K : PySem.W.Frag} {mg : Str → Option Value} {base : Heap} (c : SaysX fa fn K) (KB : K.In base) (GB : base.Ns mainGlobals mg) : ∃ fd, FunD K "__eq__" "Web.__eq__" (defArgs (sub (top 47) 6)) (defBody (sub (top 47) 6)) (defScope (sub (top 47) 6)) [] [] (mA "Web" "__eq__" K) fd ∧ DF Pg w K mg base (Γ K) 1 (mA "Web" "__eq__" K) fd ["self", "other"] f_Web_eq := by
  obtain ⟨fd, F0⟩ := c.def_ 28 rfl rfl
  have F : FunD K "__eq__" "Web.__eq__" (defArgs (sub (top 47) 6)) (defBody (sub (top 47) 6)) (defScope (sub (top 47) 6)) [] [] (mA "Web" "__eq__" K) fd := F0
  exact ⟨fd, F, d_fn (k := 0) (m := m_Web_eq) F sc_Web_eq rfl fun cd A outer s H E ok dk =>
   (ss_one (s_ret (e_and (e_callB (cd_isi (isi_ok (Γ := Γ) rfl (q58 c) (all_cons (q36 c) (all_cons (q30 c) all_nil)))) rfl (He.free_ok KB GB (q17 c)) (by decide +kernel) (a_cons (e_var 1) (a_cons (e_gfn 11 rfl (He.glo_ok KB GB (q34 c))) a_nil))) (e_and (e_cmp1 (o_eq ok) (e_attr (e_var 0) (.cons (at_fld (c := 11) (cls_ok (q30 c)) (He.noat_ok (q31 c)) rfl rfl) .nil)) (e_attr (e_var 1) (.cons (at_fld (c := 11) (cls_ok (q30 c)) (He.noat_ok (q31 c)) rfl rfl) .nil)) rfl) (e_one (e_cmp1 (o_eq ok) (e_attr (e_var 0) (.cons (at_fld (c := 11) (cls_ok (q30 c)) (He.noat_ok (q32 c)) rfl rfl) .nil)) (e_attr (e_var 1) (.cons (at_fld (c := 11) (cls_ok (q30 c)) (He.noat_ok (q32 c)) rfl rfl) .nil)) rfl))))))⟩

theorem sc_law : FnScope ["_law_script", "_law_lots", "_law_k", "_law_feed_here", "_law_spots", "_law_bonds", "_law_made", "_law_shown_here", "_law_found", "_law_pair"] ["_law_script"] (defScope (top 57)) := ⟨rfl, rfl, rfl, by decide +kernel, rfl, by decide +kernel, by decide +kernel⟩

theorem d_law {w : World} {K : PySem.W.Frag} {mg : Str → Option Value} {base : Heap} (c : SaysX fa fn K) (KB : K.In base) (GB : base.Ns mainGlobals mg) : ∃ fd, FunD K "law" "law" (defArgs (top 57)) (defBody (top 57)) (defScope (top 57)) [] [] (gA "law" K) fd ∧ DF Pg w K mg base (Γ K) 9 (gA "law" K) fd ["_law_script"] f_law := by
  obtain ⟨fd, F0⟩ := c.def_ 29 rfl rfl
  obtain ⟨fd__law_feed, F__law_feed, D__law_feed⟩ := d__law_feed (w := w) c KB GB
  obtain ⟨fd__law_web, F__law_web, D__law_web⟩ := d__law_web (w := w) c KB GB
  obtain ⟨fd__law_take, F__law_take, D__law_take⟩ := d__law_take (w := w) c KB GB
  obtain ⟨fd_Web_init, F_Web_init, D_Web_init⟩ := d_Web_init (w := w) c KB GB
  obtain ⟨fd__law_shown, F__law_shown, D__law_shown⟩ := d__law_shown (w := w) c KB GB
  obtain ⟨fd_Web_str, F_Web_str, D_Web_str⟩ := d_Web_str (w := w) c KB GB
  obtain ⟨fd_Web_read, F_Web_read, D_Web_read⟩ := d_Web_read (w := w) c KB GB
  obtain ⟨fd_Web_posts, F_Web_posts, D_Web_posts⟩ := d_Web_posts (w := w) c KB GB
  obtain ⟨fd_Web_ties, F_Web_ties, D_Web_ties⟩ := d_Web_ties (w := w) c KB GB
  obtain ⟨fd_Web_eq, F_Web_eq, D_Web_eq⟩ := d_Web_eq (w := w) c KB GB
  have F : FunD K "law" "law" (defArgs (top 57)) (defBody (top 57)) (defScope (top 57)) [] [] (gA "law" K) fd := F0
  exact ⟨fd, F, d_fn (k := 8) (m := m_law) F sc_law rfl fun cd A outer s H E ok dk =>
   (ss_cons (s_set ok.nd (e_new a_nil))
 (ss_cons (s_for ok.own ok.calm (i_range1 rfl (He.free_ok KB GB (q3 c)) (a_cons (e_callB (cd_max ok.calm) rfl (He.free_ok KB GB (q2 c)) (by decide +kernel) (a_cons e_int (a_cons (e_callB (cd_min ok.calm) rfl (He.free_ok KB GB (q1 c)) (by decide +kernel) (a_cons e_int (a_cons (e_callB cd_len rfl (He.free_ok KB GB (q0 c)) (by decide +kernel) (a_cons (e_var 0) a_nil)) a_nil))) a_nil))) a_nil)) (g_name ok.nd) (ss_cons (s_set ok.nd (e_callN (Cal.fn ok D__law_feed (by omega) (bd_of (n := 2) (ks := []) (pk := [0, 1]) F__law_feed rfl (by decide) fun _ _ _ _ _ _ us ws h1 h2 => match us, ws, h1, h2 with | [_, _], [], _, _ => rfl) (fun _ => .nil)) rfl (He.glo_ok KB GB (q6 c)) F__law_feed.kp (c_pos (a_cons (e_var 0) (a_cons (e_var 2) a_nil)))))
 (ss_one (s_expr (e_bm (b := .list) PySem.F.plainAttrs_list PySem.F.slot_list_append PySem.F.type_list_append md_append (e_var 1) (a_cons (e_callN (Cal.fn ok D__law_web (by omega) (bd_of (n := 4) (ks := []) (pk := [0, 1, 2, 3]) F__law_web rfl (by decide) fun _ _ _ _ _ _ us ws h1 h2 => match us, ws, h1, h2 with | [_, _, _, _], [], _, _ => rfl) (fun _ => .nil)) rfl (He.glo_ok KB GB (q16 c)) F__law_web.kp (c_pos (a_cons (e_var 3) (a_cons (e_bin o_add e_int (e_callN (Cal.fn ok D__law_take (by omega) (bd_of (n := 2) (ks := []) (pk := [0, 1]) F__law_take rfl (by decide) fun _ _ _ _ _ _ us ws h1 h2 => match us, ws, h1, h2 with | [_, _], [], _, _ => rfl) (fun _ => .nil)) rfl (He.glo_ok KB GB (q7 c)) F__law_take.kp (c_pos (a_cons (e_var 3) (a_cons e_int a_nil))))) (a_cons (e_callN (Cal.fn ok D__law_take (by omega) (bd_of (n := 2) (ks := []) (pk := [0, 1]) F__law_take rfl (by decide) fun _ _ _ _ _ _ us ws h1 h2 => match us, ws, h1, h2 with | [_, _], [], _, _ => rfl) (fun _ => .nil)) rfl (He.glo_ok KB GB (q7 c)) F__law_take.kp (c_pos (a_cons (e_var 3) (a_cons e_int a_nil)))) (a_cons (e_ix (e_lst (a_cons e_int (a_cons e_int a_nil))) (e_callN (Cal.fn ok D__law_take (by omega) (bd_of (n := 2) (ks := []) (pk := [0, 1]) F__law_take rfl (by decide) fun _ _ _ _ _ _ us ws h1 h2 => match us, ws, h1, h2 with | [_, _], [], _, _ => rfl) (fun _ => .nil)) rfl (He.glo_ok KB GB (q7 c)) F__law_take.kp (c_pos (a_cons (e_var 3) (a_cons e_int a_nil))))) a_nil)))))) a_nil))))))
 (ss_cons (s_for ok.own ok.calm (i_seq (e_bin o_addA (e_var 1) (e_sl (e_var 1) d_no (d_at e_int)))) (g_tup ok.calm (gs_cons (g_name ok.nd) (gs_cons (g_name ok.nd) gs_nil))) (ss_cons (s_asg (e_tup (a_cons (e_callN (Cal.make (c := 11) ok (He.mkr_ok (q33 c)) rfl D_Web_init (by omega) (bd_of (n := 3) (ks := []) (pk := [0, 1, 2]) F_Web_init rfl (by decide) fun _ _ _ _ _ _ us ws h1 h2 => match us, ws, h1, h2 with | [_, _, _], [], _, _ => rfl) (fun _ => .nil)) rfl (He.glo_ok KB GB (q34 c)) (He.mkr_ok (q33 c)).kp (c_pos (a_cons (e_var 4) (a_cons (e_var 5) a_nil)))) (a_cons (e_callN (Cal.fn ok D__law_shown (by omega) (bd_of (n := 2) (ks := []) (pk := [0, 1]) F__law_shown rfl (by decide) fun _ _ _ _ _ _ us ws h1 h2 => match us, ws, h1, h2 with | [_, _], [], _, _ => rfl) (fun _ => .nil)) rfl (He.glo_ok KB GB (q35 c)) F__law_shown.kp (c_pos (a_cons (e_var 4) (a_cons (e_var 5) a_nil)))) a_nil))) (g_tup ok.calm (gs_cons (g_name ok.nd) (gs_cons (g_name ok.nd) gs_nil))))
 (ss_cons (s_if (t_cmp1 (o_ne ok) (e_callB (cd_repr ok) rfl (He.free_ok KB GB (q45 c)) (by decide +kernel) (a_cons (e_callT (CallD.or cd_str (cd_strOwn ok (.cons ⟨_, _, _, _, [0], [], [], _, (sp_ok (q44 c)).1, (sp_ok (q44 c)).2, D_Web_str, (by omega), (bd_of (n := 1) (ks := []) (pk := [0]) F_Web_str rfl (by decide) fun _ _ _ _ _ _ us ws h1 h2 => match us, ws, h1, h2 with | [_], [], _, _ => rfl), (fun _ => .nil), rfl⟩ .nil))) rfl (He.free_ok KB GB (q10 c)) (by decide +kernel) (a_cons (e_var 6) a_nil)) a_nil)) (e_callB (cd_repr ok) rfl (He.free_ok KB GB (q45 c)) (by decide +kernel) (a_cons (e_var 7) a_nil)) rfl) (ss_one (s_ret e_bl)) ss_nil)
 (ss_cons (s_set ok.nd (e_cmeth (e_gfn 11 rfl (He.glo_ok KB GB (q34 c))) (.cons ⟨_, _, _, (cm_ok (q57 c)).1, (cm_ok (q57 c)).2, (Cal.fn ok D_Web_read (by omega) (bd_of (n := 2) (ks := []) (pk := [0, 1]) F_Web_read rfl (by decide) fun _ _ _ _ _ _ us ws h1 h2 => match us, ws, h1, h2 with | [_, _], [], _, _ => rfl) (fun _ => .nil))⟩ .nil) (c_pos (a_cons (e_var 7) a_nil))))
 (ss_cons (s_if (DW.t (w_or (t_not (t_val (e_callB (cd_isi (isi_ok (Γ := Γ) rfl (q58 c) (all_cons (q36 c) (all_cons (q30 c) all_nil)))) rfl (He.free_ok KB GB (q17 c)) (by decide +kernel) (a_cons (e_var 8) (a_cons (e_gfn 11 rfl (He.glo_ok KB GB (q34 c))) a_nil))))) (w_or (t_cmp1 (o_ne ok) (e_callB (cd_repr ok) rfl (He.free_ok KB GB (q45 c)) (by decide +kernel) (a_cons (e_tup (a_cons (e_attr (e_var 8) (.cons (at_prop (c := 11) ok (cls_ok (q30 c)) (prop_ok (q59 c)) D_Web_posts (by omega) (bd_of (n := 1) (ks := []) (pk := [0]) F_Web_posts rfl (by decide) fun _ _ _ _ _ _ us ws h1 h2 => match us, ws, h1, h2 with | [_], [], _, _ => rfl) (fun _ => .nil)) .nil)) (a_cons (e_attr (e_var 8) (.cons (at_prop (c := 11) ok (cls_ok (q30 c)) (prop_ok (q60 c)) D_Web_ties (by omega) (bd_of (n := 1) (ks := []) (pk := [0]) F_Web_ties rfl (by decide) fun _ _ _ _ _ _ us ws h1 h2 => match us, ws, h1, h2 with | [_], [], _, _ => rfl) (fun _ => .nil)) .nil)) a_nil))) a_nil)) (e_callB (cd_repr ok) rfl (He.free_ok KB GB (q45 c)) (by decide +kernel) (a_cons (e_tup (a_cons (e_var 4) (a_cons (e_var 5) a_nil))) a_nil)) rfl) (w_or1 (t_cmp1 ((o_ne ok).or (o_neO (oc := [11]) ok (.cons ⟨⟨⟨_, _, _, _, [0, 1], [], [], _, (sp_ok (q61 c)).1, (sp_ok (q61 c)).2, D_Web_eq, (by omega), (bd_of (n := 2) (ks := []) (pk := [0, 1]) F_Web_eq rfl (by decide) fun _ _ _ _ _ _ us ws h1 h2 => match us, ws, h1, h2 with | [_, _], [], _, _ => rfl), (fun _ => .nil), rfl⟩, (eqF_ok (q62 c)).1, (eqF_ok (q62 c)).2⟩, (neF_ok (q63 c)).1, (neF_ok (q63 c)).2⟩ .nil))) (e_var 8) (e_var 6) rfl))))) (ss_one (s_ret e_bl)) ss_nil)
 (ss_one (s_if (t_cmp1 (o_ne ok) (e_lc false ok (i_seq (e_var 1)) (blkOk_by (N := ["_law_script", "_law_lots", "_law_k", "_law_feed_here", "_law_spots", "_law_bonds", "_law_made", "_law_shown_here", "_law_found", "_law_pair"]) (sc := defScope (top 57)) (own := [("_law_pair", 9)]) (by decide +kernel)) rfl (fun s_ H_ C_ cl_ fp_ => (gv_name (ok.blk s_ H_ _ C_ cl_ fp_).nd)) (fun s_ H_ C_ cl_ fp_ => (ts_one (t_cmp1 (o_ne (ok.blk s_ H_ _ C_ cl_ fp_)) (e_cmp1 (o_eq (ok.blk s_ H_ _ C_ cl_ fp_)) (e_callT (CallD.or cd_str (cd_strOwn (ok.blk s_ H_ _ C_ cl_ fp_) (.cons ⟨_, _, _, _, [0], [], [], _, (sp_ok (q44 c)).1, (sp_ok (q44 c)).2, D_Web_str, (by omega), (bd_of (n := 1) (ks := []) (pk := [0]) F_Web_str rfl (by decide) fun _ _ _ _ _ _ us ws h1 h2 => match us, ws, h1, h2 with | [_], [], _, _ => rfl), (fun _ => .nil), rfl⟩ .nil))) rfl (He.free_ok KB GB (q10 c)) (by decide +kernel) (a_cons (e_callN (Cal.make (c := 11) (ok.blk s_ H_ _ C_ cl_ fp_) (He.mkr_ok (q33 c)) rfl D_Web_init (by omega) (bd_of (n := 3) (ks := []) (pk := [0, 1, 2]) F_Web_init rfl (by decide) fun _ _ _ _ _ _ us ws h1 h2 => match us, ws, h1, h2 with | [_, _, _], [], _, _ => rfl) (fun _ => .nil)) rfl (He.glo_ok KB GB (q34 c)) (He.mkr_ok (q33 c)).kp (c_pos (a_cons (e_ix (e_var 9) e_int) (a_cons (e_ix (e_var 9) e_int) a_nil)))) a_nil)) (e_var 7) rfl) (e_cmp1 (o_eq (ok.blk s_ H_ _ C_ cl_ fp_)) (e_var 9) (e_tup (a_cons (e_var 4) (a_cons (e_var 5) a_nil))) rfl) rfl))) (fun s_ H_ C_ cl_ fp_ => e_int)) (e_lst a_nil) rfl) (ss_one (s_ret e_bl)) ss_nil)))))))
 (ss_one (s_ret e_bl)))))⟩

end Ga
set_option Elab.async false
set_option linter.all false
set_option maxRecDepth 100000
set_option maxHeartbeats 0
namespace Ga
open PySem L2 PySem.Spec PyProof.Rows Fw
abbrev Rw : PySem.W.OpenRow := PySem.W.OpenLaw.row PySem.Challenge.rw_wayround_k07_web_texts
abbrev hk : PySem.W.Hook := hookY 6 fa fn
def ob (s : PySem.W.SharedT) : AlX := obsYG 6 fa fn (HandSHeadRun.getT s)
theorem ob_eq (s : PySem.W.SharedT) : ob s = hk.obs s.abs := obsYG_eq (HandSHeadRun.getT_eq s)
def loose : List Str := (["_wall", "__name__", "WayroundError", "InvalidSpan", "Snapped", "InvalidText", "InvalidWeb", "SamePost", "Unclosed", "Apart", "UnknownPost", "UnknownTie", "need_posts", "need_pair", "steps_of", "tree_from", "lengths_from", "all_lengths", "way_between", "obstacle_of"] : List Str) ++ (["need_closed", "least_between", "bounds_between", "LETTERS", "DIGITS", "LONGEST", "MOST_DIGITS", "is_whole", "is_name", "number_of", "DOTS", "Span", "span_between", "POSTS", "TIE", "is_tie", "has_form", "check_names", "check_tie", "check_web"] : List Str) ++ (["span_of", "read_tie", "Web", "_law_feed", "_law_take", "_law_mixed", "_law_words", "_law_bounds", "_law_joints", "_law_web", "_law_shown"] : List Str)
theorem run (w : World) : HandSHeadRun.RunEq Rw (PySem.W.view Rw.prog [57]) hk ob 30000 loose w := by
  intro os
  kernel_rfl
end Ga
set_option Elab.async false
set_option linter.all false
set_option maxRecDepth 100000
set_option maxHeartbeats 0
namespace Ga
open PySem L2 PySem.Spec PyProof.Rows Fw
theorem facts {w : World} {K : PySem.W.Frag} {h : Heap} {mg : Str → Option Value} {f : Addr} (X : K.In h) (G : h.Ns mainGlobals mg) (hfa : mg ("law" : Str) = some (.ref f)) (c : SaysX fa fn K) :
    ∃ fd : FuncData, (∀ (s : Shared) (v : Value), BindsTo s fd ⟨[v], []⟩ [("_law_script", v)]) ∧ ∀ base : Heap, K.In base → base.Ns mainGlobals mg → DF Pg w K mg base (Γ K) 9 f fd ["_law_script"] f_law := by
  obtain ⟨fd, F0⟩ := c.def_ 29 rfl rfl
  have F : FunD K "law" "law" (defArgs (top 57)) (defBody (top 57)) (defScope (top 57)) [] [] (gA "law" K) fd := F0
  have e := hfa.symm.trans (He.glo_ok X G (q70 c))
  cases e
  have b := FunD.bindsA (ps := ["_law_script"]) F fun _ _ _ _ _ _ us hl => match us, hl with | [_], _ => rfl
  refine ⟨fd, fun s v => b s [v] rfl, fun base KB GB => ?_⟩
  obtain ⟨fd2, F2, D2⟩ := d_law (w := w) c KB GB
  have : fd2 = fd := by
    obtain ⟨oc, od, dV, kV, doc, pm, an, cdv, ct, osl, e1, e2, _⟩ := F.ex
    obtain ⟨oc', od', dV', kV', doc', pm', an', cdv', ct', osl', e1', e2', _⟩ := F2.ex
    rw [e2] at e2'
    simp only [Option.some.injEq, Obj.mk.injEq, Data.func.injEq] at e2'
    exact e2'.2.2.1.symm
  subst this
  exact D2
end Ga
open PySem PySem.W PySem.Calls PyProof.Rows
theorem PySem.Challenge.cw_wayround_k07_web_texts_holds : PySem.Challenge.rw_wayround_k07_web_texts.Holds := by
  w_on; o_law
  refine HandSHeadRun.head_any (r := OpenLaw.row PySem.Challenge.rw_wayround_k07_web_texts) (q := view (OpenLaw.row PySem.Challenge.rw_wayround_k07_web_texts).prog [57]) (H := Ga.hk) (ob := Ga.ob) (M := 30000) (loose := Ga.loose) (d := HandSHeadRun.topDef (OpenLaw.row PySem.Challenge.rw_wayround_k07_web_texts).prog 57) (kwd := []) Ga.ob_eq
    (by kernel_rfl) (fun s => by kernel_rfl) Ga.run (by kernel_rfl) (by kernel_rfl) (by kernel_rfl) (by rfl) (by first | assumption | decide +kernel) (by decide +kernel) ⟨rfl, rfl, rfl, rfl, rfl, by decide +kernel⟩ ?hw ?hc
  case hw => w_witness2
  case hc =>
    refine Fw.walk_df (l := PySem.Challenge.rw_wayround_k07_web_texts) (n := 63) (k := 9) (x := "_law_script") rfl (by decide) (by kernel_rfl) ⟨rfl, by decide, by decide⟩ ?F
    intro w mg fa h Y G hmg0
    obtain ⟨K, KX, c⟩ := Y
    have hmg : mg ("law" : PySem.Str) = some (.ref fa) := by
      have e : (HandSHeadRun.topDef (OpenLaw.row PySem.Challenge.rw_wayround_k07_web_texts).prog 57).name = ("law" : PySem.Str) := by kernel_rfl
      rw [← e]
      exact hmg0
    obtain ⟨fd, hb, hF⟩ := Ga.facts (w := w) KX G hmg c
    exact ⟨K, Ga.Γ K, fd, Ga.f_law, KX, hb, fun ns _ => Ga.plain ns, hF⟩
