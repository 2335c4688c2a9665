import PyProof.Rows.All
import Wide.All
import OpenK.AllK
import Wide.FinOn
import HandS.ForMost
import HandS.Exc
import HandS.CallSlots
import HandS.Defaults
import HandS.Wide
import HandS.TupAny
import HandS.IsInst
import HandS.FStr
import HandS.RaiseMore
import HandS.MakeKw
import HandS.ClsMeth
import HandS.Property
import HandS.TryMany
import HandS.Comp
import HandS.Style
import KE.KExcSuper
import KE.KExcMake
import KE.KSuper
import HandS.ExcInit
import HandS.ExcField
import HandS.ExcIs
import KE.KIsAll
import KE.KTryMore
import KE.KCallOwn
import OpenK.KOps
import KE.KStateDown
import HandS.Ends
import HandS.Words
import HandS.WordsExc
import HandS.Head0
import HandS.Head1
import HandS.Head2
import HandS.HeadEnd
import HandS.HeadHook1
import HandS.HeadHook2
import HandS.Codes
import PySem.Challenge.RW_wayround_k02_spans_created
import PyProof.ReprLen
set_option Elab.async false
set_option linter.all false
set_option maxRecDepth 100000
set_option maxHeartbeats 4000000
/-! Fw0: Python data as Lean data, the mutable cells apart, what a def computes as a Lean function; all relations to the hand layer's heap. -/
namespace Fw
open PySem L2

/-- immutable data -/
inductive D where
  | non | bl (b : Bool) | int (i : Int) | str (x : Str)
  | tup (ds : List D) | lst (ds : List D) | frz (ds : List D)
  | obj (c : Nat) (ds : List D)
  | dic (ks vs : List D) | dit (ks vs : List D)
  | fn (n : Nat) | ty (n : String)
/-- what a name holds: data, a mutable cell, or (within an except suite) the caught exception -/
inductive S where
  | d (x : D) | loc (n : Nat) | exn (c : Nat) (ds : List D)
inductive Cell where
  | lst (ds : List D)
  | ins (c : Nat) (fs : List (Str × D))
  | dead
def keyD : Key → D
  | .inl i => .int i
  | .inr x => .str x
abbrev Ms := List Cell
abbrev Env := List (Option S)
inductive R (α : Type) where
  | ok (a : α) (ms : Ms)
  | ex (c : Nat) (ds : List D) (ms : Ms)
  | bad
/-- a statement's end -/
inductive T where
  | nx (e : Env) (ms : Ms)
  | rt (s : S) (ms : Ms)
  | bk (e : Env) (ms : Ms)
  | ct (e : Env) (ms : Ms)
  | ex (c : Nat) (ds : List D) (e : Env) (ms : Ms)
  | bad
def R.bind {α β : Type} (r : R α) (f : α → Ms → R β) : R β := match r with
  | .ok a ms => f a ms
  | .ex c ds ms => .ex c ds ms
  | .bad => .bad
def R.post {α : Type} (r : R α) (P : α → Ms → Prop) (E : Nat → List D → Ms → Prop) : Prop := match r with
  | .ok a ms => P a ms
  | .ex c ds ms => E c ds ms
  | .bad => False
def T.post (t : T) (N : Env → Ms → Prop) (Rt : S → Ms → Prop) (B C : Env → Ms → Prop) (E : Nat → List D → Env → Ms → Prop) : Prop := match t with
  | .nx e ms => N e ms
  | .rt s ms => Rt s ms
  | .bk e ms => B e ms
  | .ct e ms => C e ms
  | .ex c ds e ms => E c ds e ms
  | .bad => False
theorem R.post_bind {α β : Type} {r : R α} {f : α → Ms → R β} {P : β → Ms → Prop} {E : Nat → List D → Ms → Prop} (h : (r.bind f).post P E) : r.post (fun a ms => (f a ms).post P E) E := by
  cases r with
  | ok a ms => exact h
  | ex c ds ms => exact h
  | bad => exact h
theorem R.post_mono {α : Type} {r : R α} {P P' : α → Ms → Prop} {E E' : Nat → List D → Ms → Prop} (h : r.post P E) (hp : ∀ a ms, P a ms → P' a ms) (he : ∀ c ds ms, E c ds ms → E' c ds ms) : r.post P' E' := by
  cases r with
  | ok a ms => exact hp _ _ h
  | ex c ds ms => exact he _ _ _ h
  | bad => exact h
theorem T.post_mono {t : T} {N N' : Env → Ms → Prop} {Rt Rt' : S → Ms → Prop} {B B' C C' : Env → Ms → Prop} {E E' : Nat → List D → Env → Ms → Prop} (h : t.post N Rt B C E)
    (hN : ∀ e ms, N e ms → N' e ms) (hR : ∀ s ms, Rt s ms → Rt' s ms) (hB : ∀ e ms, B e ms → B' e ms) (hC : ∀ e ms, C e ms → C' e ms) (hE : ∀ c ds e ms, E c ds e ms → E' c ds e ms) : t.post N' Rt' B' C' E' := by
  cases t with
  | nx e ms => exact hN _ _ h
  | rt s ms => exact hR _ _ h
  | bk e ms => exact hB _ _ h
  | ct e ms => exact hC _ _ h
  | ex c ds e ms => exact hE _ _ _ _ h
  | bad => exact h

/-- the static part: the classes' addresses, their attributes in order, the defs' addresses -/
structure G where
  cls : Nat → Addr
  fld : Nat → List Str
  fn : Nat → Addr
/-- frozen heap, protected heap (it stands, nobody may write it), cells' addresses -/
structure Wd where
  F : Hp
  P : Hp
  mu : List Addr
structure Ext (w w' : Wd) : Prop where
  F : ∀ a o, w.F a = some o → w'.F a = some o
  mu : ∀ (n : Nat) a, w.mu[n]? = some a → w'.mu[n]? = some a
  P : w'.P = w.P
theorem Ext.refl (w : Wd) : Ext w w := ⟨fun _ _ h => h, fun _ _ h => h, rfl⟩
theorem Ext.trans {a b c : Wd} (x : Ext a b) (y : Ext b c) : Ext a c := ⟨fun p o h => y.F p o (x.F p o h), fun n p h => y.mu n p (x.mu n p h), y.P.trans x.P⟩

mutual
def DR (K : PySem.W.Frag) (Γ : G) (F : Hp) : D → V → Prop
  | .non, v => v = .non
  | .bl b, v => v = .bl b
  | .int i, v => v = .int i
  | .str x, v => v = .str x
  | .tup ds, v => ∃ a xs, v = .ref a ∧ SqT K F a xs ∧ DRs K Γ F ds xs
  | .lst ds, v => ∃ a xs, v = .ref a ∧ F a = some (.lst xs) ∧ DRs K Γ F ds xs
  | .frz ds, v => ∃ a xs, v = .ref a ∧ SqL K F a xs ∧ DRs K Γ F ds xs
  | .obj c ds, v => ∃ a dx xs, v = .ref a ∧ F a = some (.ins (Γ.cls c) dx ((Γ.fld c).zip xs)) ∧ (Γ.fld c).length = xs.length ∧ DRs K Γ F ds xs
  | .dic ks vs, v => ∃ a kvs, v = .ref a ∧ F a = some (.dK kvs) ∧ ks = kvs.map (fun p => keyD p.1) ∧ DRs K Γ F vs (kvs.map (·.2))
  | .dit ks vs, v => ∃ a kvs, v = .ref a ∧ F a = some (.dT kvs) ∧ ks = kvs.map (fun p => .tup (p.1.map keyD)) ∧ DRs K Γ F vs (kvs.map (·.2))
  | .fn n, v => v = .ref (Γ.fn n)
  | .ty n, v => v = .ty n
def DRs (K : PySem.W.Frag) (Γ : G) (F : Hp) : List D → List V → Prop
  | [], xs => xs = []
  | d :: ds, xs => ∃ x r, xs = x :: r ∧ DR K Γ F d x ∧ DRs K Γ F ds r
end
theorem sqT_mono {K : PySem.W.Frag} {F F' : Hp} {a : Addr} {xs : List V} (h : SqT K F a xs) (e : ∀ a o, F a = some o → F' a = some o) : SqT K F' a xs := by
  rcases h with (h | ⟨o, h⟩) | h
  · exact .inl (.inl (e _ _ h))
  · exact .inl (.inr ⟨o, e _ _ h⟩)
  · exact .inr h
theorem sqL_mono {K : PySem.W.Frag} {F F' : Hp} {a : Addr} {xs : List V} (h : SqL K F a xs) (e : ∀ a o, F a = some o → F' a = some o) : SqL K F' a xs := by
  rcases h with (h | ⟨o, h⟩) | h
  · exact .inl (.inl (e _ _ h))
  · exact .inl (.inr ⟨o, e _ _ h⟩)
  · exact .inr h
mutual
theorem DR.mono {K : PySem.W.Frag} {Γ : G} {F F' : Hp} (e : ∀ a o, F a = some o → F' a = some o) : ∀ (d : D) (v : V), DR K Γ F d v → DR K Γ F' d v
  | .non, v, h => h
  | .bl b, v, h => h
  | .int i, v, h => h
  | .str x, v, h => h
  | .tup ds, v, h => by
    simp only [DR] at h ⊢
    obtain ⟨a, xs, h1, h2, h3⟩ := h
    exact ⟨a, xs, h1, sqT_mono h2 e, DRs.mono e ds xs h3⟩
  | .lst ds, v, h => by
    simp only [DR] at h ⊢
    obtain ⟨a, xs, h1, h2, h3⟩ := h
    exact ⟨a, xs, h1, e _ _ h2, DRs.mono e ds xs h3⟩
  | .frz ds, v, h => by
    simp only [DR] at h ⊢
    obtain ⟨a, xs, h1, h2, h3⟩ := h
    exact ⟨a, xs, h1, sqL_mono h2 e, DRs.mono e ds xs h3⟩
  | .obj c ds, v, h => by
    simp only [DR] at h ⊢
    obtain ⟨a, dx, xs, h1, h2, h4, h3⟩ := h
    exact ⟨a, dx, xs, h1, e _ _ h2, h4, DRs.mono e ds xs h3⟩
  | .dic ks vs, v, h => by
    simp only [DR] at h ⊢
    obtain ⟨a, kvs, h1, h2, h4, h3⟩ := h
    exact ⟨a, kvs, h1, e _ _ h2, h4, DRs.mono e vs _ h3⟩
  | .dit ks vs, v, h => by
    simp only [DR] at h ⊢
    obtain ⟨a, kvs, h1, h2, h4, h3⟩ := h
    exact ⟨a, kvs, h1, e _ _ h2, h4, DRs.mono e vs _ h3⟩
  | .fn n, v, h => h
  | .ty n, v, h => h
theorem DRs.mono {K : PySem.W.Frag} {Γ : G} {F F' : Hp} (e : ∀ a o, F a = some o → F' a = some o) : ∀ (ds : List D) (xs : List V), DRs K Γ F ds xs → DRs K Γ F' ds xs
  | [], xs, h => h
  | d :: ds, xs, h => by
    simp only [DRs] at h ⊢
    obtain ⟨x, r, h1, h2, h3⟩ := h
    exact ⟨x, r, h1, DR.mono e d x h2, DRs.mono e ds r h3⟩
end
end Fw
set_option Elab.async false
set_option linter.all false
set_option maxRecDepth 100000
set_option maxHeartbeats 4000000
/-! Fw1: the relations to the heap, the judgements, expressions. -/
namespace Fw
open PySem L2

structure Cy where
  X : Cx
  Γ : G
  W : WX
  ea : Addr
  ed : Option Addr
  ec : Value

def XD (K : PySem.W.Frag) (Γ : G) (F : Hp) (c : Nat) (ds : List D) (dd : Option Addr) : Prop :=
  (Γ.fld c = [] ∧ ds = [] ∧ dd = none) ∨ ∃ d xs, dd = some d ∧ F d = some (.xd ((Γ.fld c).zip xs)) ∧ (Γ.fld c).length = xs.length ∧ DRs K Γ F ds xs
theorem XD.mono {K : PySem.W.Frag} {Γ : G} {F F' : Hp} {c : Nat} {ds : List D} {dd : Option Addr} (h : XD K Γ F c ds dd) (e : ∀ a o, F a = some o → F' a = some o) : XD K Γ F' c ds dd := by
  rcases h with h | ⟨d, xs, h1, h2, h3, h4⟩
  · exact .inl h
  · exact .inr ⟨d, xs, h1, e _ _ h2, h3, DRs.mono e ds xs h4⟩

def SR0 (K : PySem.W.Frag) (Γ : G) (w : Wd) : S → V → Prop
  | .d x, v => DR K Γ w.F x v
  | .loc n, v => ∃ a, w.mu[n]? = some a ∧ v = .ref a
  | .exn _ _, _ => False
abbrev SRs0 (K : PySem.W.Frag) (Γ : G) (w : Wd) (ss : List S) (vs : List V) : Prop := Paired (SR0 K Γ w) ss vs
def CR (K : PySem.W.Frag) (Γ : G) (w : Wd) (H : Hp) (a : Addr) : Cell → Prop
  | .lst ds => ∃ xs, H a = some (.lst xs) ∧ DRs K Γ w.F ds xs
  | .ins c fs => ∃ dx xs, H a = some (.ins (Γ.cls c) dx ((fs.map (·.1)).zip xs)) ∧ DRs K Γ w.F (fs.map (·.2)) xs
  | .dead => True
structure HR0 (K : PySem.W.Frag) (Γ : G) (w : Wd) (H : Hp) (ms : Ms) : Prop where
  sub : ∀ a o, w.F a = some o → H a = some o
  prot : ∀ a o, w.P a = some o → H a = some o
  dis : ∀ a o, w.P a = some o → w.F a = none
  len : w.mu.length = ms.length
  inj : ∀ (i j : Nat) a c c', w.mu[i]? = some a → w.mu[j]? = some a → ms[i]? = some c → ms[j]? = some c' → c ≠ .dead → c' ≠ .dead → i = j
  sep : ∀ (n : Nat) a c, w.mu[n]? = some a → ms[n]? = some c → c ≠ .dead → w.F a = none ∧ w.P a = none
  cel : ∀ (n : Nat) a c, w.mu[n]? = some a → ms[n]? = some c → CR K Γ w H a c
abbrev HR (Y : Cy) (w : Wd) (H : Hp) (ms : Ms) : Prop := HR0 Y.X.K Y.Γ w H ms
section
variable (Y : Cy)
def SR (w : Wd) : S → V → Prop
  | .d x, v => DR Y.X.K Y.Γ w.F x v
  | .loc n, v => ∃ a, w.mu[n]? = some a ∧ v = .ref a
  | .exn c ds, v => (v = .ref Y.ea ∧ Y.ec = .ref (Y.Γ.cls c)) ∧ XD Y.X.K Y.Γ w.F c ds Y.ed
def SRs (w : Wd) (ss : List S) (vs : List V) : Prop := Paired (SR Y w) ss vs
structure ER (w : Wd) (σ : St) (env : Env) : Prop where
  len : σ.length = env.length
  slot : ∀ (i : Nat) s, env[i]? = some (some s) → ∃ v, σ[i]? = some (some v) ∧ SR Y w s v
end

section
variable {Y : Cy} {w w1 w2 : Wd} {σ : St} {H H1 H2 : Hp} {env : Env} {ms ms1 ms2 : Ms}
theorem SR.mono (e : Ext w w1) {s : S} {v : V} (h : SR Y w s v) : SR Y w1 s v := by
  cases s with
  | d x => exact DR.mono e.F x v h
  | loc n => obtain ⟨a, h1, h2⟩ := h; exact ⟨a, e.mu n a h1, h2⟩
  | exn c ds => exact ⟨h.1, h.2.mono e.F⟩
theorem SRs.mono (e : Ext w w1) {ss : List S} {vs : List V} (h : SRs Y w ss vs) : SRs Y w1 ss vs := Paired.mapP h fun _ _ q => q.mono e
theorem SR0.mono {K : PySem.W.Frag} {Γ : G} (e : Ext w w1) {s : S} {v : V} (h : SR0 K Γ w s v) : SR0 K Γ w1 s v := by
  cases s with
  | d x => exact DR.mono e.F x v h
  | loc n => obtain ⟨a, h1, h2⟩ := h; exact ⟨a, e.mu n a h1, h2⟩
  | exn c ds => exact h.elim
theorem SRs0.mono {K : PySem.W.Frag} {Γ : G} (e : Ext w w1) {ss : List S} {vs : List V} (h : SRs0 K Γ w ss vs) : SRs0 K Γ w1 ss vs := Paired.mapP h fun _ _ q => q.mono e
theorem SR0.up {s : S} {v : V} (h : SR0 Y.X.K Y.Γ w s v) : SR Y w s v := by
  cases s with
  | d x => exact h
  | loc n => exact h
  | exn c ds => exact h.elim
theorem SRs0.up {ss : List S} {vs : List V} (h : SRs0 Y.X.K Y.Γ w ss vs) : SRs Y w ss vs := Paired.mapP h fun _ _ q => q.up
def S.noX : S → Bool
  | .exn _ _ => false
  | _ => true
theorem SR.down {s : S} {v : V} (h : SR Y w s v) (n : s.noX = true) : SR0 Y.X.K Y.Γ w s v := by
  cases s with
  | d x => exact h
  | loc n => exact h
  | exn c ds => cases n
theorem SRs.down : ∀ {ss : List S} {vs : List V}, SRs Y w ss vs → ss.all S.noX = true → SRs0 Y.X.K Y.Γ w ss vs
  | _, _, .nil, _ => .nil
  | s :: r, _, .cons a b, h => by
    rw [List.all_cons, Bool.and_eq_true] at h
    exact .cons (a.down h.1) (SRs.down b h.2)
theorem CR.mono {K : PySem.W.Frag} {Γ : G} (e : Ext w w1) {a : Addr} {c : Cell} (h : CR K Γ w H a c) (hH : ∀ o, H a = some o → H1 a = some o) : CR K Γ w1 H1 a c := by
  cases c with
  | lst ds => obtain ⟨xs, h1, h2⟩ := h; exact ⟨xs, hH _ h1, DRs.mono e.F _ _ h2⟩
  | ins c fs => obtain ⟨dx, xs, h1, h2⟩ := h; exact ⟨dx, xs, hH _ h1, DRs.mono e.F _ _ h2⟩
  | dead => trivial
theorem ER.mono (e : Ext w w1) (h : ER Y w σ env) : ER Y w1 σ env := ⟨h.len, fun i s hs => let ⟨v, h1, h2⟩ := h.slot i s hs; ⟨v, h1, h2.mono e⟩⟩

def okP (Y : Cy) (w : Wd) (Q : VK) : S → Ms → Prop := fun s ms' => ∀ w' H' v, Ext w w' → HR Y w' H' ms' → SR Y w' s v → Q v H'
def exP (Y : Cy) (w : Wd) (σ : St) : Nat → List D → Ms → Prop := fun c ds ms' => ∀ w' H' dd, Ext w w' → HR Y w' H' ms' → XD Y.X.K Y.Γ w'.F c ds dd → Y.W (.ref (Y.Γ.cls c)) dd σ H'
theorem exP.ext (e : Ext w w1) {c : Nat} {ds : List D} (h : exP Y w σ c ds ms) : exP Y w1 σ c ds ms := fun w' H' dd e' => h w' H' dd (e.trans e')

/-- a reading computes what m says -/
def SndE (Y : Cy) (t : TE) (m : Env → Ms → R S) : Prop :=
  ∀ (w : Wd) (σ : St) (H : Hp) (env : Env) (ms : Ms) (Q : VK), ER Y w σ env → HR Y w H ms → (m env ms).post (okP Y w Q) (exP Y w σ) → t σ H Q
structure DE (Y : Cy) (e : Expr) (m : Env → Ms → R S) : Prop where
  ex : ∃ t, PE Y.X e t ∧ SndE Y t m
def SndT (Y : Cy) (t : TT) (m : Env → Ms → R Bool) : Prop :=
  ∀ (w : Wd) (σ : St) (H : Hp) (env : Env) (ms : Ms) (Q : Bool → Hp → Prop), ER Y w σ env → HR Y w H ms → (m env ms).post (fun b ms' => ∀ w' H', Ext w w' → HR Y w' H' ms' → Q b H') (exP Y w σ) → t σ H Q
structure DT (Y : Cy) (e : Expr) (m : Env → Ms → R Bool) : Prop where
  ex : ∃ t, PT Y.X e t ∧ SndT Y t m
structure DW (Y : Cy) (e : Expr) (m : Env → Ms → R Bool) : Prop where
  ex : ∃ t, PW Y.X e t ∧ SndT Y t m
def SndA (Y : Cy) (t : TA) (m : Env → Ms → R (List S)) : Prop :=
  ∀ (w : Wd) (σ : St) (H : Hp) (env : Env) (ms : Ms) (Q : List V → Hp → Prop), ER Y w σ env → HR Y w H ms → (m env ms).post (fun ss ms' => ∀ w' H' vs, Ext w w' → HR Y w' H' ms' → SRs Y w' ss vs → Q vs H') (exP Y w σ) → t σ H Q
structure DA (Y : Cy) (es : List Expr) (m : Env → Ms → R (List S)) : Prop where
  ex : ∃ t, PA Y.X es t ∧ SndA Y t m

/-- on with a value -/
theorem SndE.go {t : TE} {m : Env → Ms → R S} (h : SndE Y t m) {β : Type} {f : S → Ms → R β} {P : β → Ms → Prop} {k : VK} (er : ER Y w σ env) (hr : HR Y w H ms)
    (hp : ((m env ms).bind f).post P (exP Y w σ)) (hk : ∀ s ms1 w1 H1 v, Ext w w1 → ER Y w1 σ env → HR Y w1 H1 ms1 → SR Y w1 s v → (f s ms1).post P (exP Y w1 σ) → k v H1) : t σ H k := by
  refine h w σ H env ms k er hr (R.post_mono (R.post_bind hp) (fun s ms1 q => ?_) fun _ _ _ q => q)
  intro w1 H1 v e1 hr1 sr
  exact hk s ms1 w1 H1 v e1 (er.mono e1) hr1 sr (R.post_mono q (fun _ _ z => z) fun _ _ _ z => z.ext e1)
theorem SndT.go {t : TT} {m : Env → Ms → R Bool} (h : SndT Y t m) {β : Type} {f : Bool → Ms → R β} {P : β → Ms → Prop} {k : Bool → Hp → Prop} (er : ER Y w σ env) (hr : HR Y w H ms)
    (hp : ((m env ms).bind f).post P (exP Y w σ)) (hk : ∀ b ms1 w1 H1, Ext w w1 → ER Y w1 σ env → HR Y w1 H1 ms1 → (f b ms1).post P (exP Y w1 σ) → k b H1) : t σ H k := by
  refine h w σ H env ms k er hr (R.post_mono (R.post_bind hp) (fun s ms1 q => ?_) fun _ _ _ q => q)
  intro w1 H1 e1 hr1
  exact hk s ms1 w1 H1 e1 (er.mono e1) hr1 (R.post_mono q (fun _ _ z => z) fun _ _ _ z => z.ext e1)
theorem SndA.go {t : TA} {m : Env → Ms → R (List S)} (h : SndA Y t m) {β : Type} {f : List S → Ms → R β} {P : β → Ms → Prop} {k : List V → Hp → Prop} (er : ER Y w σ env) (hr : HR Y w H ms)
    (hp : ((m env ms).bind f).post P (exP Y w σ)) (hk : ∀ ss ms1 w1 H1 vs, Ext w w1 → ER Y w1 σ env → HR Y w1 H1 ms1 → SRs Y w1 ss vs → (f ss ms1).post P (exP Y w1 σ) → k vs H1) : t σ H k := by
  refine h w σ H env ms k er hr (R.post_mono (R.post_bind hp) (fun s ms1 q => ?_) fun _ _ _ q => q)
  intro w1 H1 vs e1 hr1 sr
  exact hk s ms1 w1 H1 vs e1 (er.mono e1) hr1 sr (R.post_mono q (fun _ _ z => z) fun _ _ _ z => z.ext e1)
theorem okP.use {Q : VK} {P : S → Ms → Prop} {s : S} {ms : Ms} (h : P s ms) (hP : P = okP Y w Q) {v : V} (hr : HR Y w H ms) (sr : SR Y w s v) : Q v H := by
  subst hP
  exact h w H v (Ext.refl w) hr sr
theorem okP.at {Q : VK} {s : S} {v : V} (h : okP Y w Q s ms) (e : Ext w w1) (hr : HR Y w1 H1 ms) (sr : SR Y w1 s v) : Q v H1 := h w1 H1 v e hr sr
theorem okP.ext {Q : VK} {s : S} (e : Ext w w1) (h : okP Y w Q s ms) : okP Y w1 Q s ms := fun w' H' v e' => h w' H' v (e.trans e')
theorem post_ext {r : R S} {Q : VK} (e : Ext w w1) (h : r.post (okP Y w Q) (exP Y w1 σ)) : r.post (okP Y w1 Q) (exP Y w1 σ) := R.post_mono h (fun _ _ z => z.ext e) fun _ _ _ z => z

/-! ### names, constants -/
def mVar (i : Nat) : Env → Ms → R S := fun env ms => match env[i]? with
  | some (some s) => .ok s ms
  | _ => .bad
def mC (s : S) : Env → Ms → R S := fun _ ms => .ok s ms
theorem e_var (i : Nat) {x : Str} {pos : Pos} (hN : Y.X.N[i]? = some x := by rfl) (hv : Vis Y.X.env.scope x := by first | exact Or.inl rfl | exact Or.inr (Or.inl rfl) | exact Or.inr (Or.inr rfl)) (hd : (x == ("__debug__" : Str)) = false := by decide)
    (hcd : (x == ("__classdict__" : Str)) = false := by decide) : DE Y (.Name x pos) (mVar i) := by
  refine ⟨_, pe_var hN hv hd hcd, fun w σ H env ms Q er hr h => ?_⟩
  unfold mVar at h
  cases he : env[i]? with
  | none => rw [he] at h; exact h.elim
  | some o =>
    cases o with
    | none => rw [he] at h; exact h.elim
    | some s =>
      rw [he] at h
      obtain ⟨v, h1, h2⟩ := er.slot i s he
      exact ⟨v, h1, h.at (Ext.refl w) hr h2⟩
theorem e_c {e : Expr} {v : V} {s : S} (h : PE Y.X e (tC v)) (hs : ∀ w, SR Y w s v) : DE Y e (mC s) :=
  ⟨_, h, fun w _ _ _ _ _ _ hr q => q.at (Ext.refl w) hr (hs w)⟩
theorem e_int {i : Int} {j pos} : DE Y (.Constant (.int i) j pos) (mC (.d (.int i))) := e_c pe_int fun _ => rfl
theorem e_bl {b : Bool} {j pos} : DE Y (.Constant (.bool b) j pos) (mC (.d (.bl b))) := e_c pe_bl fun _ => rfl
theorem e_non {j pos} : DE Y (.Constant .none j pos) (mC (.d .non)) := e_c pe_non fun _ => rfl
theorem e_str {x : Str} {j pos} : DE Y (.Constant (.str x) j pos) (mC (.d (.str x))) := e_c pe_str fun _ => rfl
/-- a module's constant -/
theorem e_glob {x : Str} {v : V} {s : S} {u : Value} {pos : Pos} (hg : Gl Y.X x) (hm : Y.X.mg x = some u) (r : RelV v u) (hs : ∀ w, SR Y w s v) (hd : (x == ("__debug__" : Str)) = false := by decide) : DE Y (.Name x pos) (mC s) := e_c (pe_glob hg hm r hd) hs

/-! ### operators by values -/
def SndR2 (Y : Cy) (r : R2) (g : S → S → Ms → R S) : Prop :=
  ∀ (w : Wd) (H : Hp) (ms : Ms) (x y : S) (u v : V) (Q : VK), HR Y w H ms → SR Y w x u → SR Y w y v → (g x y ms).post (okP Y w Q) (fun _ _ _ => False) → r u v H Q
def mOp (g : S → S → Ms → R S) (ma mb : Env → Ms → R S) : Env → Ms → R S := fun env ms => (ma env ms).bind fun x ms1 => (mb env ms1).bind fun y ms2 => g x y ms2
theorem snd_op {r : R2} {g : S → S → Ms → R S} {ta tb : TE} {ma mb : Env → Ms → R S} (hg : ∀ x y ms c ds ms', g x y ms ≠ .ex c ds ms') (hs : SndR2 Y r g) (ha : SndE Y ta ma) (hb : SndE Y tb mb) : SndE Y (tOp r ta tb) (mOp g ma mb) := by
  intro w σ H env ms Q er hr h
  refine ha.go er hr h fun x ms1 w1 H1 u e1 er1 hr1 su h1 => ?_
  refine hb.go er1 hr1 h1 fun y ms2 w2 H2 v e2 er2 hr2 sv h2 => ?_
  refine hs w2 H2 ms2 x y u v Q hr2 (su.mono e2) sv ?_
  have hx := hg x y ms2
  cases hgx : g x y ms2 with
  | ok s ms' => rw [hgx] at h2; exact h2.ext (e1.trans e2)
  | ex c ds ms' => exact absurd hgx (hx c ds ms')
  | bad => rw [hgx] at h2; exact h2
theorem e_op {op : Operator} {r : R2} {g : S → S → Ms → R S} {a b : Expr} {ma mb : Env → Ms → R S} {pos : Pos} (ho : OpR Y.X (binaryOp op) r) (hg : ∀ x y ms c ds ms', g x y ms ≠ .ex c ds ms') (hs : SndR2 Y r g) (ha : DE Y a ma) (hb : DE Y b mb) : DE Y (.BinOp a op b pos) (mOp g ma mb) := by
  obtain ⟨ta, pa, sa⟩ := ha.ex
  obtain ⟨tb, pb, sb⟩ := hb.ex
  exact ⟨_, pe_op ho pa pb, snd_op hg hs sa sb⟩
theorem e_cmp {op : CmpOp} {r : R2} {g : S → S → Ms → R S} {a b : Expr} {ma mb : Env → Ms → R S} {pos : Pos} (ho : OpR Y.X (compareOp op) r) (hg : ∀ x y ms c ds ms', g x y ms ≠ .ex c ds ms') (hs : SndR2 Y r g) (ha : DE Y a ma) (hb : DE Y b mb) (hm : behindInMarks op b = false) : DE Y (.Compare a [op] [b] pos) (mOp g ma mb) := by
  obtain ⟨ta, pa, sa⟩ := ha.ex
  obtain ⟨tb, pb, sb⟩ := hb.ex
  exact ⟨_, pe_cmpR ho pa pb hm, snd_op hg hs sa sb⟩
end
end Fw
set_option Elab.async false
set_option linter.all false
set_option maxRecDepth 100000
set_option maxHeartbeats 4000000
/-! Fw2: argument lists, displays, tests, statements, loops. -/
namespace Fw
open PySem L2

section
variable {Y : Cy} {w w1 w2 : Wd} {σ : St} {H H1 H2 : Hp} {env : Env} {ms ms1 ms2 : Ms}

theorem paired_nil_iff {ss : List S} (h : SRs Y w ss []) : ss = [] := by cases h; rfl
theorem HR0.live (h : HR Y w H ms) {n : Nat} {a : Addr} {c : Cell} (hm : w.mu[n]? = some a) (hc : ms[n]? = some c) (hd : c ≠ .dead) : ∃ o, H a = some o := by
  have q := h.cel n a c hm hc
  cases c with
  | lst ds => obtain ⟨xs, e, _⟩ := q; exact ⟨_, e⟩
  | ins c fs => obtain ⟨dx, xs, e, _⟩ := q; exact ⟨_, e⟩
  | dead => exact absurd rfl hd
theorem HR0.freeF (h : HR Y w H ms) {p : Addr} (hp : H p = none) : w.F p = none := by
  cases e : w.F p with
  | none => rfl
  | some u => rw [h.sub p u e] at hp; cases hp
theorem HR0.freeP (h : HR Y w H ms) {p : Addr} (hp : H p = none) : w.P p = none := by
  cases e : w.P p with
  | none => rfl
  | some u => rw [h.prot p u e] at hp; cases hp
/-- a new object, frozen -/
theorem HR0.froz {p : Addr} {o : HO} (h : HR Y w H ms) (hp : H p = none) : HR Y ⟨upd w.F p o, w.P, w.mu⟩ (upd H p o) ms ∧ Ext w ⟨upd w.F p o, w.P, w.mu⟩ := by
  have fp : ∀ a u, w.F a = some u → a ≠ p := fun a u e => ne_of_none (h.sub a u e) hp
  have ex : Ext w ⟨upd w.F p o, w.P, w.mu⟩ := ⟨fun a u e => by show upd w.F p o a = some u; rw [upd_ne (fp a u e)]; exact e, fun _ _ e => e, rfl⟩
  refine ⟨⟨fun a u e => ?_, fun a u e => ?_, fun a u e => ?_, h.len, h.inj, fun n a c hm hc hd => ?_, fun n a c hm hc => ?_⟩, ex⟩
  · have e : upd w.F p o a = some u := e
    by_cases z : a = p
    · subst z; rw [upd_same] at e ⊢; exact e
    · rw [upd_ne z] at e ⊢; exact h.sub a u e
  · have e : w.P a = some u := e
    rw [upd_ne (ne_of_none (h.prot a u e) hp)]
    exact h.prot a u e
  · have e : w.P a = some u := e
    show upd w.F p o a = none
    rw [upd_ne (ne_of_none (h.prot a u e) hp)]
    exact h.dis a u e
  · obtain ⟨u, e⟩ := h.live hm hc hd
    refine ⟨?_, (h.sep n a c hm hc hd).2⟩
    show upd w.F p o a = none
    rw [upd_ne (ne_of_none e hp)]
    exact (h.sep n a c hm hc hd).1
  · exact (h.cel n a c hm hc).mono ex fun u e => by rw [upd_ne (ne_of_none e hp)]; exact e
/-- a new cell -/
theorem HR0.cell {p : Addr} {o : HO} {c : Cell} (h : HR Y w H ms) (hp : H p = none) (hc : CR Y.X.K Y.Γ ⟨w.F, w.P, w.mu ++ [p]⟩ (upd H p o) p c) : HR Y ⟨w.F, w.P, w.mu ++ [p]⟩ (upd H p o) (ms ++ [c]) ∧ Ext w ⟨w.F, w.P, w.mu ++ [p]⟩ := by
  have lt : ∀ {n : Nat} {a : Addr}, w.mu[n]? = some a → n < w.mu.length := fun e => (List.getElem?_eq_some_iff.mp e).1
  have ex : Ext w ⟨w.F, w.P, w.mu ++ [p]⟩ := ⟨fun _ _ e => e, fun n a e => by show (w.mu ++ [p])[n]? = some a; rw [List.getElem?_append_left (lt e)]; exact e, rfl⟩
  have old : ∀ {n : Nat} {a : Addr}, (w.mu ++ [p])[n]? = some a → n < w.mu.length → w.mu[n]? = some a := fun e z => by rw [List.getElem?_append_left z] at e; exact e
  have new : ∀ {n : Nat} {a : Addr}, (w.mu ++ [p])[n]? = some a → ¬ n < w.mu.length → a = p ∧ n = w.mu.length := fun {n a} e z => by
    rw [List.getElem?_append_right (Nat.le_of_not_lt z)] at e
    have : n - w.mu.length = 0 := by
      cases q : n - w.mu.length with
      | zero => rfl
      | succ k => rw [q] at e; simp at e
    rw [this] at e
    exact ⟨by simpa using e.symm, by omega⟩
  have mp : ∀ {n : Nat} {c' : Cell}, ms[n]? = some c' → w.mu[n]? = some p → c' = .dead := fun {n c'} e e2 => Classical.byContradiction fun z => by
    obtain ⟨u, q⟩ := h.live e2 e z
    rw [q] at hp; cases hp
  refine ⟨⟨fun a u e => by rw [upd_ne (ne_of_none (h.sub a u e) hp)]; exact h.sub a u e, fun a u e => by rw [upd_ne (ne_of_none (h.prot a u e) hp)]; exact h.prot a u e, h.dis, by simp [h.len], fun i j a c1 c2 e1 e2 k1 k2 d1 d2 => ?_, fun n a c' e1 e2 hd => ?_, fun n a c' e1 e2 => ?_⟩, ex⟩
  · have dp : ∀ {n : Nat} {c' : Cell}, w.mu[n]? = some p → (ms ++ [c])[n]? = some c' → n < w.mu.length → c' = .dead := fun {n c'} e q z => by
      rw [List.getElem?_append_left (by rw [← h.len]; exact z)] at q
      exact mp q e
    by_cases z1 : i < w.mu.length
    · by_cases z2 : j < w.mu.length
      · refine h.inj i j a c1 c2 (old e1 z1) (old e2 z2) ?_ ?_ d1 d2
        · rw [List.getElem?_append_left (by rw [← h.len]; exact z1)] at k1; exact k1
        · rw [List.getElem?_append_left (by rw [← h.len]; exact z2)] at k2; exact k2
      · obtain ⟨q1, q2⟩ := new e2 z2
        subst q1
        exact absurd (dp (old e1 z1) k1 z1) d1
    · obtain ⟨q1, q2⟩ := new e1 z1
      subst q1
      by_cases z2 : j < w.mu.length
      · exact absurd (dp (old e2 z2) k2 z2) d2
      · rw [q2, (new e2 z2).2]
  · by_cases z : n < w.mu.length
    · rw [List.getElem?_append_left (by rw [← h.len]; exact z)] at e2
      exact h.sep n a c' (old e1 z) e2 hd
    · rw [(new e1 z).1]; exact ⟨h.freeF hp, h.freeP hp⟩
  · by_cases z : n < w.mu.length
    · rw [List.getElem?_append_left (by rw [← h.len]; exact z)] at e2
      have q := h.cel n a c' (old e1 z) e2
      exact q.mono ex fun u e => by rw [upd_ne (ne_of_none e hp)]; exact e
    · obtain ⟨q1, q2⟩ := new e1 z
      subst q1 q2
      rw [List.getElem?_append_right (by rw [h.len]; exact Nat.le_refl _)] at e2
      have : c' = c := by rw [h.len] at e2; simpa using e2.symm
      subst this
      exact hc
/-- a cell is written -/
theorem HR0.write {n : Nat} {a : Addr} {o : HO} {c c' : Cell} (h : HR Y w H ms) (hm : w.mu[n]? = some a) (hc : ms[n]? = some c) (hd : c ≠ .dead) (new : CR Y.X.K Y.Γ w (upd H a o) a c') : HR Y w (upd H a o) (ms.set n c') := by
  obtain ⟨nF, nP⟩ := h.sep n a c hm hc hd
  have hn : n < ms.length := (List.getElem?_eq_some_iff.mp hc).1
  have other : ∀ {i : Nat} {b : Addr} {k : Cell}, w.mu[i]? = some b → ms[i]? = some k → k ≠ .dead → i ≠ n → b ≠ a := fun {i b k} e q z ne x => by
    subst x
    exact ne (h.inj i n b k c e hm q hc z hd)
  have at_ : ∀ {i : Nat} {k : Cell}, (ms.set n c')[i]? = some k → i ≠ n → ms[i]? = some k := fun e ne => by rw [List.getElem?_set_ne (Ne.symm ne)] at e; exact e
  refine ⟨fun b u e => ?_, fun b u e => ?_, h.dis, by simp [h.len], fun i j b c1 c2 e1 e2 k1 k2 d1 d2 => ?_, fun i b k e q z => ?_, fun i b k e q => ?_⟩
  · have : b ≠ a := fun x => by subst x; rw [nF] at e; cases e
    rw [upd_ne this]; exact h.sub b u e
  · have : b ≠ a := fun x => by subst x; rw [nP] at e; cases e
    rw [upd_ne this]; exact h.prot b u e
  · by_cases z1 : i = n
    · by_cases z2 : j = n
      · rw [z1, z2]
      · subst z1
        rw [hm] at e1
        cases e1
        exact absurd rfl (other e2 (at_ k2 z2) d2 z2)
    · by_cases z2 : j = n
      · subst z2
        rw [hm] at e2
        cases e2
        exact absurd rfl (other e1 (at_ k1 z1) d1 z1)
      · exact h.inj i j b c1 c2 e1 e2 (at_ k1 z1) (at_ k2 z2) d1 d2
  · by_cases z1 : i = n
    · subst z1; rw [hm] at e; cases e; exact ⟨nF, nP⟩
    · exact h.sep i b k e (at_ q z1) z
  · by_cases z1 : i = n
    · subst z1
      rw [hm] at e; cases e
      rw [List.getElem?_set_self hn] at q
      cases q
      exact new
    · have q' := at_ q z1
      have r := h.cel i b k e q'
      cases k with
      | dead => trivial
      | lst ds => exact r.mono (Ext.refl w) fun u z => by rw [upd_ne (other e q' (by intro x; cases x) z1)]; exact z
      | ins c fs => exact r.mono (Ext.refl w) fun u z => by rw [upd_ne (other e q' (by intro x; cases x) z1)]; exact z

/-! ### data out of slots -/
def S.toD : S → Option D
  | .d x => some x
  | _ => none
def toDs : List S → Option (List D)
  | [] => some []
  | .d x :: r => (toDs r).map (x :: ·)
  | _ :: _ => none
theorem toDs_rel : ∀ {ss : List S} {ds : List D} {vs : List V}, toDs ss = some ds → SRs Y w ss vs → DRs Y.X.K Y.Γ w.F ds vs
  | [], ds, vs, h, r => by cases r; cases h; rfl
  | .d x :: r, ds, vs, h, rr => by
    cases rr with
    | cons q t =>
      unfold toDs at h
      cases e : toDs r with
      | none => rw [e] at h; cases h
      | some ds' =>
        rw [e] at h
        cases h
        exact ⟨_, _, rfl, q, toDs_rel e t⟩
  | .loc _ :: _, _, _, h, _ => by cases h
  | .exn _ _ :: _, _, _, h, _ => by cases h
theorem toDs_map : ∀ ds : List D, toDs (ds.map S.d) = some ds
  | [] => rfl
  | d :: ds => by show (toDs (ds.map S.d)).map _ = _; rw [toDs_map ds]; rfl
theorem DRs.length : ∀ {K : PySem.W.Frag} {Γ : G} {F : Hp} {ds : List D} {vs : List V}, DRs K Γ F ds vs → ds.length = vs.length
  | _, _, _, [], vs, h => by cases h; rfl
  | _, _, _, d :: ds, vs, h => by obtain ⟨x, r, rfl, _, h3⟩ := h; simp [DRs.length h3]
theorem DRs.get {K : PySem.W.Frag} {Γ : G} {F : Hp} : ∀ {ds : List D} {vs : List V} {i : Nat} {d : D}, DRs K Γ F ds vs → ds[i]? = some d → ∃ v, vs[i]? = some v ∧ DR K Γ F d v
  | [], _, _, _, _, e => by simp at e
  | d :: ds, _, 0, d', h, e => by obtain ⟨x, r, rfl, h2, _⟩ := h; simp at e; subst e; exact ⟨x, rfl, h2⟩
  | d :: ds, _, i + 1, d', h, e => by obtain ⟨x, r, rfl, _, h3⟩ := h; simpa using DRs.get h3 (by simpa using e)
theorem SRs_of_DRs : ∀ {ds : List D} {vs : List V}, DRs Y.X.K Y.Γ w.F ds vs → SRs Y w (ds.map S.d) vs
  | [], _, h => by cases h; exact .nil
  | d :: ds, _, h => by obtain ⟨x, r, rfl, h2, h3⟩ := h; exact .cons h2 (SRs_of_DRs h3)
theorem DRs_of_SRs : ∀ {ds : List D} {vs : List V}, SRs Y w (ds.map S.d) vs → DRs Y.X.K Y.Γ w.F ds vs
  | [], _, h => by cases h; rfl
  | d :: ds, _, h => by cases h with | cons a b => exact ⟨_, _, rfl, a, DRs_of_SRs b⟩
theorem DRs.append {K : PySem.W.Frag} {Γ : G} {F : Hp} : ∀ {ds es : List D} {vs us : List V}, DRs K Γ F ds vs → DRs K Γ F es us → DRs K Γ F (ds ++ es) (vs ++ us)
  | [], _, _, _, h, h' => by cases h; exact h'
  | d :: ds, _, _, _, h, h' => by obtain ⟨x, r, rfl, h2, h3⟩ := h; exact ⟨x, r ++ _, rfl, h2, DRs.append h3 h'⟩
theorem DRs.drop {K : PySem.W.Frag} {Γ : G} {F : Hp} : ∀ {ds : List D} {vs : List V} (n : Nat), DRs K Γ F ds vs → DRs K Γ F (ds.drop n) (vs.drop n)
  | ds, vs, 0, h => h
  | [], _, n + 1, h => by cases h; rfl
  | d :: ds, _, n + 1, h => by obtain ⟨x, r, rfl, h2, h3⟩ := h; exact DRs.drop n h3
theorem DRs.take {K : PySem.W.Frag} {Γ : G} {F : Hp} : ∀ {ds : List D} {vs : List V} (n : Nat), DRs K Γ F ds vs → DRs K Γ F (ds.take n) (vs.take n)
  | ds, vs, 0, h => rfl
  | [], _, n + 1, h => by cases h; rfl
  | d :: ds, _, n + 1, h => by obtain ⟨x, r, rfl, h2, h3⟩ := h; exact ⟨x, r.take n, rfl, h2, DRs.take n h3⟩
theorem SRs.length {ss : List S} {vs : List V} (h : SRs Y w ss vs) : ss.length = vs.length := Paired.length h
theorem SRs.get : ∀ {ss : List S} {vs : List V} {i : Nat} {s : S}, SRs Y w ss vs → ss[i]? = some s → ∃ v, vs[i]? = some v ∧ SR Y w s v
  | _, _, i, _, .nil, e => by simp at e
  | _, _, 0, _, .cons r _, e => by simp at e; subst e; exact ⟨_, rfl, r⟩
  | _, _, i + 1, s, .cons _ t, e => by simpa using SRs.get (i := i) t (by simpa using e)

/-! ### argument lists, displays -/
def aNil : Env → Ms → R (List S) := fun _ ms => .ok [] ms
def aCons (m : Env → Ms → R S) (ma : Env → Ms → R (List S)) : Env → Ms → R (List S) := fun env ms => (m env ms).bind fun x ms1 => (ma env ms1).bind fun xs ms2 => .ok (x :: xs) ms2
theorem a_nil : DA Y [] aNil := ⟨_, pa_nil, fun w _ _ _ _ _ _ hr q => q w _ [] (Ext.refl w) hr .nil⟩
theorem a_cons {e : Expr} {es : List Expr} {m : Env → Ms → R S} {ma : Env → Ms → R (List S)} (h1 : DE Y e m) (h2 : DA Y es ma) (hs : starEach (e :: es) Y.X.env = (false, eval e Y.X.env) :: starEach es Y.X.env := by rfl) : DA Y (e :: es) (aCons m ma) := by
  obtain ⟨t, p, s⟩ := h1.ex
  obtain ⟨ta, pa, sa⟩ := h2.ex
  refine ⟨_, pa_cons p pa hs, fun w σ H env ms Q er hr h => ?_⟩
  refine s.go er hr h fun x ms1 w1 H1 v e1 er1 hr1 sv h1 => ?_
  refine sa.go er1 hr1 h1 fun xs ms2 w2 H2 vs e2 er2 hr2 svs h2 => ?_
  exact h2 w2 H2 (v :: vs) (e1.trans e2) hr2 (.cons (sv.mono e2) svs)
def few (n : Nat) : Bool := Nat.ble n 1000000
theorem few_ok {n : Nat} (h : few n = true) : n ≤ sizeLine := by
  have : n ≤ 1000000 := Nat.le_of_ble_eq_true h
  rw [sizeLine_eq]; omega
def dispD (f : List D → D) (ss : List S) (ms : Ms) : R S := match toDs ss with
  | some ds => match few ds.length with
    | true => .ok (.d (f ds)) ms
    | false => .bad
  | none => .bad
def mTup (ma : Env → Ms → R (List S)) : Env → Ms → R S := fun env ms => (ma env ms).bind (dispD .tup)
def mLst (ma : Env → Ms → R (List S)) : Env → Ms → R S := fun env ms => (ma env ms).bind (dispD .lst)
def newL (ss : List S) (ms : Ms) : R S := match toDs ss with
  | some ds => match few ds.length with
    | true => .ok (.loc ms.length) (ms ++ [.lst ds])
    | false => .bad
  | none => .bad
def mNew (ma : Env → Ms → R (List S)) : Env → Ms → R S := fun env ms => (ma env ms).bind newL
theorem e_tup {es : List Expr} {ma : Env → Ms → R (List S)} {x1 : Nat} {pos : Pos} (h : DA Y es ma) : DE Y (.Tuple es x1 pos) (mTup ma) := by
  obtain ⟨t, p, s⟩ := h.ex
  refine ⟨_, pe_tup p, fun w σ H env ms Q er hr h => ?_⟩
  refine s.go er hr h fun ss ms1 w1 H1 vs e1 er1 hr1 sv h1 => ?_
  unfold dispD at h1
  cases e : toDs ss with
  | none => rw [e] at h1; exact h1.elim
  | some ds =>
    rw [e] at h1
    dsimp only at h1
    cases f : few ds.length with
    | false => rw [f] at h1; exact h1.elim
    | true =>
      rw [f] at h1
      have r := toDs_rel e sv
      refine ⟨by rw [← DRs.length r]; exact few_ok f, fun p hp => ?_⟩
      obtain ⟨hr2, e2⟩ := hr1.froz (o := .tup vs) hp
      exact h1 _ _ _ (e1.trans e2) hr2 ⟨p, vs, rfl, SqT.of upd_same, DRs.mono e2.F _ _ r⟩
theorem e_lst {es : List Expr} {ma : Env → Ms → R (List S)} {pos : Pos} (h : DA Y es ma) : DE Y (.List es pos) (mLst ma) := by
  obtain ⟨t, p, s⟩ := h.ex
  refine ⟨_, pe_lst p, fun w σ H env ms Q er hr h => ?_⟩
  refine s.go er hr h fun ss ms1 w1 H1 vs e1 er1 hr1 sv h1 => ?_
  unfold dispD at h1
  cases e : toDs ss with
  | none => rw [e] at h1; exact h1.elim
  | some ds =>
    rw [e] at h1
    dsimp only at h1
    cases f : few ds.length with
    | false => rw [f] at h1; exact h1.elim
    | true =>
      rw [f] at h1
      have r := toDs_rel e sv
      refine ⟨by rw [← DRs.length r]; exact few_ok f, fun p hp => ?_⟩
      obtain ⟨hr2, e2⟩ := hr1.froz (o := .lst vs) hp
      exact h1 _ _ _ (e1.trans e2) hr2 ⟨p, vs, rfl, upd_same, DRs.mono e2.F _ _ r⟩
theorem e_new {es : List Expr} {ma : Env → Ms → R (List S)} {pos : Pos} (h : DA Y es ma) : DE Y (.List es pos) (mNew ma) := by
  obtain ⟨t, p, s⟩ := h.ex
  refine ⟨_, pe_lst p, fun w σ H env ms Q er hr h => ?_⟩
  refine s.go er hr h fun ss ms1 w1 H1 vs e1 er1 hr1 sv h1 => ?_
  unfold newL at h1
  cases e : toDs ss with
  | none => rw [e] at h1; exact h1.elim
  | some ds =>
    rw [e] at h1
    dsimp only at h1
    cases f : few ds.length with
    | false => rw [f] at h1; exact h1.elim
    | true =>
      rw [f] at h1
      have r := toDs_rel e sv
      refine ⟨by rw [← DRs.length r]; exact few_ok f, fun p hp => ?_⟩
      obtain ⟨hr2, e2⟩ := hr1.cell (o := .lst vs) (c := .lst ds) hp ⟨vs, upd_same, r⟩
      refine h1 _ _ _ (e1.trans e2) hr2 ⟨p, ?_, rfl⟩
      show (w1.mu ++ [p])[ms1.length]? = some p
      rw [← hr1.len]; simp

/-! ### tests -/
def asB (s : S) (ms : Ms) : R Bool := match s with
  | .d (.bl b) => .ok b ms
  | _ => .bad
def mB (m : Env → Ms → R S) : Env → Ms → R Bool := fun env ms => (m env ms).bind asB
theorem snd_B {t : TE} {m : Env → Ms → R S} (h : SndE Y t m) : SndT Y (tB t) (mB m) := by
  intro w σ H env ms Q er hr hw
  refine h.go er hr hw fun s ms1 w1 H1 v e1 er1 hr1 sv h1 => ?_
  unfold asB at h1
  cases s with
  | d x =>
    cases x with
    | bl b => cases sv; exact ⟨b, rfl, h1 w1 H1 e1 hr1⟩
    | _ => exact h1.elim
  | loc n => exact h1.elim
  | exn c ds => exact h1.elim
theorem t_val {e : Expr} {m : Env → Ms → R S} (h : DE Y e m) (he : ∀ whole, isTrue e Y.X.env whole = (do let v ← whole; standAt e.pos; holding [v] (truthy v)) := by intro _; rfl) : DT Y e (mB m) := by
  obtain ⟨t, p, s⟩ := h.ex
  exact ⟨_, pt_val p he, snd_B s⟩
theorem t_cmp {op : CmpOp} {r : R2} {g : S → S → Ms → R S} {a b : Expr} {ma mb : Env → Ms → R S} {pos : Pos} (ho : OpR Y.X (compareOp op) r) (hg : ∀ x y ms c ds ms', g x y ms ≠ .ex c ds ms') (hs : SndR2 Y r g) (ha : DE Y a ma) (hb : DE Y b mb) (hm : behindInMarks op b = false) : DT Y (.Compare a [op] [b] pos) (mB (mOp g ma mb)) := by
  obtain ⟨ta, pa, sa⟩ := ha.ex
  obtain ⟨tb, pb, sb⟩ := hb.ex
  exact ⟨_, pt_cmpR ho pa pb hm, snd_B (snd_op hg hs sa sb)⟩
def mAnd (m k : Env → Ms → R Bool) : Env → Ms → R Bool := fun env ms => (m env ms).bind fun b ms1 => match b with
  | true => k env ms1
  | false => .ok false ms1
def mOr (m k : Env → Ms → R Bool) : Env → Ms → R Bool := fun env ms => (m env ms).bind fun b ms1 => match b with
  | true => .ok true ms1
  | false => k env ms1
def mNot (m : Env → Ms → R Bool) : Env → Ms → R Bool := fun env ms => (m env ms).bind fun b ms1 => .ok (!b) ms1
variable {a b c : Expr} {rest : List Expr} {pos : Pos}
theorem w_and1 {m : Env → Ms → R Bool} (h : DT Y a m) : DW Y (.BoolOp .And [a] pos) m := let ⟨t, p, s⟩ := h.ex; ⟨_, pw_and1 p, s⟩
theorem w_or1 {m : Env → Ms → R Bool} (h : DT Y a m) : DW Y (.BoolOp .Or [a] pos) m := let ⟨t, p, s⟩ := h.ex; ⟨_, pw_or1 p, s⟩
theorem w_and {m k : Env → Ms → R Bool} (h : DT Y a m) (h2 : DW Y (.BoolOp .And (b :: rest) pos) k) : DW Y (.BoolOp .And (a :: b :: rest) pos) (mAnd m k) := by
  obtain ⟨t, p, s⟩ := h.ex
  obtain ⟨t2, p2, s2⟩ := h2.ex
  refine ⟨_, pw_and p p2, fun w σ H env ms Q er hr hw => ?_⟩
  refine s.go er hr hw fun x ms1 w1 H1 e1 er1 hr1 h1 => ?_
  cases x with
  | true => exact iteT (s2 w1 σ H1 env ms1 Q er1 hr1 (R.post_mono h1 (fun b ms2 z w2 H2 e2 => z w2 H2 (e1.trans e2)) fun _ _ _ z => z))
  | false => exact iteF (h1 w1 H1 e1 hr1)
theorem w_or {m k : Env → Ms → R Bool} (h : DT Y a m) (h2 : DW Y (.BoolOp .Or (b :: rest) pos) k) : DW Y (.BoolOp .Or (a :: b :: rest) pos) (mOr m k) := by
  obtain ⟨t, p, s⟩ := h.ex
  obtain ⟨t2, p2, s2⟩ := h2.ex
  refine ⟨_, pw_or p p2, fun w σ H env ms Q er hr hw => ?_⟩
  refine s.go er hr hw fun x ms1 w1 H1 e1 er1 hr1 h1 => ?_
  cases x with
  | false => exact iteF (s2 w1 σ H1 env ms1 Q er1 hr1 (R.post_mono h1 (fun b ms2 z w2 H2 e2 => z w2 H2 (e1.trans e2)) fun _ _ _ z => z))
  | true => exact iteT (h1 w1 H1 e1 hr1)
theorem DW.t {e : Expr} {m : Env → Ms → R Bool} (h : DW Y e m) : DT Y e m := let ⟨t, p, s⟩ := h.ex; ⟨_, p.pt, s⟩
theorem t_not {m : Env → Ms → R Bool} (h : DT Y a m) : DT Y (.UnaryOp .Not a pos) (mNot m) := by
  obtain ⟨t, p, s⟩ := h.ex
  refine ⟨_, pt_not p, fun w σ H env ms Q er hr hw => ?_⟩
  exact s.go er hr hw fun x ms1 w1 H1 e1 er1 hr1 h1 => h1 w1 H1 e1 hr1
/-- as values -/
def mAndV (m k : Env → Ms → R S) : Env → Ms → R S := fun env ms => (mB m env ms).bind fun b ms1 => match b with
  | true => k env ms1
  | false => .ok (.d (.bl false)) ms1
def mOrV (m k : Env → Ms → R S) : Env → Ms → R S := fun env ms => (mB m env ms).bind fun b ms1 => match b with
  | true => .ok (.d (.bl true)) ms1
  | false => k env ms1
def mNotV (m : Env → Ms → R S) : Env → Ms → R S := fun env ms => (mB m env ms).bind fun b ms1 => .ok (.d (.bl (!b))) ms1
theorem bind_assoc {α β γ : Type} (r : R α) (f : α → Ms → R β) (g : β → Ms → R γ) : (r.bind f).bind g = r.bind fun a ms => (f a ms).bind g := by cases r <;> rfl
/-- on with a bool -/
theorem SndE.goB {t : TE} {m : Env → Ms → R S} (h : SndE Y t m) {β : Type} {f : Bool → Ms → R β} {P : β → Ms → Prop} {k : VK} (er : ER Y w σ env) (hr : HR Y w H ms)
    (hp : ((mB m env ms).bind f).post P (exP Y w σ)) (hk : ∀ b ms1 w1 H1, Ext w w1 → ER Y w1 σ env → HR Y w1 H1 ms1 → (f b ms1).post P (exP Y w1 σ) → k (.bl b) H1) : t σ H k := by
  unfold mB at hp
  rw [bind_assoc] at hp
  refine h.go er hr hp fun s ms1 w1 H1 v e1 er1 hr1 sv h1 => ?_
  unfold asB at h1
  cases s with
  | d x =>
    cases x with
    | bl b => cases sv; exact hk b ms1 w1 H1 e1 er1 hr1 h1
    | _ => exact h1.elim
  | loc n => exact h1.elim
  | exn c ds => exact h1.elim
theorem e_one {op} {m : Env → Ms → R S} (h : DE Y a m) : DE Y (.BoolOp op [a] pos) m := let ⟨t, p, s⟩ := h.ex; ⟨_, pe_one p, s⟩
theorem e_and {m k : Env → Ms → R S} (h : DE Y a m) (h2 : DE Y (.BoolOp .And (b :: rest) pos) k) : DE Y (.BoolOp .And (a :: b :: rest) pos) (mAndV m k) := by
  obtain ⟨t, p, s⟩ := h.ex
  obtain ⟨t2, p2, s2⟩ := h2.ex
  refine ⟨_, pe_and p p2, fun w σ H env ms Q er hr hw => ?_⟩
  refine s.goB er hr hw fun x ms1 w1 H1 e1 er1 hr1 h1 => ⟨x, rfl, ?_⟩
  cases x with
  | true => exact iteT (s2 w1 σ H1 env ms1 Q er1 hr1 (R.post_mono h1 (fun _ _ z => z.ext e1) fun _ _ _ z => z))
  | false => exact iteF (h1.at e1 hr1 rfl)
theorem e_or {m k : Env → Ms → R S} (h : DE Y a m) (h2 : DE Y (.BoolOp .Or (b :: rest) pos) k) : DE Y (.BoolOp .Or (a :: b :: rest) pos) (mOrV m k) := by
  obtain ⟨t, p, s⟩ := h.ex
  obtain ⟨t2, p2, s2⟩ := h2.ex
  refine ⟨_, pe_or p p2, fun w σ H env ms Q er hr hw => ?_⟩
  refine s.goB er hr hw fun x ms1 w1 H1 e1 er1 hr1 h1 => ⟨x, rfl, ?_⟩
  cases x with
  | false => exact iteF (s2 w1 σ H1 env ms1 Q er1 hr1 (R.post_mono h1 (fun _ _ z => z.ext e1) fun _ _ _ z => z))
  | true => exact iteT (h1.at e1 hr1 rfl)
theorem e_not {m : Env → Ms → R S} (h : DE Y a m) : DE Y (.UnaryOp .Not a pos) (mNotV m) := by
  obtain ⟨t, p, s⟩ := h.ex
  refine ⟨_, pe_not p, fun w σ H env ms Q er hr hw => ?_⟩
  exact s.goB er hr hw fun x ms1 w1 H1 e1 er1 hr1 h1 => ⟨x, rfl, h1.at e1 hr1 rfl⟩
def mIf {α : Type} (c : Env → Ms → R Bool) (m k : Env → Ms → R α) : Env → Ms → R α := fun env ms => (c env ms).bind fun b ms1 => match b with
  | true => m env ms1
  | false => k env ms1
theorem e_if {mc : Env → Ms → R Bool} {m k : Env → Ms → R S} (hc : DT Y c mc) (ha : DE Y a m) (hb : DE Y b k) : DE Y (.IfExp c a b pos) (mIf mc m k) := by
  obtain ⟨t, p, s⟩ := hc.ex
  obtain ⟨t1, p1, s1⟩ := ha.ex
  obtain ⟨t2, p2, s2⟩ := hb.ex
  refine ⟨_, pe_ifExp p p1 p2, fun w σ H env ms Q er hr hw => ?_⟩
  refine s.go er hr hw fun x ms1 w1 H1 e1 er1 hr1 h1 => ?_
  cases x with
  | true => exact iteT (s1 w1 σ H1 env ms1 Q er1 hr1 (R.post_mono h1 (fun _ _ z => z.ext e1) fun _ _ _ z => z))
  | false => exact iteF (s2 w1 σ H1 env ms1 Q er1 hr1 (R.post_mono h1 (fun _ _ z => z.ext e1) fun _ _ _ z => z))
end
end Fw
set_option Elab.async false
set_option linter.all false
set_option maxRecDepth 100000
set_option maxHeartbeats 4000000
/-! Fw3: statements, targets, loops, defs. -/
namespace Fw
open PySem L2

def nxP (Y : Cy) (w : Wd) (Q : St → Hp → Prop) : Env → Ms → Prop := fun env' ms' => ∀ w' H' σ', Ext w w' → HR Y w' H' ms' → ER Y w' σ' env' → Q σ' H'
def rtP (Y : Cy) (w : Wd) (Q : VK) : S → Ms → Prop := okP Y w Q
def sxP (Y : Cy) (w : Wd) : Nat → List D → Env → Ms → Prop := fun c ds env' ms' => ∀ w' H' σ' dd, Ext w w' → HR Y w' H' ms' → ER Y w' σ' env' → XD Y.X.K Y.Γ w'.F c ds dd → Y.W (.ref (Y.Γ.cls c)) dd σ' H'
def tP (Y : Cy) (w : Wd) (Ed : Ends) (t : T) : Prop := t.post (nxP Y w Ed.nx) (rtP Y w Ed.rt) (nxP Y w Ed.bk) (nxP Y w Ed.ct) (sxP Y w)
def SndS (Y : Cy) (t : TS) (m : Env → Ms → T) : Prop :=
  ∀ (w : Wd) (σ : St) (H : Hp) (env : Env) (ms : Ms) (Ed : Ends), ER Y w σ env → HR Y w H ms → tP Y w Ed (m env ms) → t Ed σ H
structure DS (Y : Cy) (st : Stmt) (m : Env → Ms → T) : Prop where
  ex : ∃ t, PS Y.X st t ∧ SndS Y t m
structure DSs (Y : Cy) (st : List Stmt) (m : Env → Ms → T) : Prop where
  ex : ∃ t, PSs Y.X st t ∧ SndS Y t m
def SndG (Y : Cy) (t : TG) (g : S → Env → Ms → Option Env) : Prop :=
  ∀ (w : Wd) (σ : St) (H : Hp) (env : Env) (ms : Ms) (s : S) (v : V) (Q : St → Hp → Prop) (env' : Env), ER Y w σ env → HR Y w H ms → SR Y w s v → g s env ms = some env' → (∀ σ', ER Y w σ' env' → Q σ' H) → t v σ H Q
structure DG (Y : Cy) (tg : Expr) (g : S → Env → Ms → Option Env) : Prop where
  ex : ∃ t, PG Y.X tg t ∧ SndG Y t g
def SndGs (Y : Cy) (t : TGs) (g : List S → Env → Ms → Option Env) : Prop :=
  ∀ (w : Wd) (σ : St) (H : Hp) (env : Env) (ms : Ms) (ss : List S) (vs : List V) (Q : St → Hp → Prop) (env' : Env), ER Y w σ env → HR Y w H ms → SRs Y w ss vs → g ss env ms = some env' → (∀ σ', ER Y w σ' env' → Q σ' H) → t vs σ H Q
structure DGs (Y : Cy) (tgs : List Expr) (g : List S → Env → Ms → Option Env) : Prop where
  ex : ∃ t, PGs Y.X tgs t ∧ SndGs Y t g

section
variable {Y : Cy} {w w1 w2 : Wd} {σ : St} {H H1 H2 : Hp} {env : Env} {ms ms1 ms2 : Ms} {Ed : Ends}
theorem nxP.ext (e : Ext w w1) {Q : St → Hp → Prop} (h : nxP Y w Q env ms) : nxP Y w1 Q env ms := fun w' H' σ' e' => h w' H' σ' (e.trans e')
theorem sxP.ext (e : Ext w w1) {c : Nat} {ds : List D} (h : sxP Y w c ds env ms) : sxP Y w1 c ds env ms := fun w' H' σ' dd e' => h w' H' σ' dd (e.trans e')
theorem tP.ext (e : Ext w w1) {t : T} (h : tP Y w Ed t) : tP Y w1 Ed t := T.post_mono h (fun _ _ z => z.ext e) (fun _ _ z => okP.ext e z) (fun _ _ z => z.ext e) (fun _ _ z => z.ext e) fun _ _ _ _ z => z.ext e
theorem ER.set (h : ER Y w σ env) {s : S} {v : V} (r : SR Y w s v) (i : Nat) : ER Y w (σ.set i (some v)) (env.set i (some s)) := by
  refine ⟨by simp [h.len], fun j s' e => ?_⟩
  by_cases z : i = j
  · subst z
    have hi : i < env.length := by
      have := (List.getElem?_eq_some_iff.mp e).1
      simpa using this
    rw [List.getElem?_set_self hi] at e
    cases e
    exact ⟨v, by rw [List.getElem?_set_self (by rw [h.len]; exact hi)], r⟩
  · rw [List.getElem?_set_ne z] at e
    obtain ⟨u, e1, r1⟩ := h.slot j s' e
    exact ⟨u, by rw [List.getElem?_set_ne z]; exact e1, r1⟩
theorem ER.unset (h : ER Y w σ env) (i : Nat) (o : Option V) : ER Y w (σ.set i o) (env.set i none) := by
  refine ⟨by simp [h.len], fun j s' e => ?_⟩
  by_cases z : i = j
  · subst z
    have hi : i < env.length := by
      have := (List.getElem?_eq_some_iff.mp e).1
      simpa using this
    rw [List.getElem?_set_self hi] at e
    cases e
  · rw [List.getElem?_set_ne z] at e
    obtain ⟨u, e1, r1⟩ := h.slot j s' e
    exact ⟨u, by rw [List.getElem?_set_ne z]; exact e1, r1⟩

/-! ### blocks -/
def T.seq (t : T) (k : Env → Ms → T) : T := match t with
  | .nx env ms => k env ms
  | .rt s ms => .rt s ms
  | .bk e ms => .bk e ms
  | .ct e ms => .ct e ms
  | .ex c ds e ms => .ex c ds e ms
  | .bad => .bad
def T.ofE {α : Type} (r : R α) (env : Env) (k : α → Ms → T) : T := match r with
  | .ok a ms => k a ms
  | .ex c ds ms => .ex c ds env ms
  | .bad => .bad
def sNil : Env → Ms → T := .nx
def sCons (m k : Env → Ms → T) : Env → Ms → T := fun env ms => (m env ms).seq k
variable {st : Stmt} {rest : List Stmt} {m k : Env → Ms → T} {pos : Pos}
theorem ss_nil : DSs Y [] sNil := ⟨_, pss_nil, fun w σ H env ms Ed er hr h => h w H σ (Ext.refl w) hr er⟩
theorem ss_cons (h1 : DS Y st m) (h2 : DSs Y rest k) : DSs Y (st :: rest) (sCons m k) := by
  obtain ⟨t, p, s⟩ := h1.ex
  obtain ⟨t2, p2, s2⟩ := h2.ex
  refine ⟨_, pss_cons p p2, fun w σ H env ms Ed er hr h => ?_⟩
  refine s w σ H env ms _ er hr ?_
  unfold sCons at h
  cases hm : m env ms with
  | nx e ms1 =>
    rw [hm] at h
    exact fun w1 H1 σ1 e1 hr1 er1 => s2 w1 σ1 H1 e ms1 Ed er1 hr1 (tP.ext e1 h)
  | rt v ms1 => rw [hm] at h; exact h
  | bk e ms1 => rw [hm] at h; exact h
  | ct e ms1 => rw [hm] at h; exact h
  | ex c ds e ms1 => rw [hm] at h; exact h
  | bad => rw [hm] at h; exact h.elim
theorem ss_one (h1 : DS Y st m) : DSs Y [st] m := let ⟨t, p, s⟩ := h1.ex; ⟨_, pss_one p, s⟩
/-- on behind an expression -/
theorem SndE.goS {t : TE} {me : Env → Ms → R S} (h : SndE Y t me) {f : S → Ms → T} {q : VK} (er : ER Y w σ env) (hr : HR Y w H ms)
    (hp : tP Y w Ed (T.ofE (me env ms) env f)) (hk : ∀ s ms1 w1 H1 v, Ext w w1 → ER Y w1 σ env → HR Y w1 H1 ms1 → SR Y w1 s v → tP Y w1 Ed (f s ms1) → q v H1) : t σ H q := by
  refine h w σ H env ms q er hr ?_
  cases hm : me env ms with
  | ok s ms1 =>
    rw [hm] at hp
    exact fun w1 H1 v e1 hr1 sv => hk s ms1 w1 H1 v e1 (er.mono e1) hr1 sv (tP.ext e1 hp)
  | ex c ds ms1 =>
    rw [hm] at hp
    exact fun w1 H1 dd e1 hr1 xd => hp w1 H1 σ dd e1 hr1 (er.mono e1) xd
  | bad => rw [hm] at hp; exact hp.elim
theorem SndT.goS {t : TT} {me : Env → Ms → R Bool} (h : SndT Y t me) {f : Bool → Ms → T} {q : Bool → Hp → Prop} (er : ER Y w σ env) (hr : HR Y w H ms)
    (hp : tP Y w Ed (T.ofE (me env ms) env f)) (hk : ∀ s ms1 w1 H1, Ext w w1 → ER Y w1 σ env → HR Y w1 H1 ms1 → tP Y w1 Ed (f s ms1) → q s H1) : t σ H q := by
  refine h w σ H env ms q er hr ?_
  cases hm : me env ms with
  | ok s ms1 =>
    rw [hm] at hp
    exact fun w1 H1 e1 hr1 => hk s ms1 w1 H1 e1 (er.mono e1) hr1 (tP.ext e1 hp)
  | ex c ds ms1 =>
    rw [hm] at hp
    exact fun w1 H1 dd e1 hr1 xd => hp w1 H1 σ dd e1 hr1 (er.mono e1) xd
  | bad => rw [hm] at hp; exact hp.elim

def sPass : Env → Ms → T := .nx
def sBrk : Env → Ms → T := .bk
def sCnt : Env → Ms → T := .ct
def sNever : Env → Ms → T := fun _ _ => .bad
def sExpr (me : Env → Ms → R S) : Env → Ms → T := fun env ms => T.ofE (me env ms) env fun _ ms1 => .nx env ms1
def sRet (me : Env → Ms → R S) : Env → Ms → T := fun env ms => T.ofE (me env ms) env .rt
def sRetN : Env → Ms → T := fun _ ms => .rt (.d .non) ms
def sIf (c : Env → Ms → R Bool) (a b : Env → Ms → T) : Env → Ms → T := fun env ms => T.ofE (c env ms) env fun x ms1 => match x with
  | true => a env ms1
  | false => b env ms1
theorem s_pass : DS Y (.Pass pos) sPass := ⟨_, ps_pass, fun w σ H env ms Ed er hr h => h w H σ (Ext.refl w) hr er⟩
theorem s_break : DS Y (.Break pos) sBrk := ⟨_, ps_break, fun w σ H env ms Ed er hr h => h w H σ (Ext.refl w) hr er⟩
theorem s_continue : DS Y (.Continue pos) sCnt := ⟨_, ps_continue, fun w σ H env ms Ed er hr h => h w H σ (Ext.refl w) hr er⟩
theorem s_never : DS Y st sNever := ⟨_, ps_never, fun w σ H env ms Ed er hr h => h.elim⟩
theorem s_doc {x : Str} {j} {pos' : Pos} : DS Y (.Expr (.Constant (.str x) j pos) pos') sPass := ⟨_, ps_doc, fun w σ H env ms Ed er hr h => h w H σ (Ext.refl w) hr er⟩
variable {e : Expr} {me : Env → Ms → R S}
theorem s_expr (h : DE Y e me) (hs : swapsWith e none pos.line Y.X.env = pure false := by rfl) : DS Y (.Expr e pos) (sExpr me) := by
  obtain ⟨t, p, s⟩ := h.ex
  exact ⟨_, ps_expr p hs, fun w σ H env ms Ed er hr h => s.goS er hr h fun x ms1 w1 H1 v e1 er1 hr1 sv h1 => h1 w1 H1 σ (Ext.refl w1) hr1 er1⟩
theorem s_ret (h : DE Y e me) : DS Y (.Return (some e) pos) (sRet me) := by
  obtain ⟨t, p, s⟩ := h.ex
  exact ⟨_, ps_ret p, fun w σ H env ms Ed er hr h => s.goS er hr h fun x ms1 w1 H1 v e1 er1 hr1 sv h1 => h1 w1 H1 v (Ext.refl w1) hr1 sv⟩
theorem s_retN : DS Y (.Return none pos) sRetN := ⟨_, ps_retN, fun w σ H env ms Ed er hr h => h w H .non (Ext.refl w) hr rfl⟩
theorem s_if {c : Expr} {mc : Env → Ms → R Bool} {a b : List Stmt} (hc : DT Y c mc) (ha : DSs Y a m) (hb : DSs Y b k) : DS Y (.If c a b pos) (sIf mc m k) := by
  obtain ⟨t, p, s⟩ := hc.ex
  obtain ⟨t1, p1, s1⟩ := ha.ex
  obtain ⟨t2, p2, s2⟩ := hb.ex
  refine ⟨_, ps_if p p1 p2, fun w σ H env ms Ed er hr h => ?_⟩
  refine s.goS er hr h fun x ms1 w1 H1 e1 er1 hr1 h1 => ?_
  cases x with
  | true => exact iteT (s1 w1 σ H1 env ms1 Ed er1 hr1 h1)
  | false => exact iteF (s2 w1 σ H1 env ms1 Ed er1 hr1 h1)

/-! ### targets -/
def gSet (i : Nat) : S → Env → Ms → Option Env := fun s env _ => some (env.set i (some s))
theorem g_name {i : Nat} {x : Str} (hN : Y.X.N.Nodup) (hi : Y.X.N[i]? = some x := by rfl) (hx : Loc Y.X.env.scope x := by first | exact Or.inl rfl | exact Or.inr rfl) (hf : Y.X.fn x = true ∨ Y.X.env.scope.names.lookup x = some .local := by first | exact .inl rfl | exact .inr rfl) :
    DG Y (.Name x pos) (gSet i) := by
  refine ⟨_, pg_name hN hi hx hf, fun w σ H env ms s v Q env' er hr sv he hq => ?_⟩
  cases he
  exact hq _ (er.set sv i)
def gsNil : List S → Env → Ms → Option Env := fun ss env _ => match ss with
  | [] => some env
  | _ => none
def gsCons (g : S → Env → Ms → Option Env) (gs : List S → Env → Ms → Option Env) : List S → Env → Ms → Option Env := fun ss env ms => match ss with
  | s :: r => (g s env ms).bind fun env1 => gs r env1 ms
  | [] => none
theorem gs_nil : DGs Y [] gsNil := by
  refine ⟨_, pgs_nil, fun w σ H env ms ss vs Q env' er hr sv he hq => ?_⟩
  cases sv with
  | nil => cases he; exact ⟨rfl, hq _ er⟩
  | cons a b => cases he
theorem gs_cons {es : List Expr} {g : S → Env → Ms → Option Env} {gs : List S → Env → Ms → Option Env} (h1 : DG Y e g) (h2 : DGs Y es gs)
    (hs : (assignEach (e :: es) Y.X.env).map (·.2) = assign e Y.X.env :: (assignEach es Y.X.env).map (·.2) := by rfl) : DGs Y (e :: es) (gsCons g gs) := by
  obtain ⟨t, p, s⟩ := h1.ex
  obtain ⟨t2, p2, s2⟩ := h2.ex
  refine ⟨_, pgs_cons p p2 hs, fun w σ H env ms ss vs Q env' er hr sv he hq => ?_⟩
  cases sv with
  | nil => cases he
  | @cons a b ss vs ra rb =>
    have he : (g a env ms).bind (fun env1 => gs ss env1 ms) = some env' := he
    cases hg : g a env ms with
    | none => rw [hg] at he; cases he
    | some env1 =>
      rw [hg] at he
      exact ⟨_, _, rfl, s w σ H env ms a b _ env1 er hr ra hg fun σ1 er1 => s2 w σ1 H env1 ms ss vs Q env' er1 hr rb he hq⟩
def gUn (n : Nat) (gs : List S → Env → Ms → Option Env) : S → Env → Ms → Option Env := fun s env ms => match s with
  | .d (.tup ds) => match Nat.beq ds.length n with
    | true => gs (ds.map S.d) env ms
    | false => none
  | _ => none
theorem g_tup {es : List Expr} {j : Nat} {n : Nat} {gs : List S → Env → Ms → Option Env} (hc : Y.X.calm = true) (h : DGs Y es gs)
    (hn : (assignEach es Y.X.env).length = n := by rfl) (hst : (assignEach es Y.X.env).findIdx? (·.1) = none := by rfl) : DG Y (.Tuple es j pos) (gUn n gs) := by
  obtain ⟨t, p, s⟩ := h.ex
  refine ⟨_, pg_tup hc p hn hst, fun w σ H env ms x v Q env' er hr sv he hq => ?_⟩
  cases x with
  | loc i => cases he
  | exn c ds => cases he
  | d x =>
    cases x with
    | tup ds =>
      unfold gUn at he
      dsimp only at he
      cases hl : Nat.beq ds.length n with
      | false => rw [hl] at he; cases he
      | true =>
        rw [hl] at he
        obtain ⟨a, xs, rfl, h2, h3⟩ := sv
        refine ⟨a, xs, rfl, sqT_mono h2 hr.sub, by rw [← DRs.length h3]; exact Nat.eq_of_beq_eq_true hl, ?_⟩
        exact s w σ H env ms _ xs Q env' er hr (SRs_of_DRs h3) he hq
    | _ => cases he

def sSet (i : Nat) (me : Env → Ms → R S) : Env → Ms → T := fun env ms => T.ofE (me env ms) env fun s ms1 => .nx (env.set i (some s)) ms1
theorem s_set {i : Nat} {x : Str} {pos' : Pos} (hN : Y.X.N.Nodup) (he : DE Y e me) (hi : Y.X.N[i]? = some x := by rfl) (hx : Loc Y.X.env.scope x := by first | exact Or.inl rfl | exact Or.inr rfl) (hs : swapsWith e (some (.Name x pos')) pos.line Y.X.env = pure false := by rfl)
    (hf : Y.X.fn x = true ∨ Y.X.env.scope.names.lookup x = some .local := by first | exact .inl rfl | exact .inr rfl) : DS Y (.Assign [.Name x pos'] e pos) (sSet i me) := by
  obtain ⟨t, p, s⟩ := he.ex
  refine ⟨_, ps_set hN hi hx p hs hf, fun w σ H env ms Ed er hr h => ?_⟩
  exact s.goS er hr h fun x ms1 w1 H1 v e1 er1 hr1 sv h1 => h1 w1 H1 _ (Ext.refl w1) hr1 (er1.set sv i)
def sAsg (g : S → Env → Ms → Option Env) (me : Env → Ms → R S) : Env → Ms → T := fun env ms => T.ofE (me env ms) env fun s ms1 => match g s env ms1 with
  | some env' => .nx env' ms1
  | none => .bad
theorem s_asg {tg : Expr} {g : S → Env → Ms → Option Env} (he : DE Y e me) (hg : DG Y tg g) (hs : swapsWithSole [tg] e pos.line Y.X.env = pure false := by rfl) (hw : swappedStores [tg] e Y.X.env = pure none := by rfl)
    (h1 : (assignEach [tg] Y.X.env).map (·.2) = [assign tg Y.X.env] := by rfl) : DS Y (.Assign [tg] e pos) (sAsg g me) := by
  obtain ⟨t, p, s⟩ := he.ex
  obtain ⟨t2, p2, s2⟩ := hg.ex
  refine ⟨_, ps_asg p p2 hs hw h1, fun w σ H env ms Ed er hr h => ?_⟩
  refine s.goS er hr h fun x ms1 w1 H1 v e1 er1 hr1 sv h1 => ?_
  cases q : g x env ms1 with
  | none => rw [q] at h1; exact h1.elim
  | some env' =>
    rw [q] at h1
    exact s2 w1 σ H1 env ms1 x v Ed.nx env' er1 hr1 sv q fun σ' er' => h1 w1 H1 σ' (Ext.refl w1) hr1 er'
/-- a, b = x, y -/
def sPar (i j : Nat) (ma : Env → Ms → R (List S)) : Env → Ms → T := fun env ms => T.ofE (ma env ms) env fun ss ms1 => match ss with
  | [x, y] => .nx ((env.set i (some x)).set j (some y)) ms1
  | _ => .bad
theorem SndA.goS {t : TA} {ma : Env → Ms → R (List S)} (h : SndA Y t ma) {f : List S → Ms → T} {q : List V → Hp → Prop} (er : ER Y w σ env) (hr : HR Y w H ms)
    (hp : tP Y w Ed (T.ofE (ma env ms) env f)) (hk : ∀ s ms1 w1 H1 v, Ext w w1 → ER Y w1 σ env → HR Y w1 H1 ms1 → SRs Y w1 s v → tP Y w1 Ed (f s ms1) → q v H1) : t σ H q := by
  refine h w σ H env ms q er hr ?_
  cases hm : ma env ms with
  | ok s ms1 =>
    rw [hm] at hp
    exact fun w1 H1 v e1 hr1 sv => hk s ms1 w1 H1 v e1 (er.mono e1) hr1 sv (tP.ext e1 hp)
  | ex c ds ms1 =>
    rw [hm] at hp
    exact fun w1 H1 dd e1 hr1 xd => hp w1 H1 σ dd e1 hr1 (er.mono e1) xd
  | bad => rw [hm] at hp; exact hp.elim
end
end Fw
set_option Elab.async false
set_option linter.all false
set_option maxRecDepth 100000
set_option maxHeartbeats 4000000
/-! Fw4: loops. -/
namespace Fw
open PySem L2

/-- what an iterator yields: xs, as long as the cell kp stays -/
def keptC (kp : Option (Nat × Cell)) (ms : Ms) : Prop := ∀ n c, kp = some (n, c) → ms[n]? = some c
/-- more is frozen, more cells: whatever is protected -/
structure Wd.Sub (w w' : Wd) : Prop where
  F : ∀ a o, w.F a = some o → w'.F a = some o
  mu : ∀ (n : Nat) a, w.mu[n]? = some a → w'.mu[n]? = some a
theorem Ext.wsub {w w' : Wd} (e : Ext w w') : w.Sub w' := ⟨e.F, e.mu⟩
theorem Wd.Sub.trans {a b c : Wd} (x : a.Sub b) (y : b.Sub c) : a.Sub c := ⟨fun p o h => y.F p o (x.F p o h), fun n p h => y.mu n p (x.mu n p h)⟩
def Yields (Y : Cy) (w0 : Wd) (xs : List S) (kp : Option (Nat × Cell)) (J : It) : Prop :=
  ∀ (w : Wd) (H : Hp) (ms : Ms), w0.Sub w → HR Y w H ms → keptC kp ms →
    J.stop xs.length H ∧ ∀ (i : Nat) (s : S), xs[i]? = some s → J.go i H ∧ ∀ (x : V) (H' : Hp), J.yld i H x H' → ∃ w', Ext w w' ∧ HR Y w' H' ms ∧ SR Y w' s x
def SndI (Y : Cy) (wi : TI) (mi : Env → Ms → R (List S × Option (Nat × Cell))) : Prop :=
  ∀ (w : Wd) (σ : St) (H : Hp) (env : Env) (ms : Ms) (Rr : It → Hp → Prop), ER Y w σ env → HR Y w H ms →
    (mi env ms).post (fun xk ms1 => ∀ (w1 : Wd) (H1 : Hp) (J : It), Ext w w1 → HR Y w1 H1 ms1 → Yields Y w1 xk.1 xk.2 J → keptC xk.2 ms1 → Rr J H1) (exP Y w σ) → wi σ H Rr
structure DI (Y : Cy) (tg iter : Expr) (mi : Env → Ms → R (List S × Option (Nat × Cell))) : Prop where
  ex : ∃ wi, PI Y.X tg iter wi ∧ SndI Y wi mi
open Classical in
noncomputable def chk {α : Type} (kp : Option (Nat × Cell)) (ms : Ms) (a : α) (b : α) : α := match kp with
  | none => a
  | some (n, c) => if ms[n]? = some c then a else b
noncomputable def forL (kp : Option (Nat × Cell)) (g : S → Env → Ms → Option Env) (body : Env → Ms → T) : List S → Env → Ms → T
  | [], env, ms => chk kp ms (.nx env ms) .bad
  | x :: r, env, ms => chk kp ms (match g x env ms with
    | none => .bad
    | some env1 => match body env1 ms with
      | .nx e m => forL kp g body r e m
      | .ct e m => forL kp g body r e m
      | .bk e m => .nx e m
      | .rt s m => .rt s m
      | .ex c ds e m => .ex c ds e m
      | .bad => .bad) .bad
noncomputable def sFor (mi : Env → Ms → R (List S × Option (Nat × Cell))) (g : S → Env → Ms → Option Env) (body : Env → Ms → T) : Env → Ms → T := fun env ms =>
  T.ofE (mi env ms) env fun xk ms1 => forL xk.2 g body xk.1 env ms1

section
variable {Y : Cy} {w w1 w2 : Wd} {σ : St} {H H1 H2 : Hp} {env : Env} {ms ms1 ms2 : Ms} {Ed : Ends} {pos : Pos}
theorem chk_post {kp : Option (Nat × Cell)} {t : T} (h : tP Y w Ed (chk kp ms t .bad)) : keptC kp ms ∧ tP Y w Ed t := by
  unfold chk at h
  cases kp with
  | none => exact ⟨fun _ _ e => (nomatch e), h⟩
  | some p =>
    obtain ⟨n, c⟩ := p
    dsimp only at h
    by_cases z : ms[n]? = some c
    · rw [if_pos z] at h
      exact ⟨fun m d e => by cases e; exact z, h⟩
    · rw [if_neg z] at h
      exact h.elim
theorem s_for {tg iter : Expr} {body : List Stmt} {mi : Env → Ms → R (List S × Option (Nat × Cell))} {g : S → Env → Ms → Option Env} {mb : Env → Ms → T} (hp : PassesOwn (model Y.X.prog Y.X.w) Y.X.A Y.X.env Y.X.xe) (hc : Y.X.calm = true)
    (hi : DI Y tg iter mi) (hg : DG Y tg g) (hb : DSs Y body mb) (hs : ∀ x, foldedSetIterable iter Y.X.env x = pure x := by intro _; rfl) : DS Y (.For tg iter body [] pos) (sFor mi g mb) := by
  obtain ⟨wi, pi, si⟩ := hi.ex
  obtain ⟨tg', pg, sg⟩ := hg.ex
  obtain ⟨tb, pb, sb⟩ := hb.ex
  refine ⟨_, ps_for hp hc pi pg pb hs, fun w σ H env ms Ed er hr h => ?_⟩
  refine si w σ H env ms _ er hr ?_
  unfold sFor at h
  cases hm : mi env ms with
  | bad => rw [hm] at h; exact h.elim
  | ex c ds ms1 => rw [hm] at h; exact fun w1 H1 dd e1 hr1 xd => h w1 H1 σ dd e1 hr1 (er.mono e1) xd
  | ok xk ms1 =>
    rw [hm] at h
    obtain ⟨xs, kp⟩ := xk
    intro w1 H1 J e1 hr1 hy _
    have h : tP Y w Ed (forL kp g mb xs env ms1) := h
    have hy : Yields Y w1 xs kp J := hy
    refine ⟨fun i m σ' H' => m = xs.length - i ∧ i ≤ xs.length ∧ ∃ (w' : Wd) (env' : Env) (ms' : Ms), Ext w1 w' ∧ HR Y w' H' ms' ∧ ER Y w' σ' env' ∧ tP Y w' Ed (forL kp g mb (xs.drop i) env' ms'),
      ⟨xs.length, by omega, by omega, w1, env, ms1, Ext.refl w1, hr1, er.mono e1, tP.ext e1 h⟩, ?_⟩
    rintro i m σ' H' ⟨rfl, hi, w', env', ms', e', hr', er', h'⟩
    by_cases hlt : i < xs.length
    · refine .inr ?_
      have hx : xs[i]? = some xs[i] := by simp [hlt]
      rw [List.drop_eq_getElem_cons hlt] at h'
      obtain ⟨kc, h'⟩ := chk_post h'
      obtain ⟨hgo, hyl⟩ := (hy w' H' ms' e'.wsub hr' kc).2 i _ hx
      refine ⟨hgo, fun σ2 H2 => i + 1 ≤ xs.length ∧ ∃ (w2 : Wd) (env2 : Env) (ms2 : Ms), Ext w1 w2 ∧ HR Y w2 H2 ms2 ∧ ER Y w2 σ2 env2 ∧ tP Y w2 Ed (forL kp g mb (xs.drop (i + 1)) env2 ms2), fun σ2 H2 n2 => ⟨xs.length - (i + 1), by omega, rfl, n2.1, n2.2⟩, fun x H2 y2 => ?_⟩
      obtain ⟨w2, e2, hr2, sv⟩ := hyl x H2 y2
      cases hgx : g xs[i] env' ms' with
      | none => rw [hgx] at h'; exact h'.elim
      | some env1 =>
        rw [hgx] at h'
        dsimp only at h'
        refine sg w2 σ' H2 env' ms' _ x _ env1 (er'.mono e2) hr2 sv hgx fun σ3 er3 => ?_
        refine sb w2 σ3 H2 env1 ms' _ er3 hr2 ?_
        have h' := tP.ext e2 h'
        have nxt : ∀ e m, tP Y w2 Ed (forL kp g mb (xs.drop (i + 1)) e m) → nxP Y w2 (fun σ2 H2 => i + 1 ≤ xs.length ∧ ∃ (w2 : Wd) (env2 : Env) (ms2 : Ms), Ext w1 w2 ∧ HR Y w2 H2 ms2 ∧ ER Y w2 σ2 env2 ∧ tP Y w2 Ed (forL kp g mb (xs.drop (i + 1)) env2 ms2)) e m := fun e m q w4 H4 σ4 e4 hr4 er4 =>
          ⟨hlt, w4, e, m, (e'.trans e2).trans e4, hr4, er4, tP.ext e4 q⟩
        cases hbm : mb env1 ms' with
        | nx e m => rw [hbm] at h'; exact nxt e m h'
        | ct e m => rw [hbm] at h'; exact nxt e m h'
        | bk e m => rw [hbm] at h'; exact h'
        | rt s m => rw [hbm] at h'; exact h'
        | ex c ds e m => rw [hbm] at h'; exact h'
        | bad => rw [hbm] at h'; exact h'.elim
    · have e : i = xs.length := by omega
      subst e
      rw [List.drop_length] at h'
      obtain ⟨kc, h'⟩ := chk_post h'
      exact .inl ⟨(hy w' H' ms' e'.wsub hr' kc).1, h' w' H' σ' (Ext.refl w') hr' er'⟩

/-! ### what is walked -/
/-- over data: a frozen list, the script, a tuple -/
def itD (s : S) (ms : Ms) : R (List S × Option (Nat × Cell)) := match s with
  | .d (.lst ds) => .ok (ds.map S.d, none) ms
  | .d (.frz ds) => .ok (ds.map S.d, none) ms
  | .loc n => match ms[n]? with
    | some (.lst ds) => .ok (ds.map S.d, some (n, .lst ds)) ms
    | _ => .bad
  | _ => .bad
def itT (s : S) (ms : Ms) : R (List S × Option (Nat × Cell)) := match s with
  | .d (.tup ds) => .ok (ds.map S.d, none) ms
  | _ => .bad
def iList (m : Env → Ms → R S) : Env → Ms → R (List S × Option (Nat × Cell)) := fun env ms => (m env ms).bind itD
def iTup (m : Env → Ms → R S) : Env → Ms → R (List S × Option (Nat × Cell)) := fun env ms => (m env ms).bind itT
theorem map_get {ds : List D} {i : Nat} {s : S} (h : (ds.map S.d)[i]? = some s) : ∃ d, ds[i]? = some d ∧ s = .d d := by
  rw [List.getElem?_map] at h
  cases e : ds[i]? with
  | none => rw [e] at h; cases h
  | some d => rw [e] at h; exact ⟨d, rfl, (Option.some.inj h).symm⟩
theorem yields_list {a : Addr} {xs : List V} {ds : List D} (h : SqL Y.X.K w.F a xs) (r : DRs Y.X.K Y.Γ w.F ds xs) : Yields Y w (ds.map S.d) none (Itl Y.X.K a) := by
  intro w' H' ms' e' hr' _
  have q := sqL_mono (sqL_mono h e'.F) hr'.sub
  refine ⟨⟨xs, q, by rw [List.length_map, DRs.length r]; exact Nat.le_refl _⟩, fun i s hs => ?_⟩
  obtain ⟨d, hd, rfl⟩ := map_get hs
  obtain ⟨v, hv, rv⟩ := DRs.get r hd
  refine ⟨⟨xs, v, q, hv⟩, fun x H2 y => ?_⟩
  obtain ⟨rfl, y⟩ := y
  have : v = x := Option.some.inj (hv.symm.trans (y xs q))
  subst this
  exact ⟨w', Ext.refl w', hr', DR.mono e'.F _ _ rv⟩
theorem yields_cell {n : Nat} {a : Addr} {ds : List D} (h : w.mu[n]? = some a) : Yields Y w (ds.map S.d) (some (n, .lst ds)) (Itl Y.X.K a) := by
  intro w' H' ms' e' hr' kc
  have hc := kc n _ rfl
  obtain ⟨xs, q, r⟩ := hr'.cel n a _ (e'.mu n a h) hc
  have q' : SqL Y.X.K H' a xs := SqL.of q
  refine ⟨⟨xs, q', by rw [List.length_map, DRs.length r]; exact Nat.le_refl _⟩, fun i s hs => ?_⟩
  obtain ⟨d, hd, rfl⟩ := map_get hs
  obtain ⟨v, hv, rv⟩ := DRs.get r hd
  refine ⟨⟨xs, v, q', hv⟩, fun x H2 y => ?_⟩
  obtain ⟨rfl, y⟩ := y
  have : v = x := Option.some.inj (hv.symm.trans (y xs q'))
  subst this
  exact ⟨w', Ext.refl w', hr', rv⟩
theorem yields_tup {a : Addr} {xs : List V} {ds : List D} (h : SqT Y.X.K w.F a xs) (r : DRs Y.X.K Y.Γ w.F ds xs) : Yields Y w (ds.map S.d) none (Itt Y.X.K a) := by
  intro w' H' ms' e' hr' _
  have q := sqT_mono (sqT_mono h e'.F) hr'.sub
  refine ⟨⟨xs, q, by rw [List.length_map, DRs.length r]; exact Nat.le_refl _⟩, fun i s hs => ?_⟩
  obtain ⟨d, hd, rfl⟩ := map_get hs
  obtain ⟨v, hv, rv⟩ := DRs.get r hd
  refine ⟨⟨xs, v, q, hv⟩, fun x H2 y => ?_⟩
  obtain ⟨rfl, y⟩ := y
  have : v = x := Option.some.inj (hv.symm.trans (y xs q))
  subst this
  exact ⟨w', Ext.refl w', hr', DR.mono e'.F _ _ rv⟩
variable {tg l : Expr} {m : Env → Ms → R S}
theorem i_list (h : DE Y l m) : DI Y tg l (iList m) := by
  obtain ⟨t, p, s⟩ := h.ex
  refine ⟨_, pi_list p, fun w σ H env ms Rr er hr h => ?_⟩
  refine s.go er hr h fun x ms1 w1 H1 v e1 er1 hr1 sv h1 => ?_
  cases x with
  | exn c ds => exact h1.elim
  | loc n =>
    obtain ⟨a, ha, rfl⟩ := sv
    unfold itD at h1
    dsimp only at h1
    cases hc : ms1[n]? with
    | none => rw [hc] at h1; exact h1.elim
    | some c =>
      rw [hc] at h1
      cases c with
      | lst ss =>
        obtain ⟨xs, q, r⟩ := hr1.cel n a _ ha hc
        exact ⟨a, rfl, ⟨xs, SqL.of q⟩, h1 w1 H1 _ e1 hr1 (yields_cell ha) (fun i c e => by cases e; exact hc)⟩
      | ins c fs => exact h1.elim
      | dead => exact h1.elim
  | d x =>
    cases x with
    | lst ds =>
      obtain ⟨a, xs, rfl, h2, h3⟩ := sv
      exact ⟨a, rfl, ⟨xs, SqL.of (hr1.sub _ _ h2)⟩, h1 w1 H1 _ e1 hr1 (yields_list (SqL.of h2) h3) (fun _ _ e => nomatch e)⟩
    | frz ds =>
      obtain ⟨a, xs, rfl, h2, h3⟩ := sv
      exact ⟨a, rfl, ⟨xs, sqL_mono h2 hr1.sub⟩, h1 w1 H1 _ e1 hr1 (yields_list h2 h3) (fun _ _ e => nomatch e)⟩
    | _ => exact h1.elim
theorem i_tup (h : DE Y l m) : DI Y tg l (iTup m) := by
  obtain ⟨t, p, s⟩ := h.ex
  refine ⟨_, pi_tup p, fun w σ H env ms Rr er hr h => ?_⟩
  refine s.go er hr h fun x ms1 w1 H1 v e1 er1 hr1 sv h1 => ?_
  cases x with
  | exn c ds => exact h1.elim
  | loc n => exact h1.elim
  | d x =>
    cases x with
    | tup ds =>
      obtain ⟨a, xs, rfl, h2, h3⟩ := sv
      exact ⟨a, rfl, ⟨xs, sqT_mono h2 hr1.sub⟩, h1 w1 H1 _ e1 hr1 (yields_tup h2 h3) (fun _ _ e => nomatch e)⟩
    | _ => exact h1.elim
/-- range -/
def rngS (lo : Int) (n : Nat) : List S := (List.range n).map fun i => S.d (.int (lo + (i : Nat)))
theorem yields_rng {lo : Int} {n : Nat} : Yields Y w (rngS lo n) none (Itr lo n) := by
  intro w' H' ms' e' hr' _
  refine ⟨by show n ≤ (rngS lo n).length; simp [rngS], fun i s hs => ?_⟩
  have hi : i < n := by
    have := (List.getElem?_eq_some_iff.mp hs).1
    simpa [rngS] using this
  have hsv : s = .d (.int (lo + (i : Nat))) := by
    simp [rngS, hi] at hs
    exact hs.symm
  refine ⟨hi, fun x H2 y => ?_⟩
  obtain ⟨rfl, rfl⟩ := y
  exact ⟨w', Ext.refl w', hr', by rw [hsv]; rfl⟩
def inR (i : Int) : Bool := decide (-(2 ^ 62) ≤ i ∧ i < 2 ^ 62)
def itR1 (ss : List S) (ms : Ms) : R (List S × Option (Nat × Cell)) := match ss with
  | [.d (.int j)] => match inR j with
    | true => .ok (rngS 0 j.toNat, none) ms
    | false => .bad
  | _ => .bad
def itR2 (ss : List S) (ms : Ms) : R (List S × Option (Nat × Cell)) := match ss with
  | [.d (.int i), .d (.int j)] => match inR i && inR j with
    | true => .ok (rngS i (j - i).toNat, none) ms
    | false => .bad
  | _ => .bad
def iRng1 (m : Env → Ms → R (List S)) : Env → Ms → R (List S × Option (Nat × Cell)) := fun env ms => (m env ms).bind itR1
def iRng2 (m : Env → Ms → R (List S)) : Env → Ms → R (List S × Option (Nat × Cell)) := fun env ms => (m env ms).bind itR2
variable {a b : Expr} {p pos' : Pos} {ma : Env → Ms → R (List S)}
theorem i_range1 (hg : Gl Y.X "range") (hm : Y.X.mg "range" = none) (ha : DA Y [a] ma) (hs : starEach [a] Y.X.env = [(false, eval a Y.X.env)] := by rfl) : DI Y tg (.Call (.Name "range" p) [a] [] pos') (iRng1 ma) := by
  obtain ⟨t, pa, s⟩ := ha.ex
  refine ⟨_, pi_range1 hg hm pa hs, fun w σ H env ms Rr er hr h => ?_⟩
  refine s.go er hr h fun ss ms1 w1 H1 vs e1 er1 hr1 sv h1 => ?_
  unfold itR1 at h1
  split at h1
  · rename_i j
    cases hj : inR j with
    | false => rw [hj] at h1; exact h1.elim
    | true =>
      rw [hj] at h1
      have := of_decide_eq_true hj
      cases sv with
      | cons q r =>
        cases r
        cases q
        exact ⟨j, rfl, this.1, this.2, h1 w1 H1 _ e1 hr1 yields_rng (fun _ _ e => nomatch e)⟩
  · exact h1.elim
theorem i_range2 (hg : Gl Y.X "range") (hm : Y.X.mg "range" = none) (ha : DA Y [a, b] ma) (hs : starEach [a, b] Y.X.env = [(false, eval a Y.X.env), (false, eval b Y.X.env)] := by rfl) (hs2 : starEach [b] Y.X.env = [(false, eval b Y.X.env)] := by rfl) :
    DI Y tg (.Call (.Name "range" p) [a, b] [] pos') (iRng2 ma) := by
  obtain ⟨t, pa, s⟩ := ha.ex
  refine ⟨_, pi_range2 hg hm pa hs hs2, fun w σ H env ms Rr er hr h => ?_⟩
  refine s.go er hr h fun ss ms1 w1 H1 vs e1 er1 hr1 sv h1 => ?_
  unfold itR2 at h1
  split at h1
  · rename_i i j
    cases hj : (inR i && inR j) with
    | false => rw [hj] at h1; exact h1.elim
    | true =>
      rw [hj] at h1
      obtain ⟨k1, k2⟩ := Bool.and_eq_true_iff.mp hj
      have q1 := of_decide_eq_true k1
      have q2 := of_decide_eq_true k2
      cases sv with
      | cons q r =>
        cases r with
        | cons q' r' =>
          cases r'
          cases q
          cases q'
          exact ⟨i, j, rfl, ⟨q1.1, q1.2, q2.1, q2.2⟩, h1 w1 H1 _ e1 hr1 yields_rng (fun _ _ e => nomatch e)⟩
  · exact h1.elim

/-! ### while -/
def whileL (c : Env → Ms → R Bool) (b : Env → Ms → T) : Nat → Env → Ms → T
  | 0, _, _ => .bad
  | n + 1, env, ms => match c env ms with
    | .ok true ms1 => match b env ms1 with
      | .nx e m => whileL c b n e m
      | .ct e m => whileL c b n e m
      | .bk e m => .nx e m
      | .rt s m => .rt s m
      | .ex c ds e m => .ex c ds e m
      | .bad => .bad
    | .ok false ms1 => .nx env ms1
    | .ex k ds ms1 => .ex k ds env ms1
    | .bad => .bad
def sWhile (fu : Env → Ms → Nat) (c : Env → Ms → R Bool) (b : Env → Ms → T) : Env → Ms → T := fun env ms => whileL c b (fu env ms) env ms
theorem s_while (fu : Env → Ms → Nat) {c : Expr} {body : List Stmt} {mc : Env → Ms → R Bool} {mb : Env → Ms → T} (hp : PassesOwn (model Y.X.prog Y.X.w) Y.X.A Y.X.env Y.X.xe) (hc : DT Y c mc) (hb : DSs Y body mb) : DS Y (.While c body [] pos) (sWhile fu mc mb) := by
  obtain ⟨tc, pc, sc⟩ := hc.ex
  obtain ⟨tb, pb, sb⟩ := hb.ex
  refine ⟨_, ps_while hp pc pb, fun w σ H env ms Ed er hr h => ?_⟩
  refine ⟨fun n σ' H' => ∃ (w' : Wd) (env' : Env) (ms' : Ms), HR Y w' H' ms' ∧ ER Y w' σ' env' ∧ tP Y w' Ed (whileL mc mb n env' ms'), ⟨fu env ms, w, env, ms, hr, er, h⟩, ?_⟩
  rintro n σ1 H1 ⟨w1, env1, ms1, hr1, er1, h1⟩
  cases n with
  | zero => exact h1.elim
  | succ n =>
    unfold whileL at h1
    refine sc w1 σ1 H1 env1 ms1 _ er1 hr1 ?_
    cases hm : mc env1 ms1 with
    | bad => rw [hm] at h1; exact h1.elim
    | ex k ds ms2 => rw [hm] at h1; exact fun w2 H2 dd e2 hr2 xd => h1 w2 H2 σ1 dd e2 hr2 (er1.mono e2) xd
    | ok x ms2 =>
      rw [hm] at h1
      intro w2 H2 e2 hr2
      cases x with
      | false => exact iteF (h1 w2 H2 σ1 e2 hr2 (er1.mono e2))
      | true =>
        refine iteT ⟨fun σ' H' => ∃ (w' : Wd) (env' : Env) (ms' : Ms), HR Y w' H' ms' ∧ ER Y w' σ' env' ∧ tP Y w' Ed (whileL mc mb n env' ms'), fun σ' H' q => ⟨n, Nat.lt_succ_self n, q⟩, ?_⟩
        refine sb w2 σ1 H2 env1 ms2 _ (er1.mono e2) hr2 ?_
        have h1 := tP.ext e2 h1
        have nxt : ∀ e m, tP Y w2 Ed (whileL mc mb n e m) → nxP Y w2 (fun σ' H' => ∃ (w' : Wd) (env' : Env) (ms' : Ms), HR Y w' H' ms' ∧ ER Y w' σ' env' ∧ tP Y w' Ed (whileL mc mb n env' ms')) e m := fun e m q w4 H4 σ4 e4 hr4 er4 =>
          ⟨w4, e, m, hr4, er4, tP.ext e4 q⟩
        dsimp only at h1
        cases hbm : mb env1 ms2 with
        | nx e m => rw [hbm] at h1; exact nxt e m h1
        | ct e m => rw [hbm] at h1; exact nxt e m h1
        | bk e m => rw [hbm] at h1; exact h1
        | rt s m => rw [hbm] at h1; exact h1
        | ex c ds e m => rw [hbm] at h1; exact h1
        | bad => rw [hbm] at h1; exact h1.elim
end
end Fw
set_option Elab.async false
set_option linter.all false
set_option maxRecDepth 100000
set_option maxHeartbeats 4000000
/-! Fw5: defs: what a def computes, its rule, calls. -/
namespace Fw
open PySem L2 PySem.Spec PyProof.Rows

def start0 (n : Nat) (ss : List S) : Env := ss.map some ++ List.replicate (n - ss.length) none
def endS (s : S) (ms : Ms) : R S := match s.noX with
  | true => .ok s ms
  | false => .bad
def fnSem (n : Nat) (m : Env → Ms → T) : List S → Ms → R S := fun ss ms => match m (start0 n ss) ms with
  | .nx _ ms' => .ok (.d .non) ms'
  | .rt s ms' => endS s ms'
  | .ex c ds _ ms' => .ex c ds ms'
  | _ => .bad

/-! ### a call: the callee sees only the cells it is handed -/
def locsOf : List S → List Nat
  | [] => []
  | .loc n :: r => n :: locsOf r
  | .d _ :: r => locsOf r
  | .exn _ _ :: r => locsOf r
def renS (ls : List Nat) : S → S
  | .loc n => .loc (ls.idxOf n)
  | .d x => .d x
  | .exn c ds => .exn c ds
def getC (ms : Ms) (n : Nat) : Cell := match ms[n]? with
  | some c => c
  | none => .dead
def wb : List Nat → Ms → Ms → Ms
  | l :: ls, c :: cs, ms => wb ls cs (ms.set l c)
  | _, _, ms => ms
def nodupB : List Nat → Bool
  | [] => true
  | l :: ls => !ls.contains l && nodupB ls
def callEnd (ls : List Nat) (ms : Ms) (r : R S) : R S := match r with
  | .ok (.d x) ms' => .ok (.d x) (wb ls ms' ms)
  | .ok (.loc j) ms' => match ls[j]? with
    | some n => .ok (.loc n) (wb ls ms' ms)
    | none => match ms'[j]? with
      | some c => .ok (.loc ms.length) (wb ls ms' ms ++ [c])
      | none => .bad
  | .ok (.exn _ _) _ => .bad
  | .ex c ds ms' => .ex c ds (wb ls ms' ms)
  | .bad => .bad
def callSem (sem : List S → Ms → R S) (ss : List S) (ms : Ms) : R S := match ss.all S.noX && nodupB (locsOf ss) with
  | true => callEnd (locsOf ss) ms (sem (ss.map (renS (locsOf ss))) ((locsOf ss).map (getC ms)))
  | false => .bad
theorem nodupB_ok : ∀ {ls : List Nat}, nodupB ls = true → ls.Nodup
  | [], _ => List.nodup_nil
  | l :: ls, h => by
    unfold nodupB at h
    rw [Bool.and_eq_true, Bool.not_eq_true'] at h
    refine List.nodup_cons.mpr ⟨fun m => ?_, nodupB_ok h.2⟩
    have := List.contains_iff_mem.mpr m
    rw [h.1] at this; cases this
theorem wb_len : ∀ (ls : List Nat) (cs ms : Ms), (wb ls cs ms).length = ms.length
  | [], cs, ms => by unfold wb; rfl
  | l :: ls, [], ms => by unfold wb; rfl
  | l :: ls, c :: cs, ms => by show (wb ls cs (ms.set l c)).length = _; rw [wb_len]; simp
theorem wb_out : ∀ {ls : List Nat} {cs ms : Ms} {n : Nat}, n ∉ ls → (wb ls cs ms)[n]? = ms[n]?
  | [], cs, ms, n, _ => by unfold wb; rfl
  | l :: ls, [], ms, n, _ => by unfold wb; rfl
  | l :: ls, c :: cs, ms, n, h => by
    show (wb ls cs (ms.set l c))[n]? = _
    rw [wb_out (fun z => h (List.mem_cons_of_mem _ z)), List.getElem?_set_ne (fun z => h (by subst z; exact List.mem_cons_self))]
theorem wb_in : ∀ {ls : List Nat} {cs ms : Ms} {n k : Nat} {c : Cell}, ls.Nodup → ls[k]? = some n → cs[k]? = some c → n < ms.length → (wb ls cs ms)[n]? = some c
  | [], cs, ms, n, k, c, _, h, _, _ => by simp at h
  | l :: ls, [], ms, n, k, c, _, _, h, _ => by simp at h
  | l :: ls, c :: cs, ms, n, 0, d, nd, h, h2, hn => by
    simp at h h2
    subst h h2
    show (wb ls cs (ms.set l c))[l]? = _
    rw [wb_out (List.nodup_cons.mp nd).1, List.getElem?_set_self hn]
  | l :: ls, c :: cs, ms, n, k + 1, d, nd, h, h2, hn => by
    show (wb ls cs (ms.set l c))[n]? = _
    exact wb_in (List.nodup_cons.mp nd).2 (by simpa using h) (by simpa using h2) (by simpa using hn)
theorem mem_of_locs : ∀ {ss : List S} {n : Nat}, S.loc n ∈ ss → n ∈ locsOf ss
  | .loc m :: r, n, h => by
    rcases List.mem_cons.mp h with e | e
    · cases e; exact List.mem_cons_self
    · exact List.mem_cons_of_mem _ (mem_of_locs e)
  | .d x :: r, n, h => by
    have : S.loc n ∈ r := by
      rcases List.mem_cons.mp h with e | e
      · cases e
      · exact e
    exact mem_of_locs (ss := r) this
  | .exn _ _ :: r, n, h => by
    have : S.loc n ∈ r := by
      rcases List.mem_cons.mp h with e | e
      · cases e
      · exact e
    exact mem_of_locs (ss := r) this
section
variable {K : PySem.W.Frag} {Γ : G} {w w1 : Wd} {H H1 : Hp} {ms ms1 : Ms}
theorem locs_lt : ∀ {ss : List S} {vs : List V}, SRs0 K Γ w ss vs → ∀ n ∈ locsOf ss, ∃ a, w.mu[n]? = some a
  | _, _, .nil, n, h => nomatch h
  | .loc m :: r, _, .cons q t, n, h => by
    rcases List.mem_cons.mp h with e | e
    · subst e; obtain ⟨a, h1, _⟩ := q; exact ⟨a, h1⟩
    · exact locs_lt t n e
  | .d _ :: r, _, .cons q t, n, h => locs_lt t n h
  | .exn _ _ :: r, _, .cons q t, n, h => locs_lt t n h
open Classical in
/-- the caller's other cells, and what it protects itself -/
noncomputable def guardP (w : Wd) (H : Hp) (ms : Ms) (ls : List Nat) : Hp := fun a => match w.P a with
  | some o => some o
  | none => if ∃ (n : Nat) (c : Cell), w.mu[n]? = some a ∧ ms[n]? = some c ∧ c ≠ .dead ∧ n ∉ ls then H a else none
theorem guardP_P {ls : List Nat} {a : Addr} {o : HO} (h : w.P a = some o) : guardP w H ms ls a = some o := by unfold guardP; rw [h]
theorem guardP_cell {ls : List Nat} {a : Addr} {n : Nat} {c : Cell} (hp : w.P a = none) (h1 : w.mu[n]? = some a) (h2 : ms[n]? = some c) (h3 : c ≠ .dead) (h4 : n ∉ ls) : guardP w H ms ls a = H a := by
  unfold guardP; rw [hp]; exact if_pos ⟨n, c, h1, h2, h3, h4⟩
theorem guardP_inv {ls : List Nat} {a : Addr} {o : HO} (h : guardP w H ms ls a = some o) : w.P a = some o ∨ (H a = some o ∧ ∃ (n : Nat) (c : Cell), w.mu[n]? = some a ∧ ms[n]? = some c ∧ c ≠ .dead ∧ n ∉ ls) := by
  unfold guardP at h
  cases e : w.P a with
  | some u => rw [e] at h; exact .inl h
  | none =>
    rw [e] at h
    dsimp only at h
    split at h
    · rename_i z; exact .inr ⟨h, z⟩
    · cases h
def addr (w : Wd) (n : Nat) : Addr := match w.mu[n]? with
  | some a => a
  | none => 0
theorem addr_eq {n : Nat} {a : Addr} (h : w.mu[n]? = some a) : addr w n = a := by unfold addr; rw [h]
/-- the callee's world -/
noncomputable def callW (w : Wd) (H : Hp) (ms : Ms) (ls : List Nat) : Wd := ⟨w.F, guardP w H ms ls, ls.map (addr w)⟩
theorem getC_eq {n : Nat} {c : Cell} (h : ms[n]? = some c) : getC ms n = c := by unfold getC; rw [h]
theorem HR0.cell_at (h : HR0 K Γ w H ms) {n : Nat} {a : Addr} (e : w.mu[n]? = some a) : ms[n]? = some (getC ms n) := by
  have : n < ms.length := by rw [← h.len]; exact (List.getElem?_eq_some_iff.mp e).1
  unfold getC
  rw [List.getElem?_eq_getElem this]
theorem HR0.alive (h : HR0 K Γ w H ms) {n : Nat} {a : Addr} {c : Cell} (hm : w.mu[n]? = some a) (hc : ms[n]? = some c) (hd : c ≠ .dead) : ∃ o, H a = some o := by
  have q := h.cel n a c hm hc
  cases c with
  | lst ds => obtain ⟨xs, e, _⟩ := q; exact ⟨_, e⟩
  | ins c fs => obtain ⟨dx, xs, e, _⟩ := q; exact ⟨_, e⟩
  | dead => exact absurd rfl hd
theorem HR0.callW {ls : List Nat} (h : HR0 K Γ w H ms) (nd : ls.Nodup) (hl : ∀ n ∈ ls, ∃ a, w.mu[n]? = some a) : HR0 K Γ (callW w H ms ls) H (ls.map (getC ms)) := by
  have at_ : ∀ {i : Nat} {a : Addr}, (ls.map (addr w))[i]? = some a → ∃ n, ls[i]? = some n ∧ w.mu[n]? = some a := fun {i a} e => by
    rw [List.getElem?_map] at e
    cases q : ls[i]? with
    | none => rw [q] at e; cases e
    | some n =>
      rw [q] at e
      obtain ⟨b, hb⟩ := hl n (List.mem_of_getElem? q)
      have : addr w n = a := Option.some.inj e
      rw [addr_eq hb] at this
      subst this
      exact ⟨n, rfl, hb⟩
  have mc : ∀ {i n : Nat} {c : Cell}, ls[i]? = some n → (ls.map (getC ms))[i]? = some c → ms[n]? = some c := fun {i n c} e q => by
    rw [List.getElem?_map, e] at q
    obtain ⟨b, hb⟩ := hl n (List.mem_of_getElem? e)
    rw [h.cell_at hb]
    exact q
  refine ⟨h.sub, fun a o e => ?_, fun a o e => ?_, by simp [Fw.callW], fun i j a c c' e1 e2 k1 k2 d1 d2 => ?_, fun i a c e k hd => ?_, fun i a c e k => ?_⟩
  · rcases guardP_inv e with e | ⟨e, _⟩
    · exact h.prot a o e
    · exact e
  · rcases guardP_inv e with e | ⟨_, n, c, e1, e2, e3, _⟩
    · exact h.dis a o e
    · exact (h.sep n a c e1 e2 e3).1
  · obtain ⟨n, hn, en⟩ := at_ e1
    obtain ⟨m, hm, em⟩ := at_ e2
    have := h.inj n m a c c' en em (mc hn k1) (mc hm k2) d1 d2
    subst this
    exact (List.getElem?_inj (List.getElem?_eq_some_iff.mp hn).1 nd).mp (hn.trans hm.symm)
  · obtain ⟨n, hn, en⟩ := at_ e
    have s := h.sep n a c en (mc hn k) hd
    refine ⟨s.1, ?_⟩
    show guardP w H ms ls a = none
    cases q : guardP w H ms ls a with
    | none => rfl
    | some o =>
      rcases guardP_inv q with z | ⟨_, m, c', z1, z2, z3, z4⟩
      · rw [s.2] at z; cases z
      · have := h.inj n m a c c' en z1 (mc hn k) z2 hd z3
        subst this
        exact absurd (List.mem_of_getElem? hn) z4
  · obtain ⟨n, hn, en⟩ := at_ e
    have q := h.cel n a c en (mc hn k)
    cases c with
    | dead => trivial
    | lst ds => exact q
    | ins c fs => exact q
theorem renS_rel {ls : List Nat} {s : S} {v : V} (h : SR0 K Γ w s v) (hl : ∀ n, s = .loc n → n ∈ ls) : SR0 K Γ (callW w H ms ls) (renS ls s) v := by
  cases s with
  | d x => exact h
  | exn c ds => exact h.elim
  | loc n =>
    obtain ⟨a, e1, rfl⟩ := h
    refine ⟨a, ?_, rfl⟩
    show (ls.map (addr w))[ls.idxOf n]? = some a
    have hm := hl n rfl
    rw [List.getElem?_map, List.getElem?_eq_getElem (List.idxOf_lt_length_of_mem hm), List.getElem_idxOf]
    show some (addr w n) = _
    rw [addr_eq e1]
theorem renSs_rel {ls : List Nat} : ∀ {ss : List S} {vs : List V}, SRs0 K Γ w ss vs → (∀ n, S.loc n ∈ ss → n ∈ ls) → SRs0 K Γ (callW w H ms ls) (ss.map (renS ls)) vs
  | _, _, .nil, _ => .nil
  | s :: r, _, .cons a b, h => .cons (renS_rel a fun n e => h n (by subst e; exact List.mem_cons_self)) (renSs_rel b fun n e => h n (List.mem_cons_of_mem _ e))
/-- behind the call -/
theorem HR0.back {ls : List Nat} {w' : Wd} {H' : Hp} {ms' : Ms} {mu2 : List Addr} {ms2 : Ms} (src : Nat → Option Nat) (h : HR0 K Γ w H ms) (e : Ext (Fw.callW w H ms ls) w') (h' : HR0 K Γ w' H' ms') (len : mu2.length = ms2.length)
    (k1 : ∀ (n : Nat) a c, mu2[n]? = some a → ms2[n]? = some c → src n = none → w.mu[n]? = some a ∧ ms[n]? = some c ∧ n ∉ ls)
    (k2 : ∀ (n k : Nat) a c, mu2[n]? = some a → ms2[n]? = some c → src n = some k → w'.mu[k]? = some a ∧ ms'[k]? = some c)
    (k3 : ∀ (n m k : Nat), n < mu2.length → m < mu2.length → src n = some k → src m = some k → n = m) : HR0 K Γ ⟨w'.F, w.P, mu2⟩ H' ms2 := by
  have eP : w'.P = guardP w H ms ls := e.P
  have old : ∀ {n : Nat} {a : Addr} {c : Cell}, w.mu[n]? = some a → ms[n]? = some c → c ≠ .dead → n ∉ ls → w'.P a = H a ∧ w.P a = none := fun {n a c} q1 q2 q3 q4 => by
    have s := h.sep n a c q1 q2 q3
    exact ⟨by rw [eP]; exact guardP_cell s.2 q1 q2 q3 q4, s.2⟩
  have clash : ∀ {n k : Nat} {a : Addr} {c c' : Cell}, w.mu[n]? = some a → ms[n]? = some c → c ≠ .dead → n ∉ ls → w'.mu[k]? = some a → ms'[k]? = some c' → c' ≠ .dead → False := fun {n k a c c'} q1 q2 q3 q4 r1 r2 r3 => by
    obtain ⟨o, ho⟩ := h.alive q1 q2 q3
    have := (h'.sep k a c' r1 r2 r3).2
    rw [(old q1 q2 q3 q4).1, ho] at this
    cases this
  refine ⟨h'.sub, fun a o q => ?_, fun a o q => ?_, len, fun i j a c c' e1 e2 q1 q2 d1 d2 => ?_, fun n a c q1 q2 q3 => ?_, fun n a c q1 q2 => ?_⟩
  · exact h'.prot a o (by rw [eP]; exact guardP_P q)
  · exact h'.dis a o (by rw [eP]; exact guardP_P q)
  · cases si : src i with
    | none =>
      obtain ⟨x1, x2, x3⟩ := k1 i a c e1 q1 si
      cases sj : src j with
      | none =>
        obtain ⟨y1, y2, y3⟩ := k1 j a c' e2 q2 sj
        exact h.inj i j a c c' x1 y1 x2 y2 d1 d2
      | some k =>
        obtain ⟨y1, y2⟩ := k2 j k a c' e2 q2 sj
        exact (clash x1 x2 d1 x3 y1 y2 d2).elim
    | some k =>
      obtain ⟨x1, x2⟩ := k2 i k a c e1 q1 si
      cases sj : src j with
      | none =>
        obtain ⟨y1, y2, y3⟩ := k1 j a c' e2 q2 sj
        exact (clash y1 y2 d2 y3 x1 x2 d1).elim
      | some k' =>
        obtain ⟨y1, y2⟩ := k2 j k' a c' e2 q2 sj
        have := h'.inj k k' a c c' x1 y1 x2 y2 d1 d2
        subst this
        exact k3 i j k (List.getElem?_eq_some_iff.mp e1).1 (List.getElem?_eq_some_iff.mp e2).1 si sj
  · cases si : src n with
    | none =>
      obtain ⟨x1, x2, x3⟩ := k1 n a c q1 q2 si
      obtain ⟨o, ho⟩ := h.alive x1 x2 q3
      obtain ⟨z1, z2⟩ := old x1 x2 q3 x3
      exact ⟨h'.dis a o (z1.trans ho), z2⟩
    | some k =>
      obtain ⟨x1, x2⟩ := k2 n k a c q1 q2 si
      have s := h'.sep k a c x1 x2 q3
      refine ⟨s.1, ?_⟩
      cases z : w.P a with
      | none => rfl
      | some o =>
        have := s.2
        rw [eP, guardP_P z] at this
        cases this
  · cases si : src n with
    | none =>
      obtain ⟨x1, x2, x3⟩ := k1 n a _ q1 q2 si
      cases c with
      | dead => trivial
      | lst ds =>
        have nd : (Cell.lst ds) ≠ .dead := by intro z; cases z
        obtain ⟨xs, y1, y2⟩ := h.cel n a _ x1 x2
        exact ⟨xs, h'.prot a _ ((old x1 x2 nd x3).1.trans y1), DRs.mono e.F _ _ y2⟩
      | ins c fs =>
        have nd : (Cell.ins c fs) ≠ .dead := by intro z; cases z
        obtain ⟨dx, xs, y1, y2⟩ := h.cel n a _ x1 x2
        exact ⟨dx, xs, h'.prot a _ ((old x1 x2 nd x3).1.trans y1), DRs.mono e.F _ _ y2⟩
    | some k =>
      obtain ⟨x1, x2⟩ := k2 n k a _ q1 q2 si
      have q := h'.cel k a _ x1 x2
      cases c with
      | dead => trivial
      | lst ds => exact q
      | ins c fs => exact q
/-- no new cell -/
theorem HR0.back0 {ls : List Nat} {w' : Wd} {H' : Hp} {ms' : Ms} (h : HR0 K Γ w H ms) (nd : ls.Nodup) (hl : ∀ n ∈ ls, ∃ a, w.mu[n]? = some a) (e : Ext (Fw.callW w H ms ls) w') (h' : HR0 K Γ w' H' ms') : HR0 K Γ ⟨w'.F, w.P, w.mu⟩ H' (wb ls ms' ms) := by
  refine h.back (ls := ls) (fun n => match decide (n ∈ ls) with
    | true => some (ls.idxOf n)
    | false => none) e h' (by rw [wb_len]; exact h.len) (fun n a c q1 q2 z => ?_) (fun n k a c q1 q2 z => ?_) fun n m k _ _ z1 z2 => ?_
  · cases b : decide (n ∈ ls) with
    | true => rw [b] at z; cases z
    | false =>
      have := of_decide_eq_false b
      rw [wb_out this] at q2
      exact ⟨q1, q2, this⟩
  · cases b : decide (n ∈ ls) with
    | false => rw [b] at z; cases z
    | true =>
      rw [b] at z
      cases z
      have hm := of_decide_eq_true b
      have hi : ls[ls.idxOf n]? = some n := by rw [List.getElem?_eq_getElem (List.idxOf_lt_length_of_mem hm), List.getElem_idxOf]
      have hmu : w'.mu[ls.idxOf n]? = some a := e.mu _ a (by
        show (ls.map (addr w))[ls.idxOf n]? = _
        rw [List.getElem?_map, hi]
        show some (addr w n) = _
        rw [addr_eq q1])
      refine ⟨hmu, ?_⟩
      have hc := h'.cell_at hmu
      rw [wb_in nd hi hc (by rw [← h.len]; exact (List.getElem?_eq_some_iff.mp q1).1)] at q2
      rw [hc, q2]
  · cases b1 : decide (n ∈ ls) with
    | false => rw [b1] at z1; cases z1
    | true =>
      cases b2 : decide (m ∈ ls) with
      | false => rw [b2] at z2; cases z2
      | true =>
        rw [b1] at z1
        rw [b2] at z2
        have z1 : ls.idxOf n = k := Option.some.inj z1
        have z2 : ls.idxOf m = k := Option.some.inj z2
        have h1 : ls[ls.idxOf n]? = some n := by rw [List.getElem?_eq_getElem (List.idxOf_lt_length_of_mem (of_decide_eq_true b1)), List.getElem_idxOf]
        have h2 : ls[ls.idxOf m]? = some m := by rw [List.getElem?_eq_getElem (List.idxOf_lt_length_of_mem (of_decide_eq_true b2)), List.getElem_idxOf]
        rw [z1] at h1; rw [z2] at h2
        exact Option.some.inj (h1.symm.trans h2)
/-- with a new cell -/
theorem HR0.back1 {ls : List Nat} {w' : Wd} {H' : Hp} {ms' : Ms} {j : Nat} {b : Addr} {d : Cell} (h : HR0 K Γ w H ms) (nd : ls.Nodup) (hl : ∀ n ∈ ls, ∃ a, w.mu[n]? = some a) (e : Ext (Fw.callW w H ms ls) w') (h' : HR0 K Γ w' H' ms')
    (hj : ls[j]? = none) (hb : w'.mu[j]? = some b) (hd : ms'[j]? = some d) : HR0 K Γ ⟨w'.F, w.P, w.mu ++ [b]⟩ H' (wb ls ms' ms ++ [d]) := by
  have nin : w.mu.length ∉ ls := fun z => by
    obtain ⟨a, q⟩ := hl _ z
    have := (List.getElem?_eq_some_iff.mp q).1
    omega
  have hjl : ls.length ≤ j := List.getElem?_eq_none_iff.mp hj
  have side : ∀ {n : Nat} {a : Addr} {c : Cell}, (w.mu ++ [b])[n]? = some a → (wb ls ms' ms ++ [d])[n]? = some c → (n < w.mu.length ∧ w.mu[n]? = some a ∧ (wb ls ms' ms)[n]? = some c) ∨ (n = w.mu.length ∧ a = b ∧ c = d) := fun {n a c} q1 q2 => by
    have l := wb_len ls ms' ms
    by_cases z : n < w.mu.length
    · rw [List.getElem?_append_left z] at q1
      rw [List.getElem?_append_left (by rw [l, ← h.len]; exact z)] at q2
      exact .inl ⟨z, q1, q2⟩
    · have lt := (List.getElem?_eq_some_iff.mp q1).1
      have : n = w.mu.length := by simp at lt; omega
      subst this
      rw [List.getElem?_append_right (Nat.le_refl _)] at q1
      rw [List.getElem?_append_right (by rw [l, ← h.len]; exact Nat.le_refl _)] at q2
      rw [l, ← h.len] at q2
      simp at q1 q2
      exact .inr ⟨rfl, q1.symm, q2.symm⟩
  refine h.back (ls := ls) (fun n => match decide (n ∈ ls) with
    | true => some (ls.idxOf n)
    | false => match Nat.beq n w.mu.length with
      | true => some j
      | false => none) e h' (by rw [List.length_append, List.length_append, wb_len, h.len]; rfl) (fun n a c q1 q2 z => ?_) (fun n k a c q1 q2 z => ?_) fun n m k ln lm z1 z2 => ?_
  · cases b1 : decide (n ∈ ls) with
    | true => rw [b1] at z; cases z
    | false =>
      rw [b1] at z
      dsimp only at z
      cases b2 : Nat.beq n w.mu.length with
      | true => rw [b2] at z; cases z
      | false =>
        have := of_decide_eq_false b1
        rcases side q1 q2 with ⟨_, r1, r2⟩ | ⟨rfl, _, _⟩
        · rw [wb_out this] at r2
          exact ⟨r1, r2, this⟩
        · rw [Nat.beq_refl] at b2; cases b2
  · cases b1 : decide (n ∈ ls) with
    | false =>
      rw [b1] at z
      dsimp only at z
      cases b2 : Nat.beq n w.mu.length with
      | false => rw [b2] at z; cases z
      | true =>
        rw [b2] at z
        cases z
        have : n = w.mu.length := Nat.eq_of_beq_eq_true b2
        rcases side q1 q2 with ⟨r0, _, _⟩ | ⟨_, rfl, rfl⟩
        · omega
        · exact ⟨hb, hd⟩
    | true =>
      rw [b1] at z
      cases z
      have hm := of_decide_eq_true b1
      have hi : ls[ls.idxOf n]? = some n := by rw [List.getElem?_eq_getElem (List.idxOf_lt_length_of_mem hm), List.getElem_idxOf]
      rcases side q1 q2 with ⟨_, r1, r2⟩ | ⟨rfl, _, _⟩
      · have hmu : w'.mu[ls.idxOf n]? = some a := e.mu _ a (by
          show (ls.map (addr w))[ls.idxOf n]? = _
          rw [List.getElem?_map, hi]
          show some (addr w n) = _
          rw [addr_eq r1])
        refine ⟨hmu, ?_⟩
        have hc := h'.cell_at hmu
        rw [wb_in nd hi hc (by rw [← h.len]; exact (List.getElem?_eq_some_iff.mp r1).1)] at r2
        rw [hc, r2]
      · exact absurd hm nin
  · have hin : ∀ {n : Nat}, n ∈ ls → ls[ls.idxOf n]? = some n := fun hm => by rw [List.getElem?_eq_getElem (List.idxOf_lt_length_of_mem hm), List.getElem_idxOf]
    cases b1 : decide (n ∈ ls) with
    | false =>
      rw [b1] at z1
      dsimp only at z1
      cases c1 : Nat.beq n w.mu.length with
      | false => rw [c1] at z1; cases z1
      | true =>
        rw [c1] at z1
        cases z1
        have e1 : n = w.mu.length := Nat.eq_of_beq_eq_true c1
        cases b2 : decide (m ∈ ls) with
        | true =>
          rw [b2] at z2
          have z2 : ls.idxOf m = j := Option.some.inj z2
          have := List.idxOf_lt_length_of_mem (of_decide_eq_true b2)
          omega
        | false =>
          rw [b2] at z2
          dsimp only at z2
          cases c2 : Nat.beq m w.mu.length with
          | false => rw [c2] at z2; cases z2
          | true => rw [e1, Nat.eq_of_beq_eq_true c2]
    | true =>
      rw [b1] at z1
      have z1 : ls.idxOf n = k := Option.some.inj z1
      have h1 := hin (of_decide_eq_true b1)
      have l1 := List.idxOf_lt_length_of_mem (of_decide_eq_true b1)
      cases b2 : decide (m ∈ ls) with
      | true =>
        rw [b2] at z2
        have z2 : ls.idxOf m = k := Option.some.inj z2
        have h2 := hin (of_decide_eq_true b2)
        rw [z1] at h1; rw [z2] at h2
        exact Option.some.inj (h1.symm.trans h2)
      | false =>
        rw [b2] at z2
        dsimp only at z2
        cases c2 : Nat.beq m w.mu.length with
        | false => rw [c2] at z2; cases z2
        | true =>
          rw [c2] at z2
          have z2 : j = k := Option.some.inj z2
          omega
end

/-! ### a def's promise -/
def okF (K : PySem.W.Frag) (Γ : G) (w : Wd) (Q : VK) : S → Ms → Prop := fun s ms' => ∀ w' H' v, Ext w w' → HR0 K Γ w' H' ms' → SR0 K Γ w' s v → Q v H'
def exF (K : PySem.W.Frag) (Γ : G) (w : Wd) (E : XK) : Nat → List D → Ms → Prop := fun c ds ms' => ∀ w' H' dd, Ext w w' → HR0 K Γ w' H' ms' → XD K Γ w'.F c ds dd → E (.ref (Γ.cls c)) dd H'
structure DF (P : Program) (w : World) (K : PySem.W.Frag) (mg : Str → Option Value) (base : Heap) (Γ : G) (k : Nat) (f : Addr) (fd : FuncData) (ps : List Str) (sem : List S → Ms → R S) : Prop where
  run : ∀ (A : Around) (outer : List PySem.Env) (s : Shared) (H : Hp) (args : Args) (us : List Value) (vs : List V) (ss : List S) (ms : Ms) (wd : Wd) (Q : VK) (E : XK), Room k A → A.guards = some [] → Env0 P w K mg base A outer s H →
    BindsTo s fd args (ps.zip us) → Vals vs us → vs.length = ps.length → HR0 K Γ wd H ms → SRs0 K Γ wd ss vs → (sem ss ms).post (okF K Γ wd Q) (exF K Γ wd E) →
    codeAny (model P w) A (.call (.ref f) args) (L2.CR (CX P w) outer P w H s Q E) s
theorem DF.mono {P : Program} {w : World} {K : PySem.W.Frag} {mg : Str → Option Value} {base : Heap} {Γ : G} {j k : Nat} {f : Addr} {fd : FuncData} {ps : List Str} {sem : List S → Ms → R S} (h : DF P w K mg base Γ j f fd ps sem) (l : j ≤ k) : DF P w K mg base Γ k f fd ps sem :=
  ⟨fun A outer s H args us vs ss ms wd Q E hr => h.run A outer s H args us vs ss ms wd Q E (hr.mono l)⟩

/-- where a body stands -/
structure CyOk (Y : Cy) (k : Nat) : Prop where
  hr : Room k Y.X.A
  gd : Y.X.A.guards = some []
  tk : Takes Y.X Y.W
  own : PassesOwn (model Y.X.prog Y.X.w) Y.X.A Y.X.env Y.X.xe
  calm : Y.X.calm = true
  nd : Y.X.N.Nodup
/-- a def's own body: not a block within it -/
structure DefOk (Y : Cy) : Prop where
  stk : Y.X.stack = Y.X.env :: Y.X.outer
  frm : Y.X.env.frame = some Y.X.env.locals
def fnCy (P : Program) (w : World) (K : PySem.W.Frag) (mg : Str → Option Value) (base : Heap) (Γ : G) (N : List Str) (qual : Str) (scope : Scope) (f : Addr) (cd : Value) (A : Around) (outer : List PySem.Env) (s : Shared) (H : Hp) (E : XK) : Cy :=
  ⟨cxOf (CX P w) P w K mg base N qual scope f cd A outer s H E, Γ, fun cls d _ H => E cls d H, 0, none, .none⟩
section
variable {P : Program} {w : World} {K : PySem.W.Frag} {mg : Str → Option Value} {base : Heap} {Γ : G} {x qual : Str} {params : Arguments} {body : List Stmt} {scope : Scope} {dvs : List V} {kws : List (Str × V)} {f : Addr} {fd : FuncData} {N ps : List Str} {k : Nat}
theorem start_rel {Y : Cy} {wd : Wd} {n : Nat} {ss : List S} {vs : List V} (h : SRs0 Y.X.K Y.Γ wd ss vs) (hn : N.length = n) : ER Y wd (L2.start N vs) (start0 n ss) := by
  have l := Paired.length h
  refine ⟨by unfold L2.start start0; simp [l, hn], fun i s e => ?_⟩
  unfold start0 at e
  by_cases z : i < ss.length
  · rw [List.getElem?_append_left (by simpa using z), List.getElem?_map] at e
    cases q : ss[i]? with
    | none => rw [q] at e; cases e
    | some s' =>
      rw [q] at e
      cases e
      obtain ⟨v, hv, r⟩ := SRs.get (Y := Y) h.up q
      refine ⟨v, ?_, r⟩
      unfold L2.start
      rw [List.getElem?_append_left (by rw [List.length_map, ← l]; exact z), List.getElem?_map, hv]
      rfl
  · rw [List.getElem?_append_right (by simpa using z), List.getElem?_replicate] at e
    split at e <;> cases e
/-- THE RULE for a def -/
theorem d_fn {n : Nat} {m : Env → Ms → T} (F : FunD K x qual params body scope dvs kws f fd) (Sc : FnScope N ps scope) (hn : N.length = n)
    (hb : ∀ (cd : Value) (A : Around) (outer : List PySem.Env) (s : Shared) (H : Hp) (E : XK), CyOk (fnCy P w K mg base Γ N qual scope f cd A outer s H E) k → DefOk (fnCy P w K mg base Γ N qual scope f cd A outer s H E) → DSs (fnCy P w K mg base Γ N qual scope f cd A outer s H E) body m) :
    DF P w K mg base Γ (k + 1) f fd ps (fnSem n m) := by
  obtain ⟨oc, od, dV, kV, doc, pm, an, cd, ct, osl, rfl, lk, hcd, _, _⟩ := F.ex
  refine ⟨fun A outer s H args us vs ss ms wd Q E hr hg e0 hbd rv hl hh hs hp => ?_⟩
  have inK : K.In s.heap := e0.mod.kin.keeps fun b o e => (e0.bs b o e).1
  refine codeAny_call_function hr.depth (inK _ _ lk) rfl Sc.co Sc.gen rfl (PySem.W.codeRec_of inK hcd) (hbd _ _ _ _ ?_)
  have kinds : ∀ y ∈ ps.zip us, scope.names.lookup y.1 = some .local ∨ (scope.names.lookup y.1 = some .cell ∧ ((cellsFrom (s.heap.objs.size + 1) scope.names []).lookup y.1).isSome = true) := by
    rintro ⟨n1, v1⟩ hy
    exact (Sc.par n1 (List.of_mem_zip hy).1).imp id fun q => ⟨q, PySem.W.cellsFrom_some _ _ _ (.inl q)⟩
  refine wpAny_newFunctionEnv_cells Sc.kind kinds fun env he s1 hx => ?_
  subst he
  have lim : s.heap.NoLimit := e0.mod.nolimit.keeps fun b o e => (e0.bs b o e).1
  refine ⟨lim.keeps hx.toInCall.keep, codeAny_func ?_⟩
  have nd : N.Nodup := Sc.nd
  have ok : CyOk (fnCy P w K mg base Γ N qual scope f cd A outer s H E) k :=
    ⟨hr.deeper _, hg, takes_of rfl rfl rfl rfl, PassesOwn.leaving, rfl, nd⟩
  obtain ⟨t, pt, st⟩ := (hb cd A outer s H E ok ⟨rfl, rfl⟩).ex
  have I0 : Inv (fnCy P w K mg base Γ N qual scope f cd A outer s H E).X [] (L2.start N vs) H s1 := inv_start Sc hr.hd e0 hl rv hx
  have er : ER (fnCy P w K mg base Γ N qual scope f cd A outer s H E) wd (L2.start N vs) (start0 n ss) := start_rel hs hn
  have ends : ∀ (s' : S) (ms' : Ms), (endS s' ms').post (okF K Γ wd Q) (exF K Γ wd E) → okP (fnCy P w K mg base Γ N qual scope f cd A outer s H E) wd Q s' ms' := by
    intro s' ms' h w' H' v e' hr' sv
    unfold endS at h
    cases nx : s'.noX with
    | false => rw [nx] at h; exact h.elim
    | true =>
      rw [nx] at h
      exact h w' H' v e' hr' (sv.down nx)
  have hq : t { nx := fun _ H' => Q .non H', rt := Q } (L2.start N vs) H := by
    refine st wd _ H _ ms _ er hh ?_
    unfold fnSem at hp
    cases hm : m (start0 n ss) ms with
    | nx e ms' =>
      rw [hm] at hp
      exact fun w' H' σ' e' hr' er' => hp w' H' .non e' hr' rfl
    | rt s' ms' =>
      rw [hm] at hp
      exact ends _ _ hp
    | bk e ms' => rw [hm] at hp; exact hp.elim
    | ct e ms' => rw [hm] at hp; exact hp.elim
    | ex c ds e ms' =>
      rw [hm] at hp
      exact fun w' H' σ' dd e' hr' er' xd => hp w' H' dd e' hr' xd
    | bad => rw [hm] at hp; exact hp.elim
  refine wpAny_mono (pt.run [] s1 (L2.start N vs) H _ I0 hq) (fun fl s' hfl => ?_) fun e s' he => he
  cases fl with
  | next =>
    obtain ⟨σ', H', J, q⟩ := hfl
    exact ⟨V.non, H', J.os, J.bare, J.base, J.hok, rfl, q⟩
  | ret u =>
    obtain ⟨v, σ', H', J, r, q⟩ := hfl
    exact ⟨v, H', J.os, J.bare, J.base, J.hok, r, q⟩
  | brk => obtain ⟨_, _, _, q⟩ := hfl; exact q.elim
  | cont => obtain ⟨_, _, _, q⟩ := hfl; exact q.elim
end

/-! ### calls -/
section
variable {Y : Cy} {j k : Nat} {f : Addr} {fd : FuncData} {ps : List Str} {sem : List S → Ms → R S} {x : Str} {p pos : Pos} {e : Expr} {es : List Expr} {ma : Env → Ms → R (List S)}
abbrev DFY (Y : Cy) (j : Nat) (f : Addr) (fd : FuncData) (ps : List Str) (sem : List S → Ms → R S) : Prop := DF Y.X.prog Y.X.w Y.X.K Y.X.mg Y.X.base Y.Γ j f fd ps sem
/-- the callee's ends are the caller's -/
theorem call_post {w : Wd} {H : Hp} {ms : Ms} {ss : List S} {vs : List V} {σ : L2.St} {Q : VK} (hr : HR Y w H ms) (sv : SRs Y w ss vs) (h : (callSem sem ss ms).post (okP Y w Q) (exP Y w σ)) :
    ∃ wc mc sc, HR0 Y.X.K Y.Γ wc H mc ∧ SRs0 Y.X.K Y.Γ wc sc vs ∧ (sem sc mc).post (okF Y.X.K Y.Γ wc Q) (exF Y.X.K Y.Γ wc fun cls d H' => Y.W cls d σ H') := by
  unfold callSem at h
  cases b : (ss.all S.noX && nodupB (locsOf ss)) with
  | false => rw [b] at h; exact h.elim
  | true =>
    rw [b] at h
    dsimp only at h
    obtain ⟨nx, nd⟩ := Bool.and_eq_true_iff.mp b
    have nd := nodupB_ok nd
    have s0 := sv.down nx
    have hl := locs_lt s0
    refine ⟨callW w H ms (locsOf ss), _, _, hr.callW nd hl, renSs_rel s0 (fun n e => mem_of_locs e), ?_⟩
    cases hs : sem (ss.map (renS (locsOf ss))) ((locsOf ss).map (getC ms)) with
    | bad => rw [hs] at h; exact h.elim
    | ex c ds ms' =>
      rw [hs] at h
      intro w' H' dd e' hr' xd
      exact h ⟨w'.F, w.P, w.mu⟩ H' dd ⟨e'.F, fun _ _ z => z, rfl⟩ (hr.back0 nd hl e' hr') xd
    | ok s ms' =>
      rw [hs] at h
      intro w' H' v e' hr' sv'
      unfold callEnd at h
      cases s with
      | exn c ds => exact sv'.elim
      | d x => exact h ⟨w'.F, w.P, w.mu⟩ H' v ⟨e'.F, fun _ _ z => z, rfl⟩ (hr.back0 nd hl e' hr') sv'
      | loc j =>
        dsimp only at h
        obtain ⟨a, ha, rfl⟩ := sv'
        cases hj : (locsOf ss)[j]? with
        | some n =>
          rw [hj] at h
          refine h ⟨w'.F, w.P, w.mu⟩ H' _ ⟨e'.F, fun _ _ z => z, rfl⟩ (hr.back0 nd hl e' hr') ⟨a, ?_, rfl⟩
          obtain ⟨b, hb⟩ := hl n (List.mem_of_getElem? hj)
          have : w'.mu[j]? = some b := e'.mu j b (by
            show ((locsOf ss).map (addr w))[j]? = _
            rw [List.getElem?_map, hj]
            show some (addr w n) = _
            rw [addr_eq hb])
          rw [ha] at this
          cases this
          exact hb
        | none =>
          rw [hj] at h
          dsimp only at h
          cases hc : ms'[j]? with
          | none => rw [hc] at h; exact h.elim
          | some c =>
            rw [hc] at h
            refine h ⟨w'.F, w.P, w.mu ++ [a]⟩ H' _ ⟨e'.F, fun n b z => ?_, rfl⟩ (hr.back1 nd hl e' hr' hj ha hc) ⟨a, ?_, rfl⟩
            · show (w.mu ++ [a])[n]? = some b
              rw [List.getElem?_append_left (List.getElem?_eq_some_iff.mp z).1]
              exact z
            · show (w.mu ++ [a])[ms.length]? = some a
              rw [← hr.len]; simp
/-- a call's end, in the caller -/
def CalR (Y : Cy) (pins : List (Addr × Obj)) (σ : L2.St) (Q : VK) (r : Result) (s' : Shared) : Prop := match r with
  | .ok (.ret u) => EP Y.X pins σ Q u s'
  | .ok _ => False
  | .error e => Y.X.xe e s'
/-- the callee runs -/
theorem code_df {pins : List (Addr × Obj)} {σ : L2.St} {H : Hp} {s : Shared} {w : Wd} {Q : VK} {us ws : List Value} {vs : List V} {ss : List S} {ms : Ms} {kw : List (Str × Value)} (ok : CyOk Y k) (F : DFY Y j f fd ps sem) (hj : j ≤ k) (hb : BindsTo s fd ⟨us, kw⟩ (ps.zip ws)) (hl : vs.length = ps.length)
    (I : Inv Y.X pins σ H s) (r : Vals vs ws) (hr : HR Y w H ms) (sv : SRs Y w ss vs) (h : (callSem sem ss ms).post (okP Y w Q) (exP Y w σ)) : codeAny (model Y.X.prog Y.X.w) Y.X.A (.call (.ref f) ⟨us, kw⟩) (CalR Y pins σ Q) s := by
  obtain ⟨wc, mc, sc, hr1, s1, h2⟩ := call_post hr sv h
  refine codeAny_mono (F.run Y.X.A Y.X.stack s H ⟨us, kw⟩ ws vs sc mc wc Q _ (ok.hr.mono hj) ok.gd I.env0 hb r hl hr1 s1 h2) fun res s' hq => ?_
  cases res with
  | error er => exact ok.tk er s' (XE.of_call I (fun _ _ _ z => z) hq)
  | ok fl =>
    cases fl with
    | ret u => exact I.after hq
    | next => exact False.elim hq
    | brk => exact False.elim hq
    | cont => exact False.elim hq
theorem Binds.all {K : PySem.W.Frag} {s : Shared} {us : List Value} {vs : List V} (hb : Binds K fd ps []) (hk : K.In s.heap) (r : Vals vs us) (hl : vs.length = ps.length) : BindsTo s fd ⟨us, []⟩ (ps.zip us) := by
  have bt := hb s us hk (by rw [List.append_nil, ← r.length]; exact hl)
  rw [List.append_nil] at bt
  exact bt
end
end Fw
set_option Elab.async false
set_option linter.all false
set_option maxRecDepth 100000
set_option maxHeartbeats 4000000
/-! Fw6: operators and built-ins by data. -/
namespace Fw
open PySem L2 PySem.Spec PyProof.Rows

section
variable {Y : Cy} {w w1 w2 : Wd} {σ : L2.St} {H H1 H2 : Hp} {env : Env} {ms ms1 ms2 : Ms} {k : Nat}

/-- two ints (a bool counts as an int where f says so) -/
def asI : S → Option Int
  | .d (.int i) => some i
  | .d (.bl b) => some (b2i b)
  | _ => none
def gII (C : Int → Int → Bool) (f : Int → Int → D) : S → S → Ms → R S := fun x y ms => match x, y with
  | .d (.int i), .d (.int j) => match C i j with
    | true => .ok (.d (f i j)) ms
    | false => .bad
  | _, _ => .bad
theorem gII_ne {C : Int → Int → Bool} {f : Int → Int → D} : ∀ x y ms c ds ms', gII C f x y ms ≠ .ex c ds ms' := by
  intro x y ms c ds ms' h
  unfold gII at h
  split at h
  · split at h <;> cases h
  · cases h
theorem gII_inv {C : Int → Int → Bool} {f : Int → Int → D} {x y : S} {P : S → Ms → Prop} {E : Nat → List D → Ms → Prop} (h : (gII C f x y ms).post P E) : ∃ i j, x = .d (.int i) ∧ y = .d (.int j) ∧ C i j = true ∧ P (.d (f i j)) ms := by
  unfold gII at h
  split at h
  · rename_i i j
    cases hc : C i j with
    | false => rw [hc] at h; exact h.elim
    | true => rw [hc] at h; exact ⟨i, j, rfl, rfl, hc, h⟩
  · exact h.elim
def flatD : D → Bool
  | .int _ => true
  | .bl _ => true
  | .str _ => true
  | .non => true
  | _ => false
def flatOf : D → V
  | .int i => .int i
  | .bl b => .bl b
  | .str x => .str x
  | _ => .non
theorem flat_rel {K : PySem.W.Frag} {Γ : G} {F : Hp} {d : D} {v : V} (h : flatD d = true) : DR K Γ F d v ↔ v = flatOf d := by
  cases d <;> first | exact Iff.rfl | cases h
theorem snd_I {C : Int → Int → Prop} {Cb : Int → Int → Bool} {g : Int → Int → V} {f : Int → Int → D} (hC : ∀ i j, Cb i j = true → C i j) (hf : ∀ i j, flatD (f i j) = true ∧ flatOf (f i j) = g i j) : SndR2 Y (rI C g) (gII Cb f) := by
  intro w H ms x y u v Q hr sx sy h
  obtain ⟨i, j, rfl, rfl, hc, q⟩ := gII_inv h
  cases sx
  cases sy
  exact ⟨i, j, rfl, rfl, hC i j hc, q.at (Ext.refl w) hr (by show DR _ _ _ _ _; rw [flat_rel (hf i j).1, (hf i j).2])⟩
theorem snd_I0 {Cb : Int → Int → Bool} {g : Int → Int → V} {f : Int → Int → D} (hf : ∀ i j, flatD (f i j) = true ∧ flatOf (f i j) = g i j) : SndR2 Y (rI0 g) (gII Cb f) := by
  intro w H ms x y u v Q hr sx sy h
  obtain ⟨i, j, rfl, rfl, hc, q⟩ := gII_inv h
  cases sx
  cases sy
  exact ⟨i, j, rfl, rfl, q.at (Ext.refl w) hr (by show DR _ _ _ _ _; rw [flat_rel (hf i j).1, (hf i j).2])⟩
def gOr (g g' : S → S → Ms → R S) : S → S → Ms → R S := fun x y ms => match g x y ms with
  | .bad => g' x y ms
  | r => r
theorem gOr_ne {g g' : S → S → Ms → R S} (h : ∀ x y ms c ds ms', g x y ms ≠ .ex c ds ms') (h' : ∀ x y ms c ds ms', g' x y ms ≠ .ex c ds ms') : ∀ x y ms c ds ms', gOr g g' x y ms ≠ .ex c ds ms' := by
  intro x y ms c ds ms' e
  unfold gOr at e
  split at e
  · exact h' _ _ _ _ _ _ e
  · exact h _ _ _ _ _ _ e
theorem snd_or {r r' : R2} {g g' : S → S → Ms → R S} (h : SndR2 Y r g) (h' : SndR2 Y r' g') : SndR2 Y (fun x y H Q => r x y H Q ∨ r' x y H Q) (gOr g g') := by
  intro w H ms x y u v Q hr sx sy q
  unfold gOr at q
  split at q
  · exact .inr (h' w H ms x y u v Q hr sx sy q)
  · exact .inl (h w H ms x y u v Q hr sx sy q)
/-- one rule of an operator: its reading, what it computes -/
structure OpD (Y : Cy) (f : Value → Value → Sem Value) (g : S → S → Ms → R S) : Prop where
  ex : ∃ r, OpR Y.X f r ∧ SndR2 Y r g
  ne : ∀ x y ms c ds ms', g x y ms ≠ .ex c ds ms'
theorem OpD.or {f : Value → Value → Sem Value} {g g' : S → S → Ms → R S} (h : OpD Y f g) (h' : OpD Y f g') : OpD Y f (gOr g g') :=
  let ⟨r, p, s⟩ := h.ex
  let ⟨r', p', s'⟩ := h'.ex
  ⟨⟨_, p.or p', snd_or s s'⟩, gOr_ne h.ne h'.ne⟩
theorem e_bin {op : Operator} {g : S → S → Ms → R S} {a b : Expr} {ma mb : Env → Ms → R S} {pos : Pos} (h : OpD Y (binaryOp op) g) (ha : DE Y a ma) (hb : DE Y b mb) : DE Y (.BinOp a op b pos) (mOp g ma mb) :=
  let ⟨r, p, s⟩ := h.ex
  e_op p h.ne s ha hb
theorem e_cmp1 {op : CmpOp} {g : S → S → Ms → R S} {a b : Expr} {ma mb : Env → Ms → R S} {pos : Pos} (h : OpD Y (compareOp op) g) (ha : DE Y a ma) (hb : DE Y b mb) (hm : behindInMarks op b = false) : DE Y (.Compare a [op] [b] pos) (mOp g ma mb) :=
  let ⟨r, p, s⟩ := h.ex
  e_cmp p h.ne s ha hb hm
theorem t_cmp1 {op : CmpOp} {g : S → S → Ms → R S} {a b : Expr} {ma mb : Env → Ms → R S} {pos : Pos} (h : OpD Y (compareOp op) g) (ha : DE Y a ma) (hb : DE Y b mb) (hm : behindInMarks op b = false) : DT Y (.Compare a [op] [b] pos) (mB (mOp g ma mb)) :=
  let ⟨r, p, s⟩ := h.ex
  t_cmp p h.ne s ha hb hm

/-! ### arithmetic -/
def yes2 : Int → Int → Bool := fun _ _ => true
def gAddI := gII yes2 fun i j => .int (i + j)
def gSubI := gII yes2 fun i j => .int (i - j)
def cMul (i j : Int) : Bool := decide (-(2 ^ 64) < i ∧ i < 2 ^ 64) || decide (-(2 ^ 64) < j ∧ j < 2 ^ 64)
def gMulI := gII cMul fun i j => .int (i * j)
def cMod (_ j : Int) : Bool := decide (0 < j)
def gModI := gII cMod fun i j => .int (i % j)
def cDiv (_ j : Int) : Bool := decide (0 < j ∧ j < 2 ^ 64)
def gDivI := gII cDiv fun i j => .int (i / j)
def cPow (i j : Int) : Bool := decide (0 ≤ j ∧ j ≤ 1000 ∧ i.natAbs < 2 ^ 64)
def gPowI := gII cPow fun i j => .int (i ^ j.toNat)
theorem o_addI : OpD Y (binaryOp .Add) gAddI := ⟨⟨_, op_add, snd_I0 fun _ _ => ⟨rfl, rfl⟩⟩, gII_ne⟩
theorem o_subI : OpD Y (binaryOp .Sub) gSubI := ⟨⟨_, op_sub, snd_I0 fun _ _ => ⟨rfl, rfl⟩⟩, gII_ne⟩
theorem o_mulI : OpD Y (binaryOp .Mult) gMulI := ⟨⟨_, op_mul, snd_I (fun i j h => (Bool.or_eq_true_iff.mp h).imp of_decide_eq_true of_decide_eq_true) fun _ _ => ⟨rfl, rfl⟩⟩, gII_ne⟩
theorem o_modI : OpD Y (binaryOp .Mod) gModI := ⟨⟨_, op_mod, snd_I (fun i j h => of_decide_eq_true h) fun _ _ => ⟨rfl, rfl⟩⟩, gII_ne⟩
theorem o_divI : OpD Y (binaryOp .FloorDiv) gDivI := ⟨⟨_, op_fdivW, snd_I (fun i j h => by
  have := of_decide_eq_true h
  exact wide_div (b := 64) this.1 (by omega) (by decide) (by decide)) fun _ _ => ⟨rfl, rfl⟩⟩, gII_ne⟩
theorem o_powI : OpD Y (binaryOp .Pow) gPowI := ⟨⟨_, op_pow, snd_I (fun i j h => by
  have := of_decide_eq_true h
  exact ⟨this.1, by omega, this.2.2⟩) fun _ _ => ⟨rfl, rfl⟩⟩, gII_ne⟩
/-- texts -/
def gAddS : S → S → Ms → R S := fun x y ms => match x, y with
  | .d (.str a), .d (.str b) => match few (a.length + b.length) with
    | true => .ok (.d (.str (a ++ b))) ms
    | false => .bad
  | _, _ => .bad
theorem o_addS : OpD Y (binaryOp .Add) gAddS := by
  refine ⟨⟨_, op_add_str, fun w H ms x y u v Q hr sx sy h => ?_⟩, fun x y ms c ds ms' h => ?_⟩
  · unfold gAddS at h
    split at h
    · rename_i a b
      cases f : few (a.length + b.length) with
      | false => rw [f] at h; exact h.elim
      | true =>
        rw [f] at h
        cases sx
        cases sy
        exact ⟨a, b, rfl, rfl, few_ok f, h.at (Ext.refl w) hr rfl⟩
    · exact h.elim
  · unfold gAddS at h
    split at h
    · split at h <;> cases h
    · cases h
/-- frozen lists, tuples -/
def gAddL : S → S → Ms → R S := fun x y ms => match x, y with
  | .d (.lst a), .d (.lst b) => match few (a.length + b.length) with
    | true => .ok (.d (.lst (a ++ b))) ms
    | false => .bad
  | _, _ => .bad
theorem o_addL : OpD Y (binaryOp .Add) gAddL := by
  refine ⟨⟨_, op_cat, fun w H ms x y u v Q hr sx sy h => ?_⟩, fun x y ms c ds ms' h => ?_⟩
  · unfold gAddL at h
    split at h
    · rename_i a b
      cases f : few (a.length + b.length) with
      | false => rw [f] at h; exact h.elim
      | true =>
        rw [f] at h
        obtain ⟨p, xs, rfl, e1, r1⟩ := sx
        obtain ⟨q, ys, rfl, e2, r2⟩ := sy
        refine ⟨p, q, xs, ys, rfl, rfl, hr.sub _ _ e1, hr.sub _ _ e2, by rw [← DRs.length r1, ← DRs.length r2]; exact few_ok f, fun l hl => ?_⟩
        obtain ⟨hr2, e⟩ := hr.froz (o := .lst (xs ++ ys)) hl
        exact h.at e hr2 ⟨l, _, rfl, upd_same, DRs.mono e.1 _ _ (DRs.append r1 r2)⟩
    · exact h.elim
  · unfold gAddL at h
    split at h
    · split at h <;> cases h
    · cases h
def gAddT : S → S → Ms → R S := fun x y ms => match x, y with
  | .d (.tup a), .d (.tup b) => match few (a.length + b.length) with
    | true => .ok (.d (.tup (a ++ b))) ms
    | false => .bad
  | _, _ => .bad
theorem o_addT : OpD Y (binaryOp .Add) gAddT := by
  refine ⟨⟨_, op_catA, fun w H ms x y u v Q hr sx sy h => ?_⟩, fun x y ms c ds ms' h => ?_⟩
  · unfold gAddT at h
    split at h
    · rename_i a b
      cases f : few (a.length + b.length) with
      | false => rw [f] at h; exact h.elim
      | true =>
        rw [f] at h
        obtain ⟨p, xs, rfl, e1, r1⟩ := sx
        obtain ⟨q, ys, rfl, e2, r2⟩ := sy
        refine ⟨p, q, xs, ys, rfl, rfl, sqT_mono e1 hr.sub, sqT_mono e2 hr.sub, by rw [← DRs.length r1, ← DRs.length r2]; exact few_ok f, fun z => ?_, fun _ z => ?_, fun _ _ l hl => ?_⟩
        · subst z
          have : a = [] := List.eq_nil_of_length_eq_zero (DRs.length r1)
          subst this
          exact h.at (Ext.refl w) hr ⟨q, ys, rfl, e2, r2⟩
        · subst z
          have : b = [] := List.eq_nil_of_length_eq_zero (DRs.length r2)
          subst this
          rw [List.append_nil] at h
          exact h.at (Ext.refl w) hr ⟨p, xs, rfl, e1, r1⟩
        · obtain ⟨hr2, e⟩ := hr.froz (o := .tup (xs ++ ys)) hl
          exact h.at e hr2 ⟨l, _, rfl, SqT.of upd_same, DRs.mono e.1 _ _ (DRs.append r1 r2)⟩
    · exact h.elim
  · unfold gAddT at h
    split at h
    · split at h <;> cases h
    · cases h
def gAdd := gOr gAddI (gOr gAddS (gOr gAddL gAddT))
theorem o_add : OpD Y (binaryOp .Add) gAdd := o_addI.or (o_addS.or (o_addL.or o_addT))
/-- a text some times -/
def strMul (x : Str) (n : Int) : Str := Txt.mul x n
def gMulS : S → S → Ms → R S := fun x y ms => match x, y with
  | .d (.str a), .d (.int n) => match decide (a.length ≤ 1000 ∧ -1000 ≤ n ∧ n ≤ 1000) with
    | true => .ok (.d (.str (strMul a n))) ms
    | false => .bad
  | _, _ => .bad
theorem mulOk_small {x : Str} {n : Int} (h : x.length ≤ 1000 ∧ -1000 ≤ n ∧ n ≤ 1000) : MulOk x n := by
  obtain ⟨h1, h2, h3⟩ := h
  refine ⟨?_, fun z _ => ?_, fun z _ => ?_⟩
  · have a1 : ¬ n < -(2 ^ 63 : Int) := by omega
    have a2 : ¬ n ≥ 2 ^ 63 := by omega
    rw [decide_eq_false a1, decide_eq_false a2]; rfl
  · have hn : 0 < n := by omega
    have : (1000 : Int) ≤ (2 ^ 63 - 1) / n := by
      rw [Int.le_ediv_iff_mul_le hn]
      have : (1000 : Int) * n ≤ 1000 * 1000 := Int.mul_le_mul_of_nonneg_left h3 (by decide)
      omega
    omega
  · have : x.length * n.toNat ≤ 1000 * 1000 := Nat.mul_le_mul h1 (by omega)
    show decide (_ > sizeLine) = false
    have e := sizeLine_eq
    simp only [decide_eq_false_iff_not]
    omega
theorem op_mul_str : OpR Y.X (binaryOp .Mult) (fun x y H Q => ∃ a n, x = .str a ∧ y = .int n ∧ (a.length ≤ 1000 ∧ -1000 ≤ n ∧ n ≤ 1000) ∧ Q (.str (strMul a n)) H) := by
  intro pins s σ H x y v u Q I rx ry h
  obtain ⟨a, n, rfl, rfl, hz, q⟩ := h
  obtain ⟨t, rfl⟩ := rx
  obtain ⟨t', rfl⟩ := ry
  exact SB.mul (mulOk_small hz) fun t k => ⟨.str _, H, I.tok _, ⟨_, rfl⟩, q⟩
theorem o_mulS : OpD Y (binaryOp .Mult) gMulS := by
  refine ⟨⟨_, op_mul_str, fun w H ms x y u v Q hr sx sy h => ?_⟩, fun x y ms c ds ms' h => ?_⟩
  · unfold gMulS at h
    split at h
    · rename_i a b
      cases f : decide (a.length ≤ 1000 ∧ -1000 ≤ b ∧ b ≤ 1000) with
      | false => rw [f] at h; exact h.elim
      | true =>
        rw [f] at h
        cases sx
        cases sy
        exact ⟨a, b, rfl, rfl, of_decide_eq_true f, h.at (Ext.refl w) hr rfl⟩
    · exact h.elim
  · unfold gMulS at h
    split at h
    · split at h <;> cases h
    · cases h
def gMul := gOr gMulI gMulS
theorem o_mul : OpD Y (binaryOp .Mult) gMul := o_mulI.or o_mulS
end
end Fw
set_option Elab.async false
set_option linter.all false
set_option maxRecDepth 100000
set_option maxHeartbeats 4000000
/-! Fw7: comparisons. -/
namespace Fw
open PySem L2 PySem.Spec PyProof.Rows SeqAt

/-! ### an int beside a bool -/
section
variable {prog : Program} {w : World} {A : Around} {E : Value → Shared → Prop} {s : Shared} {a b : Bool} {n : Int} {u : Tok} {Q : Value → Shared → Prop}
theorem gives_lt_bi (a : Bool) (n : Int) (u : Tok) : Gives (Builtin.«int.__lt__» ⟨[.bool a, .int n u], []⟩) (.val (Value.bool (decide (b2i a < n)))) :=
  .of_wp fun M A E s Q h => by obtain ⟨hp, g, d, tk, os⟩ := s; wp_walk; exact ⟨_, rfl, h⟩
theorem gives_le_bi (a : Bool) (n : Int) (u : Tok) : Gives (Builtin.«int.__le__» ⟨[.bool a, .int n u], []⟩) (.val (Value.bool (decide (b2i a ≤ n)))) :=
  .of_wp fun M A E s Q h => by obtain ⟨hp, g, d, tk, os⟩ := s; wp_walk; exact ⟨_, rfl, h⟩
theorem gives_gt_bi (a : Bool) (n : Int) (u : Tok) : Gives (Builtin.«int.__gt__» ⟨[.bool a, .int n u], []⟩) (.val (Value.bool (decide (b2i a > n)))) :=
  .of_wp fun M A E s Q h => by obtain ⟨hp, g, d, tk, os⟩ := s; wp_walk; exact ⟨_, rfl, h⟩
theorem gives_ge_bi (a : Bool) (n : Int) (u : Tok) : Gives (Builtin.«int.__ge__» ⟨[.bool a, .int n u], []⟩) (.val (Value.bool (decide (b2i a ≥ n)))) :=
  .of_wp fun M A E s Q h => by obtain ⟨hp, g, d, tk, os⟩ := s; wp_walk; exact ⟨_, rfl, h⟩
theorem lt_bi (h : Q (.bool (decide (b2i a < n))) s) : wpAny (model prog w) A (compareOp .Lt (.bool a) (.int n u)) Q E s :=
  rc_left_or (op := .Lt) rfl (typeIs_int s n u) (by decide) F.sub_int_bool F.slot_bool_lt (call_gives F.slot_bool_lt rfl F.entry_int_lt (F.args_int_lt_2 _ _) (gives_lt_bi a n u) ⟨nofun, h⟩) (.inl rfl)
theorem le_bi (h : Q (.bool (decide (b2i a ≤ n))) s) : wpAny (model prog w) A (compareOp .LtE (.bool a) (.int n u)) Q E s :=
  rc_left_or (op := .LtE) rfl (typeIs_int s n u) (by decide) F.sub_int_bool F.slot_bool_le (call_gives F.slot_bool_le rfl F.entry_int_le (F.args_int_le_2 _ _) (gives_le_bi a n u) ⟨nofun, h⟩) (.inl rfl)
theorem gt_bi (h : Q (.bool (decide (b2i a > n))) s) : wpAny (model prog w) A (compareOp .Gt (.bool a) (.int n u)) Q E s :=
  rc_left_or (op := .Gt) rfl (typeIs_int s n u) (by decide) F.sub_int_bool F.slot_bool_gt (call_gives F.slot_bool_gt rfl F.entry_int_gt (F.args_int_gt_2 _ _) (gives_gt_bi a n u) ⟨nofun, h⟩) (.inl rfl)
theorem ge_bi (h : Q (.bool (decide (b2i a ≥ n))) s) : wpAny (model prog w) A (compareOp .GtE (.bool a) (.int n u)) Q E s :=
  rc_left_or (op := .GtE) rfl (typeIs_int s n u) (by decide) F.sub_int_bool F.slot_bool_ge (call_gives F.slot_bool_ge rfl F.entry_int_ge (F.args_int_ge_2 _ _) (gives_ge_bi a n u) ⟨nofun, h⟩) (.inl rfl)
theorem lt_ib (h : Q (.bool (decide (n < b2i a))) s) : wpAny (model prog w) A (compareOp .Lt (.int n u) (.bool a)) Q E s :=
  rc_sub_first_or (op := .Lt) (typeIs_int s n u) rfl (by decide) F.sub_bool_int F.slot_bool_gt_refl (call_gives F.slot_bool_gt_refl rfl F.entry_int_gt (F.args_int_gt_2 _ _) (gives_gt_bi a n u) ⟨nofun, h⟩) (.inl rfl)
theorem le_ib (h : Q (.bool (decide (n ≤ b2i a))) s) : wpAny (model prog w) A (compareOp .LtE (.int n u) (.bool a)) Q E s :=
  rc_sub_first_or (op := .LtE) (typeIs_int s n u) rfl (by decide) F.sub_bool_int F.slot_bool_ge_refl (call_gives F.slot_bool_ge_refl rfl F.entry_int_ge (F.args_int_ge_2 _ _) (gives_ge_bi a n u) ⟨nofun, h⟩) (.inl rfl)
theorem gt_ib (h : Q (.bool (decide (n > b2i a))) s) : wpAny (model prog w) A (compareOp .Gt (.int n u) (.bool a)) Q E s :=
  rc_sub_first_or (op := .Gt) (typeIs_int s n u) rfl (by decide) F.sub_bool_int F.slot_bool_lt_refl (call_gives F.slot_bool_lt_refl rfl F.entry_int_lt (F.args_int_lt_2 _ _) (gives_lt_bi a n u) ⟨nofun, h⟩) (.inl rfl)
theorem ge_ib (h : Q (.bool (decide (n ≥ b2i a))) s) : wpAny (model prog w) A (compareOp .GtE (.int n u) (.bool a)) Q E s :=
  rc_sub_first_or (op := .GtE) (typeIs_int s n u) rfl (by decide) F.sub_bool_int F.slot_bool_le_refl (call_gives F.slot_bool_le_refl rfl F.entry_int_le (F.args_int_le_2 _ _) (gives_le_bi a n u) ⟨nofun, h⟩) (.inl rfl)
end

section
variable {Y : Cy} {w w1 w2 : Wd} {σ : L2.St} {H H1 H2 : Hp} {env : Env} {ms ms1 ms2 : Ms} {k : Nat}
/-- a number, int or bool -/
def numV : V → Option Int
  | .int i => some i
  | .bl b => some (b2i b)
  | _ => none
def rCmp (p : Int → Int → Bool) : R2 := fun x y H Q => ∃ i j, numV x = some i ∧ numV y = some j ∧ Q (.bl (p i j)) H
def gCmp (p : Int → Int → Bool) : S → S → Ms → R S := fun x y ms => match asI x, asI y with
  | some i, some j => .ok (.d (.bl (p i j))) ms
  | _, _ => .bad
theorem num_cases {x : V} {i : Int} (h : numV x = some i) : x = .int i ∨ ∃ b, x = .bl b ∧ i = b2i b := by
  cases x with
  | int j => cases h; exact .inl rfl
  | bl b => cases h; exact .inr ⟨b, rfl, rfl⟩
  | _ => cases h
theorem num_rel {s : S} {v : V} {i : Int} (h : asI s = some i) (r : SR Y w s v) : numV v = some i := by
  cases s with
  | d x =>
    cases x with
    | int j => cases h; cases r; rfl
    | bl b => cases h; cases r; rfl
    | _ => cases h
  | loc n => cases h
  | exn c ds => cases h
theorem snd_cmp {p : Int → Int → Bool} : SndR2 Y (rCmp p) (gCmp p) := by
  intro w H ms x y u v Q hr sx sy h
  unfold gCmp at h
  cases e1 : asI x with
  | none => rw [e1] at h; exact h.elim
  | some i =>
    cases e2 : asI y with
    | none => rw [e1, e2] at h; exact h.elim
    | some j =>
      rw [e1, e2] at h
      exact ⟨i, j, num_rel e1 sx, num_rel e2 sy, h.at (Ext.refl w) hr rfl⟩
theorem gCmp_ne {p : Int → Int → Bool} : ∀ x y ms c ds ms', gCmp p x y ms ≠ .ex c ds ms' := by
  intro x y ms c ds ms' h
  unfold gCmp at h
  split at h <;> cases h
theorem op_num {op : CmpOp} {p : Int → Int → Bool}
    (h1 : ∀ (i j : Int) (t u : Tok) (Q : Value → Shared → Prop) (s : Shared), Q (.bool (p i j)) s → wpAny (model Y.X.prog Y.X.w) Y.X.A (compareOp op (.int i t) (.int j u)) Q Y.X.xe s)
    (h2 : ∀ (a : Bool) (j : Int) (u : Tok) (Q : Value → Shared → Prop) (s : Shared), Q (.bool (p (b2i a) j)) s → wpAny (model Y.X.prog Y.X.w) Y.X.A (compareOp op (.bool a) (.int j u)) Q Y.X.xe s)
    (h3 : ∀ (i : Int) (t : Tok) (b : Bool) (Q : Value → Shared → Prop) (s : Shared), Q (.bool (p i (b2i b))) s → wpAny (model Y.X.prog Y.X.w) Y.X.A (compareOp op (.int i t) (.bool b)) Q Y.X.xe s)
    (h4 : ∀ (a b : Bool) (Q : Value → Shared → Prop) (s : Shared), Q (.bool (p (b2i a) (b2i b))) s → wpAny (model Y.X.prog Y.X.w) Y.X.A (compareOp op (.bool a) (.bool b)) Q Y.X.xe s) : OpR Y.X (compareOp op) (rCmp p) := by
  intro pins s σ H x y v u Q I rx ry h
  obtain ⟨i, j, ex, ey, q⟩ := h
  have fin : EP Y.X pins σ Q (.bool (p i j)) s := ⟨.bl _, H, I, rfl, q⟩
  rcases num_cases ex with rfl | ⟨a, rfl, rfl⟩
  · obtain ⟨t, rfl⟩ := rx
    rcases num_cases ey with rfl | ⟨b, rfl, rfl⟩
    · obtain ⟨t', rfl⟩ := ry
      exact h1 i j t t' _ s fin
    · cases ry
      exact h3 i t b _ s fin
  · cases rx
    rcases num_cases ey with rfl | ⟨b, rfl, rfl⟩
    · obtain ⟨t', rfl⟩ := ry
      exact h2 a j t' _ s fin
    · cases ry
      exact h4 a b _ s fin
def gLt := gCmp fun i j => decide (i < j)
def gLe := gCmp fun i j => decide (i ≤ j)
def gGt := gCmp fun i j => decide (j < i)
def gGe := gCmp fun i j => decide (j ≤ i)
theorem o_lt : OpD Y (compareOp .Lt) gLt := ⟨⟨_, op_num (fun _ _ _ _ _ _ q => PyProof.Rows.lt_int q) (fun _ _ _ _ _ q => lt_bi q) (fun _ _ _ _ _ q => lt_ib q) (fun _ _ _ _ q => lt_bool q), snd_cmp⟩, gCmp_ne⟩
theorem o_le : OpD Y (compareOp .LtE) gLe := ⟨⟨_, op_num (fun _ _ _ _ _ _ q => PyProof.Rows.le_int q) (fun _ _ _ _ _ q => le_bi q) (fun _ _ _ _ _ q => le_ib q) (fun _ _ _ _ q => le_bool q), snd_cmp⟩, gCmp_ne⟩
theorem o_gt : OpD Y (compareOp .Gt) gGt := ⟨⟨_, op_num (fun _ _ _ _ _ _ q => PyProof.Rows.gt_int q) (fun _ _ _ _ _ q => gt_bi q) (fun _ _ _ _ _ q => gt_ib q) (fun _ _ _ _ q => gt_bool q), snd_cmp⟩, gCmp_ne⟩
theorem o_ge : OpD Y (compareOp .GtE) gGe := ⟨⟨_, op_num (fun _ _ _ _ _ _ q => PyProof.Rows.ge_int q) (fun _ _ _ _ _ q => ge_bi q) (fun _ _ _ _ _ q => ge_ib q) (fun _ _ _ _ q => ge_bool q), snd_cmp⟩, gCmp_ne⟩

/-! ### chains -/
def mChain (g g' : S → S → Ms → R S) (ma mb mc : Env → Ms → R S) : Env → Ms → R S := fun env ms => (ma env ms).bind fun x ms1 => (mb env ms1).bind fun y ms2 => (g x y ms2).bind fun z ms3 => (asB z ms3).bind fun b ms4 => match b with
  | true => (mc env ms4).bind fun v ms5 => g' y v ms5
  | false => .ok (.d (.bl false)) ms4
theorem asB_inv {s : S} {β : Type} {f : Bool → Ms → R β} {P : β → Ms → Prop} {E : Nat → List D → Ms → Prop} (h : ((asB s ms).bind f).post P E) : ∃ b, s = .d (.bl b) ∧ (f b ms).post P E := by
  unfold asB at h
  cases s with
  | d x =>
    cases x with
    | bl b => exact ⟨b, rfl, h⟩
    | _ => exact h.elim
  | loc n => exact h.elim
  | exn c ds => exact h.elim
/-- an operator in the middle: its answer handed on -/
theorem op_go {f : Value → Value → Sem Value} {g : S → S → Ms → R S} {r : R2} (hne : ∀ x y ms c ds ms', g x y ms ≠ .ex c ds ms') (hs : SndR2 Y r g) {x y : S} {u v : V} {β : Type} {q : S → Ms → R β} {P : β → Ms → Prop} {kq : VK} (hr : HR Y w H ms) (er : ER Y w σ env) (sx : SR Y w x u) (sy : SR Y w y v)
    (h : ((g x y ms).bind q).post P (exP Y w σ)) (hk : ∀ z ms1 w1 H1 zv, Ext w w1 → ER Y w1 σ env → HR Y w1 H1 ms1 → SR Y w1 z zv → (q z ms1).post P (exP Y w1 σ) → kq zv H1) : r u v H kq := by
  refine hs w H ms x y u v kq hr sx sy ?_
  have hx := hne x y ms
  cases hg : g x y ms with
  | ex c ds ms' => exact absurd hg (hx c ds ms')
  | bad => rw [hg] at h; exact h
  | ok z ms' =>
    rw [hg] at h
    exact fun w1 H1 zv e1 hr1 sz => hk z ms' w1 H1 zv e1 (er.mono e1) hr1 sz (R.post_mono h (fun _ _ z => z) fun _ _ _ z => z.ext e1)
theorem snd_chain {r r' : R2} {g g' : S → S → Ms → R S} {ta tb tc : TE} {ma mb mc : Env → Ms → R S} (hne : ∀ x y ms c ds ms', g x y ms ≠ .ex c ds ms') (hne' : ∀ x y ms c ds ms', g' x y ms ≠ .ex c ds ms')
    (hs : SndR2 Y r g) (hs' : SndR2 Y r' g') (ha : SndE Y ta ma) (hb : SndE Y tb mb) (hc : SndE Y tc mc) : SndE Y (tChain r r' ta tb tc) (mChain g g' ma mb mc) := by
  intro w σ H env ms Q er hr h
  refine ha.go er hr h fun x ms1 w1 H1 u e1 er1 hr1 su h1 => ?_
  refine hb.go er1 hr1 h1 fun y ms2 w2 H2 v e2 er2 hr2 sv h2 => ?_
  refine op_go (f := fun _ _ => pure .none) hne hs hr2 er2 (su.mono e2) sv h2 fun z ms3 w3 H3 zv e3 er3 hr3 sz h3 => ?_
  obtain ⟨b, rfl, h4⟩ := asB_inv h3
  cases sz
  refine ⟨b, rfl, ?_⟩
  cases b with
  | false => exact iteF (h4.at (e1.trans (e2.trans e3)) hr3 rfl)
  | true =>
    refine iteT ?_
    refine hc.go er3 hr3 h4 fun t ms5 w5 H5 tv e5 er5 hr5 st h5 => ?_
    refine hs' w5 H5 ms5 y t v tv Q hr5 (sv.mono (e3.trans e5)) st ?_
    have hx := hne' y t ms5
    cases hg : g' y t ms5 with
    | ex c ds ms' => exact absurd hg (hx c ds ms')
    | bad => rw [hg] at h5; exact h5
    | ok z ms' => rw [hg] at h5; exact h5.ext (e1.trans (e2.trans (e3.trans e5)))
theorem e_chain {op op' : CmpOp} {g g' : S → S → Ms → R S} {a b c : Expr} {ma mb mc : Env → Ms → R S} {pos : Pos} (h : OpD Y (compareOp op) g) (h' : OpD Y (compareOp op') g') (ha : DE Y a ma) (hb : DE Y b mb) (hc : DE Y c mc)
    (hm : lastMarks [op, op'] [b, c] = false := by with_unfolding_all rfl) : DE Y (.Compare a [op, op'] [b, c] pos) (mChain g g' ma mb mc) := by
  obtain ⟨r, p, s⟩ := h.ex
  obtain ⟨r', p', s'⟩ := h'.ex
  obtain ⟨ta, pa, sa⟩ := ha.ex
  obtain ⟨tb, pb, sb⟩ := hb.ex
  obtain ⟨tc, pc, sc⟩ := hc.ex
  exact ⟨_, pe_chain p p' pa pb pc hm, snd_chain h.ne h'.ne s s' sa sb sc⟩
theorem t_chain {op op' : CmpOp} {g g' : S → S → Ms → R S} {a b c : Expr} {ma mb mc : Env → Ms → R S} {pos : Pos} (h : OpD Y (compareOp op) g) (h' : OpD Y (compareOp op') g') (ha : DE Y a ma) (hb : DE Y b mb) (hc : DE Y c mc)
    (hm : lastMarks [op, op'] [b, c] = false := by with_unfolding_all rfl) : DT Y (.Compare a [op, op'] [b, c] pos) (mB (mChain g g' ma mb mc)) := by
  obtain ⟨r, p, s⟩ := h.ex
  obtain ⟨r', p', s'⟩ := h'.ex
  obtain ⟨ta, pa, sa⟩ := ha.ex
  obtain ⟨tb, pb, sb⟩ := hb.ex
  obtain ⟨tc, pc, sc⟩ := hc.ex
  exact ⟨_, pt_chain p p' pa pb pc hm, snd_B (snd_chain h.ne h'.ne s s' sa sb sc)⟩

/-! ### == of data -/
mutual
def toP : D → Option PyData
  | .non => some .none
  | .bl b => some (.bool b)
  | .int i => some (.int i)
  | .str x => some (.str x)
  | .tup ds => (toPs ds).map .tuple
  | .lst ds => (toPs ds).map .list
  | .frz ds => (toPs ds).map .list
  | .obj _ _ => none
  | .dic _ _ => none
  | .dit _ _ => none
  | .fn _ => none
  | .ty _ => none
def toPs : List D → Option (List PyData)
  | [] => some []
  | d :: ds => (toP d).bind fun p => (toPs ds).map (p :: ·)
end
mutual
theorem toP_rel {K : PySem.W.Frag} {Γ : G} {F H : Hp} (e : ∀ a o, F a = some o → H a = some o) : ∀ (d : D) (v : V) (p : PyData), toP d = some p → DR K Γ F d v → Dp K H v p
  | .non, v, p, h, r => by cases h; cases r; exact .non
  | .bl b, v, p, h, r => by cases h; cases r; exact .bl b
  | .int i, v, p, h, r => by cases h; cases r; exact .int i
  | .str x, v, p, h, r => by cases h; cases r; exact .str x
  | .tup ds, v, p, h, r => by
    simp only [toP, Option.map_eq_some_iff] at h
    obtain ⟨ps, h1, rfl⟩ := h
    simp only [DR] at r
    obtain ⟨a, xs, rfl, h2, h3⟩ := r
    exact .tup (sqT_mono h2 e) (toPs_rel e ds xs ps h1 h3)
  | .lst ds, v, p, h, r => by
    simp only [toP, Option.map_eq_some_iff] at h
    obtain ⟨ps, h1, rfl⟩ := h
    simp only [DR] at r
    obtain ⟨a, xs, rfl, h2, h3⟩ := r
    exact .lst (SqL.of (e _ _ h2)) (toPs_rel e ds xs ps h1 h3)
  | .frz ds, v, p, h, r => by
    simp only [toP, Option.map_eq_some_iff] at h
    obtain ⟨ps, h1, rfl⟩ := h
    simp only [DR] at r
    obtain ⟨a, xs, rfl, h2, h3⟩ := r
    exact .lst (sqL_mono h2 e) (toPs_rel e ds xs ps h1 h3)
  | .obj _ _, _, _, h, _ => by cases h
  | .dic _ _, _, _, h, _ => by cases h
  | .dit _ _, _, _, h, _ => by cases h
  | .fn _, _, _, h, _ => by cases h
  | .ty _, _, _, h, _ => by cases h
theorem toPs_rel {K : PySem.W.Frag} {Γ : G} {F H : Hp} (e : ∀ a o, F a = some o → H a = some o) : ∀ (ds : List D) (vs : List V) (ps : List PyData), toPs ds = some ps → DRs K Γ F ds vs → DpAll K H vs ps
  | [], vs, ps, h, r => by cases h; cases r; exact .nil
  | d :: ds, vs, ps, h, r => by
    simp only [toPs, Option.bind_eq_some_iff, Option.map_eq_some_iff] at h
    obtain ⟨p, h1, ps', h2, rfl⟩ := h
    simp only [DRs] at r
    obtain ⟨x, t, rfl, r1, r2⟩ := r
    exact .cons (toP_rel e d x p h1 r1) (toPs_rel e ds t ps' h2 r2)
end
def shapedD (d : D) : Option PyData := match toP d with
  | some p => match SeqAt.shaped p with
    | true => some p
    | false => none
  | none => none
theorem shapedD_inv {d : D} {p : PyData} (h : shapedD d = some p) : toP d = some p ∧ SeqAt.shaped p = true := by
  unfold shapedD at h
  cases e : toP d with
  | none => rw [e] at h; cases h
  | some q =>
    rw [e] at h
    dsimp only at h
    cases f : SeqAt.shaped q with
    | false => rw [f] at h; cases h
    | true => rw [f] at h; cases h; exact ⟨rfl, f⟩
/-- what a slot holds, read as data: a cell's list too -/
def view (s : S) (ms : Ms) : Option D := match s with
  | .d x => some x
  | .loc n => match ms[n]? with
    | some (.lst ds) => some (.lst ds)
    | _ => none
  | .exn _ _ => none
theorem view_rel {s : S} {v : V} {d : D} {p : PyData} (h : view s ms = some d) (hr : HR Y w H ms) (sv : SR Y w s v) (hp : toP d = some p) : Dp Y.X.K H v p := by
  cases s with
  | d x => cases h; exact toP_rel hr.sub _ _ _ hp sv
  | exn c ds => cases h
  | loc n =>
    obtain ⟨a, ha, rfl⟩ := sv
    unfold view at h
    dsimp only at h
    cases hc : ms[n]? with
    | none => rw [hc] at h; cases h
    | some c =>
      rw [hc] at h
      cases c with
      | dead => cases h
      | ins c fs => cases h
      | lst ds =>
        cases h
        obtain ⟨xs, q, r⟩ := hr.cel n a _ ha hc
        simp only [toP, Option.map_eq_some_iff] at hp
        obtain ⟨ps, h1, rfl⟩ := hp
        exact .lst (SqL.of q) (toPs_rel hr.sub ds xs ps h1 r)
def gEqD (neg : Bool) : S → S → Ms → R S := fun x y ms => match (view x ms).bind shapedD, (view y ms).bind shapedD with
  | some p, some q => .ok (.d (.bl (if neg then !PyData.eqv p q else PyData.eqv p q))) ms
  | _, _ => .bad
theorem gEqD_ne {neg : Bool} : ∀ x y ms c ds ms', gEqD neg x y ms ≠ .ex c ds ms' := by
  intro x y ms c ds ms' h
  unfold gEqD at h
  split at h <;> cases h
theorem eqD_inv {neg : Bool} {x y : S} {P : S → Ms → Prop} {E : Nat → List D → Ms → Prop} (h : (gEqD neg x y ms).post P E) : ∃ d e p q, view x ms = some d ∧ view y ms = some e ∧ toP d = some p ∧ toP e = some q ∧ SeqAt.shaped p = true ∧ SeqAt.shaped q = true ∧ P (.d (.bl (if neg then !PyData.eqv p q else PyData.eqv p q))) ms := by
  unfold gEqD at h
  split at h
  · rename_i p q e1 e2
    obtain ⟨d, h1, h2⟩ := Option.bind_eq_some_iff.mp e1
    obtain ⟨e, h3, h4⟩ := Option.bind_eq_some_iff.mp e2
    obtain ⟨k1, k2⟩ := shapedD_inv h2
    obtain ⟨k3, k4⟩ := shapedD_inv h4
    exact ⟨d, e, p, q, h1, h3, k1, k3, k2, k4, h⟩
  · exact h.elim
theorem o_eqD (ok : CyOk Y k) : OpD Y (compareOp .Eq) (gEqD false) := by
  refine ⟨⟨_, op_eqD ok.hr.units, fun w H ms x y u v Q hr sx sy h => ?_⟩, gEqD_ne⟩
  obtain ⟨d, e, p, q, h1, h2, h3, h4, h5, h6, hq⟩ := eqD_inv h
  exact ⟨p, q, view_rel h1 hr sx h3, view_rel h2 hr sy h4, h5, h6, hq.at (Ext.refl w) hr rfl⟩
theorem o_neD (ok : CyOk Y k) : OpD Y (compareOp .NotEq) (gEqD true) := by
  refine ⟨⟨_, op_neD ok.hr.units, fun w H ms x y u v Q hr sx sy h => ?_⟩, gEqD_ne⟩
  obtain ⟨d, e, p, q, h1, h2, h3, h4, h5, h6, hq⟩ := eqD_inv h
  exact ⟨p, q, view_rel h1 hr sx h3, view_rel h2 hr sy h4, h5, h6, hq.at (Ext.refl w) hr rfl⟩
/-- is None -/
def gIsN (neg : Bool) : S → S → Ms → R S := fun x y ms => match y with
  | .d .non => .ok (.d (.bl (match x with
    | .d .non => !neg
    | _ => neg))) ms
  | _ => .bad
theorem gIsN_ne {neg : Bool} : ∀ x y ms c ds ms', gIsN neg x y ms ≠ .ex c ds ms' := by
  intro x y ms c ds ms' h
  unfold gIsN at h
  split at h <;> cases h
theorem isN_rel {s : S} {v : V} (sv : SR Y w s v) : (decide (v = .non)) = (match s with
    | .d .non => true
    | _ => false) := by
  cases s with
  | loc n => obtain ⟨a, _, rfl⟩ := sv; rfl
  | exn c ds => obtain ⟨⟨rfl, _⟩, _⟩ := sv; rfl
  | d x =>
    cases x with
    | non => cases sv; rfl
    | bl b => cases sv; rfl
    | int i => cases sv; rfl
    | str x => cases sv; rfl
    | fn n => cases sv; rfl
    | tup ds => obtain ⟨a, xs, rfl, _⟩ := sv; rfl
    | lst ds => obtain ⟨a, xs, rfl, _⟩ := sv; rfl
    | frz ds => obtain ⟨a, xs, rfl, _⟩ := sv; rfl
    | obj c ds => obtain ⟨a, dx, xs, rfl, _⟩ := sv; rfl
    | dic ks vs => obtain ⟨a, xs, rfl, _⟩ := sv; rfl
    | dit ks vs => obtain ⟨a, xs, rfl, _⟩ := sv; rfl
    | ty n => cases sv; rfl
theorem o_isN : OpD Y (compareOp .Is) (gIsN false) := by
  refine ⟨⟨_, op_isN, fun w H ms x y u v Q hr sx sy h => ?_⟩, gIsN_ne⟩
  unfold gIsN at h
  split at h
  · cases sy
    refine ⟨rfl, ?_⟩
    rw [isN_rel sx]
    refine h.at (Ext.refl w) hr ?_
    cases x with
    | d x => cases x <;> rfl
    | loc n => rfl
    | exn c ds => rfl
  · exact h.elim
theorem o_notN : OpD Y (compareOp .IsNot) (gIsN true) := by
  refine ⟨⟨_, op_notN, fun w H ms x y u v Q hr sx sy h => ?_⟩, gIsN_ne⟩
  unfold gIsN at h
  split at h
  · cases sy
    refine ⟨rfl, ?_⟩
    rw [isN_rel sx]
    refine h.at (Ext.refl w) hr ?_
    cases x with
    | d x => cases x <;> rfl
    | loc n => rfl
    | exn c ds => rfl
  · exact h.elim
end
end Fw
set_option Elab.async false
set_option linter.all false
set_option maxRecDepth 100000
set_option maxHeartbeats 4000000
/-! Fw8: built-in functions, subscripts, comprehensions, f-strings. -/
namespace Fw
open PySem L2 PySem.Spec PyProof.Rows

section
variable {Y : Cy} {w w1 w2 : Wd} {σ : L2.St} {H H1 H2 : Hp} {env : Env} {ms ms1 ms2 : Ms} {k : Nat}

/-! ### calls of built-ins -/
def SndC (Y : Cy) (r : List V → Hp → VK → Prop) (g : List S → Ms → R S) : Prop :=
  ∀ (w : Wd) (H : Hp) (ms : Ms) (ss : List S) (vs : List V) (Q : VK), HR Y w H ms → SRs Y w ss vs → (g ss ms).post (okP Y w Q) (fun _ _ _ => False) → r vs H Q
structure CallD (Y : Cy) (f : Value) (g : List S → Ms → R S) : Prop where
  ex : ∃ r, CallR Y.X f r ∧ SndC Y r g
  ne : ∀ ss ms c ds ms', g ss ms ≠ .ex c ds ms'
def cOr (g g' : List S → Ms → R S) : List S → Ms → R S := fun ss ms => match g ss ms with
  | .bad => g' ss ms
  | r => r
theorem CallD.or {f : Value} {g g' : List S → Ms → R S} (h : CallD Y f g) (h' : CallD Y f g') : CallD Y f (cOr g g') := by
  obtain ⟨r, p, s⟩ := h.ex
  obtain ⟨r', p', s'⟩ := h'.ex
  refine ⟨⟨_, p.or p', fun w H ms ss vs Q hr sv q => ?_⟩, fun ss ms c ds ms' e => ?_⟩
  · unfold cOr at q
    split at q
    · exact .inr (s' w H ms ss vs Q hr sv q)
    · exact .inl (s w H ms ss vs Q hr sv q)
  · unfold cOr at e
    split at e
    · exact h'.ne _ _ _ _ _ e
    · exact h.ne _ _ _ _ _ e
def mB1 (g : List S → Ms → R S) (ma : Env → Ms → R (List S)) : Env → Ms → R S := fun env ms => (ma env ms).bind g
theorem snd_call {r : List V → Hp → VK → Prop} {g : List S → Ms → R S} {t : TA} {ma : Env → Ms → R (List S)} (hne : ∀ ss ms c ds ms', g ss ms ≠ .ex c ds ms') (hs : SndC Y r g) (ha : SndA Y t ma) : SndE Y (tCB r t) (mB1 g ma) := by
  intro w σ H env ms Q er hr h
  refine ha.go er hr h fun ss ms1 w1 H1 vs e1 er1 hr1 sv h1 => ?_
  refine hs w1 H1 ms1 ss vs Q hr1 sv ?_
  have hx := hne ss ms1
  cases hg : g ss ms1 with
  | ex c ds ms' => exact absurd hg (hx c ds ms')
  | bad => rw [hg] at h1; exact h1
  | ok z ms' => rw [hg] at h1; exact h1.ext e1
variable {x : Str} {p pos : Pos} {e : Expr} {es : List Expr} {ma : Env → Ms → R (List S)} {g : List S → Ms → R S}
theorem e_callB {id : String} (hc : CallD Y (.builtin id) g) (hg : Gl Y.X x) (hm : Y.X.mg x = none) (hv : bootBuiltins x = some (.builtin id)) (ha : DA Y (e :: es) ma) (hn : x ≠ "__name__" := by decide) (hdb : (x == ("__debug__" : Str)) = false := by decide)
    (he : starEach (e :: es) Y.X.env = (false, eval e Y.X.env) :: starEach es Y.X.env := by rfl) (hpl : (backTo pos (starEach es Y.X.env)).any (·.1) = false := by rfl) : DE Y (.Call (.Name x p) (e :: es) [] pos) (mB1 g ma) := by
  obtain ⟨r, pr, sr⟩ := hc.ex
  obtain ⟨t, pa, sa⟩ := ha.ex
  exact ⟨_, pe_callB pr hg hm hv pa hn hdb he hpl, snd_call hc.ne sr sa⟩
theorem e_callT {T : String} (hc : CallD Y (.type T) g) (hg : Gl Y.X x) (hm : Y.X.mg x = none) (hv : bootBuiltins x = some (.type T)) (ha : DA Y (e :: es) ma) (hn : x ≠ "__name__" := by decide) (hdb : (x == ("__debug__" : Str)) = false := by decide)
    (he : starEach (e :: es) Y.X.env = (false, eval e Y.X.env) :: starEach es Y.X.env := by rfl) (hpl : (backTo pos (starEach es Y.X.env)).any (·.1) = false := by rfl) : DE Y (.Call (.Name x p) (e :: es) [] pos) (mB1 g ma) := by
  obtain ⟨r, pr, sr⟩ := hc.ex
  obtain ⟨t, pa, sa⟩ := ha.ex
  exact ⟨_, pe_callTy pr hg hm hv pa hn hdb he hpl, snd_call hc.ne sr sa⟩
/-- one data argument -/
def c1 (f : D → Option D) : List S → Ms → R S := fun ss ms => match ss with
  | [s] => match (view s ms).bind f with
    | some d => .ok (.d d) ms
    | none => .bad
  | _ => .bad
theorem c1_ne {f : D → Option D} : ∀ ss ms c ds ms', c1 f ss ms ≠ .ex c ds ms' := by
  intro ss ms c ds ms' h
  unfold c1 at h
  split at h
  · split at h <;> cases h
  · cases h
theorem c1_inv {f : D → Option D} {ss : List S} {P : S → Ms → Prop} {E : Nat → List D → Ms → Prop} (h : (c1 f ss ms).post P E) : ∃ s d d', ss = [s] ∧ view s ms = some d ∧ f d = some d' ∧ P (.d d') ms := by
  unfold c1 at h
  split at h
  · rename_i s
    split at h
    · rename_i d' e
      obtain ⟨d, h1, h2⟩ := Option.bind_eq_some_iff.mp e
      exact ⟨s, d, d', rfl, h1, h2, h⟩
    · exact h.elim
  · exact h.elim
theorem SRs.one {s : S} {vs : List V} (h : SRs Y w [s] vs) : ∃ v, vs = [v] ∧ SR Y w s v := by
  cases h with
  | cons a b => cases b; exact ⟨_, rfl, a⟩
theorem SRs.two {s t : S} {vs : List V} (h : SRs Y w [s, t] vs) : ∃ v u, vs = [v, u] ∧ SR Y w s v ∧ SR Y w t u := by
  cases h with
  | cons a b =>
    obtain ⟨u, rfl, c⟩ := SRs.one b
    exact ⟨_, u, rfl, a, c⟩
/-- the list that a slot's data stands for -/
theorem view_list {s : S} {v : V} {ds : List D} (h : view s ms = some (.lst ds)) (hr : HR Y w H ms) (sv : SR Y w s v) : ∃ a xs, v = .ref a ∧ H a = some (.lst xs) ∧ DRs Y.X.K Y.Γ w.F ds xs := by
  cases s with
  | d x =>
    cases h
    obtain ⟨a, xs, rfl, h2, h3⟩ := sv
    exact ⟨a, xs, rfl, hr.sub _ _ h2, h3⟩
  | exn c ds => cases h
  | loc n =>
    obtain ⟨a, ha, rfl⟩ := sv
    unfold view at h
    dsimp only at h
    cases hc : ms[n]? with
    | none => rw [hc] at h; cases h
    | some c =>
      rw [hc] at h
      cases c with
      | dead => cases h
      | ins c fs => cases h
      | lst ds =>
        cases h
        obtain ⟨xs, q, r⟩ := hr.cel n a _ ha hc
        exact ⟨a, xs, rfl, q, r⟩
theorem view_notlist {s : S} {v : V} {d : D} (h : view s ms = some d) (hn : ∀ ds, d ≠ .lst ds) (sv : SR Y w s v) : DR Y.X.K Y.Γ w.F d v := by
  cases s with
  | d x => cases h; exact sv
  | exn c ds => cases h
  | loc n =>
    unfold view at h
    dsimp only at h
    split at h
    · rename_i ds e
      cases h
      exact absurd rfl (hn ds)
    · cases h

/-! len, abs, int, str, bool -/
def lenD : D → Option D
  | .str x => match few x.length with
    | true => some (.int x.length)
    | false => none
  | .lst ds => some (.int ds.length)
  | .frz ds => some (.int ds.length)
  | .tup ds => some (.int ds.length)
  | _ => none
theorem cd_len : CallD Y (.builtin "len") (c1 lenD) := by
  refine ⟨⟨_, call_len_seq.or call_len_str, fun w H ms ss vs Q hr sv h => ?_⟩, c1_ne⟩
  obtain ⟨s, d, d', rfl, h1, h2, q⟩ := c1_inv h
  obtain ⟨v, rfl, r⟩ := SRs.one sv
  cases d with
  | str x =>
    unfold lenD at h2
    dsimp only at h2
    cases f : few x.length with
    | false => rw [f] at h2; cases h2
    | true =>
      rw [f] at h2
      cases h2
      cases view_notlist h1 (by intro ds z; cases z) r
      exact .inr ⟨x, rfl, few_ok f, q.at (Ext.refl w) hr rfl⟩
  | lst ds =>
    cases h2
    obtain ⟨a, xs, rfl, e1, e2⟩ := view_list h1 hr r
    exact .inl ⟨a, xs, rfl, .inl (SqL.of e1), by rw [← DRs.length e2]; exact q.at (Ext.refl w) hr rfl⟩
  | frz ds =>
    cases h2
    obtain ⟨a, xs, rfl, e1, e2⟩ := view_notlist h1 (by intro ds z; cases z) r
    exact .inl ⟨a, xs, rfl, .inl (sqL_mono e1 hr.sub), by rw [← DRs.length e2]; exact q.at (Ext.refl w) hr rfl⟩
  | tup ds =>
    cases h2
    obtain ⟨a, xs, rfl, e1, e2⟩ := view_notlist h1 (by intro ds z; cases z) r
    exact .inl ⟨a, xs, rfl, .inr (sqT_mono e1 hr.sub), by rw [← DRs.length e2]; exact q.at (Ext.refl w) hr rfl⟩
  | _ => cases h2
def absD : D → Option D
  | .int i => some (.int (if i < 0 then -i else i))
  | _ => none
theorem cd_abs : CallD Y (.builtin "abs") (c1 absD) := by
  refine ⟨⟨_, call_abs, fun w H ms ss vs Q hr sv h => ?_⟩, c1_ne⟩
  obtain ⟨s, d, d', rfl, h1, h2, q⟩ := c1_inv h
  obtain ⟨v, rfl, r⟩ := SRs.one sv
  cases d with
  | int i =>
    cases h2
    cases view_notlist h1 (by intro ds z; cases z) r
    exact ⟨i, rfl, q.at (Ext.refl w) hr rfl⟩
  | _ => cases h2
def intD : D → Option D
  | .int i => some (.int i)
  | .bl b => some (.int (if b then 1 else 0))
  | _ => none
theorem cd_int : CallD Y (.type "int") (c1 intD) := by
  refine ⟨⟨_, call_int1, fun w H ms ss vs Q hr sv h => ?_⟩, c1_ne⟩
  obtain ⟨s, d, d', rfl, h1, h2, q⟩ := c1_inv h
  obtain ⟨v, rfl, r⟩ := SRs.one sv
  cases d with
  | int i =>
    cases h2
    cases view_notlist h1 (by intro ds z; cases z) r
    exact .inl ⟨i, rfl, q.at (Ext.refl w) hr rfl⟩
  | bl b =>
    cases h2
    cases view_notlist h1 (by intro ds z; cases z) r
    exact .inr ⟨b, rfl, q.at (Ext.refl w) hr rfl⟩
  | _ => cases h2
/-- an int that is shown -/
def showI (i : Int) : Bool := decide (i.natAbs < 2 ^ 1000)
theorem showI_ok {i : Int} (h : showI i = true) : i.natAbs.log2 < 1920 := by
  have := of_decide_eq_true h
  exact Nat.lt_of_lt_of_le (PySem.Flt.log2_lt_of (by decide) this) (by decide)
def strD : D → Option D
  | .int i => match showI i with
    | true => some (.str (toString i))
    | false => none
  | .str x => some (.str x)
  | _ => none
theorem cd_str : CallD Y (.type "str") (c1 strD) := by
  refine ⟨⟨_, call_str_int.or SkE.call_str_str, fun w H ms ss vs Q hr sv h => ?_⟩, c1_ne⟩
  obtain ⟨s, d, d', rfl, h1, h2, q⟩ := c1_inv h
  obtain ⟨v, rfl, r⟩ := SRs.one sv
  cases d with
  | int i =>
    unfold strD at h2
    dsimp only at h2
    cases f : showI i with
    | false => rw [f] at h2; cases h2
    | true =>
      rw [f] at h2
      cases h2
      cases view_notlist h1 (by intro ds z; cases z) r
      exact .inl ⟨i, rfl, showI_ok f, q.at (Ext.refl w) hr rfl⟩
  | str x =>
    cases h2
    cases view_notlist h1 (by intro ds z; cases z) r
    exact .inr ⟨x, rfl, q.at (Ext.refl w) hr rfl⟩
  | _ => cases h2
/-- repr of data -/
def reprD (d : D) : Option D := match toP d with
  | some p => match p.showable && decide (p.depth ≤ 40) && few p.shown.length && !p.hasDict with
    | true => some (.str p.shown)
    | false => none
  | none => none
theorem call_reprD (ok : CyOk Y k) : CallR Y.X (.builtin "repr") (fun xs H Q => ∃ x p, xs = [x] ∧ Dp Y.X.K H x p ∧ p.showable = true ∧ p.depth ≤ 40 ∧ p.shown.length ≤ sizeLine ∧ p.hasDict = false ∧ Q (.str p.shown) H) := by
  intro pins s σ H xs us Q I r h
  obtain ⟨x, p, rfl, hd, h1, h2, h3, h4, q⟩ := h
  obtain ⟨u, rfl, ru⟩ := vals1 r
  obtain ⟨as, rd⟩ := Dp.reads I p x u hd ru
  have hu := ok.hr.units
  cases rd with
  | none => exact PySem.P.repr_of_none ⟨.str _, H, I.tok _, ⟨_, rfl⟩, q⟩
  | bool b => exact PySem.P.repr_of_bool ⟨.str _, H, I.tok _, ⟨_, rfl⟩, q⟩
  | int i t => exact PySem.P.repr_of_int (by simpa [PyData.showable] using h1) ⟨.str _, H, I.tok _, ⟨_, rfl⟩, q⟩
  | str y t => exact PySem.P.repr_of_str ⟨.str _, H, I.tok _, ⟨_, rfl⟩, q⟩ h3
  | list a1 a2 a3 a4 =>
    exact repr_of_reads' (Reads.list a1 a2 a3 a4) h1 (fun z => by rw [h4] at z; cases z) ok.gd (by omega) (fun _ _ z => z) (fun h' t tk kp => ⟨.str _, H, I.kept kp, ⟨_, rfl⟩, q⟩) h3
  | tuple a1 a2 a3 a4 =>
    exact repr_of_reads' (Reads.tuple a1 a2 a3 a4) h1 (fun z => by rw [h4] at z; cases z) ok.gd (by omega) (fun _ _ z => z) (fun h' t tk kp => ⟨.str _, H, I.kept kp, ⟨_, rfl⟩, q⟩) h3
  | dict a1 a2 a3 a4 a5 => cases h4
theorem cd_repr (ok : CyOk Y k) : CallD Y (.builtin "repr") (c1 reprD) := by
  refine ⟨⟨_, call_reprD ok, fun w H ms ss vs Q hr sv h => ?_⟩, c1_ne⟩
  obtain ⟨s, d, d', rfl, h1, h2, q⟩ := c1_inv h
  obtain ⟨v, rfl, r⟩ := SRs.one sv
  unfold reprD at h2
  cases e : toP d with
  | none => rw [e] at h2; cases h2
  | some p =>
    rw [e] at h2
    dsimp only at h2
    split at h2
    · rename_i f
      cases h2
      simp only [Bool.and_eq_true] at f
      obtain ⟨⟨⟨f1, f2⟩, f3⟩, f4⟩ := f
      exact ⟨v, p, rfl, view_rel h1 hr r e, f1, of_decide_eq_true f2, few_ok f3, by simpa using f4, q.at (Ext.refl w) hr rfl⟩
    · cases h2

/-! two ints -/
def c2 (f : Int → Int → Int) : List S → Ms → R S := fun ss ms => match ss with
  | [.d (.int i), .d (.int j)] => .ok (.d (.int (f i j))) ms
  | _ => .bad
theorem c2_ne {f : Int → Int → Int} : ∀ ss ms c ds ms', c2 f ss ms ≠ .ex c ds ms' := by
  intro ss ms c ds ms' h
  unfold c2 at h
  split at h <;> cases h
def maxI (i j : Int) : Int := if j > i then j else i
def minI (i j : Int) : Int := if j < i then j else i
theorem snd_c2 {f : Int → Int → Int} {r : List V → Hp → VK → Prop} (h : ∀ i j H Q, Q (.int (f i j)) H → r [.int i, .int j] H Q) : SndC Y r (c2 f) := by
  intro w H ms ss vs Q hr sv q
  unfold c2 at q
  split at q
  · rename_i i j
    obtain ⟨v, u, rfl, r1, r2⟩ := SRs.two sv
    cases r1
    cases r2
    exact h i j H Q (q.at (Ext.refl w) hr rfl)
  · exact q.elim
theorem cd_max (hc : Y.X.calm = true) : CallD Y (.builtin "max") (c2 maxI) := ⟨⟨_, call_max2 hc, snd_c2 fun i j _ _ q => ⟨i, j, rfl, q⟩⟩, c2_ne⟩
theorem cd_min (hc : Y.X.calm = true) : CallD Y (.builtin "min") (c2 minI) := ⟨⟨_, call_min2 hc, snd_c2 fun i j _ _ q => ⟨i, j, rfl, q⟩⟩, c2_ne⟩
/-! tuple(list), list(x) -/
def cTup : List S → Ms → R S := fun ss ms => match ss with
  | [s] => match view s ms with
    | some (.lst ds) => .ok (.d (.tup ds)) ms
    | some (.tup ds) => .ok (.d (.tup ds)) ms
    | _ => .bad
  | _ => .bad
theorem cd_tuple : CallD Y (.type "tuple") cTup := by
  refine ⟨⟨_, call_tuple_of, fun w H ms ss vs Q hr sv h => ?_⟩, fun ss ms c ds ms' h => ?_⟩
  · unfold cTup at h
    split at h
    · rename_i s
      obtain ⟨v, rfl, r⟩ := SRs.one sv
      split at h
      · rename_i ds e
        obtain ⟨a, xs, rfl, e1, e2⟩ := view_list e hr r
        refine ⟨a, xs, rfl, .inl ⟨SqL.of e1, fun l hl => ?_⟩⟩
        obtain ⟨hr2, ex⟩ := hr.froz (o := .tup xs) hl
        exact h.at ex hr2 ⟨l, xs, rfl, SqT.of upd_same, DRs.mono ex.1 _ _ e2⟩
      · rename_i ds e
        obtain ⟨a, xs, rfl, e1, e2⟩ := view_notlist e (by intro ds z; cases z) r
        exact ⟨a, xs, rfl, .inr ⟨sqT_mono e1 hr.sub, h.at (Ext.refl w) hr ⟨a, xs, rfl, e1, e2⟩⟩⟩
      · exact h.elim
    · exact h.elim
  · unfold cTup at h
    split at h
    · split at h <;> cases h
    · cases h
/-- list(x), frozen | a new cell -/
def cLst : List S → Ms → R S := fun ss ms => match ss with
  | [s] => match view s ms with
    | some (.lst ds) => .ok (.d (.lst ds)) ms
    | some (.tup ds) => .ok (.d (.lst ds)) ms
    | _ => .bad
  | _ => .bad
def cNew : List S → Ms → R S := fun ss ms => match ss with
  | [s] => match view s ms with
    | some (.lst ds) => .ok (.loc ms.length) (ms ++ [.lst ds])
    | some (.tup ds) => .ok (.loc ms.length) (ms ++ [.lst ds])
    | _ => .bad
  | _ => .bad
theorem SRs0_of_DRs {K : PySem.W.Frag} {Γ : G} {w : Wd} : ∀ {ds : List D} {vs : List V}, DRs K Γ w.F ds vs → SRs0 K Γ w (ds.map S.d) vs
  | [], _, h => by cases h; exact .nil
  | d :: ds, _, h => by obtain ⟨x, r, rfl, h2, h3⟩ := h; exact .cons h2 (SRs0_of_DRs h3)
theorem seq_inv {s : S} {v : V} {ds : List D} (h : view s ms = some (.lst ds) ∨ view s ms = some (.tup ds)) (hr : HR Y w H ms) (sv : SR Y w s v) : ∃ a xs, v = .ref a ∧ (SqL Y.X.K H a xs ∨ SqT Y.X.K H a xs) ∧ DRs Y.X.K Y.Γ w.F ds xs := by
  rcases h with h | h
  · obtain ⟨a, xs, rfl, e1, e2⟩ := view_list h hr sv
    exact ⟨a, xs, rfl, .inl (SqL.of e1), e2⟩
  · obtain ⟨a, xs, rfl, e1, e2⟩ := view_notlist h (by intro ds z; cases z) sv
    exact ⟨a, xs, rfl, .inr (sqT_mono e1 hr.sub), e2⟩
theorem cd_list : CallD Y (.type "list") cLst := by
  have key : ∀ (w : Wd) (H : Hp) (ms : Ms) (s : S) (v : V) (Q : VK) (ds : List D), HR Y w H ms → SR Y w s v → (view s ms = some (.lst ds) ∨ view s ms = some (.tup ds)) → okP Y w Q (.d (.lst ds)) ms → ∃ p ys, [v] = [V.ref p] ∧ (SqL Y.X.K H p ys ∨ SqT Y.X.K H p ys) ∧ ∀ l, H l = none → Q (.ref l) (upd H l (.lst ys)) := by
    intro w H ms s v Q ds hr r e q
    obtain ⟨a, xs, rfl, e1, e2⟩ := seq_inv e hr r
    refine ⟨a, xs, rfl, e1, fun l hl => ?_⟩
    obtain ⟨hr2, ex⟩ := hr.froz (o := .lst xs) hl
    exact q.at ex hr2 ⟨l, xs, rfl, upd_same, DRs.mono ex.1 _ _ e2⟩
  refine ⟨⟨_, call_list_of, fun w H ms ss vs Q hr sv h => ?_⟩, fun ss ms c ds ms' h => ?_⟩
  · unfold cLst at h
    split at h
    · rename_i s
      obtain ⟨v, rfl, r⟩ := SRs.one sv
      split at h
      · rename_i ds e
        exact key w H ms s v Q ds hr r (.inl e) h
      · rename_i ds e
        exact key w H ms s v Q ds hr r (.inr e) h
      · exact h.elim
    · exact h.elim
  · unfold cLst at h
    split at h
    · split at h <;> cases h
    · cases h
theorem cd_listN : CallD Y (.type "list") cNew := by
  have key : ∀ (w : Wd) (H : Hp) (ms : Ms) (s : S) (v : V) (Q : VK) (ds : List D), HR Y w H ms → SR Y w s v → (view s ms = some (.lst ds) ∨ view s ms = some (.tup ds)) → okP Y w Q (.loc ms.length) (ms ++ [.lst ds]) → ∃ p ys, [v] = [V.ref p] ∧ (SqL Y.X.K H p ys ∨ SqT Y.X.K H p ys) ∧ ∀ l, H l = none → Q (.ref l) (upd H l (.lst ys)) := by
    intro w H ms s v Q ds hr r e q
    obtain ⟨a, xs, rfl, e1, e2⟩ := seq_inv e hr r
    refine ⟨a, xs, rfl, e1, fun l hl => ?_⟩
    obtain ⟨hr2, ex⟩ := hr.cell (o := .lst xs) (c := .lst ds) hl ⟨xs, upd_same, e2⟩
    refine q.at ex hr2 ⟨l, ?_, rfl⟩
    show (w.mu ++ [l])[ms.length]? = some l
    rw [← hr.len]; simp
  refine ⟨⟨_, call_list_of, fun w H ms ss vs Q hr sv h => ?_⟩, fun ss ms c ds ms' h => ?_⟩
  · unfold cNew at h
    split at h
    · rename_i s
      obtain ⟨v, rfl, r⟩ := SRs.one sv
      split at h
      · rename_i ds e
        exact key w H ms s v Q ds hr r (.inl e) h
      · rename_i ds e
        exact key w H ms s v Q ds hr r (.inr e) h
      · exact h.elim
    · exact h.elim
  · unfold cNew at h
    split at h
    · split at h <;> cases h
    · cases h

end
end Fw
set_option Elab.async false
set_option linter.all false
set_option maxRecDepth 100000
set_option maxHeartbeats 4000000
/-! Fw9: calls of every shape: defs, methods, classmethods, classes; attributes. -/
namespace Fw
open PySem L2 PySem.Spec PyProof.Rows

/-! ### arguments -/
def CP (X : Cx) (pins : List (Addr × Obj)) (σ : L2.St) (n : Nat) (ks : List Str) (Q : List V → Hp → Prop) (a : Args) (s' : Shared) : Prop :=
  ∃ us ws vs H', a = ⟨us, ks.zip ws⟩ ∧ us.length = n ∧ ws.length = ks.length ∧ Inv X pins σ H' s' ∧ Vals vs (us ++ ws) ∧ Q vs H'
structure PC (X : Cx) (es : List Expr) (kws : List Keyword) (n : Nat) (ks : List Str) (t : TA) : Prop where
  plain : ∀ pos, ((backTo pos (starEach es X.env)).any (·.1) || (backToKw pos (keywordEach kws X.env)).any (·.1.isNone)) = false
  run : ∀ (pos : Pos) (f : Value) (pins : List (Addr × Obj)) (s : Shared) (σ : L2.St) (H : Hp) (Q : List V → Hp → Prop), Inv X pins σ H s → t σ H Q →
    wpAny (model X.prog X.w) X.A (evalArgs f true (backTo pos (starEach es X.env)) (backToKw pos (keywordEach kws X.env))) (CP X pins σ n ks Q) X.xe s
structure DC (Y : Cy) (es : List Expr) (kws : List Keyword) (n : Nat) (ks : List Str) (m : Env → Ms → R (List S)) : Prop where
  ex : ∃ t, PC Y.X es kws n ks t ∧ SndA Y t m
structure DK (Y : Cy) (kws : List Keyword) (m : Env → Ms → R (List S)) : Prop where
  ex : ∃ t, PK Y.X kws t ∧ SndA Y t m
def lenIs (n : Nat) (ss : List S) (ms : Ms) : R (List S) := match Nat.beq ss.length n with
  | true => .ok ss ms
  | false => .bad
def mLen (n : Nat) (m : Env → Ms → R (List S)) : Env → Ms → R (List S) := fun env ms => (m env ms).bind (lenIs n)
def mApp (n k : Nat) (m mk : Env → Ms → R (List S)) : Env → Ms → R (List S) := fun env ms => (mLen n m env ms).bind fun ss ms1 => (mLen k mk env ms1).bind fun zs ms2 => .ok (ss ++ zs) ms2
section
variable {Y : Cy} {w w1 w2 : Wd} {σ : L2.St} {H H1 H2 : Hp} {env : Env} {ms ms1 ms2 : Ms} {e : Expr} {es : List Expr} {kws : List Keyword} {m mk : Env → Ms → R (List S)} {me : Env → Ms → R S} {n : Nat} {ks : List Str}
def tLen (n : Nat) (t : TA) : TA := fun σ H Q => t σ H fun vs H1 => vs.length = n ∧ Q vs H1
def tApp (t t2 : TA) : TA := fun σ H Q => t σ H fun vs H1 => t2 σ H1 fun us H2 => Q (vs ++ us) H2
theorem snd_len {t : TA} (h : SndA Y t m) : SndA Y (tLen n t) (mLen n m) := by
  intro w σ H env ms Q er hr q
  refine h.go er hr q fun ss ms1 w1 H1 vs e1 er1 hr1 sv q1 => ?_
  unfold lenIs at q1
  cases b : Nat.beq ss.length n with
  | false => rw [b] at q1; exact q1.elim
  | true => rw [b] at q1; exact ⟨by rw [← SRs.length sv]; exact Nat.eq_of_beq_eq_true b, q1 w1 H1 vs e1 hr1 sv⟩
theorem SRs.append : ∀ {ss ts : List S} {vs us : List V}, SRs Y w ss vs → SRs Y w ts us → SRs Y w (ss ++ ts) (vs ++ us)
  | _, _, _, _, .nil, k => k
  | _, _, _, _, .cons a b, k => .cons a (SRs.append b k)
theorem snd_app {t t2 : TA} {n k : Nat} (h : SndA Y t m) (h2 : SndA Y t2 mk) : SndA Y (tApp (tLen n t) (tLen k t2)) (mApp n k m mk) := by
  intro w σ H env ms Q er hr q
  refine (snd_len h).go er hr q fun ss ms1 w1 H1 vs e1 er1 hr1 sv q1 => ?_
  refine (snd_len h2).go er1 hr1 q1 fun zs ms2 w2 H2 us e2 er2 hr2 sz q2 => ?_
  exact q2 w2 H2 _ (e1.trans e2) hr2 ((sv.mono e2).append sz)
theorem k_nil : DK Y [] aNil := ⟨_, pk_nil, fun w _ _ _ _ _ _ hr q => q w _ [] (Ext.refl w) hr .nil⟩
theorem k_cons {nm : Option Str} {kpos : Pos} (h1 : DE Y e me) (h2 : DK Y kws mk) : DK Y (⟨nm, e, kpos⟩ :: kws) (aCons me mk) := by
  obtain ⟨t, p, s⟩ := h1.ex
  obtain ⟨ta, pa, sa⟩ := h2.ex
  refine ⟨_, pk_cons p pa, fun w σ H env ms Q er hr h => ?_⟩
  refine s.go er hr h fun x ms1 w1 H1 v e1 er1 hr1 sv h1 => ?_
  refine sa.go er1 hr1 h1 fun xs ms2 w2 H2 vs e2 er2 hr2 svs h2 => ?_
  exact h2 w2 H2 (v :: vs) (e1.trans e2) hr2 (.cons (sv.mono e2) svs)
theorem c_nil : DC Y [] [] 0 [] aNil := by
  refine ⟨tNil, ⟨fun _ => rfl, fun pos f pins s σ H Q I h => ?_⟩, fun w _ _ _ _ _ _ hr q => q w _ [] (Ext.refl w) hr .nil⟩
  exact evalArgs_nil3 ⟨[], [], [], H, rfl, rfl, rfl, I, .nil, h⟩
theorem c_pos (h : DA Y (e :: es) m) (hl : (e :: es).length = n := by rfl) (he : starEach (e :: es) Y.X.env = (false, eval e Y.X.env) :: starEach es Y.X.env := by rfl) (hp : ∀ pos, ((backTo pos (starEach (e :: es) Y.X.env)).any (·.1) || (backToKw pos (keywordEach [] Y.X.env)).any (·.1.isNone)) = false := by intro _; rfl) :
    DC Y (e :: es) [] n [] (mLen n m) := by
  obtain ⟨t, p, s⟩ := h.ex
  refine ⟨tLen n t, ⟨hp, fun pos f pins s σ H Q I h => ?_⟩, snd_len s⟩
  have z := p.run pos pins s σ H _ I h
  rw [he] at z ⊢
  refine Calls.evalArgs_plain (thn z fun us s1 ⟨vs, H1, I1, r, hn, q⟩ => ?_)
  exact ⟨us, [], vs, H1, rfl, by rw [← r.length]; exact hn, rfl, I1, by rw [List.append_nil]; exact r, q⟩
theorem c_kw0 (h : DK Y kws mk) {k : Nat} (hk : ks.length = k := by rfl) (hall : ∀ pos, (backToKw pos (keywordEach kws Y.X.env)).all (·.1.isSome) = true := by intro _; rfl) (hks : ∀ pos, (backToKw pos (keywordEach kws Y.X.env)).filterMap (·.1) = ks := by intro _; rfl)
    (hp : ∀ pos, ((backTo pos (starEach [] Y.X.env)).any (·.1) || (backToKw pos (keywordEach kws Y.X.env)).any (·.1.isNone)) = false := by intro _; rfl) : DC Y [] kws 0 ks (mLen k mk) := by
  obtain ⟨t, p, s⟩ := h.ex
  refine ⟨tLen k t, ⟨hp, fun pos f pins s σ H Q I h => ?_⟩, snd_len s⟩
  refine evalArgs_kw2_nil (hall pos) (thn (p.run pos pins s σ H _ I h) fun ws s1 ⟨vs, H1, I1, r, hn, q⟩ => ?_)
  rw [hks pos]
  exact ⟨[], ws, vs, H1, rfl, rfl, by rw [← r.length, hk]; exact hn, I1, r, q⟩
theorem c_kw (h : DA Y (e :: es) m) (h2 : DK Y kws mk) {k : Nat} (hk : ks.length = k := by rfl) (hl : (e :: es).length = n := by rfl) (hall : ∀ pos, (backToKw pos (keywordEach kws Y.X.env)).all (·.1.isSome) = true := by intro _; rfl) (hks : ∀ pos, (backToKw pos (keywordEach kws Y.X.env)).filterMap (·.1) = ks := by intro _; rfl)
    (he : starEach (e :: es) Y.X.env = (false, eval e Y.X.env) :: starEach es Y.X.env := by rfl) (hp : ∀ pos, ((backTo pos (starEach (e :: es) Y.X.env)).any (·.1) || (backToKw pos (keywordEach kws Y.X.env)).any (·.1.isNone)) = false := by intro _; rfl) : DC Y (e :: es) kws n ks (mApp n k m mk) := by
  obtain ⟨t, p, s⟩ := h.ex
  obtain ⟨t2, p2, s2⟩ := h2.ex
  refine ⟨tApp (tLen n t) (tLen k t2), ⟨hp, fun pos f pins s σ H Q I h => ?_⟩, snd_app s s2⟩
  refine evalArgs_kw2 (hall pos) (thn (p.run pos pins s σ H _ I h) fun us s1 ⟨vs, H1, I1, r, hn, q⟩ => ?_) he
  refine thn (p2.run pos pins s1 σ H1 _ I1 q) fun ws s2 ⟨zs, H2, I2, r2, hn2, q2⟩ => ?_
  rw [hks pos]
  exact ⟨us, ws, vs ++ zs, H2, rfl, by rw [← r.length]; exact hn, by rw [← r2.length, hk]; exact hn2, I2, r.append r2, q2⟩
end

/-! ### callees -/
def pick {α : Type} (pk : List Nat) (l : List α) : List α := pk.filterMap fun i => l[i]?
theorem paired_get {α β : Type} {P : α → β → Prop} : ∀ {xs : List α} {ys : List β}, Paired P xs ys → ∀ i : Nat, (xs[i]? = none ∧ ys[i]? = none) ∨ ∃ x y, xs[i]? = some x ∧ ys[i]? = some y ∧ P x y
  | _, _, .nil, i => .inl ⟨by simp, by simp⟩
  | _, _, .cons a b, 0 => .inr ⟨_, _, rfl, rfl, a⟩
  | _, _, .cons a b, i + 1 => by simpa using paired_get b i
theorem pick_paired {α β : Type} {P : α → β → Prop} {xs : List α} {ys : List β} (h : Paired P xs ys) : ∀ pk : List Nat, Paired P (pick pk xs) (pick pk ys)
  | [] => .nil
  | i :: pk => by
    unfold pick
    rw [List.filterMap_cons, List.filterMap_cons]
    rcases paired_get h i with ⟨e1, e2⟩ | ⟨x, y, e1, e2, p⟩
    · rw [e1, e2]; exact pick_paired h pk
    · rw [e1, e2]; exact .cons p (pick_paired h pk)
theorem pick_len {α : Type} {l : List α} : ∀ {pk : List Nat}, (∀ i ∈ pk, i < l.length) → (pick pk l).length = pk.length
  | [], _ => rfl
  | i :: pk, h => by
    unfold pick
    rw [List.filterMap_cons, List.getElem?_eq_getElem (h i List.mem_cons_self)]
    exact congrArg Nat.succ (pick_len fun j hj => h j (List.mem_cons_of_mem _ hj))
/-- how a def binds a call with n values by position and the names ks: pk picks, per parameter, out of values ++ named ++ defaults -/
structure Bd (K : PySem.W.Frag) (fd : FuncData) (ps : List Str) (n : Nat) (ks : List Str) (pk : List Nat) (dvs : List V) : Prop where
  to : ∃ ds : List Value, Vals dvs ds ∧ ∀ (s : Shared) (us ws : List Value), K.In s.heap → us.length = n → ws.length = ks.length → BindsTo s fd ⟨us, ks.zip ws⟩ (ps.zip (pick pk (us ++ ws ++ ds)))
  len : pk.length = ps.length
  rng : ∀ i ∈ pk, i < n + ks.length + dvs.length
structure Cal (Y : Cy) (f : Addr) (n : Nat) (ks : List Str) (g : List S → Ms → R S) : Prop where
  run : ∀ {pins : List (Addr × Obj)} {σ : L2.St} {H : Hp} {s : Shared} {w : Wd} {Q : VK} {us ws : List Value} {vs : List V} {ss : List S} {ms : Ms}, Inv Y.X pins σ H s → us.length = n → ws.length = ks.length → Vals vs (us ++ ws) → HR Y w H ms → SRs Y w ss vs →
    (g ss ms).post (okP Y w Q) (exP Y w σ) → codeAny (model Y.X.prog Y.X.w) Y.X.A (.call (.ref f) ⟨us, ks.zip ws⟩) (CalR Y pins σ Q) s
theorem cal_wp {Y : Cy} {f : Value} {us : List Value} {kw : List (Str × Value)} {pins : List (Addr × Obj)} {σ : L2.St} {Q : VK} {s : Shared} (h : codeAny (model Y.X.prog Y.X.w) Y.X.A (.call f ⟨us, kw⟩) (CalR Y pins σ Q) s) :
    wpAny (model Y.X.prog Y.X.w) Y.X.A (call f us kw) (EP Y.X pins σ Q) Y.X.xe s := by
  refine wpAny_call (codeAny_mono h fun r s' q => ?_)
  cases r with
  | error e => exact q
  | ok fl => cases fl <;> exact q
def bndS (sem : List S → Ms → R S) (pk : List Nat) (cs : List S) : List S → Ms → R S := fun ss ms => callSem sem (pick pk (ss ++ cs)) ms
section
variable {Y : Cy} {w w1 w2 : Wd} {σ : L2.St} {H H1 H2 : Hp} {env : Env} {ms ms1 ms2 : Ms} {o e : Expr} {es : List Expr} {kws : List Keyword} {m mk : Env → Ms → R (List S)} {me : Env → Ms → R S} {n j k : Nat} {ks ps : List Str} {f : Addr} {fd : FuncData} {sem g : List S → Ms → R S} {x : Str} {p apos pos : Pos}
theorem pick_rel {pk : List Nat} {ss : List S} {vs : List V} (h : SRs Y w ss vs) : SRs Y w (pick pk ss) (pick pk vs) := pick_paired h pk
theorem Cal.fn {pk : List Nat} {dvs : List V} {cs : List S} (ok : CyOk Y k) (F : DFY Y j f fd ps sem) (hj : j ≤ k) (hb : Bd Y.X.K fd ps n ks pk dvs) (hc : ∀ w, SRs Y w cs dvs) : Cal Y f n ks (bndS sem pk cs) := by
  refine ⟨fun {pins σ H s w Q us ws vs ss ms} I l1 l2 r hr sv h => ?_⟩
  obtain ⟨ds, rd, to⟩ := hb.to
  have r2 : Vals (pick pk (vs ++ dvs)) (pick pk (us ++ ws ++ ds)) := pick_paired (r.append rd) pk
  have l3 : vs.length = n + ks.length := by rw [r.length, List.length_append, l1, l2]
  have l4 : (pick pk (vs ++ dvs)).length = ps.length := by
    rw [pick_len, hb.len]
    intro i hi
    rw [List.length_append, l3]
    exact hb.rng i hi
  exact code_df ok F hj (to s us ws I.kIn l1 l2) l4 I r2 hr (pick_rel (sv.append (hc w))) h

def mCallN (g : List S → Ms → R S) (m : Env → Ms → R (List S)) : Env → Ms → R S := fun env ms => (m env ms).bind g
/-- x(..), x a name of the module for a def or a class -/
theorem e_callN (hcal : Cal Y f n ks g) (hg : Gl Y.X x) (hm : Y.X.mg x = some (.ref f)) (hk : PySem.W.keepIn Y.X.K (.ref f) = true) (ha : DC Y es kws n ks m) (hdb : (x == ("__debug__" : Str)) = false := by decide) :
    DE Y (.Call (.Name x p) es kws pos) (mCallN g m) := by
  obtain ⟨t, pa, sa⟩ := ha.ex
  refine ⟨fun σ H Q => t σ H fun vs H1 => ∃ (ss : List S) (ms : Ms) (w : Wd), HR Y w H1 ms ∧ SRs Y w ss vs ∧ (g ss ms).post (okP Y w Q) (exP Y w σ), ⟨fun pins s σ H Q I h => ?_⟩, fun w σ H env ms Q er hr h => ?_⟩
  · refine wpAny_Call_Name_kw (ld_glob I hg hm ?_ hdb)
    refine PySem.W.callWith_of (pa.plain pos) (PySem.W.keeps_K hk) (thn (pa.run pos _ pins s σ H _ I h) fun a s1 ⟨us, ws, vs, H1, ea, l1, l2, I1, r, ss, ms, w, hr, sv, q⟩ => ?_)
    subst ea
    exact ⟨I1.kIn, cal_wp (hcal.run I1 l1 l2 r hr sv q)⟩
  · refine sa.go er hr h fun ss ms1 w1 H1 vs e1 er1 hr1 sv h1 => ?_
    exact ⟨ss, ms1, w1, hr1, sv, R.post_mono h1 (fun _ _ z => z.ext e1) fun _ _ _ z => z⟩
/-- a method's callees, by the receiver's class -/
abbrev MTab := List (Nat × (List S → Ms → R S))
def mMeth (tab : MTab) (mo : Env → Ms → R S) (m : Env → Ms → R (List S)) : Env → Ms → R S := fun env ms => (mo env ms).bind fun x ms1 => match x with
  | .d (.obj c ds) => match tab.lookup c with
    | some g => (m env ms1).bind fun ss ms2 => g (.d (.obj c ds) :: ss) ms2
    | none => .bad
  | _ => .bad
/-- what a method of a class must have -/
structure MtOk (Y : Cy) (n : Nat) (ks : List Str) (mth : Str) (c : Nat) (g : List S → Ms → R S) : Prop where
  cls : Cls Y.X.K (Y.Γ.cls c)
  no : mth ∉ Y.Γ.fld c
  ex : ∃ f, Meth Y.X.K (Y.Γ.cls c) mth f ∧ Cal Y f (n + 1) ks g
inductive Tab {α : Type} (P : Nat → α → Prop) : List (Nat × α) → Prop where
  | nil : Tab P []
  | cons {c : Nat} {g : α} {r : List (Nat × α)} (h : P c g) (t : Tab P r) : Tab P ((c, g) :: r)
theorem Tab.at_ {α : Type} {P : Nat → α → Prop} {c : Nat} {g : α} : ∀ {l : List (Nat × α)}, Tab P l → l.lookup c = some g → P c g
  | _, .nil, h => by cases h
  | (c', g') :: r, .cons h t, e => by
    rw [List.lookup_cons] at e
    cases q : c == c' with
    | true =>
      rw [q] at e
      cases e
      rw [beq_iff_eq.mp q]; exact h
    | false => rw [q] at e; exact t.at_ e
theorem lookup_zip_none {α : Type} : ∀ {fs : List Str} {xs : List α} {f : Str}, f ∉ fs → (fs.zip xs).lookup f = none
  | [], _, _, _ => by simp
  | a :: fs, [], _, _ => by simp
  | a :: fs, x :: xs, f, h => by
    rw [List.zip_cons_cons, List.lookup_cons]
    have : (f == a) = false := beq_eq_false_iff_ne.mpr fun z => h (by subst z; exact List.mem_cons_self)
    rw [this]
    exact lookup_zip_none fun z => h (List.mem_cons_of_mem _ z)
theorem e_meth {tab : MTab} {mth : Str} {mo : Env → Ms → R S} {pl : Sem Bool} (ho : DE Y o mo) (ht : Tab (MtOk Y n ks mth) tab) (ha : DC Y es kws n ks m)
    (hc : eval (.Call (.Attribute o mth apos) es kws pos) Y.X.env = (do
      let ov ← eval o Y.X.env
      standAt apos.atName
      let (f, first) ← holding [ov] (getMethod ov mth pl)
      callWith pos f first (backTo pos (starEach es Y.X.env)) (backToKw pos (keywordEach kws Y.X.env))) := by rfl) :
    DE Y (.Call (.Attribute o mth apos) es kws pos) (mMeth tab mo m) := by
  obtain ⟨to, po, so⟩ := ho.ex
  obtain ⟨t, pa, sa⟩ := ha.ex
  refine ⟨fun σ H Q => to σ H fun x H1 => ∃ a c dx xs g, x = .ref a ∧ H1 a = some (.ins (Y.Γ.cls c) dx ((Y.Γ.fld c).zip xs)) ∧ MtOk Y n ks mth c g ∧ t σ H1 fun vs H2 => ∃ (ss : List S) (ms : Ms) (w : Wd), HR Y w H2 ms ∧ SRs Y w ss (x :: vs) ∧ (g ss ms).post (okP Y w Q) (exP Y w σ),
    ⟨fun pins s σ H Q I h => ?_⟩, fun w σ H env ms Q er hr h => ?_⟩
  · refine PySem.W.methodCall_KW (pl := pl) (thn (po.run pins s σ H _ I h) fun u s1 ⟨x, H1, I1, rx, a, c, dx, xs, g, ex, ea, mt, q⟩ => ?_) hc
    subst ex
    obtain rfl : u = Value.ref a := rx
    obtain ⟨f, hm, cal⟩ := mt.ex
    refine getmeth_ok I1 ea mt.cls hm (lookup_zip_none mt.no) ?_
    refine PySem.W.callWith_of (pa.plain pos) (PySem.W.keeps_K hm.kp) (thn (pa.run pos _ pins s1 σ H1 _ I1 q) fun b s2 ⟨us, ws, vs, H2, eb, l1, l2, I2, r, ss, ms, w, hr, sv, q2⟩ => ?_)
    subst eb
    exact ⟨I2.kIn, cal_wp (cal.run (us := .ref a :: us) (vs := .ref a :: vs) I2 (congrArg Nat.succ l1) l2 (show Vals (V.ref a :: vs) (Value.ref a :: (us ++ ws)) from .cons rfl r) hr sv q2)⟩
  · refine so.go er hr h fun x ms1 w1 H1 v e1 er1 hr1 sv h1 => ?_
    cases x with
    | loc i => exact h1.elim
    | exn c ds => exact h1.elim
    | d x =>
      cases x with
      | obj c ds =>
        obtain ⟨a, dx, xs, rfl, k1, k2, k3⟩ := sv
        dsimp only at h1
        cases hl : tab.lookup c with
        | none => rw [hl] at h1; exact h1.elim
        | some g =>
          rw [hl] at h1
          refine ⟨a, c, dx, xs, g, rfl, hr1.sub _ _ k1, ht.at_ hl, ?_⟩
          refine sa.go er1 hr1 h1 fun ss ms2 w2 H2 vs e2 er2 hr2 svs h2 => ?_
          exact ⟨_, ms2, w2, hr2, .cons (show SR Y w2 (.d (.obj c ds)) (.ref a) from ⟨a, dx, xs, rfl, e2.F _ _ k1, k2, DRs.mono e2.F _ _ k3⟩) svs, R.post_mono h2 (fun _ _ z => z.ext (e1.trans e2)) fun _ _ _ z => z⟩
      | _ => exact h1.elim
/-- C.m(..), m a classmethod, C a class by name or a name's value -/
structure CmOk (Y : Cy) (n : Nat) (ks : List Str) (mth : Str) (c : Nat) (g : List S → Ms → R S) : Prop where
  ex : ∃ mc q f, ClX.CRead Y.X.K (Y.Γ.fn c) mc ∧ ClX.CMet Y.X.K (Y.Γ.fn c) mc mth q f ∧ Cal Y f (n + 1) ks g
def mCMeth (tab : MTab) (mo : Env → Ms → R S) (m : Env → Ms → R (List S)) : Env → Ms → R S := fun env ms => (mo env ms).bind fun x ms1 => match x with
  | .d (.fn c) => match tab.lookup c with
    | some g => (m env ms1).bind fun ss ms2 => g (.d (.fn c) :: ss) ms2
    | none => .bad
  | _ => .bad
theorem e_cmeth {tab : MTab} {mth : Str} {mo : Env → Ms → R S} {pl : Sem Bool} (ho : DE Y o mo) (ht : Tab (CmOk Y n ks mth) tab) (ha : DC Y es kws n ks m)
    (hc : eval (.Call (.Attribute o mth apos) es kws pos) Y.X.env = (do
      let ov ← eval o Y.X.env
      standAt apos.atName
      let (f, first) ← holding [ov] (getMethod ov mth pl)
      callWith pos f first (backTo pos (starEach es Y.X.env)) (backToKw pos (keywordEach kws Y.X.env))) := by rfl) :
    DE Y (.Call (.Attribute o mth apos) es kws pos) (mCMeth tab mo m) := by
  obtain ⟨to, po, so⟩ := ho.ex
  obtain ⟨t, pa, sa⟩ := ha.ex
  refine ⟨fun σ H Q => to σ H fun x H1 => ∃ c g, x = .ref (Y.Γ.fn c) ∧ CmOk Y n ks mth c g ∧ t σ H1 fun vs H2 => ∃ (ss : List S) (ms : Ms) (w : Wd), HR Y w H2 ms ∧ SRs Y w ss (x :: vs) ∧ (g ss ms).post (okP Y w Q) (exP Y w σ),
    ⟨fun pins s σ H Q I h => ?_⟩, fun w σ H env ms Q er hr h => ?_⟩
  · refine PySem.W.methodCall_KW (pl := pl) (thn (po.run pins s σ H _ I h) fun u s1 ⟨x, H1, I1, rx, c, g, ex, mt, q⟩ => ?_) hc
    subst ex
    obtain rfl : u = Value.ref (Y.Γ.fn c) := rx
    obtain ⟨mc, qa, f, cr, cm, cal⟩ := mt.ex
    refine ClX.getmethcm_ok I1 cr cm fun s2 I2 => ?_
    have hq : ∀ {s' : Shared} {σ' : L2.St} {H' : Hp}, Inv Y.X ((s1.heap.objs.size, PySem.W.methodObj (.ref f) (.ref (Y.Γ.fn c))) :: pins) σ' H' s' → PySem.W.MethP Y.X.K s1.heap.objs.size f (.ref (Y.Γ.fn c)) s'.heap := fun I' => ⟨ClX.pin_at I', I'.kIn⟩
    show wpAny _ _ (callWith pos (.ref s1.heap.objs.size) [] _ _) _ _ _
    refine PySem.W.callWith_of (P := PySem.W.MethP Y.X.K s1.heap.objs.size f (.ref (Y.Γ.fn c))) (pa.plain pos) (PySem.W.keeps_M cm.fi) (thn (pa.run pos (.ref s1.heap.objs.size) _ s2 σ H1 _ I2 q) fun b s3 ⟨us, ws, vs, H2, eb, l1, l2, I3, r, ss, ms, w, hr, sv, q2⟩ => ?_)
    subst eb
    refine ⟨hq I3, ?_⟩
    have z := cal.run (us := .ref (Y.Γ.fn c) :: us) (vs := .ref (Y.Γ.fn c) :: vs) I3 (congrArg Nat.succ l1) l2 (show Vals (V.ref (Y.Γ.fn c) :: vs) (Value.ref (Y.Γ.fn c) :: (us ++ ws)) from .cons rfl r) hr sv q2
    exact thn (cal_wp (PySem.W.method_call (ClX.pin_at I3) z)) fun _ _ y => ClX.unpinE y
  · refine so.go er hr h fun x ms1 w1 H1 v e1 er1 hr1 sv h1 => ?_
    cases x with
    | loc i => exact h1.elim
    | exn c ds => exact h1.elim
    | d x =>
      cases x with
      | fn c =>
        cases sv
        dsimp only at h1
        cases hl : tab.lookup c with
        | none => rw [hl] at h1; exact h1.elim
        | some g =>
          rw [hl] at h1
          refine ⟨c, g, rfl, ht.at_ hl, ?_⟩
          refine sa.go er1 hr1 h1 fun ss ms2 w2 H2 vs e2 er2 hr2 svs h2 => ?_
          exact ⟨_, ms2, w2, hr2, .cons (show SR Y w2 (.d (.fn c)) (.ref (Y.Γ.fn c)) from rfl) svs, R.post_mono h2 (fun _ _ z => z.ext (e1.trans e2)) fun _ _ _ z => z⟩
      | _ => exact h1.elim
end
end Fw
set_option Elab.async false
set_option linter.all false
set_option maxRecDepth 100000
set_option maxHeartbeats 4000000
/-! Fw10: new instances, attributes read and written. -/
namespace Fw
open PySem L2 PySem.Spec PyProof.Rows

/-- a world without its last cell -/
def Wd.dropLast (w : Wd) : Wd := ⟨w.F, w.P, w.mu.dropLast⟩
section
variable {K : PySem.W.Frag} {Γ : G} {w w1 : Wd} {H H1 : Hp} {ms ms1 : Ms}
theorem HR0.sub_mu {F : Hp} {mu : List Addr} {ms2 : Ms} (h : HR0 K Γ w H ms) (hF : ∀ a o, w.F a = some o → F a = some o) (hs : ∀ a o, F a = some o → H a = some o) (hd : ∀ a o, w.P a = some o → F a = none) (len : mu.length = ms2.length)
    (hm : ∀ (n : Nat) a c, mu[n]? = some a → ms2[n]? = some c → w.mu[n]? = some a ∧ ms[n]? = some c ∧ (c ≠ .dead → F a = none)) : HR0 K Γ ⟨F, w.P, mu⟩ H ms2 := by
  refine ⟨hs, h.prot, hd, len, fun i j a c c' e1 e2 k1 k2 d1 d2 => ?_, fun n a c e k d => ?_, fun n a c e k => ?_⟩
  · obtain ⟨x1, x2, _⟩ := hm i a c e1 k1
    obtain ⟨y1, y2, _⟩ := hm j a c' e2 k2
    exact h.inj i j a c c' x1 y1 x2 y2 d1 d2
  · obtain ⟨x1, x2, x3⟩ := hm n a c e k
    exact ⟨x3 d, (h.sep n a c x1 x2 d).2⟩
  · obtain ⟨x1, x2, x3⟩ := hm n a c e k
    have q := h.cel n a c x1 x2
    cases c with
    | dead => trivial
    | lst ds => obtain ⟨xs, y1, y2⟩ := q; exact ⟨xs, y1, DRs.mono hF _ _ y2⟩
    | ins c fs => obtain ⟨dx, xs, y1, y2⟩ := q; exact ⟨dx, xs, y1, DRs.mono hF _ _ y2⟩
theorem dropLast_get {α : Type} {l : List α} {n : Nat} {x : α} (h : l.dropLast[n]? = some x) : l[n]? = some x ∧ n + 1 < l.length := by
  have hl : n < l.dropLast.length := (List.getElem?_eq_some_iff.mp h).1
  rw [List.length_dropLast] at hl
  refine ⟨?_, by omega⟩
  rw [List.getElem?_dropLast] at h
  rw [if_pos (by omega)] at h
  exact h
/-- the last cell is forgotten -/
theorem HR0.forget (h : HR0 K Γ w H ms) : HR0 K Γ w.dropLast H ms.dropLast := by
  refine h.sub_mu (fun _ _ z => z) h.sub h.dis (by show w.mu.dropLast.length = _; rw [List.length_dropLast, List.length_dropLast, h.len]) fun n a c e k => ?_
  have e := (dropLast_get e).1
  have k := (dropLast_get k).1
  exact ⟨e, k, fun d => (h.sep n a c e k d).1⟩
/-- the last cell is frozen -/
theorem HR0.freeze {n : Nat} {a : Addr} {c : Cell} {o : HO} (h : HR0 K Γ w H ms) (hn : w.mu.length = n + 1) (ha : w.mu[n]? = some a) (hc : ms[n]? = some c) (hd : c ≠ .dead) (ho : H a = some o) : HR0 K Γ ⟨upd w.F a o, w.P, w.mu.dropLast⟩ H ms.dropLast := by
  obtain ⟨nF, nP⟩ := h.sep n a c ha hc hd
  refine h.sub_mu (fun b u e => ?_) (fun b u e => ?_) (fun b u e => ?_) (by rw [List.length_dropLast, List.length_dropLast, h.len]) fun m b d e k => ?_
  · have : b ≠ a := fun z => by subst z; rw [nF] at e; cases e
    rw [upd_ne this]; exact e
  · by_cases z : b = a
    · subst z; rw [upd_same] at e; rw [← e]; exact ho
    · rw [upd_ne z] at e; exact h.sub b u e
  · have : b ≠ a := fun z => by subst z; rw [nP] at e; cases e
    rw [upd_ne this]; exact h.dis b u e
  · obtain ⟨e, hl⟩ := dropLast_get e
    have k := (dropLast_get k).1
    refine ⟨e, k, fun dd => ?_⟩
    have : b ≠ a := fun z => by
      subst z
      have := h.inj m n b d c e ha k hc dd hd
      omega
    rw [upd_ne this]
    exact (h.sep m b d e k dd).1
end
section
variable {Y : Cy} {w w1 w2 : Wd} {σ : L2.St} {H H1 H2 : Hp} {env : Env} {ms ms1 ms2 : Ms} {o e : Expr} {es : List Expr} {kws : List Keyword} {m mk : Env → Ms → R (List S)} {me : Env → Ms → R S} {n j k : Nat} {ks ps : List Str} {f : Addr} {fd : FuncData} {sem g : List S → Ms → R S} {x : Str} {p apos pos : Pos}
/-- the callee runs within other frames of the machine -/
theorem code_dfA {A : Around} {pins : List (Addr × Obj)} {σ : L2.St} {H : Hp} {s : Shared} {w : Wd} {Q : VK} {us ws : List Value} {vs : List V} {ss : List S} {ms : Ms} {kw : List (Str × Value)} (tk : Takes Y.X Y.W) (hr : Room j A) (gd : A.guards = some []) (F : DFY Y j f fd ps sem)
    (hb : BindsTo s fd ⟨us, kw⟩ (ps.zip ws)) (hl : vs.length = ps.length) (I : Inv Y.X pins σ H s) (e0 : Env0 Y.X.prog Y.X.w Y.X.K Y.X.mg Y.X.base A Y.X.stack s H) (r : Vals vs ws) (hh : HR Y w H ms) (sv : SRs Y w ss vs) (h : (callSem sem ss ms).post (okP Y w Q) (exP Y w σ)) :
    codeAny (model Y.X.prog Y.X.w) A (.call (.ref f) ⟨us, kw⟩) (CalR Y pins σ Q) s := by
  obtain ⟨wc, mc, sc, hr1, s1, h2⟩ := call_post hh sv h
  refine codeAny_mono (F.run A Y.X.stack s H ⟨us, kw⟩ ws vs sc mc wc Q _ hr gd e0 hb r hl hr1 s1 h2) fun res s' hq => ?_
  cases res with
  | error er => exact tk er s' (XE.of_call I (fun _ _ _ z => z) hq)
  | ok fl =>
    cases fl with
    | ret u => exact I.after hq
    | next => exact False.elim hq
    | brk => exact False.elim hq
    | cont => exact False.elim hq
theorem make_guards {A : Around} {C : Addr} {us : List Value} {kw : List (Str × Value)} : (A.under (.builtin "type.__call__" ⟨.ref C :: us, kw⟩)).guards = A.guards := by
  first | rfl | simp [Around.under, Code.guards, pushGuards]
theorem HR0.junk {K : PySem.W.Frag} {Γ : G} {w : Wd} {H : Hp} {ms : Ms} {p : Addr} {o : HO} (h : HR0 K Γ w H ms) (hp : H p = none) : HR0 K Γ w (upd H p o) ms :=
  ⟨fun a u e => by rw [upd_ne (ne_of_none (h.sub a u e) hp)]; exact h.sub a u e, fun a u e => by rw [upd_ne (ne_of_none (h.prot a u e) hp)]; exact h.prot a u e, h.dis, h.len, h.inj, h.sep,
    fun n a c hm hc => (h.cel n a c hm hc).mono (Ext.refl w) fun u e => by rw [upd_ne (ne_of_none e hp)]; exact e⟩
theorem Ext.dropLast {w : Wd} {x : Addr} {w' : Wd} {F : Hp} (e : Ext ⟨w.F, w.P, w.mu ++ [x]⟩ w') (l : w'.mu.length = w.mu.length + 1) (hF : ∀ a o, w'.F a = some o → w.F a = some o → F a = some o) : Ext w ⟨F, w'.P, w'.mu.dropLast⟩ := by
  refine ⟨fun a o h => hF a o (e.F a o h) h, fun n a h => ?_, e.P⟩
  have hn : n < w.mu.length := (List.getElem?_eq_some_iff.mp h).1
  have h2 := e.mu n a (by show (w.mu ++ [x])[n]? = _; rw [List.getElem?_append_left hn]; exact h)
  show w'.mu.dropLast[n]? = _
  rw [List.getElem?_dropLast, if_pos (by omega)]
  exact h2
/-- C(..): a new instance, its __init__, then it is frozen -/
def mkS (c : Nat) (fs : List Str) (g : List S → Ms → R S) : List S → Ms → R S := fun ss ms => match g (.loc ms.length :: ss) (ms ++ [.ins c []]) with
  | .ok (.d .non) ms' => match Nat.beq ms'.length (ms.length + 1), ms'[ms.length]? with
    | true, some (.ins c' kvs) => match Nat.beq c' c && decide (kvs.map (·.1) = fs) with
      | true => .ok (.d (.obj c (kvs.map (·.2)))) ms'.dropLast
      | false => .bad
    | _, _ => .bad
  | .ex k ds ms' => match Nat.beq ms'.length (ms.length + 1) with
    | true => .ex k ds ms'.dropLast
    | false => .bad
  | _ => .bad
theorem mk_post {c : Nat} {x dx : Addr} {ss : List S} {Q : VK} (hr : HR Y w H ms) (hx : H x = none) (hd : H dx = none) (ne : dx ≠ x) (h : (mkS c (Y.Γ.fld c) g ss ms).post (okP Y w Q) (exP Y w σ)) :
    HR Y ⟨w.F, w.P, w.mu ++ [x]⟩ (upd (upd H dx (.own x)) x (.ins (Y.Γ.cls c) dx [])) (ms ++ [.ins c []]) ∧ Ext w ⟨w.F, w.P, w.mu ++ [x]⟩ ∧
      (g (.loc ms.length :: ss) (ms ++ [.ins c []])).post (okP Y ⟨w.F, w.P, w.mu ++ [x]⟩ fun v H' => v = .non ∧ Q (.ref x) H') (exP Y ⟨w.F, w.P, w.mu ++ [x]⟩ σ) := by
  have h1 : HR Y w (upd H dx (.own x)) ms := hr.junk hd
  have hx' : (upd H dx (.own x)) x = none := by rw [upd_ne (Ne.symm ne)]; exact hx
  obtain ⟨h2, e2⟩ := h1.cell (o := .ins (Y.Γ.cls c) dx []) (c := .ins c []) hx' ⟨dx, [], upd_same, rfl⟩
  refine ⟨h2, e2, ?_⟩
  have mx : ∀ {w' : Wd}, Ext ⟨w.F, w.P, w.mu ++ [x]⟩ w' → w'.mu[ms.length]? = some x := fun {w'} e => e.mu _ _ (by show (w.mu ++ [x])[ms.length]? = _; rw [← hr.len]; simp)
  unfold mkS at h
  cases hg : g (.loc ms.length :: ss) (ms ++ [.ins c []]) with
  | bad => rw [hg] at h; exact h.elim
  | ex k ds ms' =>
    rw [hg] at h
    dsimp only at h
    cases hb : Nat.beq ms'.length (ms.length + 1) with
    | false => rw [hb] at h; exact h.elim
    | true =>
      rw [hb] at h
      have hb := Nat.eq_of_beq_eq_true hb
      intro w' H' dd e' hr' xd
      exact h w'.dropLast H' dd (e'.dropLast (by rw [hr'.len, hb, hr.len]) fun a o z _ => z) hr'.forget xd
  | ok s ms' =>
    rw [hg] at h
    split at h
    · rename_i ms'' heq
      injection heq with q1 q2
      subst q1 q2
      split at h
      · rename_i c' kvs hl hc
        cases hb : (Nat.beq c' c && decide (kvs.map (·.1) = Y.Γ.fld c)) with
        | false => rw [hb] at h; exact h.elim
        | true =>
          rw [hb] at h
          obtain ⟨b1, b2⟩ := Bool.and_eq_true_iff.mp hb
          have b1 := Nat.eq_of_beq_eq_true b1
          have b2 := of_decide_eq_true b2
          subst b1
          have hl := Nat.eq_of_beq_eq_true hl
          intro w' H' v e' hr' sv
          refine ⟨sv, ?_⟩
          have hm := mx e'
          obtain ⟨d', xs, k1, k2⟩ := hr'.cel _ _ _ hm hc
          rw [b2] at k1
          have lx : w'.mu.length = w.mu.length + 1 := by rw [hr'.len, hl, hr.len]
          have nd : Cell.ins c' kvs ≠ .dead := by intro z; cases z
          have fr := hr'.freeze (by rw [lx, hr.len]) hm hc nd k1
          have ex : Ext w ⟨upd w'.F x (.ins (Y.Γ.cls c') d' ((Y.Γ.fld c').zip xs)), w'.P, w'.mu.dropLast⟩ := e'.dropLast lx fun a o z1 z2 => by
            rw [upd_ne (ne_of_none (hr.sub a o z2) hx)]; exact z1
          refine h _ H' _ ex fr ⟨x, d', xs, rfl, upd_same, ?_, ?_⟩
          · rw [← DRs.length k2, ← b2, List.length_map, List.length_map]
          · refine DRs.mono (fun a o z => ?_) _ _ k2
            show upd w'.F x _ a = some o
            rw [upd_ne]
            · exact z
            · intro z2
              subst z2
              rw [(hr'.sep _ _ _ hm hc nd).1] at z
              cases z
      · exact h.elim
    · exact absurd ‹R.ok s ms' = R.ex _ _ _› (by intro z; cases z)
    · exact h.elim
theorem Cal.make {pk : List Nat} {dvs : List V} {cs : List S} {c : Nat} {C : Addr} (ok : CyOk Y k) (M : Mk Y.X.K C f) (hC : Y.Γ.cls c = C) (F : DFY Y j f fd ps sem) (hj : j + 1 ≤ k) (hb : Bd Y.X.K fd ps (n + 1) ks pk dvs) (hc : ∀ w, SRs Y w cs dvs) : Cal Y C n ks (mkS c (Y.Γ.fld c) (bndS sem pk cs)) := by
  subst hC
  refine ⟨fun {pins σ H s w Q us ws vs ss ms} I l1 l2 r hr sv h => ?_⟩
  have I2 := Inv.made (C := Y.Γ.cls c) I
  have hx : H (s.heap.objs.size + 1) = none := I.hok.fresh (Nat.le_succ _)
  have hdx : H s.heap.objs.size = none := I.hok.fresh (Nat.le_refl _)
  have ne : s.heap.objs.size ≠ s.heap.objs.size + 1 := Nat.ne_of_lt (Nat.lt_succ_self _)
  obtain ⟨hr2, e2, q2⟩ := mk_post hr hx hdx ne h
  obtain ⟨ds, rd, to⟩ := hb.to
  have sv2 : SRs Y ⟨w.F, w.P, w.mu ++ [s.heap.objs.size + 1]⟩ (.loc ms.length :: ss) (.ref (s.heap.objs.size + 1) :: vs) :=
    .cons ⟨_, by show (w.mu ++ [s.heap.objs.size + 1])[ms.length]? = _; rw [← hr.len]; simp, rfl⟩ (sv.mono e2)
  have r1 : Vals (V.ref (s.heap.objs.size + 1) :: vs) (Value.ref (s.heap.objs.size + 1) :: us ++ ws) := .cons rfl r
  have r2 : Vals (pick pk (V.ref (s.heap.objs.size + 1) :: vs ++ dvs)) (pick pk (Value.ref (s.heap.objs.size + 1) :: us ++ ws ++ ds)) := pick_paired (r1.append rd) pk
  have l3 : vs.length = n + ks.length := by rw [r.length, List.length_append, l1, l2]
  have l4 : (pick pk (V.ref (s.heap.objs.size + 1) :: vs ++ dvs)).length = ps.length := by
    rw [pick_len, hb.len]
    intro i hi
    have := hb.rng i hi
    simp only [List.cons_append, List.length_cons, List.length_append, l3]
    omega
  refine make_map (f := f) I.kIn M.makes M.init (beq_iff_eq.mp M.fn) (codeAny_mono (code_dfA (us := Value.ref (s.heap.objs.size + 1) :: us) ok.tk ((ok.hr.mono hj).make _ us (ks.zip ws)) (by rw [make_guards]; exact ok.gd) F
    (to _ (Value.ref (s.heap.objs.size + 1) :: us) ws I2.kIn (congrArg Nat.succ l1) l2) l4 I2 (I2.env0.make _ us (ks.zip ws)) r2 hr2 (pick_rel (sv2.append (hc _))) q2) fun r s' hq => ?_)
  cases r with
  | error e => exact hq
  | ok fl =>
    cases fl with
    | ret u =>
      obtain ⟨v, H', I3, rv, ev, q3⟩ := hq
      subst ev
      exact ⟨rv, ⟨V.ref (s.heap.objs.size + 1), H', I3, rfl, q3⟩⟩
    | next => exact False.elim hq
    | brk => exact False.elim hq
    | cont => exact False.elim hq
end
end Fw
set_option Elab.async false
set_option linter.all false
set_option maxRecDepth 100000
set_option maxHeartbeats 4000000
/-! Fw11: attributes, subscripts, isinstance. -/
namespace Fw
open PySem L2 PySem.Spec PyProof.Rows

section
variable {Y : Cy} {w w1 w2 : Wd} {σ : L2.St} {H H1 H2 : Hp} {env : Env} {ms ms1 ms2 : Ms} {Ed : Ends} {o e : Expr} {es : List Expr} {m mk : Env → Ms → R (List S)} {me mo : Env → Ms → R S} {n j k : Nat} {ks ps : List Str} {f : Addr} {fd : FuncData} {sem g : List S → Ms → R S} {x fl : Str} {p apos pos : Pos}
/-! ### e.f -/
def fldG (i : Nat) : List D → Ms → R S := fun ds ms => match ds[i]? with
  | some d => .ok (.d d) ms
  | none => .bad
def noEx (r : R S) : R S := match r with
  | .ok s ms => .ok s ms
  | .ex _ _ _ => .bad
  | .bad => .bad
def propG (c : Nat) (g : List S → Ms → R S) : List D → Ms → R S := fun ds ms => noEx (g [.d (.obj c ds)] ms)
/-- Y where no exception may leave -/
def Cy.nox (Y : Cy) : Cy := ⟨Y.X.nox, Y.Γ, fun _ _ _ _ => False, Y.ea, Y.ed, Y.ec⟩
def AtG (Y : Cy) (fl : Str) (c : Nat) (g : List D → Ms → R S) : Prop :=
  ∀ {pins : List (Addr × Obj)} {s : Shared} {σ : L2.St} {H : Hp} {a dx : Addr} {xs : List V} {ds : List D} {w : Wd} {ms : Ms} {Q : VK} {E : Value → Shared → Prop}, Inv Y.X pins σ H s → w.F a = some (.ins (Y.Γ.cls c) dx ((Y.Γ.fld c).zip xs)) → (Y.Γ.fld c).length = xs.length → DRs Y.X.K Y.Γ w.F ds xs → HR Y w H ms →
    (g ds ms).post (okP Y w Q) (fun _ _ _ => False) → wpAny (model Y.X.prog Y.X.w) Y.X.A (getAttr (.ref a) fl true) (EP Y.X pins σ Q) E s
theorem zip_at : ∀ {fs : List Str} {xs : List V} {i : Nat} {v : V}, fs[i]? = some fl → (∀ j, j < i → fs[j]? ≠ some fl) → xs[i]? = some v → (fs.zip xs).lookup fl = some v
  | [], _, _, _, h, _, _ => by simp at h
  | a :: fs, [], _, _, _, _, h => by simp at h
  | a :: fs, x :: xs, 0, v, h, _, h2 => by
    simp at h h2
    subst h h2
    rw [List.zip_cons_cons, List.lookup_cons, beq_self_eq_true]
  | a :: fs, x :: xs, i + 1, v, h, h3, h2 => by
    rw [List.zip_cons_cons, List.lookup_cons]
    have : (fl == a) = false := beq_eq_false_iff_ne.mpr fun z => h3 0 (Nat.succ_pos _) (by subst z; rfl)
    rw [this]
    exact zip_at (by simpa using h) (fun j hj => by simpa using h3 (j + 1) (Nat.succ_lt_succ hj)) (by simpa using h2)
theorem at_fld {c i : Nat} (hc : Cls Y.X.K (Y.Γ.cls c)) (hn : NoAttr Y.X.K (Y.Γ.cls c) fl) (hi : (Y.Γ.fld c)[i]? = some fl) (hj : ((Y.Γ.fld c).take i).contains fl = false) : AtG Y fl c (fldG i) := by
  intro pins s σ H a dx xs ds w ms Q E I ea lx r hr q
  unfold fldG at q
  cases hd : ds[i]? with
  | none => rw [hd] at q; exact q.elim
  | some d =>
    rw [hd] at q
    obtain ⟨v, hv, rv⟩ := DRs.get r hd
    refine getattr_ok I (hr.sub _ _ ea) hc hn (zip_at hi (fun j h z => ?_) hv) fun u s' I' ru => ⟨v, H, I', ru, q.at (Ext.refl w) hr rv⟩
    have : fl ∈ (Y.Γ.fld c).take i := List.mem_of_getElem? (i := j) (by rw [List.getElem?_take, if_pos h]; exact z)
    have z2 := List.contains_iff_mem.mpr this
    rw [hj] at z2
    cases z2
theorem at_prop {c : Nat} {pa ga : Addr} {pk : List Nat} {dvs : List V} {cs : List S} (ok : CyOk Y k) (hc : Cls Y.X.K (Y.Γ.cls c)) (hp : PropOf Y.X.K (Y.Γ.cls c) fl pa ga) (F : DFY Y j ga fd ps sem) (hj : j + 1 ≤ k) (hb : Bd Y.X.K fd ps 1 [] pk dvs) (hcs : ∀ w, SRs Y w cs dvs) : AtG Y fl c (propG c (bndS sem pk cs)) := by
  intro pins s σ H a dx xs ds w ms Q E I ea lx r hr q
  obtain ⟨mA, O, _, _, _, _⟩ := ins_get I.hok (hr.sub _ _ ea)
  obtain ⟨od, J, _⟩ := O.look
  obtain ⟨rest, hrec⟩ := hp.rec_
  have I1 := I.tok (s.toks + 1)
  have hcl : (PySem.W.clsIn Y.X.K (Y.Γ.cls c)).isSome = true := by
    obtain ⟨cd, e1, _⟩ := PySem.W.any_some hc.hd
    rw [e1]
    rfl
  refine PySem.W.get_bind I.kIn J (PySem.W.plainGet_of (hc.get fl)).1 (PySem.W.findObj_data hcl hp.at_ hp.get hp.tak) (PySem.W.plainGet_of (hc.get fl)).2 (wpAny_call (PySem.W.prop_get (s := { s with toks := s.toks + 1 }) I.kIn hrec ?_))
  obtain ⟨dl, rd, to⟩ := hb.to
  have q2 : (callSem sem (pick pk ([S.d (.obj c ds)] ++ cs)) ms).post (okP Y.nox w Q) (exP Y.nox w σ) := by
    unfold propG noEx at q
    have q : (match callSem sem (pick pk ([S.d (.obj c ds)] ++ cs)) ms with
      | .ok s ms => R.ok s ms
      | .ex _ _ _ => .bad
      | .bad => .bad).post (okP Y w Q) (fun _ _ _ => False) := q
    cases hcall : callSem sem (pick pk ([S.d (.obj c ds)] ++ cs)) ms with
    | bad => rw [hcall] at q; exact q
    | ex _ _ _ => rw [hcall] at q; exact q.elim
    | ok s' ms' =>
      rw [hcall] at q
      intro w' H' v e' hr' sv
      refine q w' H' v e' hr' ?_
      cases s' <;> exact sv
  have sv0 : SRs Y.nox w ([S.d (.obj c ds)] ++ cs) (V.ref a :: dvs) := .cons ⟨a, dx, xs, rfl, ea, lx, r⟩ (Paired.mapP (hcs w) fun x v z => by cases x <;> exact z)
  have r2 : Vals (pick pk (V.ref a :: dvs)) (pick pk ([Value.ref a] ++ [] ++ dl)) := pick_paired (show Vals (V.ref a :: dvs) ([Value.ref a] ++ [] ++ dl) from .cons rfl rd) pk
  have l4 : (pick pk (V.ref a :: dvs)).length = ps.length := by
    rw [pick_len, hb.len]
    intro i hi
    have := hb.rng i hi
    simp only [List.length_nil, List.length_cons] at this ⊢
    omega
  refine codeAny_mono (code_dfA (Y := Y.nox) takes_none5 (ok.hr.mono hj).in1 ok.gd F (to { s with toks := s.toks + 1 } [.ref a] [] I1.kIn rfl rfl) l4 (I1.wish _) I1.env0.in1 r2 hr (pick_rel sv0) q2) fun rr s' hq => ?_
  cases rr with
  | error er => exact False.elim hq
  | ok fw =>
    cases fw with
    | ret u =>
      obtain ⟨v, H', I3, rv, q3⟩ := hq
      show wpAny _ _ (handedOut u) _ _ _
      rw [PySem.W.handedOut_of (handed_of rv)]
      exact wpAny_pure ⟨v, H', I3.unwish, rv, q3⟩
    | next => exact False.elim hq
    | brk => exact False.elim hq
    | cont => exact False.elim hq
abbrev ATab := List (Nat × (List D → Ms → R S))
/-- e.f: a frozen instance by its class; a cell: its field -/
def mAttr (fl : Str) (tab : ATab) (mo : Env → Ms → R S) : Env → Ms → R S := fun env ms => (mo env ms).bind fun x ms1 => match x with
  | .d (.obj c ds) => match tab.lookup c with
    | some g => noEx (g ds ms1)
    | none => .bad
  | _ => .bad
theorem noEx_post {r : R S} {P : S → Ms → Prop} {E E' : Nat → List D → Ms → Prop} (h : (noEx r).post P E) : r.post P E' := by
  cases r with
  | ok s ms => exact h
  | ex c ds ms => exact h.elim
  | bad => exact h
theorem e_attr {tab : ATab} (ho : DE Y o mo) (ht : Tab (AtG Y fl) tab) (hb : attributeBase o fl Y.X.env (eval o Y.X.env) = eval o Y.X.env := by rfl) : DE Y (.Attribute o fl pos) (mAttr fl tab mo) := by
  obtain ⟨to, po, so⟩ := ho.ex
  refine ⟨fun σ H Q => to σ H fun v H1 => ∃ a c dx xs ds w ms g, v = .ref a ∧ w.F a = some (.ins (Y.Γ.cls c) dx ((Y.Γ.fld c).zip xs)) ∧ (Y.Γ.fld c).length = xs.length ∧ DRs Y.X.K Y.Γ w.F ds xs ∧ HR Y w H1 ms ∧ AtG Y fl c g ∧ (g ds ms).post (okP Y w Q) (fun _ _ _ => False),
    ⟨fun pins s σ H Q I h => ?_⟩, fun w σ H env ms Q er hr h => ?_⟩
  · refine attr_of hb (thn (po.run pins s σ H _ I h) fun u s1 ⟨v, H1, I1, rx, a, c, dx, xs, ds, w, ms, g, ev, ea, lx, r, hr, ag, q⟩ => ?_)
    subst ev
    obtain rfl : u = Value.ref a := rx
    exact ag I1 ea lx r hr q
  · refine so.go er hr h fun x ms1 w1 H1 v e1 er1 hr1 sv h1 => ?_
    cases x with
    | loc i => exact h1.elim
    | exn c ds => exact h1.elim
    | d x =>
      cases x with
      | obj c ds =>
        obtain ⟨a, dx, xs, rfl, k1, k2, k3⟩ := sv
        dsimp only at h1
        cases hl : tab.lookup c with
        | none => rw [hl] at h1; exact h1.elim
        | some g =>
          rw [hl] at h1
          exact ⟨a, c, dx, xs, ds, w1, ms1, g, rfl, k1, k2, k3, hr1, ht.at_ hl, R.post_mono (noEx_post h1) (fun _ _ z => z.ext e1) fun _ _ _ z => z⟩
      | _ => exact h1.elim
/-! ### o.f = e, o under construction -/
def putD (f : Str) (v : D) : List (Str × D) → List (Str × D)
  | [] => [(f, v)]
  | (g, x) :: r => match decide (g = f) with
    | true => (g, v) :: r
    | false => (g, x) :: putD f v r
theorem putD_rel {F : Hp} {v : D} {y : V} (hv : DR Y.X.K Y.Γ F v y) : ∀ {fs : List (Str × D)} {xs : List V}, DRs Y.X.K Y.Γ F (fs.map (·.2)) xs → ∃ ys, putF fl y ((fs.map (·.1)).zip xs) = ((putD fl v fs).map (·.1)).zip ys ∧ DRs Y.X.K Y.Γ F ((putD fl v fs).map (·.2)) ys
  | [], _, h => by cases h; exact ⟨[y], rfl, ⟨y, [], rfl, hv, rfl⟩⟩
  | (g, d) :: r, _, h => by
    obtain ⟨x, xs, rfl, h2, h3⟩ := h
    by_cases z : g = fl
    · refine ⟨y :: xs, ?_, ?_⟩
      · simp only [putD, List.map_cons, List.zip_cons_cons, putF, z, decide_true, if_pos]
      · simp only [putD, z, decide_true]
        exact ⟨y, xs, rfl, hv, h3⟩
    · obtain ⟨ys, e1, e2⟩ := putD_rel hv h3
      refine ⟨x :: ys, ?_, ?_⟩
      · simp only [putD, List.map_cons, List.zip_cons_cons, putF, decide_eq_false z, if_neg z]
        rw [e1]
      · simp only [putD, decide_eq_false z]
        exact ⟨x, ys, rfl, h2, e2⟩
def sFldS (fl : Str) (cs : List Nat) (me mo : Env → Ms → R S) : Env → Ms → T := fun env ms => T.ofE (me env ms) env fun y ms1 => T.ofE (mo env ms1) env fun x ms2 => match x, y with
  | .loc n, .d v => match ms2[n]? with
    | some (.ins c fs) => match cs.contains c && Nat.blt fs.length 1000 with
      | true => .nx env (ms2.set n (.ins c (putD fl v fs)))
      | false => .bad
    | _ => .bad
  | _, _ => .bad
theorem s_fld {pos' : Pos} {cs : List Nat} (he : DE Y e me) (ho : DE Y o mo) (hc : ∀ c ∈ cs, Cls Y.X.K (Y.Γ.cls c) ∧ NoAttr Y.X.K (Y.Γ.cls c) fl) (hs : swapsWith e (some (.Attribute o fl pos')) pos.line Y.X.env = pure false := by rfl) : DS Y (.Assign [.Attribute o fl pos'] e pos) (sFldS fl cs me mo) := by
  obtain ⟨te, pe, se⟩ := he.ex
  obtain ⟨to, po, so⟩ := ho.ex
  refine ⟨_, ps_fld po pe hs, fun w σ H env ms Ed er hr h => ?_⟩
  refine se.goS er hr h fun y ms1 w1 H1 v e1 er1 hr1 sv h1 => ?_
  refine so.goS er1 hr1 h1 fun x ms2 w2 H2 u e2 er2 hr2 su h2 => ?_
  cases x with
  | d x => exact h2.elim
  | exn c ds => exact h2.elim
  | loc i =>
    cases y with
    | loc _ => exact h2.elim
    | exn _ _ => exact h2.elim
    | d y =>
      dsimp only at h2
      obtain ⟨a, ha, rfl⟩ := su
      cases hi : ms2[i]? with
      | none => rw [hi] at h2; exact h2.elim
      | some cl =>
        rw [hi] at h2
        cases cl with
        | lst _ => exact h2.elim
        | dead => exact h2.elim
        | ins c fs =>
          dsimp only at h2
          cases hb : (cs.contains c && Nat.blt fs.length 1000) with
          | false => rw [hb] at h2; exact h2.elim
          | true =>
            rw [hb] at h2
            obtain ⟨b1, b2⟩ := Bool.and_eq_true_iff.mp hb
            obtain ⟨k1, k2⟩ := hc c (List.contains_iff_mem.mp b1)
            obtain ⟨dx, xs, q1, q2⟩ := hr2.cel i a _ ha hi
            have sv2 : DR Y.X.K Y.Γ w2.F y v := DR.mono e2.F _ _ sv
            obtain ⟨ys, z1, z2⟩ := putD_rel (fl := fl) sv2 q2
            refine ⟨a, _, dx, _, rfl, q1, k1, k2, ?_, ?_⟩
            · rw [List.length_zip, List.length_map]
              have : fs.length < 1000 := by simpa [Nat.blt_eq] using b2
              omega
            · refine h2 w2 _ σ (Ext.refl w2) (hr2.write ha hi (by intro z; cases z) ?_) er2
              exact ⟨dx, ys, by rw [upd_same, z1], z2⟩

/-! ### o[i] -/
def ixD (d : D) (i : Int) : Option D := match d with
  | .lst ds => atI ds i
  | .frz ds => atI ds i
  | .tup ds => atI ds i
  | .str z => match few z.length with
    | true => (atI z.cps.toList i).map fun c => .str ⟨#[c]⟩
    | false => none
  | _ => none
def gIx : S → S → Ms → R S := fun x y ms => match y with
  | .d (.int i) => match (view x ms).bind (ixD · i) with
    | some d => .ok (.d d) ms
    | none => .bad
  | _ => .bad
theorem gIx_ne : ∀ x y ms c ds ms', gIx x y ms ≠ .ex c ds ms' := by
  intro x y ms c ds ms' h
  unfold gIx at h
  split at h
  · split at h <;> cases h
  · cases h
theorem atI_rel {F : Hp} {ds : List D} {xs : List V} {i : Int} {d : D} (r : DRs Y.X.K Y.Γ F ds xs) (h : atI ds i = some d) : ∃ v, atI xs i = some v ∧ DR Y.X.K Y.Γ F d v := by
  unfold atI at h ⊢
  rw [← DRs.length r]
  obtain ⟨j, h1, h2⟩ := Option.bind_eq_some_iff.mp h
  rw [h1]
  exact DRs.get r h2
theorem ix_rel : SndR2 Y (rIx Y.X.K) gIx := by
  intro w H ms x y u v Q hr sx sy h
  unfold gIx at h
  split at h
  · rename_i i
    cases sy
    split at h
    · rename_i d hd
      obtain ⟨dx, h1, h2⟩ := Option.bind_eq_some_iff.mp hd
      cases dx with
      | lst ds =>
        obtain ⟨a, xs, rfl, k1, k2⟩ := view_list h1 hr sx
        obtain ⟨z, z1, z2⟩ := atI_rel k2 h2
        exact .inl ⟨a, xs, i, z, rfl, rfl, SqL.of k1, z1, h.at (Ext.refl w) hr z2⟩
      | frz ds =>
        obtain ⟨a, xs, rfl, k1, k2⟩ := view_notlist h1 (by intro ds z; cases z) sx
        obtain ⟨z, z1, z2⟩ := atI_rel k2 h2
        exact .inl ⟨a, xs, i, z, rfl, rfl, sqL_mono k1 hr.sub, z1, h.at (Ext.refl w) hr z2⟩
      | tup ds =>
        obtain ⟨a, xs, rfl, k1, k2⟩ := view_notlist h1 (by intro ds z; cases z) sx
        obtain ⟨z, z1, z2⟩ := atI_rel k2 h2
        exact .inr (.inl ⟨a, xs, i, z, rfl, rfl, sqT_mono k1 hr.sub, z1, h.at (Ext.refl w) hr z2⟩)
      | str z =>
        cases view_notlist h1 (by intro ds z; cases z) sx
        unfold ixD at h2
        dsimp only at h2
        cases fz : few z.length with
        | false => rw [fz] at h2; cases h2
        | true =>
          rw [fz] at h2
          obtain ⟨c, c1, rfl⟩ := Option.map_eq_some_iff.mp h2
          exact .inr (.inr ⟨z, i, c, rfl, rfl, few_ok fz, c1, h.at (Ext.refl w) hr rfl⟩)
      | _ => cases h2
    · exact h.elim
  · exact h.elim
theorem e_ix {i : Expr} {mi : Env → Ms → R S} (ho : DE Y o mo) (hi : DE Y i mi) (hs : PlainIx i := by intro _ _; rfl) : DE Y (.Subscript o i pos) (mOp gIx mo mi) := by
  obtain ⟨to, po, so⟩ := ho.ex
  obtain ⟨ti, pi, si⟩ := hi.ex
  exact ⟨_, pe_ix ix_seq po pi hs, snd_op gIx_ne ix_rel so si⟩
/-- o[i] = e, o a cell -/
def sSub (me mo mi : Env → Ms → R S) : Env → Ms → T := fun env ms => T.ofE (me env ms) env fun y ms1 => T.ofE (mo env ms1) env fun x ms2 => T.ofE (mi env ms2) env fun i ms3 => match x, y, i with
  | .loc n, .d v, .d (.int i) => match ms3[n]? with
    | some (.lst ds) => match ixN ds.length i with
      | some j => .nx env (ms3.set n (.lst (ds.set j v)))
      | none => .bad
    | _ => .bad
  | _, _, _ => .bad
theorem DRs.set {K : PySem.W.Frag} {Γ : G} {F : Hp} {d : D} {v : V} (h : DR K Γ F d v) : ∀ {ds : List D} {xs : List V} (j : Nat), DRs K Γ F ds xs → DRs K Γ F (ds.set j d) (xs.set j v)
  | [], _, _, r => by cases r; rfl
  | a :: ds, _, 0, r => by obtain ⟨x, xs, rfl, _, h3⟩ := r; exact ⟨v, xs, rfl, h, h3⟩
  | a :: ds, _, j + 1, r => by obtain ⟨x, xs, rfl, h2, h3⟩ := r; exact ⟨x, xs.set j v, rfl, h2, DRs.set h j h3⟩
theorem s_sub {i : Expr} {mi : Env → Ms → R S} {pos' : Pos} (he : DE Y e me) (ho : DE Y o mo) (hi : DE Y i mi)
    (ha : ∀ v, assign (.Subscript o i pos') Y.X.env v = (do
      let ov ← holding [v] (eval o Y.X.env)
      let iv ← holding [v, ov] (eval i Y.X.env)
      standAt pos'
      holding [v, ov, iv] (setItem ov iv v)
      release [v, ov, iv] []) := by intro _; rfl)
    (hs : swapsWithSole [.Subscript o i pos'] e pos.line Y.X.env = pure false := by rfl) (hw : swappedStores [.Subscript o i pos'] e Y.X.env = pure none := by rfl)
    (h1 : (assignEach [.Subscript o i pos'] Y.X.env).map (·.2) = [assign (.Subscript o i pos') Y.X.env] := by rfl) : DS Y (.Assign [.Subscript o i pos'] e pos) (sSub me mo mi) := by
  obtain ⟨te, pe, se⟩ := he.ex
  obtain ⟨to, po, so⟩ := ho.ex
  obtain ⟨ti, pi, si⟩ := hi.ex
  refine ⟨_, ps_asg pe (pg_sub po pi set_list ha) hs hw h1, fun w σ H env ms Ed er hr h => ?_⟩
  refine se.goS er hr h fun y ms1 w1 H1 v e1 er1 hr1 sv h1 => ?_
  refine so.goS er1 hr1 h1 fun x ms2 w2 H2 u e2 er2 hr2 su h2 => ?_
  refine si.goS er2 hr2 h2 fun i ms3 w3 H3 iv e3 er3 hr3 si3 h3 => ?_
  split at h3
  · rename_i n v' i'
    cases si3
    obtain ⟨a, ha, rfl⟩ := su
    have ha := e3.mu n a ha
    split at h3
    · rename_i ds hn
      split at h3
      · rename_i j hj
        obtain ⟨xs, q1, q2⟩ := hr3.cel n a _ ha hn
        refine ⟨a, xs, i', j, rfl, rfl, q1, by rw [← DRs.length q2]; exact hj, ?_⟩
        refine h3 w3 _ σ (Ext.refl w3) (hr3.write ha hn (by intro z; cases z) ?_) er3
        exact ⟨_, upd_same, DRs.set (DR.mono (e2.trans e3).F _ _ sv) j q2⟩
      · exact h3.elim
    · exact h3.elim
  · exact h3.elim
end
end Fw
set_option Elab.async false
set_option linter.all false
set_option maxRecDepth 100000
set_option maxHeartbeats 4000000
/-! Fw12: list comprehensions. -/
namespace Fw
open PySem L2 PySem.Spec PyProof.Rows

/-- the block within a comprehension -/
def Cy.blk (Y : Cy) (s : Shared) (H : Hp) (scope : Scope) (C : Addr) (cl : List (Str × Addr)) (fp : List Addr) : Cy := ⟨Y.X.blk s H scope (compEnvC scope cl C Y.X.env) fp, Y.Γ, fun _ _ _ _ => False, Y.ea, Y.ed, Y.ec⟩
theorem CyOk.blk {Y : Cy} {k : Nat} (ok : CyOk Y k) (s : Shared) (H : Hp) (scope : Scope) (C : Addr) (cl : List (Str × Addr)) (fp : List Addr) : CyOk (Y.blk s H scope C cl fp) k :=
  ⟨ok.hr, ok.gd, takes_none5, PassesOwn.never, ok.calm, ok.nd⟩
def wipeE (env : Env) : List Nat → Env
  | [] => env
  | v :: vs => (wipeE env vs).set v none
theorem ER.wipe {Y : Cy} {w : Wd} {σ : L2.St} {env : Env} (h : ER Y w σ env) : ∀ vs, ER Y w (wipe σ vs) (wipeE env vs)
  | [] => h
  | v :: vs => (h.wipe vs).unset v none
theorem wipe_get (σ : L2.St) (j : Nat) : ∀ vs : List Nat, (wipe σ vs)[j]? = if j ∈ vs then σ[j]?.map fun _ => none else σ[j]?
  | [] => by simp [wipe]
  | v :: vs => by
    unfold wipe
    rw [List.getElem?_set, wipe_length, wipe_get σ j vs]
    by_cases e : v = j
    · subst e
      by_cases l : v < σ.length
      · simp [l]
      · simp [l]
    · simp only [List.mem_cons]
      by_cases m : j ∈ vs
      · simp [e, m]
      · simp [e, m, Ne.symm e]
theorem wipe_set {σ : L2.St} {i : Nat} {o : Option V} {vs : List Nat} (h : i ∈ vs) : wipe (σ.set i o) vs = wipe σ vs := by
  refine List.ext_getElem? fun j => ?_
  rw [wipe_get, wipe_get]
  by_cases m : j ∈ vs
  · rw [if_pos m, if_pos m, List.getElem?_set]
    by_cases e : i = j
    · subst e
      by_cases l : i < σ.length
      · simp [l]
      · simp [l]
    · simp [e]
  · rw [if_neg m, if_neg m, List.getElem?_set_ne (fun e => m (by subst e; exact h))]
/-- targets that write only the slots vs -/
def SndGv (Y : Cy) (vs : List Nat) (t : TG) (g : S → Env → Ms → Option Env) : Prop :=
  ∀ (w : Wd) (σ : L2.St) (H : Hp) (env : Env) (ms : Ms) (s : S) (v : V) (Q : L2.St → Hp → Prop) (env' : Env), ER Y w σ env → HR Y w H ms → SR Y w s v → g s env ms = some env' → (∀ σ', ER Y w σ' env' → wipe σ' vs = wipe σ vs → Q σ' H) → t v σ H Q
def SndGsv (Y : Cy) (vs : List Nat) (t : TGs) (g : List S → Env → Ms → Option Env) : Prop :=
  ∀ (w : Wd) (σ : L2.St) (H : Hp) (env : Env) (ms : Ms) (ss : List S) (xs : List V) (Q : L2.St → Hp → Prop) (env' : Env), ER Y w σ env → HR Y w H ms → SRs Y w ss xs → g ss env ms = some env' → (∀ σ', ER Y w σ' env' → wipe σ' vs = wipe σ vs → Q σ' H) → t xs σ H Q
structure DGv (Y : Cy) (vs : List Nat) (tg : Expr) (g : S → Env → Ms → Option Env) : Prop where
  ex : ∃ t, PG Y.X tg t ∧ SndGv Y vs t g
structure DGsv (Y : Cy) (vs : List Nat) (tgs : List Expr) (g : List S → Env → Ms → Option Env) : Prop where
  ex : ∃ t, PGs Y.X tgs t ∧ SndGsv Y vs t g
structure DTs (Y : Cy) (ifs : List Expr) (m : Env → Ms → R Bool) : Prop where
  ex : ∃ t, PTs Y.X ifs t ∧ SndT Y t m

/-! ### the comprehension -/
noncomputable def compL (kp : Option (Nat × Cell)) (g : S → Env → Ms → Option Env) (tt : Env → Ms → R Bool) (elt : Env → Ms → R S) (vs : List Nat) (env : Env) : List S → List D → Ms → R (List D)
  | [], acc, ms => chk kp ms (.ok acc ms) .bad
  | x :: r, acc, ms => chk kp ms (match g x (wipeE env vs) ms with
    | none => .bad
    | some env1 => (tt env1 ms).bind fun b ms1 => match b with
      | false => compL kp g tt elt vs env r acc ms1
      | true => (elt env1 ms1).bind fun y ms2 => match y with
        | .d d => match few acc.length with
          | true => compL kp g tt elt vs env r (acc ++ [d]) ms2
          | false => .bad
        | _ => .bad) .bad
def noExA {α : Type} (r : R α) : R α := match r with
  | .ok s ms => .ok s ms
  | .ex _ _ _ => .bad
  | .bad => .bad
section
variable {Y : Cy} {w w1 w2 : Wd} {σ : L2.St} {H H1 H2 : Hp} {env : Env} {ms ms1 ms2 : Ms}
/-- the list under way is protected -/
def Wd.prot (w : Wd) (D : Addr) (xs : List V) : Wd := ⟨w.F, upd w.P D (.lst xs), w.mu⟩
theorem HR0.prot0 {D : Addr} (h : HR Y w H ms) (hD : H D = none) : HR Y (w.prot D []) (upd H D (.lst [])) ms := by
  refine ⟨fun a o e => ?_, fun a o e => ?_, fun a o e => ?_, h.len, h.inj, fun n a c e k d => ?_, fun n a c e k => ?_⟩
  · rw [upd_ne (ne_of_none (h.sub a o e) hD)]; exact h.sub a o e
  · have e : upd w.P D (.lst []) a = some o := e
    by_cases z : a = D
    · subst z; rw [upd_same] at e ⊢; exact e
    · rw [upd_ne z] at e ⊢; exact h.prot a o e
  · have e : upd w.P D (.lst []) a = some o := e
    by_cases z : a = D
    · subst z; exact h.freeF hD
    · rw [upd_ne z] at e; exact h.dis a o e
  · obtain ⟨u, q⟩ := h.live e k d
    have s := h.sep n a c e k d
    refine ⟨s.1, ?_⟩
    show upd w.P D (.lst []) a = none
    rw [upd_ne (ne_of_none q hD)]
    exact s.2
  · exact (h.cel n a c e k).mono (Ext.refl w) fun u q => by rw [upd_ne (ne_of_none q hD)]; exact q
/-- the list under way grows -/
theorem HR0.grow {D : Addr} {xs ys : List V} {P : Hp} (h : HR Y w H ms) (hP : w.P = upd P D (.lst xs)) : HR Y ⟨w.F, upd P D (.lst ys), w.mu⟩ (upd H D (.lst ys)) ms := by
  have pD : w.P D = some (.lst xs) := by rw [hP, upd_same]
  have fD := h.dis D _ pD
  have nc : ∀ {n : Nat} {a : Addr} {c : Cell}, w.mu[n]? = some a → ms[n]? = some c → c ≠ .dead → a ≠ D := fun e k d z => by
    subst z
    have := (h.sep _ _ _ e k d).2
    rw [pD] at this; cases this
  refine ⟨fun a o e => ?_, fun a o e => ?_, fun a o e => ?_, h.len, h.inj, fun n a c e k d => ?_, fun n a c e k => ?_⟩
  · have : a ≠ D := fun z => by subst z; rw [fD] at e; cases e
    rw [upd_ne this]; exact h.sub a o e
  · have e : upd P D (.lst ys) a = some o := e
    by_cases z : a = D
    · subst z; rw [upd_same] at e ⊢; exact e
    · rw [upd_ne z] at e ⊢; exact h.prot a o (by rw [hP, upd_ne z]; exact e)
  · have e : upd P D (.lst ys) a = some o := e
    by_cases z : a = D
    · subst z; exact fD
    · rw [upd_ne z] at e; exact h.dis a o (by rw [hP, upd_ne z]; exact e)
  · have s := h.sep n a c e k d
    refine ⟨s.1, ?_⟩
    show upd P D (.lst ys) a = none
    rw [upd_ne (nc e k d)]
    have := s.2
    rw [hP, upd_ne (nc e k d)] at this
    exact this
  · have q := h.cel n a c e k
    by_cases d : c = .dead
    · subst d; trivial
    · exact q.mono (Ext.refl w) fun u z => by rw [upd_ne (nc e k d)]; exact z
/-- the list is done: frozen -/
theorem HR0.doneF {D : Addr} {xs : List V} {P : Hp} (h : HR Y w H ms) (hP : w.P = upd P D (.lst xs)) (hD : P D = none) : HR Y ⟨upd w.F D (.lst xs), P, w.mu⟩ H ms := by
  have pD : w.P D = some (.lst xs) := by rw [hP, upd_same]
  have fD := h.dis D _ pD
  have nc : ∀ {n : Nat} {a : Addr} {c : Cell}, w.mu[n]? = some a → ms[n]? = some c → c ≠ .dead → a ≠ D := fun e k d z => by
    subst z
    have := (h.sep _ _ _ e k d).2
    rw [pD] at this; cases this
  have fm : ∀ a o, w.F a = some o → upd w.F D (.lst xs) a = some o := fun a o e => by
    rw [upd_ne (fun z => by subst z; rw [fD] at e; cases e)]; exact e
  have pm : ∀ a o, P a = some o → w.P a = some o ∧ a ≠ D := fun a o e => by
    have : a ≠ D := fun z => by subst z; rw [hD] at e; cases e
    exact ⟨by rw [hP, upd_ne this]; exact e, this⟩
  refine ⟨fun a o e => ?_, fun a o e => h.prot a o (pm a o e).1, fun a o e => ?_, h.len, h.inj, fun n a c e k d => ?_, fun n a c e k => ?_⟩
  · have e : upd w.F D (.lst xs) a = some o := e
    by_cases z : a = D
    · subst z; rw [upd_same] at e; rw [← e]; exact h.prot a _ pD
    · rw [upd_ne z] at e; exact h.sub a o e
  · obtain ⟨q1, q2⟩ := pm a o e
    show upd w.F D (.lst xs) a = none
    rw [upd_ne q2]; exact h.dis a o q1
  · have s := h.sep n a c e k d
    refine ⟨?_, ?_⟩
    · show upd w.F D (.lst xs) a = none
      rw [upd_ne (nc e k d)]; exact s.1
    · show P a = none
      cases z : P a with
      | none => rfl
      | some u => have := s.2; rw [(pm a u z).1] at this; cases this
  · have q := h.cel n a c e k
    cases c with
    | dead => trivial
    | lst ds => obtain ⟨ys, y1, y2⟩ := q; exact ⟨ys, y1, DRs.mono fm _ _ y2⟩
    | ins c fs => obtain ⟨dx, ys, y1, y2⟩ := q; exact ⟨dx, ys, y1, DRs.mono fm _ _ y2⟩
/-- an object becomes a cell -/
theorem HR0.addc {P : Hp} {p : Addr} {c : Cell} (h : HR Y w H ms) (pm : ∀ a o, P a = some o → w.P a = some o) (nF : w.F p = none) (nP : P p = none) (nc : ∀ (n : Nat) c', w.mu[n]? = some p → ms[n]? = some c' → c' = .dead) (hc : CR Y.X.K Y.Γ w H p c) :
    HR Y ⟨w.F, P, w.mu ++ [p]⟩ H (ms ++ [c]) := by
  have side : ∀ {n : Nat} {a : Addr} {d : Cell}, (w.mu ++ [p])[n]? = some a → (ms ++ [c])[n]? = some d → (w.mu[n]? = some a ∧ ms[n]? = some d) ∨ (n = w.mu.length ∧ a = p ∧ d = c) := fun {n a d} q1 q2 => by
    by_cases z : n < w.mu.length
    · rw [List.getElem?_append_left z] at q1
      rw [List.getElem?_append_left (by rw [← h.len]; exact z)] at q2
      exact .inl ⟨q1, q2⟩
    · have lt := (List.getElem?_eq_some_iff.mp q1).1
      have : n = w.mu.length := by simp at lt; omega
      subst this
      rw [List.getElem?_append_right (Nat.le_refl _)] at q1
      rw [List.getElem?_append_right (by rw [← h.len]; exact Nat.le_refl _), ← h.len] at q2
      simp at q1 q2
      exact .inr ⟨rfl, q1.symm, q2.symm⟩
  have np : ∀ {n : Nat} {a : Addr} {d : Cell}, w.mu[n]? = some a → ms[n]? = some d → d ≠ .dead → P a = none := fun {n a d} q1 q2 q3 => by
    cases z : P a with
    | none => rfl
    | some u => have := (h.sep n a d q1 q2 q3).2; rw [pm a u z] at this; cases this
  refine ⟨h.sub, fun a o e => h.prot a o (pm a o e), fun a o e => h.dis a o (pm a o e), by simp [h.len], fun i j a c1 c2 e1 e2 k1 k2 d1 d2 => ?_, fun n a d e k dd => ?_, fun n a d e k => ?_⟩
  · rcases side e1 k1 with ⟨x1, x2⟩ | ⟨x1, x2, x3⟩
    · rcases side e2 k2 with ⟨y1, y2⟩ | ⟨y1, y2, y3⟩
      · exact h.inj i j a c1 c2 x1 y1 x2 y2 d1 d2
      · subst y2; exact absurd (nc i c1 x1 x2) d1
    · rcases side e2 k2 with ⟨y1, y2⟩ | ⟨y1, y2, y3⟩
      · subst x2; exact absurd (nc j c2 y1 y2) d2
      · rw [x1, y1]
  · rcases side e k with ⟨x1, x2⟩ | ⟨x1, x2, x3⟩
    · exact ⟨(h.sep n a d x1 x2 dd).1, np x1 x2 dd⟩
    · subst x2; exact ⟨nF, nP⟩
  · rcases side e k with ⟨x1, x2⟩ | ⟨x1, x2, x3⟩
    · have q := h.cel n a d x1 x2
      cases d with
      | dead => trivial
      | lst ds => exact q
      | ins c fs => exact q
    · subst x2 x3
      cases d with
      | dead => trivial
      | lst ds => exact hc
      | ins c fs => exact hc
/-- the list is done: a cell -/
theorem HR0.doneC {L : Addr} {xs : List V} {ds : List D} {P : Hp} (h : HR Y w H ms) (hP : w.P = upd P L (.lst xs)) (hL : P L = none) (r : DRs Y.X.K Y.Γ w.F ds xs) : HR Y ⟨w.F, P, w.mu ++ [L]⟩ H (ms ++ [.lst ds]) := by
  have pD : w.P L = some (.lst xs) := by rw [hP, upd_same]
  refine h.addc (fun a o e => ?_) (h.dis L _ pD) hL (fun n c' e k => Classical.byContradiction fun d => ?_) ⟨xs, h.prot L _ pD, r⟩
  · have : a ≠ L := fun z => by subst z; rw [hL] at e; cases e
    rw [hP, upd_ne this]; exact e
  · have := (h.sep n L c' e k d).2
    rw [pD] at this; cases this

/-! ### readings out of semantics -/
def semE (Y : Cy) (m : Env → Ms → R S) : TE := fun σ H Q => ∃ w env ms, ER Y w σ env ∧ HR Y w H ms ∧ (m env ms).post (okP Y w Q) (fun _ _ _ => False)
def semT (Y : Cy) (m : Env → Ms → R Bool) : TT := fun σ H Q => ∃ w env ms, ER Y w σ env ∧ HR Y w H ms ∧ (m env ms).post (fun b ms' => ∀ w' H', Ext w w' → HR Y w' H' ms' → Q b H') (fun _ _ _ => False)
def semG (Y : Cy) (vs : List Nat) (g : S → Env → Ms → Option Env) : TG := fun v σ H Q => ∃ w env ms s env', ER Y w σ env ∧ HR Y w H ms ∧ SR Y w s v ∧ g s env ms = some env' ∧ ∀ σ', ER Y w σ' env' → wipe σ' vs = wipe σ vs → Q σ' H
variable {s0 : Shared} {H0 : Hp} {scope : Scope} {C : Addr} {cl : List (Str × Addr)} {fp : List Addr}
theorem SR.blk {s : S} {v : V} (h : SR Y w s v) : SR (Y.blk s0 H0 scope C cl fp) w s v := by cases s <;> exact h
theorem SR.unblk {s : S} {v : V} (h : SR (Y.blk s0 H0 scope C cl fp) w s v) : SR Y w s v := by cases s <;> exact h
theorem ER.blk (h : ER Y w σ env) : ER (Y.blk s0 H0 scope C cl fp) w σ env := ⟨h.len, fun i s e => let ⟨v, h1, h2⟩ := h.slot i s e; ⟨v, h1, h2.blk⟩⟩
theorem ER.unblk (h : ER (Y.blk s0 H0 scope C cl fp) w σ env) : ER Y w σ env := ⟨h.len, fun i s e => let ⟨v, h1, h2⟩ := h.slot i s e; ⟨v, h1, h2.unblk⟩⟩
theorem blk_pe {elt : Expr} {m : Env → Ms → R S} (h : DE (Y.blk s0 H0 scope C cl fp) elt m) : PE (Y.blk s0 H0 scope C cl fp).X elt (semE Y m) := by
  obtain ⟨t, p, sd⟩ := h.ex
  refine ⟨fun pins s σ H Q I ⟨w, env, ms, er, hr, q⟩ => p.run pins s σ H Q I (sd w σ H env ms Q er.blk hr (R.post_mono q (fun _ _ z w' H' v e hr' sv => z w' H' v e hr' sv.unblk) fun _ _ _ z => z.elim))⟩
theorem blk_pts {ifs : List Expr} {m : Env → Ms → R Bool} (h : DTs (Y.blk s0 H0 scope C cl fp) ifs m) : PTs (Y.blk s0 H0 scope C cl fp).X ifs (semT Y m) := by
  obtain ⟨t, p, sd⟩ := h.ex
  refine ⟨fun pins s σ H Q I ⟨w, env, ms, er, hr, q⟩ => p.run pins s σ H Q I (sd w σ H env ms Q er.blk hr (R.post_mono q (fun _ _ z => z) fun _ _ _ z => z.elim))⟩
theorem blk_pg {vs : List Nat} {tg : Expr} {g : S → Env → Ms → Option Env} (h : DGv (Y.blk s0 H0 scope C cl fp) vs tg g) : PG (Y.blk s0 H0 scope C cl fp).X tg (semG Y vs g) := by
  obtain ⟨t, p, sd⟩ := h.ex
  refine ⟨fun pins s σ H v u Q I r ⟨w, env, ms, x, env', er, hr, sv, e, q⟩ => p.run pins s σ H v u Q I r (sd w σ H env ms x v Q env' er.blk hr sv.blk e fun σ' er' => q σ' er'.unblk)⟩
theorem SR.subm {w w1 : Wd} (e : w.Sub w1) {s : S} {v : V} (h : SR Y w s v) : SR Y w1 s v := by
  cases s with
  | d x => exact DR.mono e.F x v h
  | loc n => obtain ⟨a, h1, h2⟩ := h; exact ⟨a, e.mu n a h1, h2⟩
  | exn c ds => exact ⟨h.1, h.2.mono e.F⟩
theorem ER.subm (e : w.Sub w1) (h : ER Y w σ env) : ER Y w1 σ env := ⟨h.len, fun i s hs => let ⟨v, h1, h2⟩ := h.slot i s hs; ⟨v, h1, h2.subm e⟩⟩
theorem wipe_wipe (σ : L2.St) (vs : List Nat) : wipe (wipe σ vs) vs = wipe σ vs := by
  refine List.ext_getElem? fun j => ?_
  rw [wipe_get, wipe_get]
  by_cases m : j ∈ vs
  · rw [if_pos m, if_pos m, Option.map_map]; rfl
  · rw [if_neg m, if_neg m]
theorem chk_postR {α : Type} {kp : Option (Nat × Cell)} {r : R α} {P : α → Ms → Prop} {E : Nat → List D → Ms → Prop} (h : (chk kp ms r .bad).post P E) : keptC kp ms ∧ r.post P E := by
  unfold chk at h
  cases kp with
  | none => exact ⟨fun _ _ e => (nomatch e), h⟩
  | some p =>
    obtain ⟨n, c⟩ := p
    dsimp only at h
    by_cases z : ms[n]? = some c
    · rw [if_pos z] at h
      exact ⟨fun m d e => by cases e; exact z, h⟩
    · rw [if_neg z] at h
      exact h.elim
/-- a comprehension's end: frozen, or a new cell -/
def lcEnd (cell : Bool) (acc : List D) (ms : Ms) : R S := match cell with
  | false => .ok (.d (.lst acc)) ms
  | true => .ok (.loc ms.length) (ms ++ [.lst acc])
noncomputable def mLc (cell : Bool) (mi : Env → Ms → R (List S × Option (Nat × Cell))) (g : S → Env → Ms → Option Env) (tt : Env → Ms → R Bool) (elt : Env → Ms → R S) (vs : List Nat) : Env → Ms → R S := fun env ms =>
  (mi env ms).bind fun xk ms1 => (noExA (compL xk.2 g tt elt vs env xk.1 [] ms1)).bind (lcEnd cell)
theorem lcEnd_use {cell : Bool} {L : Addr} {xs : List V} {acc : List D} {Q : VK} {wB : Wd} (hr1 : HR Y w1 H1 ms1) (hL : H1 L = none) (sub : w1.Sub wB) (hP : wB.P = upd w1.P L (.lst xs)) (hr : HR Y wB H2 ms2) (r : DRs Y.X.K Y.Γ wB.F acc xs)
    (q : (lcEnd cell acc ms2).post (okP Y w1 Q) (fun _ _ _ => False)) : Q (.ref L) H2 := by
  have pL := hr1.freeP hL
  have pD : wB.P L = some (.lst xs) := by rw [hP, upd_same]
  cases cell with
  | false =>
    have fm : ∀ a o, wB.F a = some o → upd wB.F L (.lst xs) a = some o := fun a o e => by
      rw [upd_ne (fun z => by subst z; rw [hr.dis _ _ pD] at e; cases e)]; exact e
    exact q ⟨upd wB.F L (.lst xs), w1.P, wB.mu⟩ H2 _ ⟨fun a o e => fm a o (sub.F a o e), sub.mu, rfl⟩ (hr.doneF hP pL) ⟨L, xs, rfl, upd_same, DRs.mono fm _ _ r⟩
  | true =>
    refine q ⟨wB.F, w1.P, wB.mu ++ [L]⟩ H2 _ ⟨sub.F, fun n a e => ?_, rfl⟩ (hr.doneC hP pL r) ⟨L, ?_, rfl⟩
    · have e := sub.mu n a e
      show (wB.mu ++ [L])[n]? = _
      rw [List.getElem?_append_left (List.getElem?_eq_some_iff.mp e).1]; exact e
    · show (wB.mu ++ [L])[ms2.length]? = _
      rw [← hr.len]; simp
theorem noExA_post {α : Type} {r : R α} {P : α → Ms → Prop} {E : Nat → List D → Ms → Prop} (h : (noExA r).post P E) : r.post P (fun _ _ _ => False) := by
  cases r with
  | ok s ms => exact h
  | ex c ds ms => exact h.elim
  | bad => exact h
theorem snd_lc {cell : Bool} {wi : TI} {mi : Env → Ms → R (List S × Option (Nat × Cell))} {g : S → Env → Ms → Option Env} {tt : Env → Ms → R Bool} {elt : Env → Ms → R S} {vs : List Nat} (si : SndI Y wi mi) :
    SndE Y (tLc wi (semG Y vs g) (semT Y tt) (semE Y elt) vs) (mLc cell mi g tt elt vs) := by
  intro w σ H env ms Q er hr h
  refine si w σ H env ms _ er hr ?_
  unfold mLc at h
  cases hm : mi env ms with
  | bad => rw [hm] at h; exact h.elim
  | ex c ds ms1 => rw [hm] at h; exact h
  | ok xk ms1 =>
    rw [hm] at h
    obtain ⟨xs, kp⟩ := xk
    intro w1 H1 J e1 hr1 hy _ L hL
    have hy : Yields Y w1 xs kp J := hy
    have h : ((noExA (compL kp g tt elt vs env xs [] ms1)).bind (lcEnd cell)).post (okP Y w Q) (exP Y w σ) := h
    have h0 := noExA_post (R.post_bind h)
    have h1 : (compL kp g tt elt vs env xs [] ms1).post (fun acc ms' => (lcEnd cell acc ms').post (okP Y w1 Q) (fun _ _ _ => False)) (fun _ _ _ => False) := R.post_mono h0 (fun acc ms' z => by
      cases cell with
      | false => exact okP.ext e1 z
      | true => exact okP.ext e1 z) fun _ _ _ z => z
    refine ⟨fun i m H' => m = xs.length - i ∧ i ≤ xs.length ∧ ∃ (wB : Wd) (acc : List D) (av : List V) (ms' : Ms), w1.Sub wB ∧ wB.P = upd w1.P L (.lst av) ∧ HR Y wB H' ms' ∧ DRs Y.X.K Y.Γ wB.F acc av ∧
        (compL kp g tt elt vs env (xs.drop i) acc ms').post (fun acc ms' => (lcEnd cell acc ms').post (okP Y w1 Q) (fun _ _ _ => False)) (fun _ _ _ => False),
      ⟨xs.length, by omega, by omega, w1.prot L [], [], [], ms1, ⟨fun _ _ z => z, fun _ _ z => z⟩, rfl, hr1.prot0 hL, rfl, h1⟩, ?_⟩
    rintro i m H' ⟨rfl, hi, wB, acc, av, ms', sub, hP, hr', rA, h'⟩
    by_cases hlt : i < xs.length
    · refine .inr ?_
      have hx : xs[i]? = some xs[i] := by simp [hlt]
      rw [List.drop_eq_getElem_cons hlt] at h'
      obtain ⟨kc, h'⟩ := chk_postR h'
      obtain ⟨hgo, hyl⟩ := (hy wB H' ms' sub hr' kc).2 i _ hx
      refine ⟨hgo, fun H2 => i + 1 ≤ xs.length ∧ ∃ (wB : Wd) (acc : List D) (av : List V) (ms' : Ms), w1.Sub wB ∧ wB.P = upd w1.P L (.lst av) ∧ HR Y wB H2 ms' ∧ DRs Y.X.K Y.Γ wB.F acc av ∧
        (compL kp g tt elt vs env (xs.drop (i + 1)) acc ms').post (fun acc ms' => (lcEnd cell acc ms').post (okP Y w1 Q) (fun _ _ _ => False)) (fun _ _ _ => False), fun H2 n2 => ⟨xs.length - (i + 1), by omega, rfl, n2.1, n2.2⟩, fun x H2 y2 => ?_⟩
      obtain ⟨w2, e2, hr2, sv⟩ := hyl x H2 y2
      cases hgx : g xs[i] (wipeE env vs) ms' with
      | none => rw [hgx] at h'; exact h'.elim
      | some env1 =>
        rw [hgx] at h'
        dsimp only at h'
        have er2 : ER Y w2 (wipe σ vs) (wipeE env vs) := (er.subm ((e1.wsub.trans sub).trans e2.wsub)).wipe vs
        refine ⟨w2, wipeE env vs, ms', _, env1, er2, hr2, sv, hgx, fun σ3 er3 hw => ⟨by rw [hw, wipe_wipe], w2, env1, ms', er3, hr2, ?_⟩⟩
        refine R.post_mono (R.post_bind h') (fun b ms3 q3 w3 H3 e3 hr3 => ?_) fun _ _ _ z => z
        have P3 : w3.P = upd w1.P L (.lst av) := by rw [e3.P, e2.P, hP]
        have s3 : w1.Sub w3 := (sub.trans e2.wsub).trans e3.wsub
        cases b with
        | false =>
          refine iteF ⟨hlt, w3, acc, av, ms3, s3, P3, hr3, DRs.mono (fun a o z => e3.F a o (e2.F a o z)) _ _ rA, q3⟩
        | true =>
          refine iteT ⟨w3, env1, ms3, er3.mono e3, hr3, ?_⟩
          refine R.post_mono (R.post_bind q3) (fun y ms4 q4 w4 H4 v e4 hr4 sv4 => ?_) fun _ _ _ z => z
          cases y with
          | loc n => exact q4.elim
          | exn c ds => exact q4.elim
          | d d =>
            dsimp only at q4
            cases fz : few acc.length with
            | false => rw [fz] at q4; exact q4.elim
            | true =>
              rw [fz] at q4
              have P4 : w4.P = upd w1.P L (.lst av) := by rw [e4.P, P3]
              have rA4 : DRs Y.X.K Y.Γ w4.F acc av := DRs.mono (fun a o z => e4.F a o (e3.F a o (e2.F a o z))) _ _ rA
              refine ⟨av, hr4.prot L _ (by rw [P4, upd_same]), ?_, hlt, ⟨w4.F, upd w1.P L (.lst (av ++ [v])), w4.mu⟩, acc ++ [d], av ++ [v], ms4, ⟨(s3.trans e4.wsub).F, (s3.trans e4.wsub).mu⟩, rfl, hr4.grow P4, rA4.append ⟨v, [], rfl, sv4, rfl⟩, q4⟩
              rw [← DRs.length rA]
              have : acc.length ≤ 1000000 := Nat.le_of_ble_eq_true fz
              rw [sizeLine_eq]; omega
    · have e : i = xs.length := by omega
      subst e
      rw [List.drop_length] at h'
      obtain ⟨kc, h'⟩ := chk_postR h'
      exact .inl ⟨(hy wB H' ms' sub hr' kc).1, lcEnd_use hr1 hL sub hP hr' rA h'⟩
end
end Fw
set_option Elab.async false
set_option linter.all false
set_option maxRecDepth 100000
set_option maxHeartbeats 4000000
/-! Fw13: comprehension rules, parallel stores, isinstance. -/
namespace Fw
open PySem L2 PySem.Spec PyProof.Rows

section
variable {Y : Cy} {w w1 w2 : Wd} {σ : L2.St} {H H1 H2 : Hp} {env : Env} {ms ms1 ms2 : Ms} {Ed : Ends} {e elt tg iter a b : Expr} {es ifs : List Expr} {scope : Scope} {own : List (Str × Nat)} {pos spos py : Pos} {k : Nat} {vs : List Nat}
  {mi : Env → Ms → R (List S × Option (Nat × Cell))} {g : S → Env → Ms → Option Env} {tt : Env → Ms → R Bool} {me m : Env → Ms → R S} {ma : Env → Ms → R (List S)}
theorem e_lc (cell : Bool) (ok : CyOk Y k) (hi : DI Y tg iter mi) (bo : BlkOk Y.X.N Y.X.env.scope scope own) (hv : own.map (·.2) = vs) (hg : ∀ s H C cl fp, DGv (Y.blk s H scope C cl fp) vs tg g) (ht : ∀ s H C cl fp, DTs (Y.blk s H scope C cl fp) ifs tt) (he : ∀ s H C cl fp, DE (Y.blk s H scope C cl fp) elt me)
    (hs : ∀ x, foldedSetIterable iter Y.X.env x = pure x := by intro _; rfl) : DE Y (.ListComp elt [⟨tg, iter, ifs, 0⟩] scope pos) (mLc cell mi g tt me vs) := by
  subst hv
  obtain ⟨wi, pi, si⟩ := hi.ex
  exact ⟨_, pe_lc ok.calm ok.nd pi bo (fun s H C cl fp => blk_pg (hg s H C cl fp)) (fun s H C cl fp => blk_pts (ht s H C cl fp)) (fun s H C cl fp => blk_pe (he s H C cl fp)) hs, snd_lc si⟩
/-- y = [..] on one line -/
theorem s_setLc (cell : Bool) {i : Nat} {y : Str} (ok : CyOk Y k) (hi : DI Y tg iter mi) (bo : BlkOk Y.X.N Y.X.env.scope scope own) (hv : own.map (·.2) = vs) (hg : ∀ s H C cl fp, DGv (Y.blk s H scope C cl fp) vs tg g) (ht : ∀ s H C cl fp, DTs (Y.blk s H scope C cl fp) ifs tt) (he : ∀ s H C cl fp, DE (Y.blk s H scope C cl fp) elt me)
    (hsw : swapsWith (.ListComp elt [⟨tg, iter, ifs, 0⟩] scope pos) (some (.Name y py)) spos.line Y.X.env = pure true) (hy : Y.X.N[i]? = some y := by rfl) (hyl : Y.X.env.scope.names.lookup y = some .local := by rfl)
    (hs : ∀ x, foldedSetIterable iter Y.X.env x = pure x := by intro _; rfl) : DS Y (.Assign [.Name y py] (.ListComp elt [⟨tg, iter, ifs, 0⟩] scope pos) spos) (sSet i (mLc cell mi g tt me vs)) := by
  subst hv
  obtain ⟨wi, pi, si⟩ := hi.ex
  refine ⟨_, ps_setLc ok.calm ok.nd hy hyl hsw pi bo (fun s H C cl fp => blk_pg (hg s H C cl fp)) (fun s H C cl fp => blk_pts (ht s H C cl fp)) (fun s H C cl fp => blk_pe (he s H C cl fp)) hs, fun w σ H env ms Ed er hr h => ?_⟩
  exact (snd_lc (cell := cell) si).goS er hr h fun x ms1 w1 H1 v e1 er1 hr1 sv h1 => h1 w1 H1 _ (Ext.refl w1) hr1 (er1.set sv i)
theorem ts_nil : DTs Y [] (fun _ ms => .ok true ms) := ⟨_, pts_nil, fun w σ H env ms Q er hr h => h w H (Ext.refl w) hr⟩
theorem ts_one (h : DT Y a tt) : DTs Y [a] tt := let ⟨t, p, s⟩ := h.ex; ⟨_, pts_one p, s⟩
theorem gv_name {i : Nat} {x : Str} (hN : Y.X.N.Nodup) (hi : Y.X.N[i]? = some x := by rfl) (hv : i ∈ vs := by decide) (hx : Loc Y.X.env.scope x := by first | exact Or.inl rfl | exact Or.inr rfl) (hf : Y.X.fn x = true ∨ Y.X.env.scope.names.lookup x = some .local := by first | exact .inl rfl | exact .inr rfl) :
    DGv Y vs (.Name x pos) (gSet i) := by
  refine ⟨_, pg_name hN hi hx hf, fun w σ H env ms s v Q env' er hr sv he hq => ?_⟩
  cases he
  exact hq _ (er.set sv i) (wipe_set hv)
theorem gsv_nil : DGsv Y vs [] gsNil := by
  refine ⟨_, pgs_nil, fun w σ H env ms ss xs Q env' er hr sv he hq => ?_⟩
  cases sv with
  | nil => cases he; exact ⟨rfl, hq _ er rfl⟩
  | cons a b => cases he
theorem gsv_cons {gs : List S → Env → Ms → Option Env} (h1 : DGv Y vs e g) (h2 : DGsv Y vs es gs)
    (hs : (assignEach (e :: es) Y.X.env).map (·.2) = assign e Y.X.env :: (assignEach es Y.X.env).map (·.2) := by rfl) : DGsv Y vs (e :: es) (gsCons g gs) := by
  obtain ⟨t, p, s⟩ := h1.ex
  obtain ⟨t2, p2, s2⟩ := h2.ex
  refine ⟨_, pgs_cons p p2 hs, fun w σ H env ms ss xs Q env' er hr sv he hq => ?_⟩
  cases sv with
  | nil => cases he
  | @cons a b ss xs ra rb =>
    have he : (g a env ms).bind (fun env1 => gs ss env1 ms) = some env' := he
    cases hg : g a env ms with
    | none => rw [hg] at he; cases he
    | some env1 =>
      rw [hg] at he
      exact ⟨_, _, rfl, s w σ H env ms a b _ env1 er hr ra hg fun σ1 er1 w1 => s2 w σ1 H env1 ms ss xs Q env' er1 hr rb he fun σ2 er2 w2 => hq σ2 er2 (w2.trans w1)⟩
theorem gv_tup {j n : Nat} {gs : List S → Env → Ms → Option Env} (hc : Y.X.calm = true) (h : DGsv Y vs es gs)
    (hn : (assignEach es Y.X.env).length = n := by rfl) (hst : (assignEach es Y.X.env).findIdx? (·.1) = none := by rfl) : DGv Y vs (.Tuple es j pos) (gUn n gs) := by
  obtain ⟨t, p, s⟩ := h.ex
  refine ⟨_, pg_tup hc p hn hst, fun w σ H env ms x v Q env' er hr sv he hq => ?_⟩
  cases x with
  | loc i => cases he
  | exn c ds => cases he
  | d x =>
    cases x with
    | tup ds =>
      unfold gUn at he
      dsimp only at he
      cases hl : Nat.beq ds.length n with
      | false => rw [hl] at he; cases he
      | true =>
        rw [hl] at he
        obtain ⟨a, xs, rfl, h2, h3⟩ := sv
        refine ⟨a, xs, rfl, sqT_mono h2 hr.sub, by rw [← DRs.length h3]; exact Nat.eq_of_beq_eq_true hl, ?_⟩
        exact s w σ H env ms _ xs Q env' er hr (SRs_of_DRs h3) he hq
    | _ => cases he
/-- a, b = x, y -/
theorem s_par {i j : Nat} {x y : Str} {px pt : Pos} {kt k2 pt2} (ok : CyOk Y k) (hij : i ≠ j) (ha : DA Y [a, b] ma) (hw : swappedStores [.Tuple [.Name x px, .Name y py] kt pt] (.Tuple [a, b] k2 pt2) Y.X.env = pure (some [x, y])) (hi : Y.X.N[i]? = some x := by rfl) (hj : Y.X.N[j]? = some y := by rfl)
    (hx : Y.X.env.scope.names.lookup x = some .local := by rfl) (hy : Y.X.env.scope.names.lookup y = some .local := by rfl)
    (hs : swapsWithSole [.Tuple [.Name x px, .Name y py] kt pt] (.Tuple [a, b] k2 pt2) pos.line Y.X.env = pure false := by rfl) :
    DS Y (.Assign [.Tuple [.Name x px, .Name y py] kt pt] (.Tuple [a, b] k2 pt2) pos) (sPar i j ma) := by
  obtain ⟨t, p, s⟩ := ha.ex
  refine ⟨_, ps_par ok.calm ok.nd hi hj hij hx hy p hw hs, fun w σ H env ms Ed er hr h => ?_⟩
  refine s.goS er hr h fun ss ms1 w1 H1 xs e1 er1 hr1 sv h1 => ?_
  split at h1
  · rename_i x y
    obtain ⟨v, u, rfl, r1, r2⟩ := SRs.two sv
    exact ⟨v, u, rfl, h1 w1 H1 _ (Ext.refl w1) hr1 ((er1.set r1 i).set r2 j)⟩
  · exact h1.elim

/-! ### isinstance -/
inductive Ty where
  | nm (a : String) | cl (c : Nat)
def tyD : D → Option Ty
  | .non => some (.nm "NoneType")
  | .bl _ => some (.nm "bool")
  | .int _ => some (.nm "int")
  | .str _ => some (.nm "str")
  | .tup _ => some (.nm "tuple")
  | .lst _ => some (.nm "list")
  | .frz _ => some (.nm "list")
  | .dic _ _ => some (.nm "dict")
  | .dit _ _ => some (.nm "dict")
  | .obj c _ => some (.cl c)
  | _ => none
def isT (a T : String) : Bool := decide (a = T) || (decide (a = "bool") && decide (T = "int"))
def tyNames : List String := ["NoneType", "bool", "int", "str", "tuple", "list", "dict"]
theorem isT_kit : ∀ a ∈ tyNames, ∀ T ∈ tyNames, kitB a T = some (isT a T) := by decide +kernel
/-- what isinstance must know of the own classes: oc the classes whose instances are asked, kc the class objects asked for, sub the answer -/
structure IsiOk (Y : Cy) (oc kc : List Nat) (sub : Nat → Nat → Bool) : Prop where
  nk : ∀ m ∈ kc, ∀ a ∈ tyNames, PySem.W.kitOne Y.X.K (.type a) (.ref (Y.Γ.fn m)) = some false
  on : ∀ c ∈ oc, ∀ T ∈ tyNames, PySem.W.kitOne Y.X.K (.ref (Y.Γ.cls c)) (.type T) = some false
  ok : ∀ c ∈ oc, ∀ m ∈ kc, PySem.W.kitOne Y.X.K (.ref (Y.Γ.cls c)) (.ref (Y.Γ.fn m)) = some (sub c m)
  cls : ∀ c ∈ oc, Cls Y.X.K (Y.Γ.cls c) ∧ PySem.W.findIn Y.X.K (.ref (Y.Γ.cls c)) "__class__" = some (some (.builtin "object.__class__")) ∧ PySem.W.mroIn Y.X.K (Y.Γ.cls c) (.type "object") = some true
  get : oc ≠ [] → PySem.W.specialIn Y.X.K (.builtin "object.__class__") "__get__" = some (some (.builtin "getset_descriptor.__get__")) ∧ PySem.W.takesIn Y.X.K (.builtin "object.__class__") = some true
theorem IsiOk.base : IsiOk Y [] [] (fun _ _ => false) := ⟨fun _ h => (nomatch h), fun _ h => (nomatch h), fun _ h => (nomatch h), fun _ h => (nomatch h), fun h => absurd rfl h⟩
def isiD (oc kc : List Nat) (sub : Nat → Nat → Bool) (t : Ty) (c : D) : Option Bool := match t, c with
  | .nm a, .ty T => match tyNames.contains T with
    | true => some (isT a T)
    | false => none
  | .nm _, .fn m => match kc.contains m with
    | true => some false
    | false => none
  | .cl c, .ty T => match oc.contains c && tyNames.contains T with
    | true => some false
    | false => none
  | .cl c, .fn m => match oc.contains c && kc.contains m with
    | true => some (sub c m)
    | false => none
  | _, _ => none
def cIsi (oc kc : List Nat) (sub : Nat → Nat → Bool) : List S → Ms → R S := fun ss ms => match ss with
  | [s, .d c] => match ((view s ms).bind tyD).bind (isiD oc kc sub · c) with
    | some b => .ok (.d (.bl b)) ms
    | none => .bad
  | _ => .bad
def tyV (Y : Cy) : Ty → Value
  | .nm a => .type a
  | .cl c => .ref (Y.Γ.cls c)
theorem tyD_names {d : D} {a : String} (h : tyD d = some (.nm a)) : a ∈ tyNames := by
  cases d <;> cases h <;> decide
theorem seqTy {K : PySem.W.Frag} {a : Addr} {xs : List V} (h : SqT K H a xs) : TyX K H (.ref a) (.type "tuple") := by
  rcases h with (h | ⟨o, h⟩) | ⟨o, its, n, k1, k2, _⟩
  · exact .base (.tup h)
  · exact .fTuple h
  · exact .kTuple k1 k2
theorem seqTyL {K : PySem.W.Frag} {a : Addr} {xs : List V} (h : SqL K H a xs) : TyX K H (.ref a) (.type "list") := by
  rcases h with (h | ⟨o, h⟩) | ⟨o, its, n, k1, k2, _⟩
  · exact .base (.lst h)
  · exact .base (.frz h)
  · exact .kList k1 k2
theorem ty_rel {oc kc : List Nat} {sub : Nat → Nat → Bool} {s : S} {v : V} {d : D} {t : Ty} (ok : IsiOk Y oc kc sub) (h : view s ms = some d) (hr : HR Y w H ms) (sv : SR Y w s v) (ht : tyD d = some t) (hc : ∀ c, t = .cl c → c ∈ oc) : TyX Y.X.K H v (tyV Y t) := by
  cases d with
  | non => cases ht; cases view_notlist h (by intro ds z; cases z) sv; exact .base .non
  | bl b => cases ht; cases view_notlist h (by intro ds z; cases z) sv; exact .base (.bl b)
  | int i => cases ht; cases view_notlist h (by intro ds z; cases z) sv; exact .base (.int i)
  | str x => cases ht; cases view_notlist h (by intro ds z; cases z) sv; exact .base (.str x)
  | tup ds =>
    cases ht
    obtain ⟨a, xs, rfl, e1, e2⟩ := view_notlist h (by intro ds z; cases z) sv
    exact seqTy (sqT_mono e1 hr.sub)
  | lst ds =>
    cases ht
    obtain ⟨a, xs, rfl, e1, e2⟩ := view_list h hr sv
    exact .base (.lst e1)
  | frz ds =>
    cases ht
    obtain ⟨a, xs, rfl, e1, e2⟩ := view_notlist h (by intro ds z; cases z) sv
    exact seqTyL (sqL_mono e1 hr.sub)
  | dic ks vs =>
    cases ht
    obtain ⟨a, kvs, rfl, e1, e2⟩ := view_notlist h (by intro ds z; cases z) sv
    exact .base (.dK (hr.sub _ _ e1))
  | dit ks vs =>
    cases ht
    obtain ⟨a, kvs, rfl, e1, e2⟩ := view_notlist h (by intro ds z; cases z) sv
    exact .base (.dT (hr.sub _ _ e1))
  | obj c ds =>
    cases ht
    obtain ⟨a, dx, xs, rfl, e1, e2⟩ := view_notlist h (by intro ds z; cases z) sv
    have hm := hc c rfl
    obtain ⟨c1, c2, c3⟩ := ok.cls c hm
    obtain ⟨g1, g2⟩ := ok.get (fun z => by rw [z] at hm; cases hm)
    exact .base (.ins (hr.sub _ _ e1) c1 c2 g1 g2 c3)
  | fn n => cases ht
  | ty n => cases ht
theorem cd_isi {oc kc : List Nat} {sub : Nat → Nat → Bool} (ok : IsiOk Y oc kc sub) : CallD Y (.builtin "isinstance") (cIsi oc kc sub) := by
  refine ⟨⟨_, call_isi, fun w H ms ss vs Q hr sv h => ?_⟩, fun ss ms c ds ms' h => ?_⟩
  · unfold cIsi at h
    split at h
    · rename_i s c
      obtain ⟨v, u, rfl, r1, r2⟩ := SRs.two sv
      split at h
      · rename_i b hb
        obtain ⟨t, h1, h2⟩ := Option.bind_eq_some_iff.mp hb
        obtain ⟨d, h3, h4⟩ := Option.bind_eq_some_iff.mp h1
        have fin := h.at (Ext.refl w) hr (v := .bl b) rfl
        cases t with
        | nm a =>
          have ha := tyD_names h4
          have tx := ty_rel ok h3 hr r1 h4 (fun c z => by cases z)
          cases c with
          | ty T =>
            cases r2
            unfold isiD at h2
            dsimp only at h2
            cases hT : tyNames.contains T with
            | false => rw [hT] at h2; cases h2
            | true =>
              rw [hT] at h2
              cases h2
              exact ⟨v, .ty T, _, .type T, _, rfl, .ty T, tx, kit_ty (isT_kit a ha T (List.contains_iff_mem.mp hT)), fin⟩
          | fn m =>
            cases r2
            unfold isiD at h2
            dsimp only at h2
            cases hT : kc.contains m with
            | false => rw [hT] at h2; cases h2
            | true =>
              rw [hT] at h2
              cases h2
              exact ⟨v, .ref (Y.Γ.fn m), _, .ref (Y.Γ.fn m), _, rfl, .own _, tx, ok.nk m (List.contains_iff_mem.mp hT) a ha, fin⟩
          | _ => cases h2
        | cl c' =>
          cases c with
          | ty T =>
            cases r2
            unfold isiD at h2
            dsimp only at h2
            cases hT : (oc.contains c' && tyNames.contains T) with
            | false => rw [hT] at h2; cases h2
            | true =>
              rw [hT] at h2
              cases h2
              obtain ⟨q1, q2⟩ := Bool.and_eq_true_iff.mp hT
              have q1 := List.contains_iff_mem.mp q1
              exact ⟨v, .ty T, _, .type T, _, rfl, .ty T, ty_rel ok h3 hr r1 h4 (fun c z => by cases z; exact q1), ok.on c' q1 T (List.contains_iff_mem.mp q2), fin⟩
          | fn m =>
            cases r2
            unfold isiD at h2
            dsimp only at h2
            cases hT : (oc.contains c' && kc.contains m) with
            | false => rw [hT] at h2; cases h2
            | true =>
              rw [hT] at h2
              cases h2
              obtain ⟨q1, q2⟩ := Bool.and_eq_true_iff.mp hT
              have q1 := List.contains_iff_mem.mp q1
              exact ⟨v, .ref (Y.Γ.fn m), _, .ref (Y.Γ.fn m), _, rfl, .own _, ty_rel ok h3 hr r1 h4 (fun c z => by cases z; exact q1), ok.ok c' q1 m (List.contains_iff_mem.mp q2), fin⟩
          | _ => cases h2
      · exact h.elim
    · exact h.elim
  · unfold cIsi at h
    split at h
    · split at h <;> cases h
    · cases h
end
end Fw
set_option Elab.async false
set_option linter.all false
set_option maxRecDepth 100000
set_option maxHeartbeats 4000000
/-! Fw14: an own exception is made: super().__init__(text), then its fields. -/
namespace PySem
namespace FwX
open PySem.W PySem.Calls PyProof.Rows PySem.HandSPX

inductive FldStmts : List Stmt → List (Str × Str) → Prop where
  | nil : FldStmts [] []
  | cons {f x : Str} {q1 q2 q3 q4 : Pos} {ss : List Stmt} {fs : List (Str × Str)} (r : FldStmts ss fs) : FldStmts (.Assign [.Attribute (.Name "self" q1) f q2] (.Name x q3) q4 :: ss) ((f, x) :: fs)
def supStmt (text : Str) (j : Nat) (p0 p1 p2 p3 p4 p5 : Pos) : Stmt := .Expr (.Call (.Attribute (.Call (.Name "super" p0) [] [] p1) "__init__" p2) [.Constant (.str text) j p3] [] p4) p5

/-- what the written part says of the class at C, its __init__ at fI, the cell of __class__ at cc, the code object at cda -/
structure ExTxt (prog : Program) (K : Frag) (C fI cc cda : Addr) (qual : Str) (params : Arguments) (body : List Stmt) (scope : Scope) (fs : List (Str × Str)) : Prop where
  cls : ∃ nm q N bs bm sn sub ab col dd k0 k1 k2 k3 k5, K.lookup C = some (excClassObj nm q C N bs bm true sn sub ab col dd k0 k1 k2 k3 k5 "ValueError.__new__") ∧ refsVE bm = true
  sa : findIn K (.ref C) "__setattr__" = some (some (.builtin "object.__setattr__"))
  iC : findIn K (.ref C) "__init__" = some (some (.ref fI))
  tC : typeIn K (.ref fI) = some (.type "function")
  kC : keepIn K (.ref C) = true
  exC : subIn K (.ref C) (.type "BaseException") = some true
  tyC : typeIn K (.ref C) = some (.type "type")
  mro : mroIn K C (.ref C) = some true
  ve : subIn K (.ref C) (.type "ValueError") = some true
  sup : ks_superIn K C C "__init__" = some (some (.builtin "ValueError.__init__"))
  ini : excInitIn K C veTail "ValueError.__new__" = true
  any : nsIn K cStatics "thirdparty.any" = some none
  cell : ∃ cl cld csl, K.lookup cc = some ⟨cl, cld, .cell (some (.ref C)), csl⟩
  code : ∃ ccl cdd vs ccs file tf, K.lookup cda = some ⟨ccl, cdd, .fields vs, ccs⟩ ∧ vs[2]? = some (.str file tf) ∧ ((prog.main.file : Str) == file) = true
  top : (prog.main.scope.names.lookup ("super" : Str)).isSome = false
  fn : ∃ oc od kV doc pm an ct osl, K.lookup fI = some ⟨oc, od, .func (ksFn "__init__" qual params body scope .none kV doc pm an (.ref cda) ct cc), osl⟩ ∧ codeIn K (.ref cda) qual = true
  noN : ∀ p ∈ fs, findIn K (.ref C) p.1 = some none
/-- a def's scope that asks for __class__ -/
structure IniScope (scope : Scope) (ps : List Str) : Prop where
  kind : scope.kind = .function
  co : scope.isCoroutine = false
  gen : scope.isGenerator = false
  sup : scope.names.lookup ("super" : Str) = some .globalImplicit
  cls : scope.names.lookup ("__class__" : Str) = some .free
  par : ∀ x ∈ ps, scope.names.lookup x = some .local ∧ (x == ("__debug__" : Str)) = false
  nocell : ∀ x ∈ scope.names, x.2 ≠ .cell
  nd : ps.Nodup
/-- the heap while the fields are stored: done the stored ones, the last ahead -/
structure Sto (K : Frag) (hp : Heap) (C L x : Addr) (m : Str → Option Value) (done : List (Str × Value)) (h : Heap) : Prop where
  keep : ∀ b o, hp.get? b = some o → h.get? b = some o
  ns : h.Ns L m
  big : hp.objs.size ≤ L
  nx : x ≠ L
  xbig : hp.objs.size ≤ x
  ob : ∃ t1 dv, h.get? x = some { cls := .ref C, dict := dv, data := .fields #[.ref t1, .none, .none, .none, .bool false, .none] } ∧
    ((done = [] ∧ dv = none) ∨ (done ≠ [] ∧ ∃ dx, dv = some dx ∧ hp.objs.size ≤ dx ∧ dx ≠ x ∧ dx ≠ L ∧ h.Ns1 dx fun y => done.lookup y))
theorem lookup_fun {n : Str} {v : Value} {done : List (Str × Value)} : (fun y => if y = n then some v else done.lookup y) = fun y => ((n, v) :: done).lookup y := by
  funext y
  rw [List.lookup_cons]
  by_cases e : y = n
  · subst e; simp
  · have : (y == n) = false := beq_eq_false_iff_ne.mpr e
    rw [if_neg e, this]
theorem within_lookup : ∀ done : List (Str × Value), Within (fun y => done.lookup y) (done.map (·.1))
  | [] => fun y hy => absurd rfl hy
  | (n, v) :: r => by
    rw [← lookup_fun]
    exact Within.cons n v (within_lookup r)
section
variable {prog : Program} {w : World} {A : Around} {E : Value → Shared → Prop} {R : Result → Shared → Prop} {s : Shared} {K : Frag} {hp : Heap} {C fI cc cda L x : Addr} {qual : Str} {params : Arguments} {body : List Stmt} {scope : Scope} {m : Str → Option Value} {fs0 : List (Str × Str)} {ps : List Str} {ann : Option Expr} {pa : Pos} {args' : List Arg} {t0 : Addr}
theorem Frag.high {K : Frag} {hp : Heap} (X : K.In hp) {x : Addr} (hx : hp.objs.size ≤ x) : K.lookup x = none := by
  cases e : K.lookup x with
  | none => rfl
  | some o => exact absurd (Heap.lt_size (X _ _ e)) (Nat.not_lt.mpr hx)
theorem flds_ok (T : ExTxt prog K C fI cc cda qual params body scope fs0) (X : K.In hp) (hk : scope.kind = .function) (hs : scope.names.lookup ("self" : Str) = some .local) (hsv : m "self" = some (.ref x)) {Q : Flow → Shared → Prop} :
    ∀ {ss : List Stmt} {fs : List (Str × Str)} {done : List (Str × Value)} {s : Shared}, FldStmts ss fs → Sto K hp C L x m done s.heap → done.length + fs.length ≤ 900 →
      (∀ p ∈ fs, findIn K (.ref C) p.1 = some none ∧ scope.names.lookup p.2 = some .local ∧ (p.2 == ("__debug__" : Str)) = false ∧ ∃ v, m p.2 = some v) →
      (∀ h' tk' vs, vs.length = fs.length → (∀ (i : Nat) p v, fs[i]? = some p → vs[i]? = some v → m p.2 = some v) → Sto K hp C L x m (((fs.map (·.1)).zip vs).reverse ++ done) h' → Q .next { s with heap := h', toks := tk' }) →
      wpAny (model prog w) A (execs ss (ksEnv qual scope L fI (.ref cda) cc)) Q E s
  | _, _, done, s, .nil, st, _, _, hq => wpAny_execs_nil (hq s.heap s.toks [] rfl (fun i p v h => by simp at h) st)
  | _, _, done, s, .cons (f := f) (x := a) (ss := ss) (fs := fs) r, st, hl, hf, hq => by
    obtain ⟨f1, f2, f3, v, f4⟩ := hf _ List.mem_cons_self
    obtain ⟨nm, q, N, bs, bm, sn, sub, ab, col, dd, k0, k1, k2, k3, k5, hC, hbm⟩ := T.cls
    have hcl : clsIn K C = some { name := nm, bases := bs, mro := .ref C :: bm, ns := N, qualname := q, hasDict := true, slotNames := sn, subclasses := sub, abstract := ab, collection := col, hasDel := false } := by unfold clsIn; rw [hC] <;> rfl
    have X₁ : K.In s.heap := X.keeps st.keep
    have nxK := Frag.high X st.xbig
    refine wpAny_execs_cons (plainObj_wpAny_Assign_Attribute ?_ rfl)
    refine wpAny_Name (wpAny_loadName_local hk f2 st.ns f4 ?_) f3
    refine wpAny_Name (wpAny_loadName_local hk hs st.ns hsv ?_) (by decide)
    obtain ⟨t1, dv, hx, hd⟩ := st.ob
    have nxt : ∀ {h' : Heap} {tk' : Nat}, Sto K hp C L x m ((f, v) :: done) h' → wpAny (model prog w) A (execs ss (ksEnv qual scope L fI (.ref cda) cc)) Q E { s with heap := h', toks := tk' } := fun {h' tk'} st' => by
      refine flds_ok T X hk hs hsv (s := { s with heap := h', toks := tk' }) r st' (by simp only [List.length_cons] at hl ⊢; omega) (fun p hp => hf p (List.mem_cons_of_mem _ hp)) fun h2 tk2 vs l2 v2 st2 => ?_
      refine hq h2 tk2 (v :: vs) (by simp [l2]) (fun i p u h1 h2 => ?_) ?_
      · cases i with
        | zero => simp at h1 h2; subst h1 h2; exact f4
        | succ i => exact v2 i p u (by simpa using h1) (by simpa using h2)
      · simpa [List.zip_cons_cons, List.reverse_cons, List.append_assoc] using st2
    rcases hd with ⟨rfl, rfl⟩ | ⟨_, dx, rfl, dbig, dne, dL, hns⟩
    · refine set_plain X₁ (ox := { cls := .ref C, data := .fields #[.ref t1, .none, .none, .none, .bool false, .none] }) (od := none) ⟨hx, rfl, rfl, trivial⟩ T.sa ?_
      refine exc_osa (hp := s.heap) X₁ hx hcl (show refsVE (.ref C :: bm) = true from hbm) rfl f1 (fun h₃ tk₃ dx k₃ dn dne hx₃ hn₃ => ?_)
      refine nxt ⟨fun b o e => k₃ b o (Nat.ne_of_lt (Nat.lt_of_lt_of_le (Heap.lt_size e) st.xbig)) (st.keep b o e), ?_, st.big, st.nx, st.xbig, t1, some dx, hx₃, .inr ⟨by simp, dx, rfl, ?_, dne, ?_, ?_⟩⟩
      · exact st.ns.at fun o e => k₃ L o (Ne.symm st.nx) e
      · exact Nat.le_trans st.big (Nat.le_trans (Nat.le_of_lt st.ns.lt) dn)
      · exact Nat.ne_of_gt (Nat.lt_of_lt_of_le st.ns.lt dn)
      · rw [show (fun y => List.lookup y [(f, v)]) = fun y => if y = f then some v else List.lookup y [] from lookup_fun.symm]
        exact hn₃
    · obtain ⟨oD, esD, epD, hoD, hdD, _⟩ := hns.count (within_lookup done)
      refine set_plain X₁ (ox := { cls := .ref C, dict := some dx, data := .fields #[.ref t1, .none, .none, .none, .bool false, .none] }) (od := some oD) ⟨hx, rfl, rfl, hoD⟩ T.sa ?_
      refine OEX.osa_old (hp := s.heap) X₁ hx hns (within_lookup done) (by rw [List.length_map]; omega) hcl (show refsVE (.ref C :: bm) = true from hbm) rfl f1 (fun h₃ tk₃ k₃ hn₃ => ?_)
      refine nxt ⟨fun b o e => k₃ b o (Nat.ne_of_lt (Nat.lt_of_lt_of_le (Heap.lt_size e) dbig)) (st.keep b o e), ?_, st.big, st.nx, st.xbig, t1, some dx, ?_, .inr ⟨by simp, dx, rfl, dbig, dne, dL, ?_⟩⟩
      · exact st.ns.at fun o e => k₃ L o (Ne.symm dL) e
      · exact k₃ x _ (Ne.symm dne) hx
      · rw [← lookup_fun]; exact hn₃
/-- a made exception -/
structure Made (h h' : Heap) (e C : Addr) (done : List (Str × Value)) : Prop where
  keep : ∀ b o, h.get? b = some o → h'.get? b = some o
  new : h.objs.size ≤ e
  ob : ∃ oe vs dv, h'.get? e = some oe ∧ oe.cls = .ref C ∧ oe.dict = dv ∧ oe.data = .fields vs ∧ vs[1]? = some .none ∧
    ((done = [] ∧ dv = none) ∨ (done ≠ [] ∧ ∃ dx, dv = some dx ∧ h.objs.size ≤ dx ∧ dx ≠ e ∧ h'.Ns1 dx fun y => done.lookup y))
/-- how the model reads super().__init__(text) in this scope: by rfl -/
def SupEv (qual : Str) (scope : Scope) (fI cda cc : Addr) (pl : Sem Bool) (text : Str) (j : Nat) (p0 p1 p2 p3 p4 : Pos) : Prop :=
  ∀ L : Addr, eval (.Call (.Attribute (.Call (.Name "super" p0) [] [] p1) "__init__" p2) [.Constant (.str text) j p3] [] p4) (ksEnv qual scope L fI (.ref cda) cc) = (do
    let ov ← attributeBase (.Call (.Name "super" p0) [] [] p1) "__init__" (ksEnv qual scope L fI (.ref cda) cc) (eval (.Call (.Name "super" p0) [] [] p1) (ksEnv qual scope L fI (.ref cda) cc))
    standAt p2.atName
    let (f, first) ← holding [ov] (getMethod ov "__init__" pl)
    callWith p4 f first (backTo p4 (starEach [.Constant (.str text) j p3] (ksEnv qual scope L fI (.ref cda) cc))) [])
/-- the frame of __init__ begins: super().__init__(text) -/
theorem sup_ok (T : ExTxt prog K C fI cc cda qual params body scope fs0) (X : K.In hp) (S : IniScope scope ps) (ha : params.posonlyargs ++ params.args = { arg := "self", annotation := ann, pos := pa } :: args') {mg mb : Str → Option Value} (hG : hp.Ns mainGlobals mg) (hmg : mg "super" = none) (hB : hp.Ns builtinsNs mb) (hmb : mb "super" = some (.type "super"))
    (F : Fr hp L s.heap m) (N : News hp L s.heap [(x, excObj C t0 none .none)]) (hxb : hp.objs.size ≤ x) (hv : m "self" = some (.ref x)) (hself : ("self" : Str) ∈ ps) {text : Str} {j : Nat} {p0 p1 p2 p3 p4 p5 : Pos} {pl : Sem Bool} (he : SupEv qual scope fI cda cc pl text j p0 p1 p2 p3 p4) {Q : Flow → Shared → Prop}
    (hq : ∀ h' tk', Sto K hp C L x m [] h' → Q .next { s with heap := h', toks := tk' }) :
    _root_.PySem.wpAt (model prog w) A (.func body (ksEnv qual scope L fI (.ref cda) cc)) (exec (supStmt text j p0 p1 p2 p3 p4 p5) (ksEnv qual scope L fI (.ref cda) cc)) Q E s := by
  have X₁ : K.In s.heap := X.keeps F.keep
  obtain ⟨oc, od, kV, doc, pm, an, ct, osl, hf, hcd⟩ := T.fn
  obtain ⟨cl, cld, csl, hcell⟩ := T.cell
  obtain ⟨ccl, cdd, vs, ccs, file, tf, hcode, hvs, hfile⟩ := T.code
  obtain ⟨nm, q, Nn, bs, bm, sn, sub, ab, col, dd, k0, k1, k2, k3, k5, hC, hbm⟩ := T.cls
  obtain ⟨hh, g, d, t, os⟩ := s
  unfold supStmt
  refine ks_wpAt_Expr_any (ks_wpAt_MethodCall (pl := pl) ?_ (he L)) (by simp [interactive, S.kind]) rfl
  refine ks_wpAt_super_base (env := ksEnv qual scope L fI (.ref cda) cc) S.sup S.cls (by decide) rfl (X₁ _ _ hf) rfl (ar := { arg := "self", annotation := ann, pos := pa }) (by show (params.posonlyargs ++ params.args).head? = _; rw [ha]; rfl) rfl (X₁ _ _ hcode) rfl hvs hfile T.top ?_
  refine ks_loadName_global S.kind S.sup (Calls.loadGlobal_builtin (hG.keeps F.keep) hmg (hB.keeps F.keep) hmb ⟨rfl, ?_⟩)
  refine wpAny_loadName_free S.kind S.cls rfl ⟨_, X₁ _ _ hcell, rfl⟩ ?_
  refine wpAny_loadName_local S.kind (S.par "self" hself).1 F.ns hv ?_
  refine ks_wpAny_isType_cls (X₁ _ _ hC) rfl ⟨rfl, ?_⟩
  refine ks_wpAny_call_super (X₁ _ _ hC) rfl (N _ List.mem_cons_self).1 rfl (fun c e => by cases e) (looks_mroIn X₁ T.mro) (fun h' e k => ?_)
  obtain ⟨F1, N1, l1⟩ := ks_newsPush (s := ⟨hh, g, d, t, os⟩) F N rfl e k
  refine kxs_method (s := ⟨h', g, d, t, os⟩) kxs_ValueError F1 X N1 List.mem_cons_self (InstAt.of_exc0 N1 (List.mem_cons_of_mem _ List.mem_cons_self)) T.any T.sup T.ve (by decide) fun q h2 F2 N2 l2 => ?_
  refine kxs_callWith1 N2 List.mem_cons_self ?_
  refine Calls.spliced_cons (wpAny_Constant_str (k := j) (pos := p3) (Calls.spliced_nil ⟨kxs_at N2 List.mem_cons_self, ?_⟩))
  have m3 : (x, excObj C t0 none .none) ∈ [(q, kxs_mw "ValueError.__init__" x), (hh.objs.size, ks_superObj C x C), (x, excObj C t0 none .none)] := by simp
  have nq : q ≠ x := Ne.symm (Nat.ne_of_lt (l2 _ (List.mem_cons_of_mem _ List.mem_cons_self)))
  have nso : hh.objs.size ≠ x := Ne.symm (Nat.ne_of_lt (l1 _ List.mem_cons_self))
  refine kxs_call F2 X N2 PySem.F.excBase_ValueError T.ini List.mem_cons_self (.tail nq (.tail nso (.head (fun _ z => nomatch z)))) (by rw [sizeLine_eq]; exact (by decide : 1 ≤ 16777216)) fun t' h3 F3 N3 l3 => ?_
  have m4 := N3 (x, excObj C t' none .none) (by simp)
  exact hq h3 _ ⟨F3.keep, F3.ns, F3.above, m4.2.1, hxb, t', none, m4.1, .inl ⟨rfl, rfl⟩⟩
theorem zlk_none : ∀ {l : List (Str × Value)} {y : Str}, y ∉ l.map (·.1) → l.lookup y = none
  | [], _, _ => rfl
  | (n, v) :: l, y, h => by
    rw [List.lookup_cons]
    have : (y == n) = false := beq_eq_false_iff_ne.mpr fun z => h (by subst z; exact List.mem_cons_self)
    rw [this]
    exact zlk_none fun z => h (List.mem_cons_of_mem _ z)
theorem zlk : ∀ {ps : List Str} {us : List Value} {i : Nat} {y : Str} {u : Value}, ps.Nodup → ps[i]? = some y → us[i]? = some u → (ps.zip us).reverse.lookup y = some u
  | [], _, _, _, _, _, h, _ => by simp at h
  | _ :: _, [], _, _, _, _, _, h => by simp at h
  | p :: ps, v :: us, 0, y, u, nd, h1, h2 => by
    have e1 : p = y := by simpa using h1
    have e2 : v = u := by simpa using h2
    subst e1 e2
    have hn : (ps.zip us).reverse.lookup p = none := zlk_none fun z => (List.nodup_cons.mp nd).1 (by
      obtain ⟨w, hw, e⟩ := List.mem_map.mp z
      rw [← e]
      exact (List.of_mem_zip (List.mem_reverse.mp hw)).1)
    rw [List.zip_cons_cons, List.reverse_cons, List.lookup_append, hn, Option.none_or, List.lookup_cons, beq_self_eq_true]
  | p :: ps, v :: us, i + 1, y, u, nd, h1, h2 => by
    have e : (ps.zip us).reverse.lookup y = some u := zlk (i := i) (List.nodup_cons.mp nd).2 (by simpa using h1) (by simpa using h2)
    rw [List.zip_cons_cons, List.reverse_cons, List.lookup_append, e, Option.some_or]
theorem nst_self {v : Value} {us : List Value} {r : List Str} (nd : (("self" : Str) :: r).Nodup) : ((("self" : Str) :: r).zip (v :: us)).reverse.lookup ("self" : Str) = some v :=
  zlk (i := 0) nd rfl rfl
/-- C(..): made, __init__ run -/
theorem exc_made {fs : List (Str × Str)} {r : List Str} {ss : List Stmt} {text : Str} {j : Nat} {p0 p1 p2 p3 p4 p5 : Pos} {pl : Sem Bool} (T : ExTxt prog K C fI cc cda qual params (supStmt text j p0 p1 p2 p3 p4 p5 :: ss) scope fs) (X : K.In hp) (S : IniScope scope ("self" :: r))
    (ha : params.posonlyargs ++ params.args = { arg := "self", annotation := ann, pos := pa } :: args') (he : SupEv qual scope fI cda cc pl text j p0 p1 p2 p3 p4) {mg mb : Str → Option Value} (hG : hp.Ns mainGlobals mg) (hmg : mg "super" = none) (hB : hp.Ns builtinsNs mb) (hmb : mb "super" = some (.type "super"))
    (hss : FldStmts ss fs) (hfs : fs.map (·.2) = r) (hf9 : fs.length ≤ 900) (hlim : hp.NoLimit) {us : List Value} (hu : us.length = r.length) (hu9 : us.length ≤ sizeLine)
    (hbind : ∀ (kV doc pm : Value) (an : Option Addr) (ct : Value) (v : Value), bindArgs (ksFn "__init__" qual params (supStmt text j p0 p1 p2 p3 p4 p5 :: ss) scope .none kV doc pm an (.ref cda) ct cc) ⟨v :: us, []⟩ = pure ((("self" : Str) :: r).zip (v :: us)))
    (hroom : A.depth + 1 < recursionLimit) {g : Array GenState} {dr : Drawn} {tk : Nat} {os : OsState}
    (hq : ∀ h' tk' e, Made hp h' e C ((fs.map (·.1)).zip us).reverse → R (.ok (.ret (.ref e))) ⟨h', g, dr, tk', os⟩) :
    codeAny (model prog w) A (.call (.ref C) ⟨us, []⟩) R ⟨hp, g, dr, tk, os⟩ := by
  obtain ⟨nm, q, N, bs, bm, sn, sub, ab, col, dd, k0, k1, k2, k3, k5, hC, hbm⟩ := id T.cls
  obtain ⟨oc, od, kV, doc, pm, an, ct, osl, hf, hcd⟩ := id T.fn
  have k : ∀ b o, hp.get? b = some o → ((hp.push (kdv_tup us)).push (excO C hp.objs.size)).get? b = some o := fun b o e => Heap.get?_push_of_some _ (Heap.get?_push_of_some _ e)
  have hget : ((hp.push (kdv_tup us)).push (excO C hp.objs.size)).get? (hp.objs.size + 1) = some (excO C hp.objs.size) := by heap_get
  refine call_own PySem.F.excBase_ValueError (fun X => refsVE_contains X bm hbm) (X _ _ hC) (looks_findIn X T.iC) (fun self => bind_fn X self T.tC) hu9 ?_
  refine ks_codeAny_call_defAt (s := ⟨(hp.push (kdv_tup us)).push (excO C hp.objs.size), g, dr, tk, os⟩) (fd := ksFn "__init__" qual params (supStmt text j p0 p1 p2 p3 p4 p5 :: ss) scope .none kV doc pm an (.ref cda) ct cc) (body := supStmt text j p0 p1 p2 p3 p4 p5 :: ss)
    (binds := (("self" : Str) :: r).zip (.ref (hp.objs.size + 1) :: us)) ?_ ((X.keeps k) _ _ hf) rfl (hlim.keeps k) (codeRec_of (X.keeps k) hcd) rfl (BindsTo.of_eq (hbind kV doc pm an ct _)) S.nocell (fun y hy => (S.par y.1 (List.of_mem_zip hy).1).1) (fun h₁ hns hk₁ => ?_) S.co S.gen S.kind
  · show A.depth + 1 < recursionLimit
    exact hroom
  · have sz : ((hp.push (kdv_tup us)).push (excO C hp.objs.size)).objs.size = hp.objs.size + 1 + 1 := by simp [Heap.size_push]
    have hsv := nst_self (v := .ref (hp.objs.size + 1)) (us := us) S.nd
    have hL : hp.objs.size ≤ ((hp.push (kdv_tup us)).push (excO C hp.objs.size)).objs.size := by rw [sz]; omega
    refine ks_wpAt_execs_cons ?_
    refine sup_ok (t0 := hp.objs.size) (x := hp.objs.size + 1) (L := ((hp.push (kdv_tup us)).push (excO C hp.objs.size)).objs.size) T X S ha hG hmg hB hmb ⟨hns, fun b o e => hk₁ b o (k b o e), hL⟩ (fun p hp' => ?_) (Nat.le_succ _) hsv List.mem_cons_self he fun h2 tk2 st => ?_
    · rcases List.mem_singleton.mp hp' with rfl
      refine ⟨hk₁ _ _ hget, ?_, ?_⟩
      · show hp.objs.size + 1 ≠ _
        rw [sz]; omega
      · cases e : hp.get? (hp.objs.size + 1) with
        | none => rfl
        | some o => exact absurd (Heap.lt_size e) (Nat.not_lt.mpr (Nat.le_succ _))
    · refine wpAt_of_wpAny ?_
      refine flds_ok T X S.kind (S.par "self" List.mem_cons_self).1 hsv hss st (by simpa using hf9) (fun p hp => ?_) fun h' tk' vs lv hvs st' => ?_
      · have hm : p.2 ∈ r := by rw [← hfs]; exact List.mem_map_of_mem hp
        have hp2 := S.par p.2 (List.mem_cons_of_mem _ hm)
        refine ⟨T.noN p hp, hp2.1, hp2.2, ?_⟩
        obtain ⟨i, hi⟩ := List.getElem?_of_mem hm
        have hlt : i < us.length := by rw [hu]; exact (List.getElem?_eq_some_iff.mp hi).1
        exact ⟨us[i], zlk (i := i + 1) S.nd (by simpa using hi) (by simp [hlt])⟩
      · have ev : vs = us := by
          refine List.ext_getElem? fun i => ?_
          have l1 : vs.length = us.length := by rw [lv, hu, ← hfs, List.length_map]
          by_cases z : i < vs.length
          · have zf : i < fs.length := by rw [← lv]; exact z
            have zu : i < us.length := by rw [← l1]; exact z
            have hr : r[i]? = some fs[i].2 := by rw [← hfs, List.getElem?_map, List.getElem?_eq_getElem zf]; rfl
            have e1 := hvs i fs[i] vs[i] (List.getElem?_eq_getElem zf) (List.getElem?_eq_getElem z)
            have e2 := zlk (us := Value.ref (hp.objs.size + 1) :: us) (i := i + 1) (u := us[i]) S.nd (by simpa using hr) (by simp [zu])
            rw [e2] at e1
            rw [List.getElem?_eq_getElem z, List.getElem?_eq_getElem zu]
            exact e1.symm
          · rw [List.getElem?_eq_none (Nat.le_of_not_lt z), List.getElem?_eq_none (by rw [← l1]; exact Nat.le_of_not_lt z)]
        subst ev
        rw [List.append_nil] at st'
        obtain ⟨t1, dv, hx, hd⟩ := st'.ob
        refine ⟨rfl, hq h' tk' _ ⟨st'.keep, st'.xbig, _, _, dv, hx, rfl, rfl, rfl, rfl, ?_⟩⟩
        rcases hd with h | ⟨ne, dx, e, d1, d2, _, d3⟩
        · exact .inl h
        · exact .inr ⟨ne, dx, e, d1, d2, d3⟩
end
end FwX
end PySem
set_option Elab.async false
set_option linter.all false
set_option maxRecDepth 100000
set_option maxHeartbeats 4000000
/-! Fw15: raise; try. -/
namespace Fw
open PySem L2 PySem.Spec PyProof.Rows

/-! ### raise C(..) -/
theorem paired_append {α β : Type} {P : α → β → Prop} : ∀ {a c : List α} {b d : List β}, Paired P a b → Paired P c d → Paired P (a ++ c) (b ++ d)
  | _, _, _, _, .nil, h => h
  | _, _, _, _, .cons x y, h => .cons x (paired_append y h)
theorem paired_rev {α β : Type} {P : α → β → Prop} : ∀ {a : List α} {b : List β}, Paired P a b → Paired P a.reverse b.reverse
  | _, _, .nil => .nil
  | _, _, .cons x y => by
    rw [List.reverse_cons, List.reverse_cons]
    exact paired_append (paired_rev y) (.cons x .nil)
theorem zip_rev {α β : Type} : ∀ {a : List α} {b : List β}, a.length = b.length → (a.zip b).reverse = a.reverse.zip b.reverse
  | [], [], _ => rfl
  | [], _ :: _, h => by simp at h
  | _ :: _, [], h => by simp at h
  | x :: a, y :: b, h => by
    have hl : a.length = b.length := by simpa using h
    rw [List.zip_cons_cons, List.reverse_cons, zip_rev hl, List.reverse_cons, List.reverse_cons, List.zip_append (by simp [hl])]
    rfl
theorem relO_zip : ∀ {fs : List Str} {vs : List V} {us : List Value} (f : Str), Vals vs us → RelO ((fs.zip vs).lookup f) ((fs.zip us).lookup f)
  | [], _, _, f, _ => by simp [RelO]
  | a :: fs, _, _, f, .nil => by simp [RelO]
  | a :: fs, _, _, f, .cons r t => by
    rw [List.zip_cons_cons, List.zip_cons_cons, List.lookup_cons, List.lookup_cons]
    cases f == a with
    | true => exact r
    | false => exact relO_zip f t
theorem DRs.rev {K : PySem.W.Frag} {Γ : G} {F : Hp} : ∀ {ds : List D} {vs : List V}, DRs K Γ F ds vs → DRs K Γ F ds.reverse vs.reverse
  | [], _, h => by cases h; rfl
  | d :: ds, _, h => by
    obtain ⟨x, r, rfl, h2, h3⟩ := h
    rw [List.reverse_cons, List.reverse_cons]
    exact (DRs.rev h3).append ⟨x, [], rfl, h2, rfl⟩
/-- all that a class that is raised must have; fl its fields as stored -/
structure ExcOk (prog : Program) (K : PySem.W.Frag) (mgl : Str → Option Value) (x : Str) (C : Addr) (fl : List Str) : Prop where
  mg : mgl x = some (.ref C)
  ex : ∃ (fI cc cda : Addr) (qual : Str) (params : Arguments) (scope : Scope) (fs : List (Str × Str)) (r : List Str) (ss : List Stmt) (text : Str) (j : Nat) (p0 p1 p2 p3 p4 p5 pa : Pos) (pl : Sem Bool) (ann : Option Expr) (args' : List Arg),
    FwX.ExTxt prog K C fI cc cda qual params (FwX.supStmt text j p0 p1 p2 p3 p4 p5 :: ss) scope fs ∧ FwX.IniScope scope ("self" :: r) ∧ params.posonlyargs ++ params.args = { arg := "self", annotation := ann, pos := pa } :: args' ∧
    FwX.SupEv qual scope fI cda cc pl text j p0 p1 p2 p3 p4 ∧ FwX.FldStmts ss fs ∧ fs.map (·.2) = r ∧ fs.map (·.1) = fl ∧ fs.length ≤ 900 ∧
    ∀ (us : List Value), us.length = r.length → ∀ (kV doc pm : Value) (an : Option Addr) (ct : Value) (v : Value), bindArgs (PySem.W.ksFn "__init__" qual params (FwX.supStmt text j p0 p1 p2 p3 p4 p5 :: ss) scope .none kV doc pm an (.ref cda) ct cc) ⟨v :: us, []⟩ = pure ((("self" : Str) :: r).zip (v :: us))
  sup : mgl "super" = none
def tMkX (C : Addr) (fl : List Str) (t : TA) : L2.St → Hp → XK → Prop := fun σ H Q => t σ H fun vs H1 => vs.length = fl.length ∧ (fl = [] → Q (.ref C) none H1) ∧ (fl ≠ [] → ∀ d, H1 d = none → Q (.ref C) (some d) (upd H1 d (.xd (fl.reverse.zip vs.reverse))))
section
variable {Y : Cy} {w w1 w2 : Wd} {σ : L2.St} {H H1 H2 : Hp} {env : Env} {ms ms1 ms2 : Ms} {Ed : Ends} {es : List Expr} {m : Env → Ms → R (List S)} {n k : Nat} {x : Str} {C : Addr} {fl : List Str} {np pos p1 : Pos}
theorem pmk_x {t : TA} (hr : Room k Y.X.A) (e : ExcOk Y.X.prog Y.X.K Y.X.mg x C fl) (hg : Gl Y.X x) (ha : PC Y.X es [] n [] t) (hdb : (x == ("__debug__" : Str)) = false := by decide) : PMk Y.X (.Call (.Name x np) es [] pos) (tMkX C fl t) := by
  intro pins s σ H Q I h
  obtain ⟨fI, cc, cda, qual, params, scope, fs, r, ss, text, j, p0, p1, p2, p3, p4, p5, pa, pl, ann, args', T, S, hpa, he, hss, hr2, hfl, h9, hbind⟩ := e.ex
  refine wpAny_Call_Name_kw (ld_glob I hg e.mg ?_ hdb)
  refine PySem.W.callWith_of (ha.plain pos) (PySem.W.keeps_K T.kC) (thn (ha.run pos _ pins s σ H _ I h) fun a s1 hh => ?_)
  obtain ⟨us, ws, vs, H1, ea, l1, l2, I1, rv, hl, q0, q1⟩ := hh
  subst ea
  have ws0 : ws = [] := List.length_eq_zero_iff.mp l2
  subst ws0
  rw [List.append_nil] at rv
  refine ⟨I1.kIn, ?_⟩
  show wpAny _ _ (call (.ref C) us) _ _ _
  have hlim := I1.nolimit
  obtain ⟨mb, hb1, hb2⟩ := I1.mod.blt
  have hb3 : mb "super" = some (.type "super") := (hb2 "super" (by decide)).trans (by decide +kernel)
  have hus : us.length = r.length := by rw [← rv.length, hl, ← hfl, ← hr2, List.length_map, List.length_map]
  have hG := I1.mod.glob.keeps I1.bk
  have hB := hb1.keeps I1.bk
  have kIn := I1.kIn
  have lr : r.length ≤ 900 := by rw [← hr2, List.length_map]; exact h9
  obtain ⟨hp, g, dr, tk, os⟩ := s1
  refine wpAny_call (FwX.exc_made T kIn S hpa he hG e.sup hB hb3 hss hr2 h9 hlim hus (by rw [sizeLine_eq]; omega) (hbind us hus) (by have := hr.dp; omega) fun h' tk' ea M => ?_)
  show MkP Y.X pins σ Q (.ref ea) ⟨h', g, dr, tk', os⟩
  obtain ⟨oe, fv, dv, hoe, hc, hd, hdat, h1, hcase⟩ := M.ob
  obtain ⟨G', g1, g2⟩ := restrict h' fun b => decide (b ≠ ea)
  have gk : ∀ b, b ≠ ea → G'.get? b = h'.get? b := fun b hb => g1 b (decide_eq_true hb)
  have ge : G'.get? ea = none := g2 ea (by simp)
  have old : ∀ b o, hp.get? b = some o → G'.get? b = some o := fun b o q => (gk b (Nat.ne_of_lt (Nat.lt_of_lt_of_le (Heap.lt_size q) M.new))).trans (M.keep b o q)
  have back : ∀ b o, G'.get? b = some o → h'.get? b = some o := fun b o q => by
    by_cases hb : b = ea
    · rw [hb, ge] at q; cases q
    · exact (gk b hb).symm.trans q
  have rse := raises_own (X := Y.X) T.exC T.tyC
  rw [hfl] at hcase
  rcases hcase with ⟨he0, hdv⟩ | ⟨hne, dx, hdv, dbig, dne, hns⟩
  · have fl0 : fl = [] := by
      cases fl with
      | nil => rfl
      | cons a fl =>
        cases us with
        | nil => rw [rv.length] at hl; simp at hl
        | cons u us => simp at he0
    subst hdv
    have J : Inv Y.X pins σ H1 ⟨G', g, dr, tk', os⟩ := I1.kept (t' := tk') old
    exact ⟨ea, oe, fv, ⟨G', g, dr, tk', os⟩, _, .ref C, none, rfl, J, back, ge, hoe, ⟨hc, hd⟩, hdat, h1, I1.hok.fresh M.new, rfl, I1.bare, rse, q0 fl0⟩
  · subst hdv
    have fl1 : fl ≠ [] := fun z => by subst z; exact hne rfl
    have lus : fl.length = us.length := by rw [← hl, rv.length]
    have hfun : (fun y => (fl.zip us).reverse.lookup y) = fun y => (fl.reverse.zip us.reverse).lookup y := by rw [zip_rev lus]
    rw [hfun] at hns
    have ob : ObjOk Y.X.prog Y.X.w (upd H1 dx (.xd (fl.reverse.zip vs.reverse))) G' dx (.xd (fl.reverse.zip vs.reverse)) :=
      ⟨_, hns.at (fun o q => (gk dx dne).trans q), fun f => relO_zip f (paired_rev rv)⟩
    have J : Inv Y.X pins σ (upd H1 dx (.xd (fl.reverse.zip vs.reverse))) ⟨G', g, dr, tk', os⟩ := I1.laid (t' := tk') old dbig ob
    refine ⟨ea, oe, fv, ⟨G', g, dr, tk', os⟩, _, .ref C, some dx, rfl, J, back, ge, hoe, ⟨hc, hd⟩, hdat, h1, ?_, rfl, I1.bare, rse, q1 fl1 dx (I1.hok.fresh dbig)⟩
    rw [upd_ne (Ne.symm dne)]
    exact I1.hok.fresh M.new
/-- raise C(..) -/
def sRaise (c n : Nat) (ma : Env → Ms → R (List S)) : Env → Ms → T := fun env ms => T.ofE (ma env ms) env fun ss ms1 => match toDs ss with
  | some ds => match Nat.beq ds.length n with
    | true => .ex c ds.reverse env ms1
    | false => .bad
  | none => .bad
theorem s_raise {c l : Nat} (ok : CyOk Y k) (e : ExcOk Y.X.prog Y.X.K Y.X.mg x C fl) (hC : Y.Γ.cls c = C) (hf : Y.Γ.fld c = fl.reverse) (hg : Gl Y.X x) (ha : DC Y es [] n [] m) (hl : fl.length = l := by rfl) (hdb : (x == ("__debug__" : Str)) = false := by decide) :
    DS Y (.Raise (some (.Call (.Name x np) es [] p1)) none pos) (sRaise c l m) := by
  obtain ⟨t, pa, sa⟩ := ha.ex
  refine ⟨_, ps_raise ok.calm ok.tk (pmk_x ok.hr e hg pa hdb), fun w σ H env ms Ed er hr h => ?_⟩
  refine sa.goS er hr h fun ss ms1 w1 H1 vs e1 er1 hr1 sv h1 => ?_
  cases hd : toDs ss with
  | none => rw [hd] at h1; exact h1.elim
  | some ds =>
    rw [hd] at h1
    dsimp only at h1
    cases hb : Nat.beq ds.length l with
    | false => rw [hb] at h1; exact h1.elim
    | true =>
      rw [hb] at h1
      have r := toDs_rel hd sv
      have lv : vs.length = fl.length := by rw [← DRs.length r, hl]; exact Nat.eq_of_beq_eq_true hb
      subst hC
      refine ⟨lv, fun z => ?_, fun z d hdn => ?_⟩
      · subst z
        have vs0 : vs = [] := List.length_eq_zero_iff.mp lv
        subst vs0
        have ds0 : ds = [] := List.length_eq_zero_iff.mp (DRs.length r)
        subst ds0
        exact h1 w1 H1 σ none (Ext.refl w1) hr1 er1 (.inl ⟨by rw [hf]; rfl, rfl, rfl⟩)
      · obtain ⟨hr2, e2⟩ := hr1.froz (o := .xd (fl.reverse.zip vs.reverse)) hdn
        refine h1 _ _ σ (some d) e2 hr2 (er1.mono e2) (.inr ⟨d, vs.reverse, rfl, by rw [hf]; exact upd_same, by rw [hf, List.length_reverse, List.length_reverse, lv], DRs.mono e2.F _ _ r.rev⟩)
end
end Fw
set_option Elab.async false
set_option linter.all false
set_option maxRecDepth 100000
set_option maxHeartbeats 4000000
/-! Fw16: try with several clauses, each with a name for the exception or without. -/
namespace Fw
open PySem L2 PySem.Spec PyProof.Rows

abbrev HdE := Value × Option Nat × (Addr → Value → Option Addr → TS)
def dSl (D : Ends) : Option Nat → Ends
  | none => D
  | some i => { nx := fun σ' H' => D.nx (σ'.set i none) H', rt := D.rt, bk := fun σ' H' => D.bk (σ'.set i none) H', ct := fun σ' H' => D.ct (σ'.set i none) H' }
def eSl (a : Addr) (σ : L2.St) : Option Nat → L2.St
  | none => σ
  | some i => σ.set i (some (.ref a))
/-- the wish of an exception, clause by clause -/
def wAny (K : PySem.W.Frag) (Wo : WX) (D : Ends) : List HdE → WX
  | [] => Wo
  | (c, sl, ts) :: r => fun cls d σ H => ∃ b, PySem.W.exmOne K cls c = some b ∧ (b = true → ∀ a, H a = none → ts a cls d (dSl D sl) (eSl a σ sl) H) ∧ (b = false → wAny K Wo D r cls d σ H)
inductive HdsA (Z : Cx) : List ExceptHandler → List HdE → Prop
  | nil : HdsA Z [] []
  | plain {x : Str} {c : Value} {ts : Addr → Value → Option Addr → TS} {b₀ : Stmt} {suite : List Stmt} {np ph : Pos} {hds : List ExceptHandler} {l : List HdE} (hc : Names Z x c)
      (hsu : ∀ (a : Addr) (oe : Obj) (cls : Value) (d : Option Addr) (pn : List (Addr × Obj)), Zc cls d oe → (∃ vs, oe.data = .fields vs) → PSs (Z.suite a ((a, oe) :: pn)) (b₀ :: suite) (ts a cls d)) (r : HdsA Z hds l) :
      HdsA Z (.ExceptHandler (some (.Name x np)) none (b₀ :: suite) ph :: hds) ((c, none, ts) :: l)
  | named {x n : Str} {i : Nat} {c : Value} {ts : Addr → Value → Option Addr → TS} {b₀ : Stmt} {suite : List Stmt} {np ph : Pos} {hds : List ExceptHandler} {l : List HdE} (hc : Names Z x c) (hi : Z.N[i]? = some n) (hln : Z.env.kindOf n = some .local)
      (hsu : ∀ (a : Addr) (oe : Obj) (cls : Value) (d : Option Addr) (pn : List (Addr × Obj)), Zc cls d oe → (∃ vs, oe.data = .fields vs) → PSs (Z.suite a ((a, oe) :: pn)) (b₀ :: suite) (ts a cls d)) (r : HdsA Z hds l) :
      HdsA Z (.ExceptHandler (some (.Name x np)) (some n) (b₀ :: suite) ph :: hds) ((c, some i, ts) :: l)
section
variable {Z : Cx} {body : List Stmt} {h₀ : ExceptHandler} {hds : List ExceptHandler} {l : List HdE} {pos : Pos} {tb : WX → TS} {Wo : WX}
/-- the clauses are asked -/
theorem hds_run {pins : List (Addr × Obj)} {σ1 : L2.St} {H1 : Hp} {sI s0 : Shared} {D : Ends} {a : Addr} {B : Heap} {cls : Value} {d : Option Addr} {h3 : Heap} (ok : Z.Ok) (nd : Z.N.Nodup) (stk : Z.stack = Z.env :: Z.outer) (frm : Z.env.frame = some Z.env.locals) (hfr : Z.A.frames = some (Z.env :: Z.outer)) (tk : Takes Z Wo)
    (J : Inv Z pins σ1 H1 sI) (nb : ∀ b o, sI.heap.get? b = some o → b ∉ frs Z.stack → B.get? b = some o) (up : sI.heap.UpToSlots h3) (os : s0.os = sI.os) (ag : AllBare s0.gens) (na : H1 a = none) (nL : a ≠ Z.env.locals) (nF : a ∉ Z.fs) (fly : HandSPX.FlyingZ B (Z.env :: Z.outer) a (Zc cls d) h3) :
    ∀ {hd2 : List ExceptHandler} {l2 : List HdE}, HdsA Z hd2 l2 → wAny Z.K Wo D l2 cls d σ1 H1 → wpAny (model Z.prog Z.w) Z.A (handleBy (.ref a) Z.env hd2) (SP Z pins D) Z.xe { s0 with heap := h3 } := by
  have J3 : Inv Z pins σ1 H1 { s0 with heap := h3 } := J.landed nb fly.1 up os ag
  obtain ⟨oe3, vs3, he3, hz3, hd3⟩ := fly.there
  have S3 := J3.suite he3 hd3 na nL nF
  have LT : PySem.W.Looks (model Z.prog Z.w) h3 (typeOf (.ref a)) cls := fun A Q E s k q => wpAny_typeOf_ref (k _ _ he3) (by rw [hz3.1]; exact q)
  have ask : ∀ {x : Str} {c : Value} {np : Pos} {Q : Value → Shared → Prop} {E : Value → Shared → Prop}, Names Z x c → Q c { s0 with heap := h3 } → wpAny (model Z.prog Z.w) (Z.A.mark (some (.ref a))) (eval (.Name x np) Z.env) Q E { s0 with heap := h3 } := fun {x c np Q E} hc q => by
    obtain ⟨hg, hdbg, hm | ⟨hm, hv, hnn⟩⟩ := hc
    · exact ld_glob (X := Z.suite a ((a, oe3) :: (Z.pn ++ pins))) S3 hg hm q hdbg
    · exact ld_blt (X := Z.suite a ((a, oe3) :: (Z.pn ++ pins))) S3 hg hm hv q hnn hdbg
  intro hd2 l2 hk
  induction hk with
  | nil =>
    intro wsh
    refine wpAny_handleBy_nil ?_
    obtain ⟨_, _, _, oe, vs, tbk, _, _, he, _, hd, e1, _⟩ := id fly
    unfold PySem.passOn
    refine wpAny_bind (wpAny_field he hd e1 ?_)
    rw [if_neg (show ¬ ((Value.ref tbk == Value.none) = true) from by simp)]
    have fin : wpAny (model Z.prog Z.w) Z.A (setFlight (.ref a) Z.env.frame) (fun _ s4 => wpAny (model Z.prog Z.w) Z.A (throw (.ref a) : Sem Flow) (SP Z pins D) Z.xe s4) Z.xe { s0 with heap := h3 } := by
      rw [frm]
      refine HandSPX.setFlight_upZ fly fun h4 held up4 => wpAny_throw (tk _ _ ?_)
      exact ⟨a, B, sI, pins, σ1, H1, cls, d, rfl, J, nb, up.trans up4, .inr (.inr (by rw [stk]; exact held)), na, os, ag, wsh⟩
    first
      | exact wpAny_bind (wpAny_pure (wpAny_bind fin))
      | exact wpAny_bind fin
  | @plain x c ts b₀ suite np ph hds2 l2 hc hsu r ih =>
    intro wsh
    obtain ⟨b, hb1, hyes, hno⟩ := wsh
    refine wpAny_handleBy_cons (codeAny_handlers_test ?_) (fun q => by cases q)
    have LM := PySem.W.exm_one (M := model Z.prog Z.w) J3.kIn LT hb1
    refine ask hc (LM.here ?_)
    cases b with
    | false =>
      show wpAny _ Z.A (handleBy (.ref a) Z.env hds2) _ _ _
      exact ih (hno rfl)
    | true =>
      refine codeAny_handlers_suite (HandSPX.lands_againZ fly fun h4 fl4 up4 => ?_)
      have J4 : Inv Z pins σ1 H1 { s0 with heap := h4 } := J.landed nb fl4.1 (up.trans up4) os ag
      obtain ⟨oe4, vs4, he4, hz4, hd4⟩ := fl4.there
      refine wpAny_mono ((hsu a oe4 cls d (Z.pn ++ pins) hz4 ⟨_, hd4⟩).run [] _ _ H1 _ (J4.suite he4 hd4 na nL nF) (hyes rfl a na)) (fun f s6 hsp => ?_) (fun _ _ z => z.elim)
      cases f with
      | ret u => obtain ⟨v6, σ6, H6, S6, r6, q6⟩ := hsp; exact ⟨_, _, _, S6.unsuite ok, r6, q6⟩
      | next => obtain ⟨σ6, H6, S6, q6⟩ := hsp; exact ⟨_, _, S6.unsuite ok, q6⟩
      | brk => obtain ⟨σ6, H6, S6, q6⟩ := hsp; exact ⟨_, _, S6.unsuite ok, q6⟩
      | cont => obtain ⟨σ6, H6, S6, q6⟩ := hsp; exact ⟨_, _, S6.unsuite ok, q6⟩
  | @named x n i c ts b₀ suite np ph hds2 l2 hc hi hln hsu r ih =>
    intro wsh
    obtain ⟨b, hb1, hyes, hno⟩ := wsh
    refine wpAny_handleBy_cons (codeAny_handlers_test ?_) (fun q => by cases q)
    have LM := PySem.W.exm_one (M := model Z.prog Z.w) J3.kIn LT hb1
    refine ask hc (LM.here ?_)
    cases b with
    | false =>
      show wpAny _ Z.A (handleBy (.ref a) Z.env hds2) _ _ _
      exact ih (hno rfl)
    | true =>
      refine codeAny_handlers_suite_as (HandSPX.lands_againZ fly fun h4 fl4 up4 => ?_)
      have J4 : Inv Z pins σ1 H1 { s0 with heap := h4 } := J.landed nb fl4.1 (up.trans up4) os ag
      obtain ⟨oe4, vs4, he4, hz4, hd4⟩ := fl4.there
      refine store_ok (X := Z.suite a ((a, oe4) :: (Z.pn ++ pins))) (v := .ref a) (J4.suite he4 hd4 na nL nF) nd hi (.inl hln) rfl (fun s5 S5 => ?_) (.inr hln)
      refine wpAny_mono ((hsu a oe4 cls d (Z.pn ++ pins) hz4 ⟨_, hd4⟩).run [] s5 _ H1 _ S5 (hyes rfl a na)) (fun f s6 hsp => ?_) (fun _ _ z => z.elim)
      have gone : ∀ {σ6 : L2.St} {H6 : Hp} {Q : Shared → Prop}, Inv (Z.suite a ((a, oe4) :: (Z.pn ++ pins))) [] σ6 H6 s6 → (∀ s7, Inv Z pins (σ6.set i none) H6 s7 → Q s7) →
          wpAny (model Z.prog Z.w) Z.A (do bindName Z.env n .none; unbindBehindTheSuite Z.env n ph) (fun _ s7 => Q s7) Z.xe s6 := fun {σ6 H6 Q} S6 hq => gone_ok (S6.unsuite ok) nd hi hln hq
      cases f with
      | ret u => obtain ⟨v6, σ6, H6, S6, r6, q6⟩ := hsp; exact gone S6 fun s7 J7 => ⟨_, _, _, J7, r6, q6⟩
      | next => obtain ⟨σ6, H6, S6, q6⟩ := hsp; exact gone S6 fun s7 J7 => ⟨_, _, J7, q6⟩
      | brk => obtain ⟨σ6, H6, S6, q6⟩ := hsp; exact gone S6 fun s7 J7 => ⟨_, _, J7, q6⟩
      | cont => obtain ⟨σ6, H6, S6, q6⟩ := hsp; exact gone S6 fun s7 J7 => ⟨_, _, J7, q6⟩
theorem ps_try_any (stk : Z.stack = Z.env :: Z.outer) (frm : Z.env.frame = some Z.env.locals) (nd : Z.N.Nodup) (tk : Takes Z Wo)
    (hb : ∀ (W : WX) (pn : List (Addr × Obj)) (xe : Value → Shared → Prop), Takes (Z.tr pn xe) W → PassesOwn (model Z.prog Z.w) Z.A Z.env xe → PSs (Z.tr pn xe) body (tb W))
    (hh : HdsA Z (h₀ :: hds) l) : PS Z (.Try body (h₀ :: hds) [] [] pos) (fun D σ H => tb (wAny Z.K Wo D l) D σ H) := by
  refine ⟨fun pins s σ H D I h => ?_⟩
  have ok := I.ok
  have hfr : Z.A.frames = some (Z.env :: Z.outer) := by rw [ok.frames, stk]
  refine wpAny_Try_except ?_
  refine wpAny_mono ((hb (wAny Z.K Wo D l) (Z.pn ++ pins) (fun e s₁ => wpAny (model Z.prog Z.w) Z.A (noteFrame e Z.env) (fun _ s₂ => wpAny (model Z.prog Z.w) Z.A (setFlight e none) (fun _ s₃ =>
    wpAny (model Z.prog Z.w) Z.A (handleBy e Z.env (h₀ :: hds)) (SP Z pins D) Z.xe s₃) Z.xe s₂) Z.xe s₁) (fun u s1 xx => ?_) PassesOwn.looking).run [] s σ H D (I.toTry _) h) (fun f s1 hsp => ?_) (fun e s1 he => he)
  · obtain ⟨a, B, sI, pins', σ1, H1, cls, d, rfl, Jt, nb, up, sky, na, os, ag, wsh⟩ := xx
    have J : Inv Z pins σ1 H1 sI := Jt.ofTry ok
    have sky2 : Sky B (Z.env :: Z.outer) a (Zc cls d) Z.env.locals s1.heap := by rw [← stk]; exact sky
    show wpAny (model Z.prog Z.w) Z.A (noteFrame (.ref a) Z.env) _ _ _
    refine Sky.land Zc.steady hfr frm sky2 fun h3 fly up3 => ?_
    obtain ⟨oe3, vs3, he3, _, hd3⟩ := fly.there
    have nfr : a ∉ frs (Z.env :: Z.outer) := fun hm => by
      obtain ⟨_, o2, e2, hnf⟩ := fly.2.2.1.mem hm
      rw [he3] at e2; cases e2
      exact hnf _ hd3
    refine hds_run ok nd stk frm hfr tk J nb (up.trans up3) os ag na (fun z => nfr (List.mem_filterMap.mpr ⟨Z.env, List.mem_cons_self, by rw [frm, z]⟩)) (fun hm => ?_) fly hh wsh
    obtain ⟨e, he, q⟩ := List.mem_filterMap.mp hm
    exact nfr (List.mem_filterMap.mpr ⟨e, List.mem_cons_of_mem _ he, q⟩)
  · cases f with
    | ret u => obtain ⟨v, σ2, H2, Jt, r, q⟩ := hsp; exact ⟨v, σ2, H2, Jt.ofTry ok, r, q⟩
    | next => obtain ⟨σ2, H2, Jt, q⟩ := hsp; exact wpAny_execs_nil ⟨σ2, H2, Jt.ofTry ok, q⟩
    | brk => obtain ⟨σ2, H2, Jt, q⟩ := hsp; exact ⟨σ2, H2, Jt.ofTry ok, q⟩
    | cont => obtain ⟨σ2, H2, Jt, q⟩ := hsp; exact ⟨σ2, H2, Jt.ofTry ok, q⟩
end
end Fw
set_option Elab.async false
set_option linter.all false
set_option maxRecDepth 100000
set_option maxHeartbeats 4000000
/-! Fw17: try, what it computes; the caught exception's fields and class. -/
namespace Fw
open PySem L2 PySem.Spec PyProof.Rows

abbrev HdM := (Nat → Option Bool) × Option Nat × (Env → Ms → T)
def envNoX (env : Env) : Bool := env.all fun o => match o with
  | some s => s.noX
  | none => true
def finT (t : T) : T := match t with
  | .nx e ms => match envNoX e with
    | true => .nx e ms
    | false => .bad
  | .bk e ms => match envNoX e with
    | true => .bk e ms
    | false => .bad
  | .ct e ms => match envNoX e with
    | true => .ct e ms
    | false => .bad
  | .rt s ms => match s.noX with
    | true => .rt s ms
    | false => .bad
  | _ => .bad
def unsetT (sl : Option Nat) (t : T) : T := match sl with
  | none => t
  | some i => match t with
    | .nx e ms => .nx (e.set i none) ms
    | .bk e ms => .bk (e.set i none) ms
    | .ct e ms => .ct (e.set i none) ms
    | t => t
def setX (sl : Option Nat) (c : Nat) (ds : List D) (e : Env) : Env := match sl with
  | none => e
  | some i => e.set i (some (.exn c ds))
def hdl : List HdM → Nat → List D → Env → Ms → T
  | [], c, ds, e, ms => .ex c ds e ms
  | (tst, sl, su) :: r, c, ds, e, ms => match tst c with
    | some false => hdl r c ds e ms
    | some true => match envNoX e with
      | true => finT (unsetT sl (su (setX sl c ds e) ms))
      | false => .bad
    | none => .bad
def sTry (mb : Env → Ms → T) (hds : List HdM) : Env → Ms → T := fun env ms => match mb env ms with
  | .ex c ds e ms1 => hdl hds c ds e ms1
  | t => t
abbrev Cy.tr (Y : Cy) (W : WX) (pn : List (Addr × Obj)) (xe : Value → Shared → Prop) : Cy := ⟨Y.X.tr pn xe, Y.Γ, W, Y.ea, Y.ed, Y.ec⟩
abbrev Cy.suite (Y : Cy) (a : Addr) (oe : Obj) (cls : Value) (d : Option Addr) (pn : List (Addr × Obj)) : Cy := ⟨Y.X.suite a ((a, oe) :: pn), Y.Γ, fun _ _ _ _ => False, a, d, cls⟩
abbrev Cy.wW (Y : Cy) (W : WX) : Cy := ⟨Y.X, Y.Γ, W, Y.ea, Y.ed, Y.ec⟩
abbrev Cy.su0 (Y : Cy) (a : Addr) (cls : Value) (d : Option Addr) : Cy := ⟨Y.X, Y.Γ, fun _ _ _ _ => False, a, d, cls⟩
theorem CyOk.tr {Y : Cy} {k : Nat} (ok : CyOk Y k) {W : WX} {pn : List (Addr × Obj)} {xe : Value → Shared → Prop} (tk : Takes (Y.X.tr pn xe) W) (own : PassesOwn (model Y.X.prog Y.X.w) Y.X.A Y.X.env xe) : CyOk (Y.tr W pn xe) k :=
  ⟨ok.hr, ok.gd, tk, own, ok.calm, ok.nd⟩
theorem DefOk.tr {Y : Cy} (ok : DefOk Y) {W : WX} {pn : List (Addr × Obj)} {xe : Value → Shared → Prop} : DefOk (Y.tr W pn xe) := ⟨ok.stk, ok.frm⟩
section
variable {Y : Cy} {w w1 w2 : Wd} {σ : L2.St} {H H1 H2 : Hp} {env : Env} {ms ms1 ms2 : Ms} {Ed : Ends}
theorem ER.conv {Y1 Y2 : Cy} (h : ∀ w s v, SR Y1 w s v → SR Y2 w s v) (e : ER Y1 w σ env) : ER Y2 w σ env := ⟨e.len, fun i s hs => let ⟨v, h1, h2⟩ := e.slot i s hs; ⟨v, h1, h w s v h2⟩⟩
/-- readings out of semantics -/
def semS (Y : Cy) (m : Env → Ms → T) : TS := fun Ed σ H => ∃ w env ms, ER Y w σ env ∧ HR Y w H ms ∧ tP Y w Ed (m env ms)
theorem wW_tr {W : WX} {pn : List (Addr × Obj)} {xe : Value → Shared → Prop} : ∀ w s v, SR (Y.wW W) w s v → SR (Y.tr W pn xe) w s v := fun w s v h => by cases s <;> exact h
theorem tr_wW {W : WX} {pn : List (Addr × Obj)} {xe : Value → Shared → Prop} : ∀ w s v, SR (Y.tr W pn xe) w s v → SR (Y.wW W) w s v := fun w s v h => by cases s <;> exact h
theorem su0_su {a : Addr} {oe : Obj} {cls : Value} {d : Option Addr} {pn : List (Addr × Obj)} : ∀ w s v, SR (Y.su0 a cls d) w s v → SR (Y.suite a oe cls d pn) w s v := fun w s v h => by cases s <;> exact h
theorem su_su0 {a : Addr} {oe : Obj} {cls : Value} {d : Option Addr} {pn : List (Addr × Obj)} : ∀ w s v, SR (Y.suite a oe cls d pn) w s v → SR (Y.su0 a cls d) w s v := fun w s v h => by cases s <;> exact h
theorem wW_self {W : WX} : ∀ w s v, SR (Y.wW W) w s v → SR Y w s v := fun w s v h => by cases s <;> exact h
theorem self_wW {W : WX} : ∀ w s v, SR Y w s v → SR (Y.wW W) w s v := fun w s v h => by cases s <;> exact h
theorem tr_pss {body : List Stmt} {mb : Env → Ms → T} {W : WX} {pn : List (Addr × Obj)} {xe : Value → Shared → Prop} (h : DSs (Y.tr W pn xe) body mb) : PSs (Y.X.tr pn xe) body (semS (Y.wW W) mb) := by
  obtain ⟨t, p, sd⟩ := h.ex
  refine ⟨fun pins s σ H Ed I ⟨w, env, ms, er, hr, q⟩ => p.run pins s σ H Ed I (sd w σ H env ms Ed (er.conv wW_tr) hr ?_)⟩
  exact T.post_mono q (fun _ _ z w' H' σ' e hr' er' => z w' H' σ' e hr' (er'.conv tr_wW)) (fun _ _ z w' H' v e hr' sv => z w' H' v e hr' (tr_wW _ _ _ sv)) (fun _ _ z w' H' σ' e hr' er' => z w' H' σ' e hr' (er'.conv tr_wW)) (fun _ _ z w' H' σ' e hr' er' => z w' H' σ' e hr' (er'.conv tr_wW))
    fun _ _ _ _ z w' H' σ' dd e hr' er' xd => z w' H' σ' dd e hr' (er'.conv tr_wW) xd
theorem su_pss {body : List Stmt} {mb : Env → Ms → T} {a : Addr} {oe : Obj} {cls : Value} {d : Option Addr} {pn : List (Addr × Obj)} (h : DSs (Y.suite a oe cls d pn) body mb) : PSs (Y.X.suite a ((a, oe) :: pn)) body (semS (Y.su0 a cls d) mb) := by
  obtain ⟨t, p, sd⟩ := h.ex
  refine ⟨fun pins s σ H Ed I ⟨w, env, ms, er, hr, q⟩ => p.run pins s σ H Ed I (sd w σ H env ms Ed (er.conv su0_su) hr ?_)⟩
  exact T.post_mono q (fun _ _ z w' H' σ' e hr' er' => z w' H' σ' e hr' (er'.conv su_su0)) (fun _ _ z w' H' v e hr' sv => z w' H' v e hr' (su_su0 _ _ _ sv)) (fun _ _ z w' H' σ' e hr' er' => z w' H' σ' e hr' (er'.conv su_su0)) (fun _ _ z w' H' σ' e hr' er' => z w' H' σ' e hr' (er'.conv su_su0))
    fun _ _ _ _ z w' H' σ' dd e hr' er' xd => z w' H' σ' dd e hr' (er'.conv su_su0) xd
inductive DHds (Y : Cy) : List ExceptHandler → List HdM → Prop
  | nil : DHds Y [] []
  | plain {x : Str} {cv : Value} {tst : Nat → Option Bool} {su : Env → Ms → T} {b₀ : Stmt} {suite : List Stmt} {np ph : Pos} {hds : List ExceptHandler} {r : List HdM} (hc : Names Y.X x cv) (ht : ∀ c b, tst c = some b → PySem.W.exmOne Y.X.K (.ref (Y.Γ.cls c)) cv = some b)
      (hs : ∀ (a : Addr) (oe : Obj) (cls : Value) (d : Option Addr) (pn : List (Addr × Obj)), Zc cls d oe → (∃ vs, oe.data = .fields vs) → DSs (Y.suite a oe cls d pn) (b₀ :: suite) su) (t : DHds Y hds r) :
      DHds Y (.ExceptHandler (some (.Name x np)) none (b₀ :: suite) ph :: hds) ((tst, none, su) :: r)
  | named {x n : Str} {i : Nat} {cv : Value} {tst : Nat → Option Bool} {su : Env → Ms → T} {b₀ : Stmt} {suite : List Stmt} {np ph : Pos} {hds : List ExceptHandler} {r : List HdM} (hc : Names Y.X x cv) (hi : Y.X.N[i]? = some n) (hln : Y.X.env.kindOf n = some .local) (ht : ∀ c b, tst c = some b → PySem.W.exmOne Y.X.K (.ref (Y.Γ.cls c)) cv = some b)
      (hs : ∀ (a : Addr) (oe : Obj) (cls : Value) (d : Option Addr) (pn : List (Addr × Obj)), Zc cls d oe → (∃ vs, oe.data = .fields vs) → DSs (Y.suite a oe cls d pn) (b₀ :: suite) su) (t : DHds Y hds r) :
      DHds Y (.ExceptHandler (some (.Name x np)) (some n) (b₀ :: suite) ph :: hds) ((tst, some i, su) :: r)
theorem envNoX_at (h : envNoX env = true) {i : Nat} {s : S} (e : env[i]? = some (some s)) : s.noX = true := List.all_eq_true.mp h _ (List.mem_of_getElem? e)
/-- without a caught exception, the slots mean the same in every suite -/
theorem ER.noX {Y2 : Cy} (hK : Y2.X.K = Y.X.K) (hG : Y2.Γ = Y.Γ) (h : envNoX env = true) (er : ER Y w σ env) : ER Y2 w σ env := by
  refine ⟨er.len, fun i s hs => ?_⟩
  obtain ⟨v, h1, h2⟩ := er.slot i s hs
  have := envNoX_at h hs
  refine ⟨v, h1, ?_⟩
  cases s with
  | d x => exact (show DR Y2.X.K Y2.Γ w.F x v by rw [hK, hG]; exact h2)
  | loc n => exact h2
  | exn c ds => cases this
theorem SR.noX' {Y2 : Cy} (hK : Y2.X.K = Y.X.K) (hG : Y2.Γ = Y.Γ) {s : S} {v : V} (h : s.noX = true) (sv : SR Y w s v) : SR Y2 w s v := by
  cases s with
  | d x => exact (show DR Y2.X.K Y2.Γ w.F x v by rw [hK, hG]; exact sv)
  | loc n => exact sv
  | exn c ds => cases h
/-- a suite's ends -/
theorem suite_ends {a : Addr} {cls : Value} {d : Option Addr} {sl : Option Nat} {t : T} (h : tP Y w Ed (finT (unsetT sl t))) : tP (Y.su0 a cls d) w (dSl Ed sl) t := by
  have nxc : ∀ {e : Env} {m : Ms} {Q : L2.St → Hp → Prop}, envNoX e = true → nxP Y w Q e m → nxP (Y.su0 a cls d) w Q e m := fun hx z w' H' σ' e' hr' er' => z w' H' σ' e' hr' (ER.noX (Y := Y.su0 a cls d) (Y2 := Y) rfl rfl hx er')
  have nxs : ∀ {i : Nat} {e : Env} {m : Ms} {Q : L2.St → Hp → Prop}, envNoX (e.set i none) = true → nxP Y w Q (e.set i none) m → nxP (Y.su0 a cls d) w (fun σ' H' => Q (σ'.set i none) H') e m := fun hx z w' H' σ' e' hr' er' =>
    z w' H' _ e' hr' (ER.noX (Y := Y.su0 a cls d) (Y2 := Y) rfl rfl hx (er'.unset _ none))
  cases t with
  | bad => cases sl <;> exact h.elim
  | ex c ds e m => cases sl <;> exact h.elim
  | rt s m =>
    have h : tP Y w Ed (finT (.rt s m)) := by cases sl <;> exact h
    unfold finT at h
    cases b : s.noX with
    | false => simp only [b] at h; exact h.elim
    | true =>
      simp only [b] at h
      have h : okP Y w Ed.rt s m := h
      have : okP (Y.su0 a cls d) w Ed.rt s m := fun w' H' v e hr' sv => h w' H' v e hr' (SR.noX' (Y := Y.su0 a cls d) (Y2 := Y) rfl rfl b sv)
      cases sl <;> exact this
  | nx e m =>
    cases sl with
    | none =>
      unfold finT unsetT at h
      cases b : envNoX e with
      | false => simp only [b] at h; exact h.elim
      | true => simp only [b] at h; exact nxc b h
    | some i =>
      unfold finT unsetT at h
      cases b : envNoX (e.set i none) with
      | false => simp only [b] at h; exact h.elim
      | true => simp only [b] at h; exact nxs b h
  | bk e m =>
    cases sl with
    | none =>
      unfold finT unsetT at h
      cases b : envNoX e with
      | false => simp only [b] at h; exact h.elim
      | true => simp only [b] at h; exact nxc b h
    | some i =>
      unfold finT unsetT at h
      cases b : envNoX (e.set i none) with
      | false => simp only [b] at h; exact h.elim
      | true => simp only [b] at h; exact nxs b h
  | ct e m =>
    cases sl with
    | none =>
      unfold finT unsetT at h
      cases b : envNoX e with
      | false => simp only [b] at h; exact h.elim
      | true => simp only [b] at h; exact nxc b h
    | some i =>
      unfold finT unsetT at h
      cases b : envNoX (e.set i none) with
      | false => simp only [b] at h; exact h.elim
      | true => simp only [b] at h; exact nxs b h
theorem suite_go {sl : Option Nat} {su : Env → Ms → T} {c : Nat} {ds : List D} {dd : Option Addr} {a : Addr} (hx : envNoX env = true) (er : ER Y w σ env) (hr : HR Y w H ms) (xd : XD Y.X.K Y.Γ w.F c ds dd) (h : tP Y w Ed (finT (unsetT sl (su (setX sl c ds env) ms)))) :
    semS (Y.su0 a (.ref (Y.Γ.cls c)) dd) su (dSl Ed sl) (eSl a σ sl) H := by
  refine ⟨w, setX sl c ds env, ms, ?_, hr, suite_ends h⟩
  have e0 : ER (Y.su0 a (.ref (Y.Γ.cls c)) dd) w σ env := ER.noX (Y := Y) (Y2 := Y.su0 a (.ref (Y.Γ.cls c)) dd) rfl rfl hx er
  cases sl with
  | none => exact e0
  | some i => exact e0.set (show SR (Y.su0 a (.ref (Y.Γ.cls c)) dd) w (.exn c ds) (.ref a) from ⟨⟨rfl, rfl⟩, xd⟩) i
theorem hd_list {hds : List ExceptHandler} {hm : List HdM} (h : DHds Y hds hm) : ∃ l, HdsA Y.X hds l ∧ ∀ (w : Wd) (Ed : Ends) (c : Nat) (ds : List D) (e : Env) (ms : Ms), tP Y w Ed (hdl hm c ds e ms) →
    ∀ w' H' σ' dd, Ext w w' → HR Y w' H' ms → ER Y w' σ' e → XD Y.X.K Y.Γ w'.F c ds dd → wAny Y.X.K Y.W Ed l (.ref (Y.Γ.cls c)) dd σ' H' := by
  induction h with
  | nil => exact ⟨[], .nil, fun w Ed c ds e ms q w' H' σ' dd ex hr er xd => q w' H' σ' dd ex hr er xd⟩
  | @plain x cv tst su b₀ suite np ph hds r hc ht hs t ih =>
    obtain ⟨l, hl, hw⟩ := ih
    refine ⟨(cv, none, fun a cls d => semS (Y.su0 a cls d) su) :: l, .plain hc (fun a oe cls d pn hz hf => su_pss (hs a oe cls d pn hz hf)) hl, fun w Ed c ds e ms q w' H' σ' dd ex hr er xd => ?_⟩
    unfold hdl at q
    cases hb : tst c with
    | none => rw [hb] at q; exact q.elim
    | some b =>
      rw [hb] at q
      refine ⟨b, ht c b hb, fun z a na => ?_, fun z => ?_⟩
      · subst z
        dsimp only at q
        cases hx : envNoX e with
        | false => rw [hx] at q; exact q.elim
        | true => rw [hx] at q; exact suite_go (sl := none) hx er hr xd (tP.ext ex q)
      · subst z
        exact hw w Ed c ds e ms q w' H' σ' dd ex hr er xd
  | @named x n i cv tst su b₀ suite np ph hds r hc hi hln ht hs t ih =>
    obtain ⟨l, hl, hw⟩ := ih
    refine ⟨(cv, some i, fun a cls d => semS (Y.su0 a cls d) su) :: l, .named hc hi hln (fun a oe cls d pn hz hf => su_pss (hs a oe cls d pn hz hf)) hl, fun w Ed c ds e ms q w' H' σ' dd ex hr er xd => ?_⟩
    unfold hdl at q
    cases hb : tst c with
    | none => rw [hb] at q; exact q.elim
    | some b =>
      rw [hb] at q
      refine ⟨b, ht c b hb, fun z a na => ?_, fun z => ?_⟩
      · subst z
        dsimp only at q
        cases hx : envNoX e with
        | false => rw [hx] at q; exact q.elim
        | true => rw [hx] at q; exact suite_go (sl := some i) hx er hr xd (tP.ext ex q)
      · subst z
        exact hw w Ed c ds e ms q w' H' σ' dd ex hr er xd
theorem s_try {k : Nat} {body : List Stmt} {h₀ : ExceptHandler} {hds : List ExceptHandler} {mb : Env → Ms → T} {hm : List HdM} {pos : Pos} (ok : CyOk Y k) (dk : DefOk Y)
    (hb : ∀ (W : WX) (pn : List (Addr × Obj)) (xe : Value → Shared → Prop), CyOk (Y.tr W pn xe) k → DSs (Y.tr W pn xe) body mb) (hh : DHds Y (h₀ :: hds) hm) : DS Y (.Try body (h₀ :: hds) [] [] pos) (sTry mb hm) := by
  obtain ⟨l, hl, hw⟩ := hd_list hh
  refine ⟨_, ps_try_any (tb := fun W => semS (Y.wW W) mb) dk.stk dk.frm ok.nd ok.tk (fun W pn xe tk own => tr_pss (hb W pn xe (ok.tr tk own))) hl, fun w σ H env ms Ed er hr h => ⟨w, env, ms, er.conv self_wW, hr, ?_⟩⟩
  unfold sTry at h
  have nxc : ∀ {e : Env} {m : Ms} {W : WX} {Q : L2.St → Hp → Prop}, nxP Y w Q e m → nxP (Y.wW W) w Q e m := fun z w' H' σ' e' hr' er' => z w' H' σ' e' hr' (er'.conv wW_self)
  cases hm' : mb env ms with
  | bad => rw [hm'] at h; exact h.elim
  | nx e m => rw [hm'] at h; exact nxc h
  | bk e m => rw [hm'] at h; exact nxc h
  | ct e m => rw [hm'] at h; exact nxc h
  | rt s m => rw [hm'] at h; exact fun w' H' v e hr' sv => h w' H' v e hr' (wW_self _ _ _ sv)
  | ex c ds e m =>
    rw [hm'] at h
    exact fun w' H' σ' dd ex hr' er' xd => hw w Ed c ds e m h w' H' σ' dd ex hr' (er'.conv wW_self) xd
/-! ### the caught exception -/
/-- e.f -/
def mXat (tab : List (Nat × Nat)) (me : Env → Ms → R S) : Env → Ms → R S := fun env ms => match me env ms with
  | .ok (.exn c ds) ms1 => match tab.lookup c with
    | some i => match ds[i]? with
      | some d => .ok (.d d) ms1
      | none => .bad
    | none => .bad
  | _ => .bad
structure XatOk (Y : Cy) (fl : Str) (c i : Nat) : Prop where
  xf : XfC Y.X.K (Y.Γ.cls c)
  no : PySem.W.findIn Y.X.K (.ref (Y.Γ.cls c)) fl = some none
  at_ : (Y.Γ.fld c)[i]? = some fl
  fst : ((Y.Γ.fld c).take i).contains fl = false
theorem e_xat {a : Addr} {oe : Obj} {cls : Value} {d : Option Addr} {pn : List (Addr × Obj)} {tab : List (Nat × Nat)} {e : Expr} {me : Env → Ms → R S} {fl : Str} {pos : Pos} (hz : Zc cls d oe) (hf : ∃ vs, oe.data = .fields vs) (he : DE (Y.suite a oe cls d pn) e me)
    (ht : Tab (XatOk (Y.suite a oe cls d pn) fl) tab) (hb : attributeBase e fl (Y.suite a oe cls d pn).X.env (eval e (Y.suite a oe cls d pn).X.env) = eval e (Y.suite a oe cls d pn).X.env := by rfl) :
    DE (Y.suite a oe cls d pn) (.Attribute e fl pos) (mXat tab me) := by
  obtain ⟨t, p, sd⟩ := he.ex
  refine ⟨fun σ H Q => ∃ c i, tab.lookup c = some i ∧ tXf a cls d (Y.Γ.cls c) fl t σ H Q, ⟨fun pins s σ H Q I ⟨c, i, hl, h⟩ => ?_⟩, fun w σ H env ms Q er hr h => ?_⟩
  · have k := ht.at_ hl
    exact (pe_xf (X := Y.X) k.xf k.no hz hf p hb).run pins s σ H Q I h
  · have key := h
    unfold mXat at h
    cases hm : me env ms with
    | bad => rw [hm] at h; exact h.elim
    | ex c ds ms1 => rw [hm] at h; exact h.elim
    | ok x ms1 =>
      rw [hm] at h
      cases x with
      | d x => exact h.elim
      | loc n => exact h.elim
      | exn c ds =>
        dsimp only at h
        cases hl : tab.lookup c with
        | none => rw [hl] at h; exact h.elim
        | some i =>
          rw [hl] at h
          dsimp only at h
          cases hd : ds[i]? with
          | none => rw [hd] at h; exact h.elim
          | some dd =>
            rw [hd] at h
            refine ⟨c, i, hl, sd w σ H env ms _ er hr ?_⟩
            rw [hm]
            intro w1 H1 v e1 hr1 sv
            obtain ⟨⟨rfl, ec⟩, xd⟩ := sv
            have k := ht.at_ hl
            refine ⟨rfl, ec, ?_⟩
            rcases xd with ⟨f0, _⟩ | ⟨ad, xs, ed, k1, k2, k3⟩
            · have := k.at_
              rw [f0] at this
              simp at this
            · obtain ⟨v, hv, rv⟩ := DRs.get k3 hd
              refine ⟨ad, _, v, ed, hr1.sub _ _ k1, zip_at k.at_ (fun j hj z => ?_) hv, h w1 H1 v e1 hr1 rv⟩
              have : fl ∈ ((Y.suite a oe cls d pn).Γ.fld c).take i := List.mem_of_getElem? (i := j) (by rw [List.getElem?_take, if_pos hj]; exact z)
              have z2 := List.contains_iff_mem.mpr this
              rw [k.fst] at z2
              cases z2
/-- isinstance(e, C), C a class of the module -/
theorem exc_kitx {K : PySem.W.Frag} {x D : Addr} {od : Option Obj} {ox : Obj} (k : ExcC K D) : True := trivial
end
end Fw
set_option Elab.async false
set_option linter.all false
set_option maxRecDepth 100000
set_option maxHeartbeats 4000000
/-! Fw18: isinstance of the caught exception. -/
namespace PySem.FwX
open PySem.W PySem.Calls PyProof.Rows PySem.Spec L2
section
variable {prog : Program} {w : World} {A : Around} {E : Value → Shared → Prop} {s : Shared} {K : Frag} {x D : Addr} {ox : Obj} {od : Option Obj}
theorem find_class {a g : Value} {name : Str} (hc : (clsIn K D).isSome = true) (ha : findIn K (.ref D) name = some (some a)) (hg : specialIn K a "__get__" = some (some g)) (ht : takesIn K a = some true) : findObj K D od name = some (.bind g a) := by
  cases od with
  | some o => exact findObj_data hc ha hg ht
  | none => exact findObj_dataN hc ha hg ht
theorem class_of_exc {Q : Option Value → Shared → Prop} (k : ExcC K D) (X : K.In s.heap) (I : InstAt s.heap x ox D od) (h : Q (some (.ref D)) { s with toks := s.toks + 1 }) : wpAny (model prog w) A (getAttr? (.ref x) "__class__") Q E s := by
  have hcl : (clsIn K D).isSome = true := by obtain ⟨cd, e, _⟩ := any_some k.hd; rw [e]; rfl
  have ff := find_class (od := od) hcl k.ha k.hn k.ht
  obtain ⟨h0, g0, d0, t0, o0⟩ := s
  have lt := I.type (M := model prog w)
  have lg := looks_findIn (M := model prog w) X k.hg
  have la := looks_findIn (M := model prog w) X k.hk
  have lf := looks_find (M := model prog w) X I ff
  have lb : Looks (model prog w) h0 (isInstance (.ref x) (.type "BaseException")) true := lt.andThen (looks_subIn X k.hs)
  have ne : (Value.builtin "BaseException.__getattribute__" == Value.builtin "object.__getattribute__") = false := by decide +kernel
  have ne2 : (onTheHeap (Value.ref D) && Value.builtin "BaseException.__getattribute__" == Value.builtin "object.__getattribute__") = false := by rw [ne]; rfl
  unfold getAttr? getAttrBy? getAttrBy
  refine wpAny_bind (wpAny_mkText (wpAny_bind (wpAny_attempt (wpAny_holding (wpAny_bind (lt.at (wpAny_bind (lg.at ?_))))))))
  show wpAny _ _ (if (onTheHeap (Value.ref D) && Value.builtin "BaseException.__getattribute__" == Value.builtin "object.__getattribute__") = true then _ else _) _ _ _
  rw [ne2, if_neg Bool.false_ne_true]
  unfold getAttrByItsOwn hookBefore
  refine wpAny_bind ?_
  rw [if_pos (show onTheHeap (Value.ref D) = true from rfl)]
  refine la.at (wpAny_bind (wpAny_attempt (wpAny_holding ?_)))
  unfold callGetattribute
  rw [show (false && onTheHeap (Value.builtin "BaseException.__getattribute__")) = false from rfl, if_neg Bool.false_ne_true]
  unfold boundAndCalled
  rw [PySem.F.excAttr_ValueError.ga.bind (.ref x)]
  refine wpAny_bind (wpAny_pure ?_)
  show wpAny _ _ (call (.builtin "BaseException.__getattribute__") [.ref x, .str "__class__" t0]) _ _ _
  refine wpAny_call (codeAny_call_builtin PySem.F.excAttr_ValueError.ga.plain PySem.F.entry_bexc_ga ?_)
  refine @check_slot (model prog w) _ _ ⟨h0, g0, d0, t0 + 1, o0⟩ "BaseException.__getattribute__" "BaseException" "__getattribute__" (.ref x) [.str "__class__" t0] [] _ (by decide +kernel) (by decide +kernel) lb (PySem.F.args_bexc_ga (.ref x) (.str "__class__" t0)) ?_
  unfold Builtin.«object.__getattribute__»
  refine wpAny_bind (wpAny_of_eq (a := ((Value.ref x : Value), [Value.str "__class__" t0])) (by first | rfl | (simp only [slotArgs]; rfl)) ?_)
  refine wpAny_bind (wpAny_pure (wpAny_bind (lt.at (wpAny_bind (lf.at ?_)))))
  show wpAny _ _ (holding [Value.builtin "object.__class__"] (call (.builtin "getset_descriptor.__get__") [.builtin "object.__class__", .ref x, .ref D]) >>= ret) _ _ _
  refine wpAny_bind (wpAny_holding (wpAny_call (class_get (s := ⟨h0, g0, d0, t0 + 1, o0⟩) (ox := ox) (od := od) X I k.hm ?_)))
  refine wpAny_pure ?_
  show wpAny _ _ (handedOut (.ref D)) _ _ _
  rw [handedOut_of (v := .ref D) rfl]
  first
    | exact wpAny_pure (wpAny_pure h)
    | exact wpAny_pure h
    | exact wpAny_pure (wpAny_bind (wpAny_pure (wpAny_pure h)))
theorem kitX_exc (k : ExcC K D) (od : Option Obj) : KitX K (.ref x) (.ref D) (fun h => InstAt h x ox D od) where
  ty := fun _ _ _ I => I.type
  it := fun _ _ X _ => by
    obtain ⟨cdD, hcD, _⟩ := any_some k.hd
    unfold clsIn at hcD
    split at hcD
    · rename_i c2 d2 cd2 sl2 ho
      intro A2 Q2 E2 s2 kp q
      unfold isType loadHead
      exact wpAny_bind (wpAny_loadPart (kp _ _ (X _ _ ho)) (wpAny_pure q))
    · cases hcD
  ne := fun h tp dd its n sl X htp => by
    obtain ⟨cdD, hcD, _⟩ := any_some k.hd
    refine Bool.eq_false_iff.mpr fun q => ?_
    have e : D = tp := Value.ref.inj (beq_iff_eq.mp q)
    subst e
    unfold clsIn at hcD
    split at hcD
    · rename_i c2 d2 cd2 sl2 ho
      have z := (X _ _ ho).symm.trans htp
      cases z
    · cases hcD
  ca := fun X I q => class_of_exc k X I q
end
end PySem.FwX
namespace Fw
open PySem L2 PySem.Spec PyProof.Rows
section
variable {Y : Cy} {w w1 w2 : Wd} {σ : L2.St} {H H1 H2 : Hp} {env : Env} {ms ms1 ms2 : Ms}
structure XisOk (Y : Cy) (xc kc : List Nat) (sub : Nat → Nat → Bool) : Prop where
  cls : ∀ c ∈ xc, ExcC Y.X.K (Y.Γ.cls c)
  sub : ∀ c ∈ xc, ∀ m ∈ kc, PySem.W.kitOne Y.X.K (.ref (Y.Γ.cls c)) (.ref (Y.Γ.fn m)) = some (sub c m)
def cXis (xc kc : List Nat) (sub : Nat → Nat → Bool) : List S → Ms → R S := fun ss ms => match ss with
  | [.exn c _, .d (.fn m)] => match xc.contains c && kc.contains m with
    | true => .ok (.d (.bl (sub c m))) ms
    | false => .bad
  | _ => .bad
theorem cd_xis {a : Addr} {oe : Obj} {cls : Value} {d : Option Addr} {pn : List (Addr × Obj)} {xc kc : List Nat} {sub : Nat → Nat → Bool} (hz : Zc cls d oe) (hf : ∃ vs, oe.data = .fields vs) (ok : XisOk (Y.suite a oe cls d pn) xc kc sub) : CallD (Y.suite a oe cls d pn) (.builtin "isinstance") (cXis xc kc sub) := by
  refine ⟨⟨fun xs H Q => ∃ (c m : Nat), xs = [.ref a, .ref (Y.Γ.fn m)] ∧ cls = .ref (Y.Γ.cls c) ∧ c ∈ xc ∧ m ∈ kc ∧ (∀ dd, d = some dd → ∃ fs, H dd = some (.xd fs)) ∧ Q (.bl (sub c m)) H, fun pins s σ H xs us Q I r h => ?_, fun w H ms ss vs Q hr sv h => ?_⟩, fun ss ms c ds ms' h => ?_⟩
  · obtain ⟨c, m, rfl, ec, hc, hm, hd, q⟩ := h
    cases r with
    | cons rx rr =>
      cases rr with
      | cons rt rr =>
        cases rr
        cases rx
        cases rt
        obtain ⟨hget, _⟩ := I.pin (a, oe) (List.mem_append.mpr (.inl List.mem_cons_self))
        obtain ⟨vs, hv⟩ := hf
        have J : ∃ od, PySem.W.InstAt s.heap a oe (Y.Γ.cls c) od := by
          cases d with
          | none =>
            obtain ⟨oc, odd, oda, osl⟩ := oe
            obtain ⟨h1, h2⟩ := hz
            dsimp only at h1 h2 hv
            subst h1 h2 hv
            exact ⟨none, hget, ec, rfl, trivial⟩
          | some dd =>
            obtain ⟨fs, hfs⟩ := hd dd rfl
            have hx : ObjOk Y.X.prog Y.X.w H s.heap dd (.xd fs) := I.hok dd _ hfs
            obtain ⟨mA, hns, _⟩ := hx
            obtain ⟨od, ho, _⟩ := lookIn_ns hns
            exact ⟨some od, hget, hz.1.trans ec, by unfold PySem.W.notCls; rw [hv] <;> rfl, by rw [hz.2]; exact ho⟩
        obtain ⟨od, J⟩ := J
        exact PySem.W.kia_one (PySem.FwX.kitX_exc (ok.cls c hc) od) I.kIn J (ok.sub c hc m hm) (fun z => nomatch z) fun tk => ⟨.bl (sub c m), H, I.kept (t' := tk) fun _ _ z => z, rfl, q⟩
  · unfold cXis at h
    split at h
    · rename_i c ds m
      obtain ⟨v, u, rfl, r1, r2⟩ := SRs.two sv
      obtain ⟨⟨rfl, ec⟩, xd⟩ := r1
      cases r2
      cases hb : (xc.contains c && kc.contains m) with
      | false => rw [hb] at h; exact h.elim
      | true =>
        rw [hb] at h
        obtain ⟨b1, b2⟩ := Bool.and_eq_true_iff.mp hb
        refine ⟨c, m, rfl, ec, List.contains_iff_mem.mp b1, List.contains_iff_mem.mp b2, fun dd hd => ?_, h.at (Ext.refl w) hr rfl⟩
        rcases xd with ⟨_, _, e⟩ | ⟨ad, xs, e, k1, _⟩
        · have e : d = none := e
          rw [e] at hd; cases hd
        · have e : d = some ad := e
          rw [e] at hd; cases hd
          exact ⟨_, hr.sub _ _ k1⟩
    · exact h.elim
  · unfold cXis at h
    split at h
    · split at h <;> cases h
    · cases h
end
end Fw
set_option Elab.async false
set_option linter.all false
set_option maxRecDepth 100000
set_option maxHeartbeats 4000000
/-! Fw19: str and repr of own instances; f-strings. -/
namespace Fw
open PySem L2 PySem.Spec PyProof.Rows

section
variable {Y : Cy} {w w1 w2 : Wd} {σ : L2.St} {H H1 H2 : Hp} {env : Env} {ms ms1 ms2 : Ms} {k n : Nat} {e : Expr} {es : List Expr} {me : Env → Ms → R S} {pos : Pos}
/-- a special method of a class, n values behind self -/
structure SpOk (Y : Cy) (k : Nat) (mth : Str) (n c : Nat) (g : List S → Ms → R S) : Prop where
  ex : ∃ (f : Addr) (fd : FuncData) (ps : List Str) (sem : List S → Ms → R S) (pk : List Nat) (dvs : List V) (cs : List S) (j : Nat), PySem.W.findIn Y.X.K (.ref (Y.Γ.cls c)) mth = some (some (.ref f)) ∧ PySem.W.isFn Y.X.K (.ref f) = true ∧ DFY Y j f fd ps sem ∧ j + 3 ≤ k ∧
    Bd Y.X.K fd ps (n + 1) [] pk dvs ∧ (∀ w, SRs Y w cs dvs) ∧ g = bndS sem pk cs
theorem callSem_nox {sem : List S → Ms → R S} {ss : List S} {Q : VK} (h : (noEx (callSem sem ss ms)).post (okP Y w Q) (fun _ _ _ => False)) : (callSem sem ss ms).post (okP Y.nox w Q) (exP Y.nox w σ) := by
  cases hc : callSem sem ss ms with
  | bad => rw [hc] at h; exact h
  | ex _ _ _ => rw [hc] at h; exact h.elim
  | ok s' ms' =>
    rw [hc] at h
    intro w' H' v e' hr' sv
    refine h w' H' v e' hr' ?_
    cases s' <;> exact sv
/-- it runs, within a frame of the machine -/
theorem sp_run {A : Around} {j : Nat} {f : Addr} {fd : FuncData} {ps : List Str} {sem : List S → Ms → R S} {pk : List Nat} {dvs : List V} {cs : List S} {pins : List (Addr × Obj)} {s : Shared} {Q : VK} {E : Value → Shared → Prop} {us : List Value} {vs : List V} {ss : List S} (hr : Room j A) (gd : A.guards = some []) (F : DFY Y j f fd ps sem)
    (hb : Bd Y.X.K fd ps n [] pk dvs) (hcs : ∀ w, SRs Y w cs dvs) (I : Inv Y.X pins σ H s) (e0 : Env0 Y.X.prog Y.X.w Y.X.K Y.X.mg Y.X.base A Y.X.stack s H) (hl : us.length = n) (r : Vals vs us) (hh : HR Y w H ms) (sv : SRs Y w ss vs)
    (h : (noEx (bndS sem pk cs ss ms)).post (okP Y w Q) (fun _ _ _ => False)) : wpAny (model Y.X.prog Y.X.w) A (call (.ref f) us) (EP Y.X pins σ Q) E s := by
  obtain ⟨dl, rd, to⟩ := hb.to
  have sv0 : SRs Y.nox w (ss ++ cs) (vs ++ dvs) := Paired.mapP (sv.append (hcs w)) fun x v z => by cases x <;> exact z
  have r2 : Vals (pick pk (vs ++ dvs)) (pick pk (us ++ [] ++ dl)) := pick_paired (by rw [List.append_nil]; exact r.append rd) pk
  have l4 : (pick pk (vs ++ dvs)).length = ps.length := by
    rw [pick_len, hb.len]
    intro i hi
    have := hb.rng i hi
    have l5 : vs.length = n := by rw [r.length, hl]
    rw [List.length_append, l5]
    simpa using this
  refine wpAny_call (codeAny_mono (code_dfA (Y := Y.nox) takes_none5 hr gd F (to s us [] I.kIn hl rfl) l4 (I.wish _) e0 r2 hh (pick_rel sv0) (callSem_nox h)) fun rr s' hq => ?_)
  cases rr with
  | error er => exact False.elim hq
  | ok fw =>
    cases fw with
    | ret u =>
      obtain ⟨v, H', I3, rv, q3⟩ := hq
      exact ⟨v, H', I3.unwish, rv, q3⟩
    | next => exact False.elim hq
    | brk => exact False.elim hq
    | cont => exact False.elim hq
/-- the answer is a text -/
def asStr (r : R S) : R S := match r with
  | .ok (.d (.str y)) ms => .ok (.d (.str y)) ms
  | _ => .bad
def cOwn (tab : MTab) : List S → Ms → R S := fun ss ms => match ss with
  | [.d (.obj c ds)] => match tab.lookup c with
    | some g => asStr (g [.d (.obj c ds)] ms)
    | none => .bad
  | _ => .bad
theorem asStr_ne {r : R S} : ∀ c ds ms', asStr r ≠ .ex c ds ms' := by
  intro c ds ms' h
  unfold asStr at h
  split at h <;> cases h
theorem cOwn_ne {tab : MTab} : ∀ ss ms c ds ms', cOwn tab ss ms ≠ .ex c ds ms' := by
  intro ss ms c ds ms' h
  unfold cOwn at h
  split at h
  · split at h
    · exact asStr_ne _ _ _ h
    · cases h
  · cases h
theorem asStr_post {r : R S} {Q : VK} (h : (asStr r).post (okP Y w Q) (fun _ _ _ => False)) : (noEx r).post (okP Y w fun v H' => ∃ y, v = .str y ∧ Q v H') (fun _ _ _ => False) := by
  unfold asStr at h
  split at h
  · rename_i y ms'
    intro w' H' v e' hr' sv
    exact ⟨y, sv, h w' H' v e' hr' sv⟩
  · exact h.elim
/-- what such a call is read as -/
def rOwn (Y : Cy) (k : Nat) (mth : Str) : List V → Hp → VK → Prop := fun xs H Q => ∃ a c dx fs ds w ms g, xs = [.ref a] ∧ H a = some (.ins (Y.Γ.cls c) dx fs) ∧ SpOk Y k mth 0 c g ∧ HR Y w H ms ∧ SR Y w (.d (.obj c ds)) (.ref a) ∧ (asStr (g [.d (.obj c ds)] ms)).post (okP Y w Q) (fun _ _ _ => False)
theorem snd_own {mth : Str} {tab : MTab} (ht : Tab (SpOk Y k mth 0) tab) : SndC Y (rOwn Y k mth) (cOwn tab) := by
  intro w H ms ss vs Q hr sv h
  unfold cOwn at h
  split at h
  · rename_i c ds
    obtain ⟨v, rfl, r⟩ := SRs.one sv
    split at h
    · rename_i g hl
      have r0 := r
      obtain ⟨a, dx, xs, rfl, k1, k2, k3⟩ := r
      exact ⟨a, c, dx, _, ds, w, ms, g, rfl, hr.sub _ _ k1, ht.at_ hl, hr, r0, h⟩
    · exact h.elim
  · exact h.elim
theorem cd_strOwn {tab : MTab} (ok : CyOk Y k) (ht : Tab (SpOk Y k "__str__" 0) tab) : CallD Y (.type "str") (cOwn tab) := by
  refine ⟨⟨rOwn Y k "__str__", fun pins s σ H xs us Q I r h => ?_, snd_own ht⟩, cOwn_ne⟩
  obtain ⟨a, c, dx, fs, ds, w, ms, g, rfl, ea, sp, hr, sr, q⟩ := h
  obtain ⟨u, rfl, ru⟩ := vals1 r
  obtain rfl : u = Value.ref a := ru
  obtain ⟨f, fd, ps, sem, pk, dvs, cs, j, e1, e2, F, hj, hb, hcs, rfl⟩ := sp.ex
  obtain ⟨mA, O, _, _, _, _⟩ := ins_get I.hok ea
  obtain ⟨od, J, _⟩ := O.look
  have hk : Room (j + 1 + 1 + 1) Y.X.A := ok.hr.mono hj
  have hu := hk.in1.in1.units
  refine PySem.W.kso_call (by omega) I.kIn J e1 e2 (wpAny_mono (sp_run (Q := fun v H' => ∃ y, v = .str y ∧ Q v H') (hk.in1.in1.mono (Nat.le_succ j)) ok.gd F hb hcs I I.env0.in1.in1 rfl r hr (.cons sr .nil) (asStr_post q)) (fun v s' hv => ?_) fun _ _ z => z)
  obtain ⟨v', H', I', rv, y, ey, q'⟩ := hv
  subst ey
  obtain ⟨t, rfl⟩ := rv
  exact ⟨.str y, H', I', ⟨t, rfl⟩, q'⟩
theorem frame_of {pins : List (Addr × Obj)} {s : Shared} (I : Inv Y.X pins σ H s) : ∃ m, Fr Y.X.base Y.X.env.locals s.heap m := by
  obtain ⟨m, hn, _⟩ := I.loc
  exact ⟨m, hn, I.bk, Nat.le_trans I.ok.bsz I.ok.above⟩
theorem cd_reprOwn {tab : MTab} (ok : CyOk Y k) (ht : Tab (SpOk Y k "__repr__" 0) tab) : CallD Y (.builtin "repr") (cOwn tab) := by
  refine ⟨⟨rOwn Y k "__repr__", fun pins s σ H xs us Q I r h => ?_, snd_own ht⟩, cOwn_ne⟩
  obtain ⟨a, c, dx, fs, ds, w, ms, g, rfl, ea, sp, hr, sr, q⟩ := h
  obtain ⟨u, rfl, ru⟩ := vals1 r
  obtain rfl : u = Value.ref a := ru
  obtain ⟨f, fd, ps, sem, pk, dvs, cs, j, e1, e2, F, hj, hb, hcs, rfl⟩ := sp.ex
  obtain ⟨mA, O, _, _, _, _⟩ := ins_get I.hok ea
  obtain ⟨od, J, _⟩ := O.look
  have hk : Room (j + 1 + 1 + 1) Y.X.A := ok.hr.mono hj
  have hu := hk.in1.in1.units
  have hu1 := hk.in1.units
  obtain ⟨m, Fr0⟩ := frame_of I
  refine PySem.W.repr_K (by omega) Fr0 I.mod.kin J e1 e2 (wpAny_mono (sp_run (Q := fun v H' => ∃ y, v = .str y ∧ Q v H') (hk.in1.mono (Nat.le_trans (Nat.le_succ j) (Nat.le_succ _))) ok.gd F hb hcs I I.env0.in1 rfl r hr (.cons sr .nil) (asStr_post q)) (fun v s' hv => ?_) fun _ _ z => z)
  obtain ⟨v', H', I', rv, y, ey, q'⟩ := hv
  subst ey
  obtain ⟨t, rfl⟩ := rv
  exact ⟨.str y, H', I', ⟨t, rfl⟩, q'⟩

/-! ### f'..' -/
def fmtS (s : S) (ms : Ms) : R S := match s with
  | .d (.str y) => match few y.length with
    | true => .ok (.d (.str y)) ms
    | false => .bad
  | .d (.int i) => match showI i with
    | true => .ok (.d (.str (toString i))) ms
    | false => .bad
  | _ => .bad
def mFmt (me : Env → Ms → R S) : Env → Ms → R S := fun env ms => (me env ms).bind fmtS
theorem e_fmt (h : DE Y e me) : DE Y (.FormattedValue e (-1) none pos) (mFmt me) := by
  obtain ⟨t, p, s⟩ := h.ex
  refine ⟨_, pe_fmt p, fun w σ H env ms Q er hr h => ?_⟩
  refine s.go er hr h fun x ms1 w1 H1 v e1 er1 hr1 sv h1 => ?_
  unfold fmtS at h1
  cases x with
  | loc n => exact h1.elim
  | exn c ds => exact h1.elim
  | d x =>
    cases x with
    | str y =>
      cases sv
      dsimp only at h1
      cases f : few y.length with
      | false => rw [f] at h1; exact h1.elim
      | true => rw [f] at h1; exact .inl ⟨y, rfl, few_ok f, h1.at e1 hr1 rfl⟩
    | int i =>
      cases sv
      dsimp only at h1
      cases f : showI i with
      | false => rw [f] at h1; exact h1.elim
      | true => rw [f] at h1; exact .inr ⟨i, rfl, showI_ok f, h1.at e1 hr1 rfl⟩
    | _ => exact h1.elim
def mJs : List (Env → Ms → R S) → Str → Env → Ms → R S
  | [], acc, _, ms => .ok (.d (.str acc)) ms
  | m :: r, acc, env, ms => (m env ms).bind fun s ms1 => match s with
    | .d (.str y) => match few (acc ++ y).length with
      | true => mJs r (acc ++ y) env ms1
      | false => .bad
    | _ => .bad
inductive DJ (Y : Cy) : List Expr → List (Env → Ms → R S) → Prop where
  | nil : DJ Y [] []
  | cons {e : Expr} {m : Env → Ms → R S} {es : List Expr} {r : List (Env → Ms → R S)} (h : DE Y e m) (t : DJ Y es r) : DJ Y (e :: es) (m :: r)
theorem js_ok {ms0 : List (Env → Ms → R S)} (h : DJ Y es ms0) : ∃ ts, PJ Y.X es ts ∧ ∀ (acc : Str) (w : Wd) (σ : L2.St) (H : Hp) (env : Env) (ms : Ms) (Q : VK), ER Y w σ env → HR Y w H ms → (mJs ms0 acc env ms).post (okP Y w Q) (exP Y w σ) → tJs ts acc σ H fun out H1 => Q (.str out) H1 := by
  induction h with
  | nil => exact ⟨[], .nil, fun acc w σ H env ms Q er hr q => q.at (Ext.refl w) hr rfl⟩
  | @cons e m es r h t ih =>
    obtain ⟨tt, p, s⟩ := h.ex
    obtain ⟨ts, pt, ht⟩ := ih
    refine ⟨tt :: ts, .cons p pt, fun acc w σ H env ms Q er hr q => ?_⟩
    refine s.go er hr q fun x ms1 w1 H1 v e1 er1 hr1 sv h1 => ?_
    cases x with
    | loc n => exact h1.elim
    | exn c ds => exact h1.elim
    | d x =>
      cases x with
      | str y =>
        cases sv
        dsimp only at h1
        cases f : few (acc ++ y).length with
        | false => rw [f] at h1; exact h1.elim
        | true =>
          rw [f] at h1
          exact ⟨y, rfl, few_ok f, ht (acc ++ y) w1 σ H1 env ms1 Q er1 hr1 (R.post_mono h1 (fun _ _ z => z.ext e1) fun _ _ _ z => z)⟩
      | _ => exact h1.elim
theorem e_joined {v1 v2 : Expr} {rest : List Expr} {ms0 : List (Env → Ms → R S)} (h : DJ Y (v1 :: v2 :: rest) ms0) : DE Y (.JoinedStr (v1 :: v2 :: rest) pos) (mJs ms0 Str.empty) := by
  obtain ⟨ts, p, s⟩ := js_ok h
  exact ⟨_, pe_joined p, fun w σ H env ms Q er hr q => s Str.empty w σ H env ms Q er hr q⟩
theorem e_joined1 (h : DE Y e me) : DE Y (.JoinedStr [e] pos) me := by
  obtain ⟨t, p, s⟩ := h.ex
  exact ⟨_, pe_joined1 p, s⟩
end
end Fw
set_option Elab.async false
set_option linter.all false
set_option maxRecDepth 100000
set_option maxHeartbeats 4000000
/-! Fw20: the law's call; the head's facts. -/
namespace Fw
open PySem L2 PySem.Spec PyProof.Rows

/-- the script, as the law's def is handed it -/
def scr (ns : List Int) : S := .d (.frz (ns.map .int))
theorem drs_ints {K : PySem.W.Frag} {Γ : G} {F : Hp} : ∀ ns : List Int, DRs K Γ F (ns.map .int) (ns.map V.int)
  | [] => rfl
  | n :: ns => ⟨_, _, rfl, rfl, drs_ints ns⟩
theorem law_df {P : Program} {w : World} {K : PySem.W.Frag} {mg mb : Str → Option Value} {Γ : G} {k : Nat} {fa a : Addr} {fd : FuncData} {x : Str} {sem : List S → Ms → R S} {s1 : Shared} {vs : List Value} {ns : List Int}
    (KX : K.In s1.heap) (hg : s1.heap.Ns mainGlobals mg) (hb : s1.heap.Ns builtinsNs mb) (hbb : ∀ x : Str, x ≠ "__name__" → mb x = bootBuiltins x) (hlim : s1.heap.NoLimit) (h0 : s1.gens = #[])
    (ha : s1.heap.get? a = some { cls := .type "list", data := .seq vs.toArray }) (hi : IntsAre vs ns) (hl : ns.length ≤ sizeLine) (hr : Room k callerA)
    (F : ∀ base : Heap, K.In base → base.Ns mainGlobals mg → DF P w K mg base Γ k fa fd [x] sem) (hbind : ∀ (s : Shared) (u : Value), BindsTo s fd ⟨[u], []⟩ [(x, u)])
    (hs : ∃ ms', sem [scr ns] [] = .ok (.d (.bl true)) ms') :
    codeAny (model P w) callerA (.call (.ref fa) ⟨[.ref a], []⟩) (fun r s' => r = .ok (.ret (.bool true)) ∧ OldK s1.heap s'.heap ∧ s'.os = s1.os ∧ AllBare s'.gens) s1 := by
  have rv := vals_ints hi
  have lv := hi.length
  have core : ∀ H : Hp, Only H → SqL K H a (ns.map V.int) → HOk P w H s1.heap → (∀ b, H b ≠ none → b = a) → (H a ≠ none → K.lookup a = none) →
      codeAny (model P w) callerA (.call (.ref fa) ⟨[.ref a], []⟩) (fun r s' => r = .ok (.ret (.bool true)) ∧ OldK s1.heap s'.heap ∧ s'.os = s1.os ∧ AllBare s'.gens) s1 := by
    intro H only hS hok hA hK
    have at_a : ∀ {b : Addr} {u : HO}, H b = some u → b = a := fun {b u} q => hA b (by rw [q]; simp)
    have noDict : ∀ {b : Addr} {o : Obj} {es : Array DictEntry} {ep : Nat}, s1.heap.get? b = some o → o.data = .dict es ep → H b = none := fun {b o es ep} e d => by
      cases q : H b with
      | none => rfl
      | some u =>
        have z := at_a q
        subst z
        rw [ha] at e; cases e
        have d2 : Data.seq vs.toArray _ = Data.dict es ep := d
        cases d2
    have keepNs : ∀ {b : Addr} {m : Str → Option Value}, s1.heap.Ns b m → (hidT s1.heap H).Ns b m := fun {b m} ⟨o, es, ep, e, d, r⟩ => ⟨o, es, ep, hidT_get e (noDict e d), d, r⟩
    have kb : K.In (hidT s1.heap H) := fun b o e => hidT_get (KX b o e) (by
      cases q : H b with
      | none => rfl
      | some u =>
        have z := at_a q
        subst z
        rw [hK (by rw [q]; simp)] at e; cases e)
    have md : Mod K mg (hidT s1.heap H) := ⟨kb, keepNs hg, ⟨mb, keepNs hb, hbb⟩, let ⟨mc, q1, q2⟩ := hlim; ⟨mc, keepNs q1, q2⟩⟩
    have e0 : Env0 P w K mg (hidT s1.heap H) callerA [] s1 H := ⟨rfl, md, fun b o e => of_hidT e, Nat.le_of_eq (hidT_size _ _), trivial, fun b z => absurd (show b ∈ ([] : List Addr) from z) (by simp), hok, .of_eq h0⟩
    have hr0 : HR0 K Γ ⟨H, fun _ => none, []⟩ H [] := ⟨fun _ _ e => e, fun _ _ e => (nomatch e), fun _ _ e => (nomatch e), rfl, fun i j a c c' e => by simp at e, fun n a c e => by simp at e, fun n a c e => by simp at e⟩
    have sr0 : SRs0 K Γ ⟨H, fun _ => none, []⟩ [scr ns] [.ref a] := .cons ⟨a, _, rfl, hS, drs_ints ns⟩ .nil
    obtain ⟨ms', hs'⟩ := hs
    refine codeAny_mono ((F _ kb (keepNs hg)).run callerA [] s1 H ⟨[.ref a], []⟩ [.ref a] [.ref a] [scr ns] [] ⟨H, fun _ => none, []⟩ (fun v _ => v = .bl true) (fun _ _ _ => False) hr rfl e0 (hbind s1 (.ref a)) (.cons rfl .nil) rfl hr0 sr0 (by rw [hs']; exact fun w' H' v _ _ sv => sv)) fun r s' h => ?_
    cases r with
    | error e =>
      obtain ⟨_, _, _, _, _, _, _, _, _, _, _, _, z⟩ := h
      exact z.elim
    | ok fl =>
      cases fl with
      | next => exact False.elim h
      | brk => exact False.elim h
      | cont => exact False.elim h
      | ret u =>
        obtain ⟨v, H', os, bare, un, hok', r', q⟩ := h
        have q2 : v = .bl true := q
        subst q2
        obtain rfl : u = Value.bool true := r'
        refine ⟨rfl, OldK.of_keep fun b o e => ?_, os, bare⟩
        cases q : H b with
        | none => exact un.keep b o e q (by intro z; exact absurd (show b ∈ ([] : List Addr) from z) (by simp)) (by simp)
        | some u =>
          rcases only b with z | ⟨ob, xs, z⟩
          · rw [q] at z; cases z
          · have z2 := un.frzs b ob _ z
            obtain ⟨e1, _⟩ := hok b _ z
            obtain ⟨e2, _⟩ := hok' b _ z2
            rw [e] at e1; cases e1
            exact e2
  cases hk : K.lookup a with
  | some o =>
    have e := KX a o hk
    rw [ha] at e
    cases e
    exact core (fun _ => none) (fun _ => .inl rfl) (.inr ⟨_, vs.toArray, _, hk, rfl, rfl, rfl, by rw [List.size_toArray, lv]; exact hl, by simpa using rv⟩) (fun b u z => (nomatch (show (none : Option HO) = some u from z))) (fun b z => absurd rfl z) fun z => absurd rfl z
  | none =>
    refine core (fun b => if b = a then some (.frz { cls := .type "list", data := .seq vs.toArray } (.lst (ns.map V.int))) else none) (fun b => ?_) (.inl (.inr ⟨{ cls := .type "list", data := .seq vs.toArray }, if_pos rfl⟩)) (fun b u z => ?_) (fun b z => ?_) fun _ => hk
    · by_cases hb : b = a
      · exact .inr ⟨_, _, if_pos hb⟩
      · exact .inl (if_neg hb)
    · by_cases hb : b = a
      · have z2 := (if_pos hb).symm.trans z
        cases z2
        subst hb
        exact ⟨ha, by rw [List.length_map]; exact hl, vs, _, rv, ha⟩
      · have z2 := (if_neg hb).symm.trans z
        cases z2
    · exact Classical.byContradiction fun hb => z (if_neg hb)
theorem walk_df {l : PySem.W.OpenLaw} {n k : Nat} {q : Program} {loose : List Str} {XP : (Str → Option Value) → Heap → Prop} {YP : World → Heap → Prop} {d : DefRec} {x : Str} (hn : l.most = some n) (hn2 : n ≤ sizeLine) (hdf : d.params.defaults = []) (hr : Room k callerA)
    (F : ∀ (w : World) (mg : Str → Option Value) (fa : Addr) (h : Heap), YP w h → h.Ns mainGlobals mg → mg d.name = some (.ref fa) →
      ∃ (K : PySem.W.Frag) (Γ : G) (fd : FuncData) (sem : List S → Ms → R S), K.In h ∧ (∀ (s : Shared) (u : Value), BindsTo s fd ⟨[u], []⟩ [(x, u)]) ∧ (∀ ns : List Int, ns.length ≤ n → ∃ ms', sem [scr ns] [] = .ok (.d (.bl true)) ms') ∧
        ∀ base : Heap, K.In base → base.Ns mainGlobals mg → DF l.prog w K mg base Γ k fa fd [x] sem) :
    PySem.W.WalkO q loose XP YP l.row.toRowW d [] (fun f vs => PySem.call f vs) := by
  refine Att.attach_call hn hdf fun w s0 s1 mg mb fa o pm cd doc a vs ns G Y ho hd hcd hmg hobj hints hlen hg => ?_
  obtain ⟨K, Γ, fd, sem, KX, hb, hs, hF⟩ := F w mg fa _ Y G.T.g hmg
  exact law_df KX G.T.g G.T.b G.T.builtins G.T.nolimit hg hobj hints (Nat.le_trans hlen hn2) hr hF hb (hs ns hlen)
end Fw
set_option Elab.async false
set_option linter.all false
set_option maxRecDepth 100000
set_option maxHeartbeats 4000000
/-! Fw21: facts of the written part by Bools; names as values; calls of a held class. -/
namespace Fw
open PySem L2 PySem.Spec PyProof.Rows

/-! ### the Hook -/
abbrev FnX : Type := Option (Str × Str × Arguments × FuncBody × Scope × Addr × List Str × Addr)
def fnX (K : PySem.W.Frag) (a : Addr) : FnX := match K.lookup a with
  | some ⟨_, _, .func fd, _⟩ => some (fd.name, fd.qualname, fd.params, fd.body, fd.scope, fd.globals, fd.closure.map (·.1), fd.builtins)
  | _ => none
structure DefX where
  at_ : PySem.W.Frag → Addr
  name : Str
  qual : Str
  params : Arguments
  body : List Stmt
  scope : Scope
  dfl : List He.Dv := []
  clo : List Str := []
def DefX.val (d : DefX) : FnX := some (d.name, d.qual, d.params, .stmts d.body, d.scope, mainGlobals, d.clo, builtinsNs)
def DefX.dvs (K : PySem.W.Frag) (d : DefX) : List V := d.dfl.map (He.Dv.v K)
def DefX.ok (K : PySem.W.Frag) (d : DefX) : Bool := PySem.W.keepIn K (.ref (d.at_ K)) && (match K.lookup (d.at_ K) with
  | some ⟨_, _, .func fd, _⟩ => PySem.W.codeIn K fd.code d.qual && He.dflB K fd.defaults (d.dvs K)
  | _ => false)
abbrev AlX : Type := Bool × List FnX
def obsX (fa : List (PySem.W.Frag → Bool)) (fn : List DefX) (K : PySem.W.Frag) : AlX := ((fa.all fun f => f K) && fn.all fun d => d.ok K, fn.map fun d => fnX K (d.at_ K))
def valX (fn : List DefX) : AlX := (true, fn.map DefX.val)
def SaysX (fa : List (PySem.W.Frag → Bool)) (fn : List DefX) (K : PySem.W.Frag) : Prop := obsX fa fn K = valX fn
/-- from the module's names and the statics on -/
def asX (g : Addr → Option Obj) : Nat → List Addr
  | 0 => [mainGlobals, PySem.cStatics]
  | n + 1 => He.growD g (asX g n)
def obsXG (n : Nat) (fa : List (PySem.W.Frag → Bool)) (fn : List DefX) (g : Addr → Option Obj) : AlX := obsX fa fn (He.frG g (asX g n))
def hookX (n : Nat) (fa : List (PySem.W.Frag → Bool)) (fn : List DefX) : PySem.W.Hook where
  α := AlX
  obs := fun s => obsXG n fa fn s.heap.get?
  val := fun _ => valX fn
  says := fun _ h => ∃ K : PySem.W.Frag, K.In h ∧ SaysX fa fn K
  of := fun _ _ e => ⟨_, He.frG_in, e⟩
  keeps := fun _ _ _ ⟨K, hK, c⟩ k => ⟨K, PySem.W.Frag.In.keeps hK k, c⟩
theorem obsXG_eq {n : Nat} {fa : List (PySem.W.Frag → Bool)} {fn : List DefX} {g : Addr → Option Obj} {s : Shared} (h : ∀ a, g a = s.heap.get? a) : obsXG n fa fn g = (hookX n fa fn).obs s := by
  have e : g = s.heap.get? := funext h
  rw [e] <;> rfl
section
variable {fa : List (PySem.W.Frag → Bool)} {fn : List DefX} {K : PySem.W.Frag}
theorem SaysX.fact (c : SaysX fa fn K) (i : Nat) {f : PySem.W.Frag → Bool} (h : fa[i]? = some f := by rfl) : f K = true := by
  have c1 := (Bool.and_eq_true_iff.mp (show ((fa.all fun f => f K) && fn.all fun d => d.ok K) = true from congrArg (fun z : AlX => z.1) c)).1
  exact List.all_eq_true.mp c1 f (List.mem_of_getElem? h)
theorem SaysX.def0 (c : SaysX fa fn K) (i : Nat) {d : DefX} (h : fn[i]? = some d := by rfl) : fnX K (d.at_ K) = d.val ∧ d.ok K = true := by
  have c2 := (Bool.and_eq_true_iff.mp (show ((fa.all fun f => f K) && fn.all fun d => d.ok K) = true from congrArg (fun z : AlX => z.1) c)).2
  have e : fn.map (fun d => fnX K (d.at_ K)) = fn.map DefX.val := congrArg (fun z : AlX => z.2) c
  have e2 : (fn.map fun d => fnX K (d.at_ K))[i]? = (fn.map DefX.val)[i]? := by rw [e]
  rw [List.getElem?_map, List.getElem?_map, h] at e2
  exact ⟨Option.some.inj e2, List.all_eq_true.mp c2 d (List.mem_of_getElem? h)⟩
theorem DefX.funD {d : DefX} (e : fnX K (d.at_ K) = d.val) (c : d.ok K = true) (h0 : d.clo = []) : ∃ fd, FunD K d.name d.qual d.params d.body d.scope (d.dvs K) [] (d.at_ K) fd := by
  obtain ⟨kp, c2⟩ := Bool.and_eq_true_iff.mp c
  unfold fnX at e
  cases q : K.lookup (d.at_ K) with
  | none => rw [q] at c2; cases c2
  | some o =>
    obtain ⟨oc, od, dt, osl⟩ := o
    rw [q] at c2 e
    cases dt with
    | func fd =>
      obtain ⟨n1, n2, n3, n4, n5, n6, n7, n8, n9, n10, n11, n12, n13, n14, n15⟩ := fd
      have e2 : (some (n1, n2, n3, n4, n5, n6, n7.map (·.1), n15) : FnX) = some (d.name, d.qual, d.params, .stmts d.body, d.scope, mainGlobals, d.clo, builtinsNs) := e
      simp only [Option.some.injEq, Prod.mk.injEq] at e2
      obtain ⟨h1, h2, h3, h4, h5, h6, h7, h8⟩ := e2
      rw [h0] at h7
      have h7 : n7 = [] := List.map_eq_nil_iff.mp h7
      subst h1 h2 h3 h4 h5 h6 h7 h8
      have c3 : (PySem.W.codeIn K n13 d.qual && He.dflB K n8 (d.dvs K)) = true := c2
      obtain ⟨k1, k3⟩ := Bool.and_eq_true_iff.mp c3
      exact ⟨_, ⟨oc, od, n8, n9, n10, n11, n12, n13, n14, osl, rfl, q, k1, He.dflB_ok k3, .inl rfl⟩, kp⟩
    | _ => cases c2
theorem SaysX.def_ (c : SaysX fa fn K) (i : Nat) {d : DefX} (h : fn[i]? = some d := by rfl) (h0 : d.clo = [] := by rfl) : ∃ fd, FunD K d.name d.qual d.params d.body d.scope (d.dvs K) [] (d.at_ K) fd :=
  let z := c.def0 i h
  DefX.funD z.1 z.2 h0
end
/-- how a def without defaults binds n values and the names ks -/
theorem bd_of {K : PySem.W.Frag} {x qual : Str} {params : Arguments} {body : List Stmt} {scope : Scope} {f : Addr} {fd : FuncData} {ps : List Str} {n : Nat} {ks : List Str} {pk : List Nat} (F : FunD K x qual params body scope [] [] f fd) (hl : pk.length = ps.length) (hr : ∀ i ∈ pk, i < n + ks.length + 0)
    (h : ∀ (kV doc pm : Value) (an : Option Addr) (cdv ct : Value) (us ws : List Value), us.length = n → ws.length = ks.length → bindArgs (PySem.W.fnOf x qual params body scope .none kV doc pm an cdv ct) ⟨us, ks.zip ws⟩ = pure (ps.zip (pick pk (us ++ ws)))) : Bd K fd ps n ks pk [] := by
  obtain ⟨oc, od, dV, kV, doc, pm, an, cdv, ct, osl, rfl, _, _, hD, _⟩ := F.ex
  have hd : dV = .none := hD.elim (fun z => z.2) (fun z => absurd rfl z.1)
  subst hd
  exact ⟨⟨[], .nil, fun s us ws _ l1 l2 => .of_eq (by rw [List.append_nil]; exact h kV doc pm an cdv ct us ws l1 l2)⟩, hl, hr⟩
/-- addresses -/
def gA (x : Str) (K : PySem.W.Frag) : Addr := He.ga K x
def mA (x m : Str) (K : PySem.W.Frag) : Addr := He.ma K (He.ga K x) m
def recA (kind : String) (p : PySem.W.Frag → Addr) (K : PySem.W.Frag) : Addr := match PySem.W.recIn K (p K) kind with
  | some (.ref g :: _) => g
  | _ => 0

/-! ### names as values -/
section
variable {Y : Cy} {w w1 w2 : Wd} {σ : L2.St} {H H1 H2 : Hp} {env : Env} {ms ms1 ms2 : Ms} {x : Str} {pos p apos : Pos} {k n : Nat} {es : List Expr} {kws : List Keyword} {ks : List Str} {f : Addr} {m : Env → Ms → R (List S)} {g : List S → Ms → R S} {e o : Expr} {mo me : Env → Ms → R S}
theorem e_gstr {z : Str} (hg : Gl Y.X x) (hm : ∃ t, Y.X.mg x = some (.str z t)) (hd : (x == ("__debug__" : Str)) = false := by decide) : DE Y (.Name x pos) (mC (.d (.str z))) := by
  obtain ⟨t, hm⟩ := hm
  exact e_glob (v := .str z) hg hm ⟨t, rfl⟩ (fun _ => rfl) hd
theorem e_gint {i : Int} (hg : Gl Y.X x) (hm : ∃ t, Y.X.mg x = some (.int i t)) (hd : (x == ("__debug__" : Str)) = false := by decide) : DE Y (.Name x pos) (mC (.d (.int i))) := by
  obtain ⟨t, hm⟩ := hm
  exact e_glob (v := .int i) hg hm ⟨t, rfl⟩ (fun _ => rfl) hd
theorem e_gfn (i : Nat) (hg : Gl Y.X x) (hm : Y.X.mg x = some (.ref (Y.Γ.fn i))) (hd : (x == ("__debug__" : Str)) = false := by decide) : DE Y (.Name x pos) (mC (.d (.fn i))) :=
  e_glob hg hm (show RelV (.ref (Y.Γ.fn i)) (.ref (Y.Γ.fn i)) from rfl) (fun _ => rfl) hd
theorem e_bty {T : String} (hg : Gl Y.X x) (hm : Y.X.mg x = none) (hv : bootBuiltins x = some (.type T)) (hn : x ≠ "__name__" := by decide) (hd : (x == ("__debug__" : Str)) = false := by decide) : DE Y (.Name x pos) (mC (.d (.ty T))) :=
  ⟨_, pe_bltn (v := .ty T) hg hm hv rfl hn hd, fun w _ _ _ _ _ _ hr q => q.at (Ext.refl w) hr rfl⟩
/-- a call of what a name holds: a class or a def of the module -/
structure VcOk (Y : Cy) (n : Nat) (ks : List Str) (c : Nat) (g : List S → Ms → R S) : Prop where
  kp : PySem.W.keepIn Y.X.K (.ref (Y.Γ.fn c)) = true
  cal : Cal Y (Y.Γ.fn c) n ks g
def mCallV (tab : MTab) (mo : Env → Ms → R S) (m : Env → Ms → R (List S)) : Env → Ms → R S := fun env ms => (mo env ms).bind fun x ms1 => match x with
  | .d (.fn c) => match tab.lookup c with
    | some g => (m env ms1).bind g
    | none => .bad
  | _ => .bad
theorem e_callV {tab : MTab} (ho : DE Y (.Name x p) mo) (ht : Tab (VcOk Y n ks) tab) (ha : DC Y es kws n ks m) : DE Y (.Call (.Name x p) es kws pos) (mCallV tab mo m) := by
  obtain ⟨to, po, so⟩ := ho.ex
  obtain ⟨t, pa, sa⟩ := ha.ex
  refine ⟨fun σ H Q => to σ H fun v H1 => ∃ c g, v = .ref (Y.Γ.fn c) ∧ VcOk Y n ks c g ∧ t σ H1 fun vs H2 => ∃ (ss : List S) (ms : Ms) (w : Wd), HR Y w H2 ms ∧ SRs Y w ss vs ∧ (g ss ms).post (okP Y w Q) (exP Y w σ), ⟨fun pins s σ H Q I h => ?_⟩, fun w σ H env ms Q er hr h => ?_⟩
  · refine wpAny_Call_Name_kw (thn (po.run pins s σ H _ I h) fun u s1 ⟨v, H1, I1, rx, c, g, ev, vc, q⟩ => ?_)
    subst ev
    obtain rfl : u = Value.ref (Y.Γ.fn c) := rx
    refine PySem.W.callWith_of (pa.plain pos) (PySem.W.keeps_K vc.kp) (thn (pa.run pos _ pins s1 σ H1 _ I1 q) fun a s2 ⟨us, ws, vs, H2, ea, l1, l2, I2, r, ss, ms, w, hr, sv, q2⟩ => ?_)
    subst ea
    exact ⟨I2.kIn, cal_wp (vc.cal.run I2 l1 l2 r hr sv q2)⟩
  · refine so.go er hr h fun y ms1 w1 H1 v e1 er1 hr1 sv h1 => ?_
    cases y with
    | loc i => exact h1.elim
    | exn c ds => exact h1.elim
    | d y =>
      cases y with
      | fn c =>
        cases sv
        dsimp only at h1
        cases hl : tab.lookup c with
        | none => rw [hl] at h1; exact h1.elim
        | some g =>
          rw [hl] at h1
          refine ⟨c, g, rfl, ht.at_ hl, ?_⟩
          refine sa.go er1 hr1 h1 fun ss ms2 w2 H2 vs e2 er2 hr2 svs h2 => ?_
          exact ⟨ss, ms2, w2, hr2, svs, R.post_mono h2 (fun _ _ z => z.ext (e1.trans e2)) fun _ _ _ z => z⟩
      | _ => exact h1.elim
end
/-- nothing computed: nothing promised -/
theorem DF.bad {P : Program} {w : World} {K : PySem.W.Frag} {mg : Str → Option Value} {base : Heap} {Γ : G} {k : Nat} {f : Addr} {fd : FuncData} {ps : List Str} : DF P w K mg base Γ k f fd ps (fun _ _ => .bad) :=
  ⟨fun _ _ _ _ _ _ _ _ _ _ _ _ _ _ _ _ _ _ _ _ h => h.elim⟩
end Fw
set_option Elab.async false
set_option linter.all false
set_option maxRecDepth 100000
set_option maxHeartbeats 4000000
/-! Fw22: Bools of the written part, and what they say. -/
namespace Fw
open PySem L2 PySem.Spec PyProof.Rows
variable {K : PySem.W.Frag} {C D p g : Addr} {x f m : Str}
def bOO (a b : Option (Option Value)) : Bool := decide (a = b)
/-- a property -/
def bProp (C : Addr) (f : Str) (p g : Addr) (K : PySem.W.Frag) : Bool := bOO (PySem.W.findIn K (.ref C) f) (some (some (.ref p))) && (bOO (PySem.W.specialIn K (.ref p) "__get__") (some (some (.builtin "property.__get__"))) && (decide (PySem.W.takesIn K (.ref p) = some true) &&
  (match PySem.W.recIn K p "property" with
    | some (.ref a :: _) => decide (a = g)
    | _ => false)))
theorem prop_ok (h : bProp C f p g K = true) : PropOf K C f p g := by
  unfold bProp at h
  simp only [Bool.and_eq_true] at h
  obtain ⟨h1, h2, h3, h4⟩ := h
  refine ⟨of_decide_eq_true h1, of_decide_eq_true h2, of_decide_eq_true h3, ?_⟩
  split at h4
  · rename_i a r e
    rw [← of_decide_eq_true h4]
    exact ⟨r, e⟩
  · cases h4
/-- a classmethod -/
def bCm (C : Addr) (m : Str) (p g : Addr) (K : PySem.W.Frag) : Bool := PySem.W.readsIn K C (.type "type") && (bOO (PySem.W.specialIn K (.ref C) "__getattribute__") (some (some (.builtin "type.__getattribute__"))) && ((match PySem.W.findCls K (.ref C) (.type "type") m with
    | some (.get (.builtin b) (.ref q) .none (.ref c)) => decide (b = "classmethod.__get__") && (decide (q = p) && decide (c = C))
    | _ => false) && ((match PySem.W.recIn K p "classmethod" with
    | some (.ref a :: _) => decide (a = g)
    | _ => false) && PySem.W.fnIn K g)))
theorem cm_ok (h : bCm C m p g K = true) : ClX.CRead K C (.type "type") ∧ ClX.CMet K C (.type "type") m p g := by
  unfold bCm at h
  simp only [Bool.and_eq_true] at h
  obtain ⟨h1, h2, h3, h4, h5⟩ := h
  refine ⟨⟨h1, of_decide_eq_true h2⟩, ?_, ?_, h5⟩
  · split at h3
    · rename_i b q c e
      simp only [Bool.and_eq_true] at h3
      obtain ⟨e1, e2, e3⟩ := h3
      rw [e, of_decide_eq_true e1, of_decide_eq_true e2, of_decide_eq_true e3]
    · cases h3
  · split at h4
    · rename_i a r e
      rw [← of_decide_eq_true h4]
      exact ⟨r, e⟩
    · cases h4
/-- a special method -/
def bSp (C : Addr) (m : Str) (g : Addr) (K : PySem.W.Frag) : Bool := bOO (PySem.W.findIn K (.ref C) m) (some (some (.ref g))) && PySem.W.isFn K (.ref g)
theorem sp_ok (h : bSp C m g K = true) : PySem.W.findIn K (.ref C) m = some (some (.ref g)) ∧ PySem.W.isFn K (.ref g) = true := by
  obtain ⟨h1, h2⟩ := Bool.and_eq_true_iff.mp h
  exact ⟨of_decide_eq_true h1, h2⟩
def bKit (a b : Value) (r : Bool) (K : PySem.W.Frag) : Bool := decide (PySem.W.kitOne K a b = some r)
theorem kit_ok {a b : Value} {r : Bool} (h : bKit a b r K = true) : PySem.W.kitOne K a b = some r := of_decide_eq_true h
/-- for isinstance: of an instance's class -/
def bIns (C : Addr) (K : PySem.W.Frag) : Bool := bOO (PySem.W.findIn K (.ref C) "__class__") (some (some (.builtin "object.__class__"))) && decide (PySem.W.mroIn K C (.type "object") = some true)
theorem ins_ok (h : bIns C K = true) : PySem.W.findIn K (.ref C) "__class__" = some (some (.builtin "object.__class__")) ∧ PySem.W.mroIn K C (.type "object") = some true := by
  obtain ⟨h1, h2⟩ := Bool.and_eq_true_iff.mp h
  exact ⟨of_decide_eq_true h1, of_decide_eq_true h2⟩
def bGet (K : PySem.W.Frag) : Bool := bOO (PySem.W.specialIn K (.builtin "object.__class__") "__get__") (some (some (.builtin "getset_descriptor.__get__"))) && decide (PySem.W.takesIn K (.builtin "object.__class__") = some true)
theorem get_ok (h : bGet K = true) : PySem.W.specialIn K (.builtin "object.__class__") "__get__" = some (some (.builtin "getset_descriptor.__get__")) ∧ PySem.W.takesIn K (.builtin "object.__class__") = some true := by
  obtain ⟨h1, h2⟩ := Bool.and_eq_true_iff.mp h
  exact ⟨of_decide_eq_true h1, of_decide_eq_true h2⟩
/-- a class that isinstance is asked of: no built-in's instance is one of it -/
def bNk (C : Addr) (K : PySem.W.Frag) : Bool := tyNames.all fun a => bKit (.type a) (.ref C) false K
theorem nk_ok (h : bNk C K = true) : ∀ a ∈ tyNames, PySem.W.kitOne K (.type a) (.ref C) = some false := fun a ha => kit_ok (List.all_eq_true.mp h a ha)
def bOn (C : Addr) (K : PySem.W.Frag) : Bool := tyNames.all fun a => bKit (.ref C) (.type a) false K
theorem on_ok (h : bOn C K = true) : ∀ a ∈ tyNames, PySem.W.kitOne K (.ref C) (.type a) = some false := fun a ha => kit_ok (List.all_eq_true.mp h a ha)
/-- a caught exception's class -/
def bExc (C : Addr) (K : PySem.W.Frag) : Bool := xfB K C && (bIns C K && bGet K)
theorem exc_ok (h : bExc C K = true) : XfC K C ∧ ExcC K C := by
  unfold bExc at h
  simp only [Bool.and_eq_true] at h
  obtain ⟨h1, h2, h3⟩ := h
  have x := xfB_ok h1
  have i := ins_ok h2
  have g := get_ok h3
  exact ⟨x, ⟨x.ga, x.gg, x.exC, x.hdC, i.1, g.1, g.2, i.2⟩⟩
def bNo (C : Addr) (f : Str) (K : PySem.W.Frag) : Bool := bOO (PySem.W.findIn K (.ref C) f) (some none)
theorem no_ok (h : bNo C f K = true) : PySem.W.findIn K (.ref C) f = some none := of_decide_eq_true h
def bExm (C D : Addr) (b : Bool) (K : PySem.W.Frag) : Bool := decide (PySem.W.exmOne K (.ref C) (.ref D) = some b)
theorem exm_ok {b : Bool} (h : bExm C D b K = true) : PySem.W.exmOne K (.ref C) (.ref D) = some b := of_decide_eq_true h

/-! ### an exception class that is raised -/
def clA (f : Addr) (K : PySem.W.Frag) : Addr := match K.lookup f with
  | some ⟨_, _, .func fd, _⟩ => (match fd.closure with
    | (_, c) :: _ => c
    | _ => 0)
  | _ => 0
def cdA (f : Addr) (K : PySem.W.Frag) : Addr := match K.lookup f with
  | some ⟨_, _, .func fd, _⟩ => (match fd.code with
    | .ref c => c
    | _ => 0)
  | _ => 0
def bXcls (C : Addr) (K : PySem.W.Frag) : Bool := match K.lookup C with
  | some ⟨.type t, _, .cls cd, sl⟩ => t == "type" && (match cd.mro, sl.toList with
    | .ref C2 :: bm, [_, _, _, _, some (.builtin n), _] => decide (C2 = C) && (decide (n = "ValueError.__new__") && (!cd.hasDel && (cd.hasDict && PySem.HandSPX.refsVE bm)))
    | _, _ => false)
  | _ => false
theorem xcls_ok (h : bXcls C K = true) : ∃ nm q N bs bm sn sub ab col dd k0 k1 k2 k3 k5, K.lookup C = some (excClassObj nm q C N bs bm true sn sub ab col dd k0 k1 k2 k3 k5 "ValueError.__new__") ∧ PySem.HandSPX.refsVE bm = true := by
  unfold bXcls at h
  split at h
  · rename_i t dd cd sl ho
    obtain ⟨ht, h⟩ := Bool.and_eq_true_iff.mp h
    have ht2 : t = "type" := beq_iff_eq.mp ht
    subst ht2
    split at h
    · rename_i C2 bm k0 k1 k2 k3 n k5 hm hs
      simp only [Bool.and_eq_true, decide_eq_true_eq, Bool.not_eq_true'] at h
      obtain ⟨_, rfl, rfl, hdel, hdict, hv⟩ := h
      obtain ⟨nm, bs, mro, ns, qn, hd, sn, sub, ab, col, del⟩ := cd
      dsimp only at hm hdel hdict
      subst hm hdel hdict
      have hsl : sl = #[k0, k1, k2, k3, some (.builtin "ValueError.__new__"), k5] := by
        obtain ⟨l⟩ := sl
        simp only at hs
        rw [hs]
      subst hsl
      exact ⟨nm, qn, ns, bs, bm, sn, sub, ab, col, dd, k0, k1, k2, k3, k5, ho, hv⟩
    · cases h
  · cases h
def fileIs (file : Str) (o : Option Value) : Bool := match o with
  | some (.str z _) => file == z
  | _ => false
def bX (file : Str) (C fI : Addr) (fs : List Str) (K : PySem.W.Frag) : Bool :=
  bXcls C K && (bOO (PySem.W.findIn K (.ref C) "__setattr__") (some (some (.builtin "object.__setattr__"))) && (bOO (PySem.W.findIn K (.ref C) "__init__") (some (some (.ref fI))) && (decide (PySem.W.typeIn K (.ref fI) = some (.type "function")) && (PySem.W.keepIn K (.ref C) &&
  (decide (PySem.W.subIn K (.ref C) (.type "BaseException") = some true) && (decide (PySem.W.typeIn K (.ref C) = some (.type "type")) && (decide (PySem.W.mroIn K C (.ref C) = some true) && (decide (PySem.W.subIn K (.ref C) (.type "ValueError") = some true) &&
  (bOO (PySem.W.ks_superIn K C C "__init__") (some (some (.builtin "ValueError.__init__"))) && (PySem.W.excInitIn K C PySem.HandSPX.veTail "ValueError.__new__" && (bOO (PySem.W.nsIn K PySem.cStatics "thirdparty.any") (some none) &&
  ((match K.lookup (clA fI K) with
    | some ⟨_, _, .cell (some (.ref D)), _⟩ => decide (D = C)
    | _ => false) && ((match K.lookup (cdA fI K) with
    | some ⟨_, _, .fields vs, _⟩ => fileIs file vs[2]?
    | _ => false) && (fs.all fun f => bNo C f K))))))))))))))
theorem x_ok {prog : Program} {C fI : Addr} {d : DefX} {text : Str} {j : Nat} {p0 p1 p2 p3 p4 p5 : Pos} {ss : List Stmt} {fs : List (Str × Str)} (hf : fI = d.at_ K) (h : bX prog.main.file C fI (fs.map (·.1)) K = true) (e : fnX K (d.at_ K) = d.val) (c : d.ok K = true)
    (hn : d.name = "__init__") (hc : d.clo = [("__class__" : Str)]) (hb : d.body = FwX.supStmt text j p0 p1 p2 p3 p4 p5 :: ss) (hz : d.dfl = []) (ht : (prog.main.scope.names.lookup ("super" : Str)).isSome = false) :
    FwX.ExTxt prog K C fI (clA fI K) (cdA fI K) d.qual d.params (FwX.supStmt text j p0 p1 p2 p3 p4 p5 :: ss) d.scope fs := by
  unfold bX at h
  simp only [Bool.and_eq_true] at h
  obtain ⟨h1, h2, h3, h4, h5, h6, h7, h8, h9, h10, h11, h12, h13, h14, h15⟩ := h
  refine ⟨xcls_ok h1, of_decide_eq_true h2, of_decide_eq_true h3, of_decide_eq_true h4, h5, of_decide_eq_true h6, of_decide_eq_true h7, of_decide_eq_true h8, of_decide_eq_true h9, of_decide_eq_true h10, h11, of_decide_eq_true h12, ?_, ?_, ht, ?_, ?_⟩
  · split at h13
    · rename_i a b D sl ho
      have := of_decide_eq_true h13
      subst this
      exact ⟨a, b, sl, ho⟩
    · cases h13
  · split at h14
    · rename_i a b vs sl ho
      unfold fileIs at h14
      split at h14
      · rename_i z t hv
        exact ⟨a, b, vs, sl, z, t, ho, hv, h14⟩
      · cases h14
    · cases h14
  · subst hf
    obtain ⟨kp, c2⟩ := Bool.and_eq_true_iff.mp c
    unfold fnX at e
    cases q : K.lookup (d.at_ K) with
    | none => rw [q] at c2; cases c2
    | some o =>
      obtain ⟨oc, od, dt, osl⟩ := o
      rw [q] at c2 e
      cases dt with
      | func fd =>
        obtain ⟨n1, n2, n3, n4, n5, n6, n7, n8, n9, n10, n11, n12, n13, n14, n15⟩ := fd
        have e2 : (some (n1, n2, n3, n4, n5, n6, n7.map (·.1), n15) : FnX) = some (d.name, d.qual, d.params, .stmts d.body, d.scope, mainGlobals, d.clo, builtinsNs) := e
        simp only [Option.some.injEq, Prod.mk.injEq] at e2
        obtain ⟨g1, g2, g3, g4, g5, g6, g7, g8⟩ := e2
        rw [hc] at g7
        cases n7 with
        | nil => cases g7
        | cons pr n7 =>
          obtain ⟨cn, cc⟩ := pr
          have g9 : cn = "__class__" ∧ n7 = [] := by
            have := List.cons.inj (show cn :: n7.map (·.1) = [("__class__" : Str)] from g7)
            exact ⟨this.1, List.map_eq_nil_iff.mp this.2⟩
          obtain ⟨rfl, rfl⟩ := g9
          rw [hn] at g1
          rw [hb] at g4
          subst g1 g2 g3 g4 g5 g6 g8
          have e3 : clA (d.at_ K) K = cc := by unfold clA; rw [q]
          have c3 : (PySem.W.codeIn K n13 d.qual && He.dflB K n8 (d.dvs K)) = true := c2
          obtain ⟨k1, k3⟩ := Bool.and_eq_true_iff.mp c3
          have e4 : n13 = .ref (cdA (d.at_ K) K) := by
            cases n13 with
            | ref cda => unfold cdA; rw [q]
            | _ => unfold PySem.W.codeIn at k1; cases k1
          have e5 : n8 = .none := by
            have k4 := He.dflB_ok k3
            unfold DefX.dvs at k4
            rw [hz] at k4
            exact k4.elim (fun z => z.2) (fun z => absurd rfl z.1)
          rw [e3]
          subst e4 e5
          exact ⟨oc, od, n9, n10, n11, n12, n14, osl, rfl, k1⟩
      | _ => cases c2
  · intro p hp
    exact no_ok (List.all_eq_true.mp h15 p.1 (List.mem_map_of_mem hp))
end Fw
set_option Elab.async false
set_option linter.all false
set_option maxRecDepth 100000
set_option maxHeartbeats 4000000
/-! Fw23: what the Bools say of a whole table. -/
namespace Fw
open PySem L2 PySem.Spec PyProof.Rows
def bIsi (Γ : PySem.W.Frag → G) (oc kc : List Nat) (sub : Nat → Nat → Bool) (K : PySem.W.Frag) : Bool :=
  (kc.all fun m => bNk ((Γ K).fn m) K) && ((oc.all fun c => bOn ((Γ K).cls c) K && (bIns ((Γ K).cls c) K && (He.Fa.cls Str.empty).ok K || true) && bIns ((Γ K).cls c) K) && ((oc.all fun c => kc.all fun m => bKit (.ref ((Γ K).cls c)) (.ref ((Γ K).fn m)) (sub c m) K) && (oc.isEmpty || bGet K)))
def bCls (C : Addr) (K : PySem.W.Frag) : Bool := PySem.W.plainGet K C Str.empty && (PySem.W.hasDictIn K C && (PySem.W.plainOver K C && bOO (PySem.W.findIn K (.ref C) "__setattr__") (some (some (.builtin "object.__setattr__")))))
theorem cls_ok {K : PySem.W.Frag} {C : Addr} (h : bCls C K = true) : Cls K C := by
  unfold bCls at h
  simp only [Bool.and_eq_true] at h
  obtain ⟨h1, h2, h3, h4⟩ := h
  exact ⟨h1, h2, h3, of_decide_eq_true h4⟩
theorem isi_ok {Γ : PySem.W.Frag → G} {Y : Cy} {oc kc : List Nat} {sub : Nat → Nat → Bool} (hG : Y.Γ = Γ Y.X.K) (h : bIsi Γ oc kc sub Y.X.K = true) (hc : ∀ c ∈ oc, bCls (Y.Γ.cls c) Y.X.K = true) : IsiOk Y oc kc sub := by
  unfold bIsi at h
  simp only [Bool.and_eq_true] at h
  obtain ⟨h1, h2, h3, h4⟩ := h
  rw [← hG] at h1 h2 h3
  refine ⟨fun m hm => nk_ok (List.all_eq_true.mp h1 m hm), fun c hc' => ?_, fun c hc' m hm => kit_ok (List.all_eq_true.mp (List.all_eq_true.mp h3 c hc') m hm), fun c hc' => ?_, fun ne => ?_⟩
  · have := List.all_eq_true.mp h2 c hc'
    simp only [Bool.and_eq_true] at this
    exact on_ok this.1.1
  · have := List.all_eq_true.mp h2 c hc'
    simp only [Bool.and_eq_true] at this
    exact ⟨cls_ok (hc c hc'), (ins_ok this.2).1, (ins_ok this.2).2⟩
  · cases oc with
    | nil => exact absurd rfl ne
    | cons a r => exact get_ok (by simpa using h4)
def bXis (Γ : PySem.W.Frag → G) (xc kc : List Nat) (sub : Nat → Nat → Bool) (K : PySem.W.Frag) : Bool := (xc.all fun c => bExc ((Γ K).cls c) K) && (xc.all fun c => kc.all fun m => bKit (.ref ((Γ K).cls c)) (.ref ((Γ K).fn m)) (sub c m) K)
theorem xis_ok {Γ : PySem.W.Frag → G} {Y : Cy} {xc kc : List Nat} {sub : Nat → Nat → Bool} (hG : Y.Γ = Γ Y.X.K) (h : bXis Γ xc kc sub Y.X.K = true) : XisOk Y xc kc sub := by
  unfold bXis at h
  simp only [Bool.and_eq_true] at h
  obtain ⟨h1, h2⟩ := h
  rw [← hG] at h1 h2
  exact ⟨fun c hc => (exc_ok (List.all_eq_true.mp h1 c hc)).2, fun c hc m hm => kit_ok (List.all_eq_true.mp (List.all_eq_true.mp h2 c hc) m hm)⟩
/-- which exceptions a clause takes -/
def bTst (Γ : PySem.W.Frag → G) (tab : List (Nat × Bool)) (D : PySem.W.Frag → Addr) (K : PySem.W.Frag) : Bool := tab.all fun p => bExm ((Γ K).cls p.1) (D K) p.2 K
theorem lookup_mem {α : Type} {c : Nat} {b : α} : ∀ {l : List (Nat × α)}, l.lookup c = some b → (c, b) ∈ l
  | [], h => by cases h
  | (n, a) :: r, h => by
    rw [List.lookup_cons] at h
    cases q : c == n with
    | true => rw [q] at h; cases h; rw [beq_iff_eq.mp q]; exact List.mem_cons_self
    | false => rw [q] at h; exact List.mem_cons_of_mem _ (lookup_mem h)
theorem tst_ok {Γ : PySem.W.Frag → G} {Y : Cy} {tab : List (Nat × Bool)} {D : PySem.W.Frag → Addr} (hG : Y.Γ = Γ Y.X.K) (h : bTst Γ tab D Y.X.K = true) : ∀ c b, tab.lookup c = some b → PySem.W.exmOne Y.X.K (.ref (Y.Γ.cls c)) (.ref (D Y.X.K)) = some b := fun c b e => by
  have := List.all_eq_true.mp h (c, b) (lookup_mem e)
  rw [hG]
  exact exm_ok this
theorem names_own {X : Cx} {x : Str} {C : Addr} (hg : Gl X x) (hm : X.mg x = some (.ref C)) (hd : (x == ("__debug__" : Str)) = false := by decide) : Names X x (.ref C) := ⟨hg, hd, .inl hm⟩
theorem xat_ok {Y : Cy} {fl : Str} {c i : Nat} (h : bExc (Y.Γ.cls c) Y.X.K = true) (h2 : bNo (Y.Γ.cls c) fl Y.X.K = true) (h3 : (Y.Γ.fld c)[i]? = some fl) (h4 : ((Y.Γ.fld c).take i).contains fl = false) : XatOk Y fl c i := ⟨(exc_ok h).1, no_ok h2, h3, h4⟩
end Fw
set_option Elab.async false
set_option linter.all false
set_option maxRecDepth 100000
set_option maxHeartbeats 1000000
/-! Fw24: what the combinators give, step by step (plain Lean). -/
namespace Fw
open PySem
section
variable {env e1 : Env} {ms ms1 ms2 : Ms} {s s1 s2 : S} {m m1 m2 k : Env → Ms → T} {me ma mb : Env → Ms → R S} {mc md : Env → Ms → R Bool} {i j n : Nat} {b : Bool} {ss : List S}
theorem cons_nx (h : m env ms = .nx e1 ms1) : sCons m k env ms = k e1 ms1 := by unfold sCons; rw [h]; rfl
theorem cons_rt (h : m env ms = .rt s ms1) : sCons m k env ms = .rt s ms1 := by unfold sCons; rw [h]; rfl
theorem cons_ex {c : Nat} {ds : List D} (h : m env ms = .ex c ds e1 ms1) : sCons m k env ms = .ex c ds e1 ms1 := by unfold sCons; rw [h]; rfl
theorem set_ok (h : me env ms = .ok s ms1) : sSet i me env ms = .nx (env.set i (some s)) ms1 := by unfold sSet; rw [h]; rfl
theorem set_ex {c : Nat} {ds : List D} (h : me env ms = .ex c ds ms1) : sSet i me env ms = .ex c ds env ms1 := by unfold sSet; rw [h]; rfl
theorem ret_ok (h : me env ms = .ok s ms1) : sRet me env ms = .rt s ms1 := by unfold sRet; rw [h]; rfl
theorem ret_ex {c : Nat} {ds : List D} (h : me env ms = .ex c ds ms1) : sRet me env ms = .ex c ds env ms1 := by unfold sRet; rw [h]; rfl
theorem if_t (h : mc env ms = .ok true ms1) : sIf mc m k env ms = m env ms1 := by unfold sIf; rw [h]; rfl
theorem if_f (h : mc env ms = .ok false ms1) : sIf mc m k env ms = k env ms1 := by unfold sIf; rw [h]; rfl
theorem op_ok {g : S → S → Ms → R S} (h1 : ma env ms = .ok s1 ms1) (h2 : mb env ms1 = .ok s2 ms2) : mOp g ma mb env ms = g s1 s2 ms2 := by unfold mOp; rw [h1]; show (mb env ms1).bind _ = _; rw [h2]; rfl
theorem mB_ok (h : me env ms = .ok (.d (.bl b)) ms1) : mB me env ms = .ok b ms1 := by unfold mB; rw [h]; rfl
theorem and_t (h : mc env ms = .ok true ms1) : mAnd mc md env ms = md env ms1 := by unfold mAnd; rw [h]; rfl
theorem and_f (h : mc env ms = .ok false ms1) : mAnd mc md env ms = .ok false ms1 := by unfold mAnd; rw [h]; rfl
theorem or_t (h : mc env ms = .ok true ms1) : mOr mc md env ms = .ok true ms1 := by unfold mOr; rw [h]; rfl
theorem or_f (h : mc env ms = .ok false ms1) : mOr mc md env ms = md env ms1 := by unfold mOr; rw [h]; rfl
theorem not_ok (h : mc env ms = .ok b ms1) : mNot mc env ms = .ok (!b) ms1 := by unfold mNot; rw [h]; rfl
theorem acons_ok {al : Env → Ms → R (List S)} (h : me env ms = .ok s ms1) (h2 : al env ms1 = .ok ss ms2) : aCons me al env ms = .ok (s :: ss) ms2 := by unfold aCons; rw [h]; show (al env ms1).bind _ = _; rw [h2]; rfl
theorem callN_ok {g : List S → Ms → R S} {al : Env → Ms → R (List S)} (h : al env ms = .ok ss ms1) : mCallN g al env ms = g ss ms1 := by unfold mCallN; rw [h]; rfl
theorem b1_ok {g : List S → Ms → R S} {al : Env → Ms → R (List S)} (h : al env ms = .ok ss ms1) : mB1 g al env ms = g ss ms1 := by unfold mB1; rw [h]; rfl
theorem len_ok {al : Env → Ms → R (List S)} (h : al env ms = .ok ss ms1) (hn : ss.length = n) : mLen n al env ms = .ok ss ms1 := by
  unfold mLen lenIs
  rw [h]
  show (match Nat.beq ss.length n with
    | true => R.ok ss ms1
    | false => .bad) = _
  rw [hn, Nat.beq_refl]
theorem fn_rt {ss : List S} (h : m (start0 n ss) ms = .rt (.d d0) ms1) : fnSem n m ss ms = .ok (.d d0) ms1 := by unfold fnSem; rw [h]; rfl
theorem for_ok {mi : Env → Ms → R (List S × Option (Nat × Cell))} {g : S → Env → Ms → Option Env} {xs : List S} (h : mi env ms = .ok (xs, none) ms1) : sFor mi g m env ms = forL none g m xs env ms1 := by unfold sFor; rw [h]; rfl
theorem forL_nil {g : S → Env → Ms → Option Env} : forL none g m [] env ms = .nx env ms := rfl
theorem forL_cons {g : S → Env → Ms → Option Env} {x : S} {xs : List S} (hg : g x env ms = some e1) : forL none g m (x :: xs) env ms = (match m e1 ms with
    | .nx e m' => forL none g m xs e m'
    | .ct e m' => forL none g m xs e m'
    | .bk e m' => .nx e m'
    | .rt s m' => .rt s m'
    | .ex c ds e m' => .ex c ds e m'
    | .bad => .bad) := by
  show (match g x env ms with
    | none => T.bad
    | some env1 => _) = _
  rw [hg]
  all_goals rfl
theorem forL_inv {g : S → Env → Ms → Option Env} (P : Env → Ms → Prop) : ∀ {xs : List S} {env : Env} {ms : Ms}, (∀ x ∈ xs, ∀ e ms, P e ms → ∃ e1 e2 m2, g x e ms = some e1 ∧ m e1 ms = .nx e2 m2 ∧ P e2 m2) → P env ms → ∃ e2 m2, forL none g m xs env ms = .nx e2 m2 ∧ P e2 m2
  | [], env, ms, _, p => ⟨env, ms, rfl, p⟩
  | x :: xs, env, ms, h, p => by
    obtain ⟨e1, e2, m2, h1, h2, p2⟩ := h x List.mem_cons_self env ms p
    obtain ⟨e3, m3, h3, p3⟩ := forL_inv P (xs := xs) (fun y hy => h y (List.mem_cons_of_mem _ hy)) p2
    exact ⟨e3, m3, by rw [forL_cons h1, h2]; exact h3, p3⟩
theorem gIx_lst {l : List D} {r : Int} (h0 : 0 ≤ r) (h1 : r < l.length) : ∃ v ∈ l, gIx (.d (.lst l)) (.d (.int r)) ms = .ok (.d v) ms := by
  have hr : r.toNat < l.length := by omega
  refine ⟨l[r.toNat], List.getElem_mem hr, ?_⟩
  have e : L2.atI l r = some l[r.toNat] := by
    unfold L2.atI L2.ixN
    rw [if_pos h0, if_pos h1]
    simp [hr]
  show (match (some (D.lst l)).bind (ixD · r) with
    | some d => R.ok (S.d d) ms
    | none => .bad) = _
  show (match L2.atI l r with
    | some d => R.ok (S.d d) ms
    | none => .bad) = _
  rw [e]
/-- a call that is handed one cell and data -/
theorem call_one {sem : List S → Ms → R S} {xs : List D} {c c' : Cell} {y : D} (hc : ms[n]? = some c) (h : sem (.loc 0 :: xs.map .d) [c] = .ok (.d y) [c']) : callSem sem (.loc n :: xs.map .d) ms = .ok (.d y) (ms.set n c') := by
  have l0 : ∀ xs : List D, locsOf (xs.map S.d) = [] := fun xs => by
    induction xs with
    | nil => rfl
    | cons x xs ih => exact ih
  have l1 : locsOf (.loc n :: xs.map .d) = [n] := by show n :: locsOf (xs.map S.d) = [n]; rw [l0]
  have nx : ∀ xs : List D, (xs.map S.d).all S.noX = true := fun xs => by
    induction xs with
    | nil => rfl
    | cons x xs ih => exact ih
  have r0 : ∀ (ls : List Nat) (xs : List D), (xs.map S.d).map (renS ls) = xs.map S.d := fun ls xs => by
    induction xs with
    | nil => rfl
    | cons x xs ih => show S.d x :: (xs.map S.d).map (renS ls) = _; rw [ih]; rfl
  have e : callSem sem (.loc n :: xs.map .d) ms = callEnd [n] ms (sem ((S.loc n :: xs.map .d).map (renS [n])) ([n].map (getC ms))) := by
    unfold callSem
    rw [l1]
    have : ((S.loc n :: xs.map .d).all S.noX && nodupB [n]) = true := by
      show ((true && (xs.map S.d).all S.noX) && nodupB [n]) = true
      rw [nx]; rfl
    rw [this]
  rw [e]
  have e2 : (S.loc n :: xs.map .d).map (renS [n]) = .loc 0 :: xs.map .d := by
    show renS [n] (.loc n) :: (xs.map S.d).map (renS [n]) = _
    rw [r0]
    show S.loc ([n].idxOf n) :: _ = _
    simp
  have e3 : [n].map (getC ms) = [c] := by show [getC ms n] = [c]; rw [getC_eq hc]
  rw [e2, e3, h]
  rfl
/-- a call that is handed data only -/
theorem call_data {sem : List S → Ms → R S} {xs : List D} {y : D} {m0 : Ms} (h : sem (xs.map .d) [] = .ok (.d y) m0) : callSem sem (xs.map .d) ms = .ok (.d y) ms := by
  have l0 : ∀ xs : List D, locsOf (xs.map S.d) = [] := fun xs => by
    induction xs with
    | nil => rfl
    | cons x xs ih => exact ih
  have nx : ∀ xs : List D, (xs.map S.d).all S.noX = true := fun xs => by
    induction xs with
    | nil => rfl
    | cons x xs ih => exact ih
  have r0 : ∀ (ls : List Nat) (xs : List D), (xs.map S.d).map (renS ls) = xs.map S.d := fun ls xs => by
    induction xs with
    | nil => rfl
    | cons x xs ih => show S.d x :: (xs.map S.d).map (renS ls) = _; rw [ih]; rfl
  unfold callSem
  rw [l0, nx]
  show callEnd [] ms (sem ((xs.map S.d).map (renS [])) []) = _
  rw [r0, h]
  rfl
theorem chain_ok {g g' : S → S → Ms → R S} {mc' : Env → Ms → R S} {p q : Bool} {s3 : S} (h1 : ma env ms = .ok s1 ms) (h2 : mb env ms = .ok s2 ms) (h3 : mc' env ms = .ok s3 ms) (e1 : g s1 s2 ms = .ok (.d (.bl p)) ms) (e2 : g' s2 s3 ms = .ok (.d (.bl q)) ms) :
    mChain g g' ma mb mc' env ms = .ok (.d (.bl (p && q))) ms := by
  cases p with
  | true => simp only [mChain, h1, h2, h3, e1, e2, R.bind, asB, Bool.true_and]
  | false => simp only [mChain, h1, h2, h3, e1, e2, R.bind, asB, Bool.false_and]
theorem fn_nx {ss : List S} (h : m (start0 n ss) ms = .nx e1 ms1) : fnSem n m ss ms = .ok (.d .non) ms1 := by unfold fnSem; rw [h]
theorem fn_ex {ss : List S} {c : Nat} {ds : List D} (h : m (start0 n ss) ms = .ex c ds e1 ms1) : fnSem n m ss ms = .ex c ds ms1 := by unfold fnSem; rw [h]
/-- a call that is handed one cell and data, and raises -/
theorem call_ex {sem : List S → Ms → R S} {xs : List D} {c c' : Cell} {k : Nat} {ds : List D} (hc : ms[n]? = some c) (h : sem (.loc 0 :: xs.map .d) [c] = .ex k ds [c']) : callSem sem (.loc n :: xs.map .d) ms = .ex k ds (ms.set n c') := by
  have l0 : ∀ xs : List D, locsOf (xs.map S.d) = [] := fun xs => by
    induction xs with
    | nil => rfl
    | cons x xs ih => exact ih
  have l1 : locsOf (.loc n :: xs.map .d) = [n] := by show n :: locsOf (xs.map S.d) = [n]; rw [l0]
  have nx : ∀ xs : List D, (xs.map S.d).all S.noX = true := fun xs => by
    induction xs with
    | nil => rfl
    | cons x xs ih => exact ih
  have r0 : ∀ (ls : List Nat) (xs : List D), (xs.map S.d).map (renS ls) = xs.map S.d := fun ls xs => by
    induction xs with
    | nil => rfl
    | cons x xs ih => show S.d x :: (xs.map S.d).map (renS ls) = _; rw [ih]; rfl
  have e : callSem sem (.loc n :: xs.map .d) ms = callEnd [n] ms (sem ((S.loc n :: xs.map .d).map (renS [n])) ([n].map (getC ms))) := by
    unfold callSem
    rw [l1]
    have : ((S.loc n :: xs.map .d).all S.noX && nodupB [n]) = true := by
      show ((true && (xs.map S.d).all S.noX) && nodupB [n]) = true
      rw [nx]; rfl
    rw [this]
  rw [e]
  have e2 : (S.loc n :: xs.map .d).map (renS [n]) = .loc 0 :: xs.map .d := by
    show renS [n] (.loc n) :: (xs.map S.d).map (renS [n]) = _
    rw [r0]
    show S.loc ([n].idxOf n) :: _ = _
    simp
  have e3 : [n].map (getC ms) = [c] := by show [getC ms n] = [c]; rw [getC_eq hc]
  rw [e2, e3, h]
  rfl
/-- .. data only, and raises -/
theorem call_dataX {sem : List S → Ms → R S} {xs : List D} {k : Nat} {ds : List D} {m0 : Ms} (h : sem (xs.map .d) [] = .ex k ds m0) : callSem sem (xs.map .d) ms = .ex k ds ms := by
  have l0 : ∀ xs : List D, locsOf (xs.map S.d) = [] := fun xs => by
    induction xs with
    | nil => rfl
    | cons x xs ih => exact ih
  have nx : ∀ xs : List D, (xs.map S.d).all S.noX = true := fun xs => by
    induction xs with
    | nil => rfl
    | cons x xs ih => exact ih
  have r0 : ∀ (ls : List Nat) (xs : List D), (xs.map S.d).map (renS ls) = xs.map S.d := fun ls xs => by
    induction xs with
    | nil => rfl
    | cons x xs ih => show S.d x :: (xs.map S.d).map (renS ls) = _; rw [ih]; rfl
  unfold callSem
  rw [l0, nx]
  show callEnd [] ms (sem ((xs.map S.d).map (renS [])) []) = _
  rw [r0, h]
  rfl
end
end Fw
set_option Elab.async false
set_option linter.all false
set_option maxRecDepth 100000
set_option maxHeartbeats 1000000
/-! Fw25: two texts, equal or not, whatever they hold. -/
namespace Fw
open PySem L2 PySem.Spec PyProof.Rows
section
variable {Y : Cy} {k : Nat}
def gEqS (neg : Bool) : S → S → Ms → R S := fun x y ms => match x, y with
  | .d (.str a), .d (.str b) => .ok (.d (.bl (if neg then a != b else a == b))) ms
  | _, _ => .bad
theorem gEqS_ne {neg : Bool} : ∀ x y ms c ds ms', gEqS neg x y ms ≠ .ex c ds ms' := by
  intro x y ms c ds ms' h
  unfold gEqS at h
  split at h <;> cases h
theorem op_eqStr : OpR Y.X (compareOp .Eq) (fun x y H Q => ∃ a b, x = .str a ∧ y = .str b ∧ Q (.bl (if false then a != b else a == b)) H) := by
  intro pins s σ H x y v u Q I rx ry h
  obtain ⟨a, b, rfl, rfl, q⟩ := h
  obtain ⟨t, rfl⟩ := rx
  obtain ⟨t', rfl⟩ := ry
  exact PyProof.Rows.eq_str ⟨.bl _, H, I, rfl, q⟩
theorem op_neStr : OpR Y.X (compareOp .NotEq) (fun x y H Q => ∃ a b, x = .str a ∧ y = .str b ∧ Q (.bl (if true then a != b else a == b)) H) := by
  intro pins s σ H x y v u Q I rx ry h
  obtain ⟨a, b, rfl, rfl, q⟩ := h
  obtain ⟨t, rfl⟩ := rx
  obtain ⟨t', rfl⟩ := ry
  exact PyProof.Rows.ne_str ⟨.bl _, H, I, rfl, q⟩
theorem snd_eqS {neg : Bool} : SndR2 Y (fun x y H Q => ∃ a b, x = .str a ∧ y = .str b ∧ Q (.bl (if neg then a != b else a == b)) H) (gEqS neg) := by
  intro w H ms x y u v Q hr sx sy h
  unfold gEqS at h
  split at h
  · rename_i a b
    cases sx
    cases sy
    exact ⟨a, b, rfl, rfl, h.at (Ext.refl w) hr rfl⟩
  · exact h.elim
def gEq (neg : Bool) := gOr (gEqS neg) (gEqD neg)
theorem o_eq (ok : CyOk Y k) : OpD Y (compareOp .Eq) (gEq false) := (show OpD Y (compareOp .Eq) (gEqS false) from ⟨⟨_, op_eqStr, snd_eqS⟩, gEqS_ne⟩).or (o_eqD ok)
theorem o_ne (ok : CyOk Y k) : OpD Y (compareOp .NotEq) (gEq true) := (show OpD Y (compareOp .NotEq) (gEqS true) from ⟨⟨_, op_neStr, snd_eqS⟩, gEqS_ne⟩).or (o_neD ok)
end
end Fw
set_option Elab.async false
set_option linter.all false
set_option maxRecDepth 100000
set_option maxHeartbeats 0
namespace Ga
open PySem L2 PySem.Spec PyProof.Rows Fw

abbrev Pg : Program := PySem.Challenge.pw_wayround_k02_spans_created

def top (i : Nat) : Stmt := Pg.main.body.getD i (.Pass ⟨0, 0, 0, 0⟩)
def sub (st : Stmt) (j : Nat) : Stmt := (C8.clsBody st).getD j (.Pass ⟨0, 0, 0, 0⟩)

def fld : Nat → List Str
  | 0 => []
  | 1 => ["high", "low"]
  | 2 => ["high", "low"]
  | 3 => ["line"]
  | 4 => ["low", "high"]
  | _ => []

def clsAt (K : PySem.W.Frag) : Nat → Addr
  | 0 => gA "WayroundError" K
  | 1 => gA "InvalidSpan" K
  | 2 => gA "Snapped" K
  | 3 => gA "InvalidText" K
  | 4 => gA "Span" K
  | _ => 0

def Γ (K : PySem.W.Frag) : G := ⟨clsAt K, fld, clsAt K⟩

def subT (a b : Nat) : Bool := ([(0, 0), (1, 0), (1, 1), (2, 0), (2, 2), (3, 0), (3, 3), (4, 4)] : List (Nat × Nat)).contains (a, b)

noncomputable def m__law_feed : Fw.Env → Ms → T :=
 sCons (sSet 2 (mOp gAdd (mOp gMul (mC (.d (.int 6151))) (mVar 1)) (mC (.d (.int 23)))))
 (sCons (sIf (mB (mOp gLt (mVar 1) (mB1 (c1 lenD) (aCons (mVar 0) (aNil))))) (sSet 2 (mB1 (c1 absD) (aCons (mOp gIx (mVar 0) (mVar 1)) (aNil)))) (sIf (mB (mOp gGt (mB1 (c1 lenD) (aCons (mVar 0) (aNil))) (mC (.d (.int 0))))) (sSet 2 (mOp gAdd (mVar 2) (mOp gMul (mOp gModI (mB1 (c1 absD) (aCons (mOp gIx (mVar 0) (mOp gModI (mVar 1) (mB1 (c1 lenD) (aCons (mVar 0) (aNil))))) (aNil))) (mC (.d (.int 2147483629)))) (mC (.d (.int 50021)))))) (sNil)))
 (sCons (sSet 3 (mOp gAdd (mOp gModI (mOp gAdd (mOp gMul (mOp gModI (mVar 2) (mC (.d (.int 2147483629)))) (mC (.d (.int 48271)))) (mOp gMul (mC (.d (.int 40692))) (mVar 1))) (mC (.d (.int 2147483629)))) (mC (.d (.int 1)))))
 (sRet (mNew (aCons (mOp gMul (mVar 2) (mB1 (c1 intD) (aCons (mOp gGe (mVar 2) (mOp gPowI (mC (.d (.int 10))) (mC (.d (.int 18))))) (aNil)))) (aCons (mVar 3) (aCons (mC (.d (.int 0))) (aNil))))))))
noncomputable def f__law_feed : List S → Ms → R S := fnSem 4 m__law_feed

noncomputable def m__law_take : Fw.Env → Ms → T :=
 sCons (sIf (mB (mOp gGt (mOp gIx (mVar 0) (mC (.d (.int 0)))) (mC (.d (.int 0))))) (sCons (sSet 2 (mOp gModI (mOp gIx (mVar 0) (mC (.d (.int 0)))) (mVar 1)))
 (sCons (sSub (mOp gDivI (mOp gIx (mVar 0) (mC (.d (.int 0)))) (mVar 1)) (mVar 0) (mC (.d (.int 0))))
 (sRet (mVar 2)))) (sNil))
 (sCons (sSub (mOp gAdd (mOp gIx (mVar 0) (mC (.d (.int 2)))) (mC (.d (.int 1)))) (mVar 0) (mC (.d (.int 2))))
 (sCons (sSet 3 (mOp gModI (mOp gMul (mOp gAdd (mOp gIx (mVar 0) (mC (.d (.int 1)))) (mOp gMul (mC (.d (.int 104729))) (mOp gIx (mVar 0) (mC (.d (.int 2)))))) (mC (.d (.int 69623)))) (mC (.d (.int 2147483647)))))
 (sCons (sSub (mOp gAdd (mOp gModI (mOp gAdd (mOp gMul (mVar 3) (mC (.d (.int 48271)))) (mC (.d (.int 30103)))) (mC (.d (.int 2147483629)))) (mC (.d (.int 1)))) (mVar 0) (mC (.d (.int 1))))
 (sRet (mOp gModI (mOp gDivI (mOp gAdd (mOp gMul (mVar 3) (mC (.d (.int 2147483647)))) (mOp gIx (mVar 0) (mC (.d (.int 1))))) (mC (.d (.int 8191)))) (mVar 1))))))
noncomputable def f__law_take : List S → Ms → R S := fnSem 4 m__law_take

noncomputable def m__law_value (rec_ : List S → Ms → R S) : Fw.Env → Ms → T :=
 sCons (sSet 2 (mCallN (bndS f__law_take [0, 1] []) (mLen 2 (aCons (mVar 0) (aCons (mC (.d (.int 9))) (aNil))))))
 (sCons (sIf (mAnd (mB (mOp gLt (mVar 2) (mC (.d (.int 3))))) (mB (mOp gGt (mVar 1) (mC (.d (.int 0)))))) (sRet (mB1 (cTup) (aCons (mLc false (iRng1 (aCons (mCallN (bndS f__law_take [0, 1] []) (mLen 2 (aCons (mVar 0) (aCons (mC (.d (.int 4))) (aNil))))) (aNil))) (gSet 3) ((fun _ ms => .ok true ms)) (mCallN (bndS rec_ [0, 1] []) (mLen 2 (aCons (mVar 0) (aCons (mOp gSubI (mVar 1) (mC (.d (.int 1)))) (aNil))))) [3]) (aNil)))) (sNil))
 (sCons (sIf (mB (mOp gLt (mVar 2) (mC (.d (.int 5))))) (sRet (mOp gIx (mLst (aCons (mC (.d (.int 0))) (aCons (mC (.d (.int 1))) (aCons (mC (.d (.int 2))) (aCons (mC (.d (.int 7))) (aCons (mOp gSubI (mC (.d (.int 0))) (mC (.d (.int 1)))) (aCons (mC (.d (.int 1000))) (aCons (mOp gSubI (mC (.d (.int 0))) (mC (.d (.int 12)))) (aCons (mOp gPowI (mC (.d (.int 10))) (mC (.d (.int 30)))) (aNil)))))))))) (mCallN (bndS f__law_take [0, 1] []) (mLen 2 (aCons (mVar 0) (aCons (mC (.d (.int 8))) (aNil))))))) (sNil))
 (sCons (sIf (mB (mOp gLt (mVar 2) (mC (.d (.int 7))))) (sRet (mOp gIx (mLst (aCons (mC (.d (.str ""))) (aCons (mC (.d (.str "a"))) (aCons (mC (.d (.str "b"))) (aCons (mC (.d (.str "p0"))) (aCons (mC (.d (.str "posts"))) (aCons (mC (.d (.str "A"))) (aCons (mC (.d (.str "3..4"))) (aCons (mC (.d (.str "seven77"))) (aNil)))))))))) (mCallN (bndS f__law_take [0, 1] []) (mLen 2 (aCons (mVar 0) (aCons (mC (.d (.int 8))) (aNil))))))) (sNil))
 (sRet (mOp gIx (mLst (aCons (mC (.d (.bl true))) (aCons (mC (.d (.bl false))) (aCons (mC (.d .non)) (aNil))))) (mCallN (bndS f__law_take [0, 1] []) (mLen 2 (aCons (mVar 0) (aCons (mC (.d (.int 3))) (aNil))))))))))
noncomputable def f__law_value : Nat → List S → Ms → R S
  | 0 => fun _ _ => .bad
  | n + 1 => fnSem 4 (m__law_value (f__law_value n))

noncomputable def m__law_bound : Fw.Env → Ms → T :=
 sCons (sIf (mB (mOp (gEq false) (mCallN (bndS f__law_take [0, 1] []) (mLen 2 (aCons (mVar 0) (aCons (mC (.d (.int 8))) (aNil))))) (mC (.d (.int 0))))) (sRet (mCallN (bndS (f__law_value 3) [0, 1] []) (mLen 2 (aCons (mVar 0) (aCons (mC (.d (.int 1))) (aNil)))))) (sNil))
 (sRet (mOp gSubI (mCallN (bndS f__law_take [0, 1] []) (mLen 2 (aCons (mVar 0) (aCons (mOp gIx (mLst (aCons (mC (.d (.int 4))) (aCons (mC (.d (.int 30))) (aCons (mC (.d (.int 1001))) (aCons (mOp gPowI (mC (.d (.int 10))) (mC (.d (.int 12)))) (aNil)))))) (mCallN (bndS f__law_take [0, 1] []) (mLen 2 (aCons (mVar 0) (aCons (mC (.d (.int 4))) (aNil)))))) (aNil))))) (mOp gIx (mLst (aCons (mC (.d (.int 0))) (aCons (mC (.d (.int 0))) (aCons (mC (.d (.int 0))) (aCons (mC (.d (.int 2))) (aNil)))))) (mCallN (bndS f__law_take [0, 1] []) (mLen 2 (aCons (mVar 0) (aCons (mC (.d (.int 4))) (aNil))))))))
noncomputable def f__law_bound : List S → Ms → R S := fnSem 1 m__law_bound

noncomputable def m_is_whole : Fw.Env → Ms → T :=
 sRet (mAndV (mB1 (cIsi [] [] (fun _ _ => false)) (aCons (mVar 0) (aCons (mC (.d (.ty "int"))) (aNil)))) (mNotV (mB1 (cIsi [] [] (fun _ _ => false)) (aCons (mVar 0) (aCons (mC (.d (.ty "bool"))) (aNil))))))
noncomputable def f_is_whole : List S → Ms → R S := fnSem 1 m_is_whole

noncomputable def m_Span_init : Fw.Env → Ms → T :=
 sCons (sIf (mOr (mNot (mB (mCallN (bndS f_is_whole [0] []) (mLen 1 (aCons (mVar 1) (aNil)))))) (mOr (mNot (mB (mCallN (bndS f_is_whole [0] []) (mLen 1 (aCons (mVar 2) (aNil)))))) (mNot (mB (mChain gLe gLe (mC (.d (.int 0))) (mVar 1) (mVar 2)))))) (sRaise 1 2 (mLen 2 (aCons (mVar 1) (aCons (mVar 2) (aNil))))) (sNil))
 (sCons (sFldS "low" [4] (mVar 1) (mVar 0))
 (sFldS "high" [4] (mVar 2) (mVar 0)))
noncomputable def f_Span_init : List S → Ms → R S := fnSem 3 m_Span_init

noncomputable def m_Span_rod : Fw.Env → Ms → T :=
 sRet (mCallV [(4, mkS 4 (fld 4) (bndS f_Span_init [0, 1, 2] []))] (mVar 0) (mLen 2 (aCons (mVar 1) (aCons (mVar 1) (aNil)))))
noncomputable def f_Span_rod : List S → Ms → R S := fnSem 2 m_Span_rod

noncomputable def m_Span_rope : Fw.Env → Ms → T :=
 sRet (mCallV [(4, mkS 4 (fld 4) (bndS f_Span_init [0, 1, 2] []))] (mVar 0) (mLen 2 (aCons (mC (.d (.int 0))) (aCons (mVar 1) (aNil)))))
noncomputable def f_Span_rope : List S → Ms → R S := fnSem 2 m_Span_rope

noncomputable def m__law_made : Fw.Env → Ms → T :=
 sCons (sIf (mB (mOp (gEq false) (mVar 0) (mC (.d (.int 0))))) (sRet (mCallN (mkS 4 (fld 4) (bndS f_Span_init [0, 1, 2] [])) (mLen 2 (aCons (mVar 1) (aCons (mVar 2) (aNil)))))) (sNil))
 (sCons (sIf (mB (mOp (gEq false) (mVar 0) (mC (.d (.int 1))))) (sRet (mCallN (mkS 4 (fld 4) (bndS f_Span_init [0, 2, 1] [])) (mLen 2 (aCons (mVar 2) (aCons (mVar 1) (aNil)))))) (sNil))
 (sCons (sIf (mB (mOp (gEq false) (mVar 0) (mC (.d (.int 2))))) (sRet (mCMeth [(4, bndS f_Span_rod [0, 1] [])] (mC (.d (.fn 4))) (mLen 1 (aCons (mVar 1) (aNil))))) (sNil))
 (sCons (sIf (mB (mOp (gEq false) (mVar 0) (mC (.d (.int 3))))) (sRet (mCMeth [(4, bndS f_Span_rod [0, 1] [])] (mC (.d (.fn 4))) (mLen 1 (aCons (mVar 1) (aNil))))) (sNil))
 (sCons (sIf (mB (mOp (gEq false) (mVar 0) (mC (.d (.int 4))))) (sRet (mCMeth [(4, bndS f_Span_rope [0, 1] [])] (mC (.d (.fn 4))) (mLen 1 (aCons (mVar 2) (aNil))))) (sNil))
 (sRet (mCMeth [(4, bndS f_Span_rope [0, 1] [])] (mC (.d (.fn 4))) (mLen 1 (aCons (mVar 2) (aNil)))))))))
noncomputable def f__law_made : List S → Ms → R S := fnSem 3 m__law_made

noncomputable def m_Span_least : Fw.Env → Ms → T :=
 sRet (mAttr "low" [(4, fldG 0)] (mVar 0))
noncomputable def f_Span_least : List S → Ms → R S := fnSem 1 m_Span_least

noncomputable def m_Span_greatest : Fw.Env → Ms → T :=
 sRet (mAttr "high" [(4, fldG 1)] (mVar 0))
noncomputable def f_Span_greatest : List S → Ms → R S := fnSem 1 m_Span_greatest

noncomputable def m_Span_is_rod : Fw.Env → Ms → T :=
 sRet (mOp (gEq false) (mAttr "low" [(4, fldG 0)] (mVar 0)) (mAttr "high" [(4, fldG 1)] (mVar 0)))
noncomputable def f_Span_is_rod : List S → Ms → R S := fnSem 1 m_Span_is_rod

noncomputable def m_Span_str : Fw.Env → Ms → T :=
 sCons (sIf (mB (mOp (gEq false) (mAttr "low" [(4, fldG 0)] (mVar 0)) (mAttr "high" [(4, fldG 1)] (mVar 0)))) (sRet (mB1 (c1 strD) (aCons (mAttr "low" [(4, fldG 0)] (mVar 0)) (aNil)))) (sNil))
 (sRet (mJs [mFmt (mAttr "low" [(4, fldG 0)] (mVar 0)), mFmt (mC (.d (.str ".."))), mFmt (mAttr "high" [(4, fldG 1)] (mVar 0))] Str.empty))
noncomputable def f_Span_str : List S → Ms → R S := fnSem 1 m_Span_str

noncomputable def m_Span_repr : Fw.Env → Ms → T :=
 sRet (mJs [mC (.d (.str "Span(")), mFmt (mAttr "low" [(4, fldG 0)] (mVar 0)), mC (.d (.str ", ")), mFmt (mAttr "high" [(4, fldG 1)] (mVar 0)), mC (.d (.str ")"))] Str.empty)
noncomputable def f_Span_repr : List S → Ms → R S := fnSem 1 m_Span_repr

noncomputable def m__law_told : Fw.Env → Ms → T :=
 sCons (sSet 3 (mTup (aCons (mC (.d (.str "other"))) (aNil))))
 (sCons (sTry (sCons (sSet 4 (mCallN (bndS f__law_made [0, 1, 2] []) (mLen 3 (aCons (mVar 0) (aCons (mVar 1) (aCons (mVar 2) (aNil)))))))
 (sSet 3 (mTup (aCons (mC (.d (.str "span"))) (aCons (mAttr "least" [(4, propG 4 (bndS f_Span_least [0] []))] (mVar 4)) (aCons (mAttr "greatest" [(4, propG 4 (bndS f_Span_greatest [0] []))] (mVar 4)) (aCons (mAttr "is_rod" [(4, propG 4 (bndS f_Span_is_rod [0] []))] (mVar 4)) (aCons (mB1 (cOr (c1 strD) (cOwn [(4, bndS f_Span_str [0] [])])) (aCons (mVar 4) (aNil))) (aCons (mB1 (cOr (c1 reprD) (cOwn [(4, bndS f_Span_repr [0] [])])) (aCons (mVar 4) (aNil))) (aNil)))))))))) [(fun c => List.lookup c ([(0, false), (1, true), (2, false), (3, false)] : List (Nat × Bool)), some 5, sSet 3 (mTup (aCons (mC (.d (.str "invalid"))) (aCons (mXat [(1, 1), (2, 1)] (mVar 5)) (aCons (mXat [(1, 0), (2, 0)] (mVar 5)) (aCons (mB1 (cXis [0, 1, 2, 3] [2] subT) (aCons (mVar 5) (aCons (mC (.d (.fn 2))) (aNil)))) (aNil))))))), (fun c => List.lookup c ([(0, true), (1, true), (2, true), (3, true)] : List (Nat × Bool)), none, sSet 3 (mTup (aCons (mC (.d (.str "other"))) (aNil))))])
 (sRet (mVar 3)))
noncomputable def f__law_told : List S → Ms → R S := fnSem 6 m__law_told

noncomputable def m__law_due : Fw.Env → Ms → T :=
 sCons (sFor (iTup (mTup (aCons (mVar 0) (aCons (mVar 1) (aNil))))) (gSet 2) (sIf (mOr (mNot (mB (mB1 (cIsi [] [] (fun _ _ => false)) (aCons (mVar 2) (aCons (mC (.d (.ty "int"))) (aNil)))))) (mOr (mB (mB1 (cIsi [] [] (fun _ _ => false)) (aCons (mVar 2) (aCons (mC (.d (.ty "bool"))) (aNil))))) (mB (mOp gLt (mVar 2) (mC (.d (.int 0))))))) (sRet (mTup (aCons (mC (.d (.str "invalid"))) (aCons (mVar 0) (aCons (mVar 1) (aCons (mC (.d (.bl false))) (aNil))))))) (sNil)))
 (sCons (sIf (mB (mOp gGt (mVar 0) (mVar 1))) (sRet (mTup (aCons (mC (.d (.str "invalid"))) (aCons (mVar 0) (aCons (mVar 1) (aCons (mC (.d (.bl false))) (aNil))))))) (sNil))
 (sCons (sSet 3 (mOp gAdd (mB1 (c1 strD) (aCons (mVar 0) (aNil))) (mOp gMul (mOp gAdd (mC (.d (.str ".."))) (mB1 (c1 strD) (aCons (mVar 1) (aNil)))) (mB1 (c1 intD) (aCons (mOp gLt (mVar 0) (mVar 1)) (aNil))))))
 (sRet (mTup (aCons (mC (.d (.str "span"))) (aCons (mVar 0) (aCons (mVar 1) (aCons (mOp (gEq false) (mVar 0) (mVar 1)) (aCons (mVar 3) (aCons (mOp gAdd (mOp gAdd (mOp gAdd (mOp gAdd (mC (.d (.str "Span("))) (mB1 (c1 strD) (aCons (mVar 0) (aNil)))) (mC (.d (.str ", ")))) (mB1 (c1 strD) (aCons (mVar 1) (aNil)))) (mC (.d (.str ")")))) (aNil)))))))))))
noncomputable def f__law_due : List S → Ms → R S := fnSem 4 m__law_due

noncomputable def m_law : Fw.Env → Ms → T :=
 sCons (sFor (iRng1 (aCons (mB1 (c2 maxI) (aCons (mC (.d (.int 1))) (aCons (mB1 (c2 minI) (aCons (mC (.d (.int 6))) (aCons (mB1 (c1 lenD) (aCons (mVar 0) (aNil))) (aNil)))) (aNil)))) (aNil))) (gSet 1) (sCons (sSet 2 (mCallN (bndS f__law_feed [0, 1] []) (mLen 2 (aCons (mVar 0) (aCons (mVar 1) (aNil))))))
 (sFor (iRng1 (aCons (mC (.d (.int 4))) (aNil))) (gSet 3) (sCons (sPar 4 5 (aCons (mCallN (bndS f__law_bound [0] []) (mLen 1 (aCons (mVar 2) (aNil)))) (aCons (mCallN (bndS f__law_bound [0] []) (mLen 1 (aCons (mVar 2) (aNil)))) (aNil))))
 (sCons (sIf (mAnd (mB (mB1 (cIsi [] [] (fun _ _ => false)) (aCons (mVar 4) (aCons (mC (.d (.ty "int"))) (aNil))))) (mAnd (mB (mB1 (cIsi [] [] (fun _ _ => false)) (aCons (mVar 5) (aCons (mC (.d (.ty "int"))) (aNil))))) (mAnd (mB (mOp gGt (mVar 4) (mVar 5))) (mB (mOp gGt (mCallN (bndS f__law_take [0, 1] []) (mLen 2 (aCons (mVar 2) (aCons (mC (.d (.int 4))) (aNil))))) (mC (.d (.int 0)))))))) (sPar 4 5 (aCons (mVar 5) (aCons (mVar 4) (aNil)))) (sNil))
 (sFor (iList (mLst (aCons (mC (.d (.int 0))) (aCons (mC (.d (.int 1))) (aCons (mC (.d (.int 2))) (aCons (mC (.d (.int 3))) (aCons (mC (.d (.int 4))) (aCons (mC (.d (.int 5))) (aCons (mC (.d (.int 0))) (aNil)))))))))) (gSet 6) (sCons (sSet 7 (mOp gIx (mLst (aCons (mTup (aCons (mVar 4) (aCons (mVar 5) (aNil)))) (aCons (mTup (aCons (mVar 4) (aCons (mVar 5) (aNil)))) (aCons (mTup (aCons (mVar 4) (aCons (mVar 4) (aNil)))) (aCons (mTup (aCons (mVar 4) (aCons (mVar 4) (aNil)))) (aCons (mTup (aCons (mC (.d (.int 0))) (aCons (mVar 5) (aNil)))) (aCons (mTup (aCons (mC (.d (.int 0))) (aCons (mVar 5) (aNil)))) (aNil)))))))) (mVar 6)))
 (sIf (mB (mOp (gEq true) (mB1 (c1 reprD) (aCons (mCallN (bndS f__law_told [0, 1, 2] []) (mLen 3 (aCons (mVar 6) (aCons (mVar 4) (aCons (mVar 5) (aNil)))))) (aNil))) (mB1 (c1 reprD) (aCons (mCallN (bndS f__law_due [0, 1] []) (mLen 2 (aCons (mOp gIx (mVar 7) (mC (.d (.int 0)))) (aCons (mOp gIx (mVar 7) (mC (.d (.int 1)))) (aNil))))) (aNil))))) (sRet (mC (.d (.bl false)))) (sNil)))))))))
 (sRet (mC (.d (.bl true))))
noncomputable def f_law : List S → Ms → R S := fnSem 8 m_law

end Ga
set_option Elab.async false
set_option linter.all false
set_option maxRecDepth 100000
set_option maxHeartbeats 1000000
namespace Ga
open PySem L2 PySem.Spec PyProof.Rows Fw
def IsFeed (c : Cell) : Prop := ∃ a b d : Int, c = .lst [.int a, .int b, .int d]
theorem take_spec {m : Int} (h : 0 < m) (h2 : m < 18446744073709551616) {c : Cell} (hc : IsFeed c) : ∃ (r : Int) (c' : Cell), IsFeed c' ∧ 0 ≤ r ∧ r < m ∧ f__law_take [.loc 0, .d (.int m)] [c] = .ok (.d (.int r)) [c'] := by
  obtain ⟨a, b, d, rfl⟩ := hc
  by_cases ha : 0 < a
  · refine ⟨a % m, .lst [.int (a / m), .int b, .int d], ⟨_, _, _, rfl⟩, Int.emod_nonneg _ (by omega), Int.emod_lt_of_pos _ h, ?_⟩
    simp [f__law_take, fnSem, m__law_take, sCons, sSet, sIf, sSub, sRet, sNil, mOp, mB, mVar, mC, gIx, view, ixD, gModI, gII, cMod, gDivI, cDiv, gGt, gCmp, asI, T.seq, T.ofE, R.bind, asB, start0, endS, S.noX, atI, ixN, ha, h, h2]
  · refine ⟨((b + 104729 * (d + 1)) * 69623 % 2147483647 * 2147483647 + (((b + 104729 * (d + 1)) * 69623 % 2147483647 * 48271 + 30103) % 2147483629 + 1)) / 8191 % m, .lst [.int a, .int (((b + 104729 * (d + 1)) * 69623 % 2147483647 * 48271 + 30103) % 2147483629 + 1), .int (d + 1)], ⟨_, _, _, rfl⟩, Int.emod_nonneg _ (by omega), Int.emod_lt_of_pos _ h, ?_⟩
    simp [f__law_take, fnSem, m__law_take, sCons, sSet, sIf, sSub, sRet, sNil, mOp, mB, mVar, mC, gIx, view, ixD, gModI, gII, cMod, gDivI, cDiv, gGt, gCmp, asI, gAdd, gOr, gAddI, yes2, gMul, gMulI, cMul, T.seq, T.ofE, R.bind, asB, start0, endS, S.noX, atI, ixN, ha, h, h2]
end Ga
set_option Elab.async false
set_option linter.all false
set_option maxRecDepth 100000
set_option maxHeartbeats 1000000
namespace Ga
open PySem L2 PySem.Spec PyProof.Rows Fw
/-- a take where slot i names the feed at n -/
theorem ev_take {i n : Nat} {k : Int} {env : Fw.Env} {ms : Ms} {c : Cell} (he : env[i]? = some (some (.loc n))) (hc : ms[n]? = some c) (hf : IsFeed c) (h0 : 0 < k) (h1 : k < 18446744073709551616) :
    ∃ r c', IsFeed c' ∧ 0 ≤ r ∧ r < k ∧ mCallN (bndS f__law_take [0, 1] []) (mLen 2 (aCons (mVar i) (aCons (mC (.d (.int k))) (aNil)))) env ms = .ok (.d (.int r)) (ms.set n c') := by
  obtain ⟨r, c', f, r0, r1, e⟩ := take_spec h0 h1 hf
  refine ⟨r, c', f, r0, r1, ?_⟩
  have ev : mVar i env ms = .ok (.loc n) ms := by unfold mVar; rw [he]
  exact (callN_ok (len_ok (acons_ok ev (acons_ok (s := .d (.int k)) (ss := []) rfl rfl)) rfl)).trans (call_one (xs := [.int k]) hc e)
def lInt : List D := [.int 0, .int 1, .int 2, .int 7, .int (-1), .int 1000, .int (-12), .int 1000000000000000000000000000000]
def lStr : List D := [.str "", .str "a", .str "b", .str "p0", .str "posts", .str "A", .str "3..4", .str "seven77"]
def lRest : List D := [.bl true, .bl false, .non]
def Atom (v : D) : Prop := v ∈ lInt ∨ v ∈ lStr ∨ v ∈ lRest
abbrev Ve (deep form : Int) (o : Option S) : Fw.Env := [some (.loc 0), some (.d (.int deep)), some (.d (.int form)), o]
theorem pick_spec {l : List D} {lit : Fw.Env → Ms → R S} {m : Int} {deep form : Int} {o : Option S} {c : Cell} (hl : ∀ env ms, lit env ms = .ok (.d (.lst l)) ms) (hm : (l.length : Int) = m) (h0 : 0 < m) (h1 : m < 18446744073709551616) (hc : IsFeed c) :
    ∃ v c', v ∈ l ∧ IsFeed c' ∧ sRet (mOp gIx lit (mCallN (bndS f__law_take [0, 1] []) (mLen 2 (aCons (mVar 0) (aCons (mC (.d (.int m))) (aNil)))))) (Ve deep form o) [c] = .rt (.d v) [c'] := by
  obtain ⟨r, c', f, r0, r1, e⟩ := ev_take (i := 0) (n := 0) (env := Ve deep form o) (ms := [c]) rfl rfl hc h0 h1
  obtain ⟨v, hv, e2⟩ := gIx_lst (l := l) (r := r) (ms := [c']) r0 (by omega)
  exact ⟨v, c', hv, f, ret_ok ((op_ok (hl _ _) e).trans e2)⟩
theorem lt_ok {env : Fw.Env} {ms : Ms} {i : Nat} {a k : Int} (h : env[i]? = some (some (.d (.int a)))) : mB (mOp gLt (mVar i) (mC (.d (.int k)))) env ms = .ok (decide (a < k)) ms := by
  refine mB_ok ?_
  have e : mVar i env ms = .ok (.d (.int a)) ms := by unfold mVar; rw [h]
  rw [op_ok e (s2 := .d (.int k)) (ms2 := ms) rfl]
  rfl
theorem gt_ok {env : Fw.Env} {ms : Ms} {i : Nat} {a k : Int} (h : env[i]? = some (some (.d (.int a)))) : mB (mOp gGt (mVar i) (mC (.d (.int k)))) env ms = .ok (decide (k < a)) ms := by
  refine mB_ok ?_
  have e : mVar i env ms = .ok (.d (.int a)) ms := by unfold mVar; rw [h]
  rw [op_ok e (s2 := .d (.int k)) (ms2 := ms) rfl]
  rfl
/-- behind the tuples -/
theorem tail_spec {deep form : Int} {o : Option S} {c : Cell} (hc : IsFeed c) : ∃ v c', Atom v ∧ IsFeed c' ∧
 sCons (sIf (mB (mOp gLt (mVar 2) (mC (.d (.int 5))))) (sRet (mOp gIx (mLst (aCons (mC (.d (.int 0))) (aCons (mC (.d (.int 1))) (aCons (mC (.d (.int 2))) (aCons (mC (.d (.int 7))) (aCons (mOp gSubI (mC (.d (.int 0))) (mC (.d (.int 1)))) (aCons (mC (.d (.int 1000))) (aCons (mOp gSubI (mC (.d (.int 0))) (mC (.d (.int 12)))) (aCons (mOp gPowI (mC (.d (.int 10))) (mC (.d (.int 30)))) (aNil)))))))))) (mCallN (bndS f__law_take [0, 1] []) (mLen 2 (aCons (mVar 0) (aCons (mC (.d (.int 8))) (aNil))))))) (sNil))
 (sCons (sIf (mB (mOp gLt (mVar 2) (mC (.d (.int 7))))) (sRet (mOp gIx (mLst (aCons (mC (.d (.str ""))) (aCons (mC (.d (.str "a"))) (aCons (mC (.d (.str "b"))) (aCons (mC (.d (.str "p0"))) (aCons (mC (.d (.str "posts"))) (aCons (mC (.d (.str "A"))) (aCons (mC (.d (.str "3..4"))) (aCons (mC (.d (.str "seven77"))) (aNil)))))))))) (mCallN (bndS f__law_take [0, 1] []) (mLen 2 (aCons (mVar 0) (aCons (mC (.d (.int 8))) (aNil))))))) (sNil))
 (sRet (mOp gIx (mLst (aCons (mC (.d (.bl true))) (aCons (mC (.d (.bl false))) (aCons (mC (.d .non)) (aNil))))) (mCallN (bndS f__law_take [0, 1] []) (mLen 2 (aCons (mVar 0) (aCons (mC (.d (.int 3))) (aNil)))))))) (Ve deep form o) [c] = .rt (.d v) [c'] := by
  by_cases h5 : form < 5
  · obtain ⟨v, c', hv, f, e⟩ := pick_spec (l := lInt) (lit := mLst (aCons (mC (.d (.int 0))) (aCons (mC (.d (.int 1))) (aCons (mC (.d (.int 2))) (aCons (mC (.d (.int 7))) (aCons (mOp gSubI (mC (.d (.int 0))) (mC (.d (.int 1)))) (aCons (mC (.d (.int 1000))) (aCons (mOp gSubI (mC (.d (.int 0))) (mC (.d (.int 12)))) (aCons (mOp gPowI (mC (.d (.int 10))) (mC (.d (.int 30)))) (aNil)))))))))) (m := 8) (deep := deep) (form := form) (o := o) (fun _ _ => rfl) rfl (by decide) (by decide) hc
    refine ⟨v, c', .inl hv, f, cons_rt ?_⟩
    rw [if_t ((lt_ok rfl).trans (by rw [decide_eq_true h5]))]
    exact e
  · by_cases h7 : form < 7
    · obtain ⟨v, c', hv, f, e⟩ := pick_spec (l := lStr) (lit := mLst (aCons (mC (.d (.str ""))) (aCons (mC (.d (.str "a"))) (aCons (mC (.d (.str "b"))) (aCons (mC (.d (.str "p0"))) (aCons (mC (.d (.str "posts"))) (aCons (mC (.d (.str "A"))) (aCons (mC (.d (.str "3..4"))) (aCons (mC (.d (.str "seven77"))) (aNil)))))))))) (m := 8) (deep := deep) (form := form) (o := o) (fun _ _ => rfl) rfl (by decide) (by decide) hc
      refine ⟨v, c', .inr (.inl hv), f, ?_⟩
      rw [cons_nx (by rw [if_f ((lt_ok rfl).trans (by rw [decide_eq_false h5]))]; rfl)]
      refine cons_rt ?_
      rw [if_t ((lt_ok rfl).trans (by rw [decide_eq_true h7]))]
      exact e
    · obtain ⟨v, c', hv, f, e⟩ := pick_spec (l := lRest) (lit := mLst (aCons (mC (.d (.bl true))) (aCons (mC (.d (.bl false))) (aCons (mC (.d .non)) (aNil))))) (m := 3) (deep := deep) (form := form) (o := o) (fun _ _ => rfl) rfl (by decide) (by decide) hc
      refine ⟨v, c', .inr (.inr hv), f, ?_⟩
      rw [cons_nx (by rw [if_f ((lt_ok rfl).trans (by rw [decide_eq_false h5]))]; rfl)]
      rw [cons_nx (by rw [if_f ((lt_ok rfl).trans (by rw [decide_eq_false h7]))]; rfl)]
      exact e
end Ga
set_option Elab.async false
set_option linter.all false
set_option maxRecDepth 100000
set_option maxHeartbeats 1000000
namespace Ga
open PySem L2 PySem.Spec PyProof.Rows Fw
abbrev cond3 : Fw.Env → Ms → R Bool := mAnd (mB (mOp gLt (mVar 2) (mC (.d (.int 3))))) (mB (mOp gGt (mVar 1) (mC (.d (.int 0)))))
theorem cond3_ok {deep form : Int} {o : Option S} {ms : Ms} : cond3 (Ve deep form o) ms = .ok (decide (form < 3) && decide (0 < deep)) ms := by
  by_cases h : form < 3
  · rw [decide_eq_true h]
    exact (and_t ((lt_ok rfl).trans (by rw [decide_eq_true h]))).trans (gt_ok rfl)
  · rw [decide_eq_false h]
    exact and_f ((lt_ok rfl).trans (by rw [decide_eq_false h]))
theorem value0 (n : Nat) {c : Cell} (hc : IsFeed c) : ∃ v c', Atom v ∧ IsFeed c' ∧ f__law_value (n + 1) [.loc 0, .d (.int 0)] [c] = .ok (.d v) [c'] := by
  obtain ⟨r, c1, f1, _, _, e1⟩ := ev_take (i := 0) (n := 0) (k := 9) (env := [some (.loc 0), some (.d (.int 0)), none, none]) (ms := [c]) rfl rfl hc (by decide) (by decide)
  obtain ⟨v, c2, hv, f2, e2⟩ := tail_spec (deep := 0) (form := r) (o := none) f1
  refine ⟨v, c2, hv, f2, ?_⟩
  show fnSem 4 (m__law_value (f__law_value n)) _ _ = _
  refine fn_rt ?_
  refine (cons_nx (e1 := Ve 0 r none) (ms1 := [c1]) (set_ok e1)).trans ((cons_nx (e1 := Ve 0 r none) (ms1 := [c1]) ?_).trans e2)
  refine (if_f (cond3_ok.trans ?_)).trans rfl
  simp
abbrev eltM (rec_ : List S → Ms → R S) : Fw.Env → Ms → R S := mCallN (bndS rec_ [0, 1] []) (mLen 2 (aCons (mVar 0) (aCons (mOp gSubI (mVar 1) (mC (.d (.int 1)))) (aNil))))
theorem elt_ok (n : Nat) {c : Cell} {form : Int} {o : Option S} (hc : IsFeed c) : ∃ v c', Atom v ∧ IsFeed c' ∧ eltM (f__law_value (n + 1)) (Ve 1 form o) [c] = .ok (.d v) [c'] := by
  obtain ⟨v, c', hv, f, e⟩ := value0 n hc
  exact ⟨v, c', hv, f, (callN_ok (len_ok (acons_ok (s := .loc 0) (ms1 := [c]) rfl (acons_ok (s := .d (.int 0)) (ss := []) (ms1 := [c]) rfl rfl)) rfl)).trans (call_one (n := 0) (ms := [c]) (xs := [.int 0]) rfl e)⟩
theorem comp_ok (n : Nat) {form : Int} {o : Option S} : ∀ (xs : List S) (acc : List D) (c : Cell), IsFeed c → acc.length + xs.length ≤ 100 → (∀ v ∈ acc, Atom v) →
    ∃ l c', IsFeed c' ∧ (∀ v ∈ l, Atom v) ∧ l.length = acc.length + xs.length ∧ compL none (gSet 3) (fun _ ms => .ok true ms) (eltM (f__law_value (n + 1))) [3] (Ve 1 form o) xs acc [c] = .ok l [c']
  | [], acc, c, hc, _, ha => ⟨acc, c, hc, ha, rfl, rfl⟩
  | x :: xs, acc, c, hc, hl, ha => by
    obtain ⟨v, c1, hv, f1, e1⟩ := elt_ok n (form := form) (o := some x) hc
    obtain ⟨l, c2, f2, h2, l2, e2⟩ := comp_ok n (form := form) (o := o) xs (acc ++ [v]) c1 f1 (by simp at hl ⊢; omega) (fun u hu => by
      rcases List.mem_append.mp hu with z | z
      · exact ha u z
      · rcases List.mem_singleton.mp z with rfl; exact hv)
    refine ⟨l, c2, f2, h2, by rw [l2]; simp; omega, ?_⟩
    have step : compL none (gSet 3) (fun _ ms => .ok true ms) (eltM (f__law_value (n + 1))) [3] (Ve 1 form o) (x :: xs) acc [c] =
      (eltM (f__law_value (n + 1)) (Ve 1 form (some x)) [c]).bind fun y ms2 => match y with
        | .d d => match few acc.length with
          | true => compL none (gSet 3) (fun _ ms => .ok true ms) (eltM (f__law_value (n + 1))) [3] (Ve 1 form o) xs (acc ++ [d]) ms2
          | false => .bad
        | _ => .bad := rfl
    rw [step, e1]
    show (match few acc.length with
      | true => compL none (gSet 3) (fun _ ms => .ok true ms) (eltM (f__law_value (n + 1))) [3] (Ve 1 form o) xs (acc ++ [v]) [c1]
      | false => .bad) = _
    have : few acc.length = true := by unfold few; rw [Nat.ble_eq]; simp at hl; omega
    rw [this]
    exact e2
def Val1 (v : D) : Prop := Atom v ∨ ∃ l, v = .tup l ∧ l.length ≤ 3 ∧ ∀ x ∈ l, Atom x
theorem value1 (n : Nat) {c : Cell} (hc : IsFeed c) : ∃ v c', Val1 v ∧ IsFeed c' ∧ f__law_value (n + 2) [.loc 0, .d (.int 1)] [c] = .ok (.d v) [c'] := by
  obtain ⟨r, c1, f1, _, _, e1⟩ := ev_take (i := 0) (n := 0) (k := 9) (env := [some (.loc 0), some (.d (.int 1)), none, none]) (ms := [c]) rfl rfl hc (by decide) (by decide)
  by_cases h3 : r < 3
  · obtain ⟨j, c2, f2, j0, j1, e2⟩ := ev_take (i := 0) (n := 0) (k := 4) (env := Ve 1 r none) (ms := [c1]) rfl rfl f1 (by decide) (by decide)
    obtain ⟨l, c3, f3, hl, ll, e3⟩ := comp_ok n (form := r) (o := none) (rngS 0 j.toNat) [] c2 f2 (by simp [rngS]; omega) (fun v hv => nomatch hv)
    refine ⟨.tup l, c3, .inr ⟨l, rfl, by rw [ll]; simp [rngS]; omega, hl⟩, f3, ?_⟩
    show fnSem 4 (m__law_value (f__law_value (n + 1))) _ _ = _
    refine fn_rt ?_
    refine (cons_nx (e1 := Ve 1 r none) (ms1 := [c1]) (set_ok e1)).trans (cons_rt ?_)
    refine (if_t (ms1 := [c1]) (cond3_ok.trans ?_)).trans ?_
    · rw [decide_eq_true h3]; rfl
    refine ret_ok ((b1_ok (acons_ok (s := .d (.lst l)) (ms1 := [c3]) (ss := []) ?_ rfl)).trans rfl)
    have hi : Fw.iRng1 (aCons (mCallN (bndS f__law_take [0, 1] []) (mLen 2 (aCons (mVar 0) (aCons (mC (.d (.int 4))) (aNil))))) (aNil)) (Ve 1 r none) [c1] = .ok (rngS 0 j.toNat, none) [c2] := by
      unfold Fw.iRng1
      rw [acons_ok e2 (ss := []) rfl]
      show (match Fw.inR j with
        | true => R.ok (rngS 0 j.toNat, none) _
        | false => .bad) = _
      have : Fw.inR j = true := by unfold Fw.inR; rw [decide_eq_true_eq]; omega
      rw [this]
      rfl
    unfold mLc
    rw [hi]
    show (noExA (compL none (gSet 3) _ _ [3] (Ve 1 r none) (rngS 0 j.toNat) [] [c2])).bind (lcEnd false) = _
    rw [e3]
    rfl
  · obtain ⟨v, c2, hv, f2, e2⟩ := tail_spec (deep := 1) (form := r) (o := none) f1
    refine ⟨v, c2, .inl hv, f2, ?_⟩
    show fnSem 4 (m__law_value (f__law_value (n + 1))) _ _ = _
    refine fn_rt ?_
    refine (cons_nx (e1 := Ve 1 r none) (ms1 := [c1]) (set_ok e1)).trans ((cons_nx (e1 := Ve 1 r none) (ms1 := [c1]) ?_).trans e2)
    refine (if_f (cond3_ok.trans ?_)).trans rfl
    rw [decide_eq_false h3]; rfl
/-- a bound as drawn -/
def Bnd (v : D) : Prop := Val1 v ∨ ∃ i : Int, v = .int i ∧ -2 ≤ i ∧ i < 1000000000000
theorem eqI {a b : Int} {ms : Ms} : gEq false (.d (.int a)) (.d (.int b)) ms = .ok (.d (.bl (decide (a = b)))) ms := by
  show R.ok (S.d (D.bl (if false = true then !PyData.eqv (.int a) (.int b) else PyData.eqv (.int a) (.int b)))) ms = _
  first | rfl | (have e : PyData.eqv (.int a) (.int b) = decide (a = b) := (by first | rfl | (unfold PyData.eqv; rfl) | (simp [PyData.eqv])); rw [e]; rfl)
theorem bound_spec {c : Cell} (hc : IsFeed c) : ∃ v c', Bnd v ∧ IsFeed c' ∧ f__law_bound [.loc 0] [c] = .ok (.d v) [c'] := by
  obtain ⟨r, c1, f1, r0, r1, e1⟩ := ev_take (i := 0) (n := 0) (k := 8) (env := [some (.loc 0)]) (ms := [c]) rfl rfl hc (by decide) (by decide)
  have ht : mB (mOp (gEq false) (mCallN (bndS f__law_take [0, 1] []) (mLen 2 (aCons (mVar 0) (aCons (mC (.d (.int 8))) (aNil))))) (mC (.d (.int 0)))) [some (.loc 0)] [c] = .ok (decide (r = 0)) [c1] := by
    refine mB_ok ?_
    rw [op_ok e1 (s2 := .d (.int 0)) (ms2 := [c1]) rfl]
    exact eqI
  by_cases h : r = 0
  · obtain ⟨v, c2, hv, f2, e2⟩ := value1 1 f1
    refine ⟨v, c2, .inl hv, f2, ?_⟩
    refine fn_rt (cons_rt ((if_t (ht.trans (by rw [decide_eq_true h]))).trans (ret_ok ?_)))
    exact (callN_ok (len_ok (acons_ok (s := .loc 0) (ms1 := [c1]) rfl (acons_ok (s := .d (.int 1)) (ss := []) (ms1 := [c1]) rfl rfl)) rfl)).trans (call_one (n := 0) (ms := [c1]) (xs := [.int 1]) rfl e2)
  · obtain ⟨i1, c2, f2, a0, a1, e2⟩ := ev_take (i := 0) (n := 0) (k := 4) (env := [some (.loc 0)]) (ms := [c1]) rfl rfl f1 (by decide) (by decide)
    obtain ⟨v, hv, ev⟩ := gIx_lst (l := [.int 4, .int 30, .int 1001, .int 1000000000000]) (r := i1) (ms := [c2]) a0 (by simpa using a1)
    obtain ⟨i, hi, i0, i1⟩ : ∃ i : Int, v = .int i ∧ 0 < i ∧ i ≤ 1000000000000 := by
      simp only [List.mem_cons, List.not_mem_nil, or_false] at hv
      rcases hv with rfl | rfl | rfl | rfl <;> exact ⟨_, rfl, by decide, by decide⟩
    subst hi
    obtain ⟨q, c3, f3, q0, q1, e3⟩ := take_spec (m := i) i0 (by omega) f2
    obtain ⟨i2, c4, f4, b0, b1, e4⟩ := ev_take (i := 0) (n := 0) (k := 4) (env := [some (.loc 0)]) (ms := [c3]) rfl rfl f3 (by decide) (by decide)
    obtain ⟨u, hu, eu⟩ := gIx_lst (l := [.int 0, .int 0, .int 0, .int 2]) (r := i2) (ms := [c4]) b0 (by simpa using b1)
    obtain ⟨k, hk, k0, k1⟩ : ∃ k : Int, u = .int k ∧ 0 ≤ k ∧ k ≤ 2 := by
      simp only [List.mem_cons, List.not_mem_nil, or_false] at hu
      rcases hu with rfl | rfl | rfl | rfl <;> exact ⟨_, rfl, by decide, by decide⟩
    subst hk
    refine ⟨.int (q - k), c4, .inr ⟨_, rfl, by omega, by omega⟩, f4, ?_⟩
    refine fn_rt ((cons_nx (e1 := [some (.loc 0)]) (ms1 := [c1]) ((if_f (ht.trans (by rw [decide_eq_false h]))).trans rfl)).trans (ret_ok ?_))
    have ea : mOp gIx (mLst (aCons (mC (.d (.int 4))) (aCons (mC (.d (.int 30))) (aCons (mC (.d (.int 1001))) (aCons (mOp gPowI (mC (.d (.int 10))) (mC (.d (.int 12)))) (aNil)))))) (mCallN (bndS f__law_take [0, 1] []) (mLen 2 (aCons (mVar 0) (aCons (mC (.d (.int 4))) (aNil))))) [some (.loc 0)] [c1] = .ok (.d (.int i)) [c2] :=
      (op_ok (s1 := .d (.lst [.int 4, .int 30, .int 1001, .int 1000000000000])) (ms1 := [c1]) rfl e2).trans ev
    have eb : mOp gIx (mLst (aCons (mC (.d (.int 0))) (aCons (mC (.d (.int 0))) (aCons (mC (.d (.int 0))) (aCons (mC (.d (.int 2))) (aNil)))))) (mCallN (bndS f__law_take [0, 1] []) (mLen 2 (aCons (mVar 0) (aCons (mC (.d (.int 4))) (aNil))))) [some (.loc 0)] [c3] = .ok (.d (.int k)) [c4] :=
      (op_ok (s1 := .d (.lst [.int 0, .int 0, .int 0, .int 2])) (ms1 := [c3]) rfl e4).trans eu
    have ec : mCallN (bndS f__law_take [0, 1] []) (mLen 2 (aCons (mVar 0) (aCons (mOp gIx (mLst (aCons (mC (.d (.int 4))) (aCons (mC (.d (.int 30))) (aCons (mC (.d (.int 1001))) (aCons (mOp gPowI (mC (.d (.int 10))) (mC (.d (.int 12)))) (aNil)))))) (mCallN (bndS f__law_take [0, 1] []) (mLen 2 (aCons (mVar 0) (aCons (mC (.d (.int 4))) (aNil)))))) (aNil)))) [some (.loc 0)] [c1] = .ok (.d (.int q)) [c3] :=
      (callN_ok (len_ok (acons_ok (me := mVar 0) (s := .loc 0) (ms1 := [c1]) rfl (acons_ok (al := aNil) ea (ss := []) rfl)) rfl)).trans (call_one (n := 0) (ms := [c2]) (xs := [.int i]) rfl e3)
    exact (op_ok ec eb).trans rfl
end Ga
set_option Elab.async false
set_option linter.all false
set_option maxRecDepth 100000
set_option maxHeartbeats 1000000
namespace Ga
open PySem L2 PySem.Spec PyProof.Rows Fw
/-- plain data as drawn -/
def Dat : D → Prop
  | .int _ => True
  | .str _ => True
  | .bl _ => True
  | .non => True
  | .tup _ => True
  | _ => False
def whole : D → Bool
  | .int _ => true
  | _ => false
theorem whole_ok {v : D} {ms : Ms} (h : Dat v) : f_is_whole [.d v] ms = .ok (.d (.bl (whole v))) ms := by
  cases v <;> first | rfl | exact h.elim
def fits (x y : D) : Bool := match x, y with
  | .int a, .int b => decide (0 ≤ a) && decide (a ≤ b)
  | _, _ => false
abbrev Vi (x y : D) : Fw.Env := [some (.loc 0), some (.d x), some (.d y)]
theorem isw {i : Nat} {env : Fw.Env} {ms : Ms} {v : D} (h : env[i]? = some (some (.d v))) (hv : Dat v) : mB (mCallN (bndS f_is_whole [0] []) (mLen 1 (aCons (mVar i) (aNil)))) env ms = .ok (whole v) ms := by
  have ev : mVar i env ms = .ok (.d v) ms := by unfold mVar; rw [h]
  refine mB_ok ?_
  exact (callN_ok (len_ok (acons_ok ev (ss := []) rfl) rfl)).trans (call_data (xs := [v]) (m0 := []) (whole_ok hv))
theorem init_spec {x y : D} (hx : Dat x) (hy : Dat y) : f_Span_init [.loc 0, .d x, .d y] [.ins 4 []] = (match fits x y with
    | true => .ok (.d .non) [.ins 4 [("low", x), ("high", y)]]
    | false => .ex 1 [y, x] [.ins 4 []]) := by
  have raise : sRaise 1 2 (mLen 2 (aCons (mVar 1) (aCons (mVar 2) (aNil)))) (Vi x y) [.ins 4 []] = .ex 1 [y, x] (Vi x y) [.ins 4 []] := rfl
  have bad : ∀ (t : Fw.Env → Ms → R Bool), t (Vi x y) [.ins 4 []] = .ok true [.ins 4 []] → fnSem 3 (sCons (sIf t (sRaise 1 2 (mLen 2 (aCons (mVar 1) (aCons (mVar 2) (aNil))))) (sNil))
      (sCons (sFldS "low" [4] (mVar 1) (mVar 0)) (sFldS "high" [4] (mVar 2) (mVar 0)))) [.loc 0, .d x, .d y] [.ins 4 []] = .ex 1 [y, x] [.ins 4 []] := fun t ht => by
    unfold fnSem
    rw [show start0 3 [.loc 0, .d x, .d y] = Vi x y from rfl, cons_ex ((if_t ht).trans raise)]
  have w1 := isw (i := 1) (env := Vi x y) (ms := [.ins 4 []]) rfl hx
  have w2 := isw (i := 2) (env := Vi x y) (ms := [.ins 4 []]) rfl hy
  cases a1 : whole x with
  | false =>
    have hf : fits x y = false := by cases x <;> first | rfl | cases a1
    rw [hf]
    exact bad _ (or_t ((not_ok w1).trans (by rw [a1]; rfl)))
  | true =>
    cases a2 : whole y with
    | false =>
      have hf : fits x y = false := by cases y <;> first | (cases x <;> rfl) | cases a2
      rw [hf]
      exact bad _ ((or_f ((not_ok w1).trans (by rw [a1]; rfl))).trans (or_t ((not_ok w2).trans (by rw [a2]; rfl))))
    | true =>
      cases x <;> first | cases a1 | skip
      cases y <;> first | cases a2 | skip
      rename_i a b
      have w3 : mNot (mB (mChain gLe gLe (mC (.d (.int 0))) (mVar 1) (mVar 2))) (Vi (.int a) (.int b)) [.ins 4 []] = .ok (!(decide (0 ≤ a) && decide (a ≤ b))) [.ins 4 []] := by
        refine not_ok (mB_ok ?_)
        exact chain_ok (s1 := .d (.int 0)) (s2 := .d (.int a)) (s3 := .d (.int b)) rfl rfl rfl rfl rfl
      have t3 : ∀ r, (mOr (mNot (mB (mCallN (bndS f_is_whole [0] []) (mLen 1 (aCons (mVar 1) (aNil)))))) (mOr (mNot (mB (mCallN (bndS f_is_whole [0] []) (mLen 1 (aCons (mVar 2) (aNil)))))) (mNot (mB (mChain gLe gLe (mC (.d (.int 0))) (mVar 1) (mVar 2)))))) (Vi (.int a) (.int b)) [.ins 4 []] = r ↔ .ok (!(decide (0 ≤ a) && decide (a ≤ b))) [.ins 4 []] = r := fun r => by
        rw [or_f ((not_ok w1).trans rfl), or_f ((not_ok w2).trans rfl), w3]
      cases hb : (decide (0 ≤ a) && decide (a ≤ b)) with
      | false =>
        have hf : fits (.int a) (.int b) = false := hb
        rw [hf]
        exact bad _ ((t3 _).mpr (by rw [hb]; rfl))
      | true =>
        have hf : fits (.int a) (.int b) = true := hb
        rw [hf]
        exact fn_nx ((cons_nx (e1 := Vi (.int a) (.int b)) (ms1 := [.ins 4 []]) ((if_f ((t3 (.ok false [.ins 4 []])).mpr (by rw [hb]; rfl))).trans rfl)).trans rfl)
/-- the class called -/
def mk (x y : D) : R S := match fits x y with
  | true => .ok (.d (.obj 4 [x, y])) []
  | false => .ex 1 [y, x] []
theorem mk_spec {x y : D} (hx : Dat x) (hy : Dat y) : mkS 4 (fld 4) (bndS f_Span_init [0, 1, 2] []) [.d x, .d y] [] = mk x y := by
  have e := init_spec hx hy
  unfold mk
  cases hf : fits x y with
  | true =>
    rw [hf] at e
    have c := call_one (n := 0) (ms := [.ins 4 []]) (xs := [x, y]) rfl e
    unfold mkS
    rw [show bndS f_Span_init [0, 1, 2] [] (S.loc ([] : Ms).length :: [.d x, .d y]) ([] ++ [.ins 4 []]) = callSem f_Span_init (.loc 0 :: [x, y].map .d) [.ins 4 []] from rfl, c]
    rfl
  | false =>
    rw [hf] at e
    have c := call_ex (n := 0) (ms := [.ins 4 []]) (xs := [x, y]) rfl e
    unfold mkS
    rw [show bndS f_Span_init [0, 1, 2] [] (S.loc ([] : Ms).length :: [.d x, .d y]) ([] ++ [.ins 4 []]) = callSem f_Span_init (.loc 0 :: [x, y].map .d) [.ins 4 []] from rfl, c]
    rfl
theorem mk_spec2 {x y : D} (hx : Dat x) (hy : Dat y) : mkS 4 (fld 4) (bndS f_Span_init [0, 2, 1] []) [.d y, .d x] [] = mk x y := (mk_spec hx hy)
end Ga
set_option Elab.async false
set_option linter.all false
set_option maxRecDepth 100000
set_option maxHeartbeats 1000000
namespace Ga
open PySem L2 PySem.Spec PyProof.Rows Fw
abbrev tx (a : Int) : Str := Str.ofString (toString a)
def Sm (a : Int) : Prop := a.natAbs < 10 ^ 31
theorem tx_len {a : Int} (h : Sm a) : (tx a).length ≤ 32 := by
  have := int_text_length_le10 (k := 31) (by decide) h
  rw [PySem.ofString_length]
  exact this
theorem showI_sm {a : Int} (h : Sm a) : showI a = true := by
  unfold showI
  rw [decide_eq_true_eq]
  exact Nat.lt_of_lt_of_le h (Nat.le_trans (by decide : 10 ^ 31 ≤ 2 ^ 104) (Nat.pow_le_pow_right (by decide) (by decide)))
theorem str_int {a : Int} (h : Sm a) {ms : Ms} : c1 strD [.d (.int a)] ms = .ok (.d (.str (tx a))) ms := by
  show (match (match showI a with
    | true => some (D.str (tx a))
    | false => none) with
    | some d => R.ok (S.d d) ms
    | none => .bad) = _
  rw [showI_sm h]
theorem addS {x y : Str} {ms : Ms} (h : x.length + y.length ≤ 1000000) : gAdd (.d (.str x)) (.d (.str y)) ms = .ok (.d (.str (x ++ y))) ms := by
  have e : gAddS (.d (.str x)) (.d (.str y)) ms = .ok (.d (.str (x ++ y))) ms := by
    unfold gAddS
    have : few (x.length + y.length) = true := by unfold few; rw [Nat.ble_eq]; exact h
    simp only [this]
  unfold gAdd gOr
  rw [show gAddI (.d (.str x)) (.d (.str y)) ms = .bad from rfl]
  simp only [e]
theorem mulS {x : Str} {n : Int} {ms : Ms} (h : x.length ≤ 1000) (h1 : -1000 ≤ n) (h2 : n ≤ 1000) : gMul (.d (.str x)) (.d (.int n)) ms = .ok (.d (.str (strMul x n))) ms := by
  have e : gMulS (.d (.str x)) (.d (.int n)) ms = .ok (.d (.str (strMul x n))) ms := by
    show (match decide (x.length ≤ 1000 ∧ -1000 ≤ n ∧ n ≤ 1000) with
      | true => R.ok (S.d (D.str (strMul x n))) ms
      | false => .bad) = _
    rw [decide_eq_true (⟨h, h1, h2⟩ : x.length ≤ 1000 ∧ -1000 ≤ n ∧ n ≤ 1000)]
  unfold gMul gOr
  rw [show gMulI (.d (.str x)) (.d (.int n)) ms = .bad from rfl]
  simp only [e]
theorem mul0 (x : Str) : strMul x 0 = Str.empty := by
  unfold strMul
  first | rfl | (simp [Txt.mul]) | (unfold Txt.mul; rfl)
theorem mul1 (x : Str) : strMul x 1 = x := by
  unfold strMul
  first | rfl | (simp [Txt.mul]) | (unfold Txt.mul; simp)
def bad (v : D) : Bool := match v with
  | .int i => decide (i < 0)
  | _ => true
def sh (a b : Int) : Str := match decide (a = b) with
  | true => tx a
  | false => (tx a ++ Str.ofString "..") ++ tx b
def rp (a b : Int) : Str := (((Str.ofString "Span(" ++ tx a) ++ Str.ofString ", ") ++ tx b) ++ Str.ofString ")"
def Rs (x y : D) : D := match fits x y, x, y with
  | true, .int a, .int b => .tup [.str "span", x, y, .bl (decide (a = b)), .str (sh a b), .str (rp a b)]
  | _, _, _ => .tup [.str "invalid", x, y, .bl false]
/-! ### what the law expects -/
abbrev Vd (x y : D) (o p : Option S) : Fw.Env := [some (.d x), some (.d y), o, p]
abbrev badT : Fw.Env → Ms → R Bool := mOr (mNot (mB (mB1 (cIsi [] [] (fun _ _ => false)) (aCons (mVar 2) (aCons (mC (.d (.ty "int"))) (aNil)))))) (mOr (mB (mB1 (cIsi [] [] (fun _ _ => false)) (aCons (mVar 2) (aCons (mC (.d (.ty "bool"))) (aNil))))) (mB (mOp gLt (mVar 2) (mC (.d (.int 0))))))
theorem badT_ok {x y v : D} {p : Option S} {ms : Ms} (h : Dat v) : badT (Vd x y (some (.d v)) p) ms = .ok (bad v) ms := by
  cases v <;> first | exact h.elim | skip
  case int i =>
    refine (or_f (ms1 := ms) rfl).trans ((or_f (ms1 := ms) rfl).trans ?_)
    exact lt_ok rfl
  all_goals first
    | exact or_t rfl
    | exact (or_f (ms1 := ms) rfl).trans (or_t rfl)
abbrev inv (x y : D) : D := .tup [.str "invalid", x, y, .bl false]
theorem due_spec {x y : D} (hx : Dat x) (hy : Dat y) (sx : ∀ a, x = .int a → Sm a) (sy : ∀ a, y = .int a → Sm a) : f__law_due [.d x, .d y] [] = .ok (.d (Rs x y)) [] := by
  have step : ∀ (v : D) (rest : List S) (o : Option S), Dat v → forL none (gSet 2) (sIf badT (sRet (mTup (aCons (mC (.d (.str "invalid"))) (aCons (mVar 0) (aCons (mVar 1) (aCons (mC (.d (.bl false))) (aNil))))))) (sNil)) (.d v :: rest) (Vd x y o none) [] =
      (match bad v with
        | true => T.rt (.d (inv x y)) []
        | false => forL none (gSet 2) (sIf badT (sRet (mTup (aCons (mC (.d (.str "invalid"))) (aCons (mVar 0) (aCons (mVar 1) (aCons (mC (.d (.bl false))) (aNil))))))) (sNil)) rest (Vd x y (some (.d v)) none) []) := fun v rest o hv => by
    rw [forL_cons (e1 := Vd x y (some (.d v)) none) rfl]
    have := badT_ok (x := x) (y := y) (p := none) (ms := []) hv
    cases hb : bad v with
    | true => rw [hb] at this; rw [if_t this]; rfl
    | false => rw [hb] at this; rw [if_f this]; rfl
  have loop : ∀ t, sFor (iTup (mTup (aCons (mVar 0) (aCons (mVar 1) (aNil))))) (gSet 2) (sIf badT (sRet (mTup (aCons (mC (.d (.str "invalid"))) (aCons (mVar 0) (aCons (mVar 1) (aCons (mC (.d (.bl false))) (aNil))))))) (sNil)) (Vd x y none none) [] = t ↔
      (match bad x with
        | true => T.rt (.d (inv x y)) []
        | false => match bad y with
          | true => T.rt (.d (inv x y)) []
          | false => .nx (Vd x y (some (.d y)) none) []) = t := fun t => by
    rw [for_ok (xs := [.d x, .d y]) (ms1 := []) rfl, step x [.d y] none hx]
    cases bad x with
    | true => rfl
    | false =>
      dsimp only
      rw [step y [] (some (.d x)) hy]
      cases bad y <;> rfl
  cases hbx : bad x with
  | true =>
    have hf : fits x y = false := by
      cases x <;> first | rfl | skip
      cases y <;> first | rfl | skip
      rename_i a b
      have : a < 0 := of_decide_eq_true hbx
      show (decide (0 ≤ a) && decide (a ≤ b)) = false
      rw [decide_eq_false (by omega)]; rfl
    have hr : Rs x y = inv x y := by unfold Rs; rw [hf]
    rw [hr]
    exact fn_rt (cons_rt ((loop _).mpr (by rw [hbx])))
  | false =>
    cases hby : bad y with
    | true =>
      have hf : fits x y = false := by
        cases x <;> first | rfl | skip
        cases y <;> first | rfl | skip
        rename_i a b
        have h1 : ¬ a < 0 := of_decide_eq_false hbx
        have h2 : b < 0 := of_decide_eq_true hby
        show (decide (0 ≤ a) && decide (a ≤ b)) = false
        rw [decide_eq_false (p := a ≤ b) (by omega), Bool.and_false]
      have hr : Rs x y = inv x y := by unfold Rs; rw [hf]
      rw [hr]
      exact fn_rt (cons_rt ((loop _).mpr (by rw [hbx, hby])))
    | false =>
      cases x <;> first | cases hbx | skip
      cases y <;> first | cases hby | skip
      rename_i a b
      have a0 : ¬ a < 0 := of_decide_eq_false hbx
      have b0 : ¬ b < 0 := of_decide_eq_false hby
      have la := (loop (.nx (Vd (.int a) (.int b) (some (.d (.int b))) none) [])).mpr (by rw [hbx, hby])
      have Sa := sx a rfl
      have Sb := sy b rfl
      have gt : mB (mOp gGt (mVar 0) (mVar 1)) (Vd (.int a) (.int b) (some (.d (.int b))) none) [] = .ok (decide (b < a)) [] := rfl
      by_cases hab : b < a
      · have hf : fits (.int a) (.int b) = false := by
          show (decide (0 ≤ a) && decide (a ≤ b)) = false
          rw [decide_eq_false (p := a ≤ b) (by omega), Bool.and_false]
        have hr : Rs (.int a) (.int b) = inv (.int a) (.int b) := by unfold Rs; rw [hf]
        rw [hr]
        refine fn_rt ((cons_nx la).trans (cons_rt ((if_t (gt.trans (by rw [decide_eq_true hab]))).trans rfl)))
      · have hf : fits (.int a) (.int b) = true := by
          show (decide (0 ≤ a) && decide (a ≤ b)) = true
          rw [decide_eq_true (by omega : 0 ≤ a), decide_eq_true (by omega : a ≤ b)]; rfl
        have hr : Rs (.int a) (.int b) = .tup [.str "span", .int a, .int b, .bl (decide (a = b)), .str (sh a b), .str (rp a b)] := by unfold Rs; rw [hf]
        rw [hr]
        have tl := tx_len Sa
        have tl2 := tx_len Sb
        have ta : ∀ o p, mB1 (c1 strD) (aCons (mVar 0) (aNil)) (Vd (.int a) (.int b) o p) [] = .ok (.d (.str (tx a))) [] := fun o p => (b1_ok (acons_ok (s := .d (.int a)) (ss := []) (ms1 := []) rfl rfl)).trans (str_int Sa)
        have tb : ∀ o p, mB1 (c1 strD) (aCons (mVar 1) (aNil)) (Vd (.int a) (.int b) o p) [] = .ok (.d (.str (tx b))) [] := fun o p => (b1_ok (acons_ok (s := .d (.int b)) (ss := []) (ms1 := []) rfl rfl)).trans (str_int Sb)
        have l2 : (Str.ofString "..").length = 2 := rfl
        have e1 : mOp gAdd (mC (.d (.str ".."))) (mB1 (c1 strD) (aCons (mVar 1) (aNil))) (Vd (.int a) (.int b) (some (.d (.int b))) none) [] = .ok (.d (.str (Str.ofString ".." ++ tx b))) [] :=
          (op_ok (s1 := .d (.str "..")) (ms1 := []) rfl (tb _ _)).trans (addS (by rw [l2]; omega))
        have e2 : mB1 (c1 intD) (aCons (mOp gLt (mVar 0) (mVar 1)) (aNil)) (Vd (.int a) (.int b) (some (.d (.int b))) none) [] = .ok (.d (.int (if decide (a < b) then 1 else 0))) [] := rfl
        have e3 : mOp gMul (mOp gAdd (mC (.d (.str ".."))) (mB1 (c1 strD) (aCons (mVar 1) (aNil)))) (mB1 (c1 intD) (aCons (mOp gLt (mVar 0) (mVar 1)) (aNil))) (Vd (.int a) (.int b) (some (.d (.int b))) none) [] = .ok (.d (.str (strMul (Str.ofString ".." ++ tx b) (if decide (a < b) then 1 else 0)))) [] :=
          (op_ok e1 e2).trans (mulS (by rw [PySem.Str.length_append, l2]; omega) (by split <;> decide) (by split <;> decide))
        have e4 : strMul (Str.ofString ".." ++ tx b) (if decide (a < b) then 1 else 0) = (match decide (a = b) with
            | true => Str.empty
            | false => Str.ofString ".." ++ tx b) := by
          by_cases h : a = b
          · subst h
            rw [decide_eq_false (Int.lt_irrefl a), decide_eq_true rfl]
            exact mul0 _
          · rw [decide_eq_true (by omega : a < b), decide_eq_false h]
            exact mul1 _
        have e5 : mOp gAdd (mB1 (c1 strD) (aCons (mVar 0) (aNil))) (mOp gMul (mOp gAdd (mC (.d (.str ".."))) (mB1 (c1 strD) (aCons (mVar 1) (aNil)))) (mB1 (c1 intD) (aCons (mOp gLt (mVar 0) (mVar 1)) (aNil)))) (Vd (.int a) (.int b) (some (.d (.int b))) none) [] = .ok (.d (.str (sh a b))) [] := by
          rw [e4] at e3
          refine (op_ok (ta _ _) e3).trans ?_
          unfold sh
          cases decide (a = b) with
          | true =>
            refine (addS (by show (tx a).length + 0 ≤ _; omega)).trans ?_
            rw [PySem.Str.append_empty]
          | false =>
            refine (addS (by rw [PySem.Str.length_append, l2]; omega)).trans ?_
            rw [PySem.Str.append_assoc]
        have b1 : mOp gAdd (mC (.d (.str "Span("))) (mB1 (c1 strD) (aCons (mVar 0) (aNil))) (Vd (.int a) (.int b) (some (.d (.int b))) (some (.d (.str (sh a b))))) [] = .ok (.d (.str (Str.ofString "Span(" ++ tx a))) [] :=
          (op_ok (s1 := .d (.str "Span(")) (ms1 := []) rfl (ta _ _)).trans (addS (by rw [show (Str.ofString "Span(").length = 5 from rfl]; omega))
        have b2 := (op_ok b1 (s2 := .d (.str ", ")) (mb := mC (.d (.str ", "))) (ms2 := []) rfl).trans (addS (x := Str.ofString "Span(" ++ tx a) (y := Str.ofString ", ") (ms := []) (by rw [PySem.Str.length_append, show (Str.ofString "Span(").length = 5 from rfl, show (Str.ofString ", ").length = 2 from rfl]; omega))
        have b3 := (op_ok b2 (tb (some (.d (.int b))) (some (.d (.str (sh a b)))))).trans (addS (ms := []) (by rw [PySem.Str.length_append, PySem.Str.length_append, show (Str.ofString "Span(").length = 5 from rfl, show (Str.ofString ", ").length = 2 from rfl]; omega))
        have b4 := (op_ok b3 (s2 := .d (.str ")")) (mb := mC (.d (.str ")"))) (ms2 := []) rfl).trans (addS (y := Str.ofString ")") (ms := []) (by rw [PySem.Str.length_append, PySem.Str.length_append, PySem.Str.length_append, show (Str.ofString "Span(").length = 5 from rfl, show (Str.ofString ", ").length = 2 from rfl, show (Str.ofString ")").length = 1 from rfl]; omega))
        have eq1 : mOp (gEq false) (mVar 0) (mVar 1) (Vd (.int a) (.int b) (some (.d (.int b))) (some (.d (.str (sh a b))))) [] = .ok (.d (.bl (decide (a = b)))) [] := (op_ok (s1 := .d (.int a)) (s2 := .d (.int b)) (ms1 := []) (ms2 := []) rfl rfl).trans eqI
        refine fn_rt ((cons_nx la).trans ((cons_nx (e1 := Vd (.int a) (.int b) (some (.d (.int b))) none) (ms1 := []) ((if_f (gt.trans (by rw [decide_eq_false hab]))).trans rfl)).trans ((cons_nx (e1 := Vd (.int a) (.int b) (some (.d (.int b))) (some (.d (.str (sh a b))))) (ms1 := []) (set_ok e5)).trans (ret_ok ?_))))
        unfold mTup
        rw [acons_ok (s := .d (.str "span")) (ms1 := []) rfl (acons_ok (s := .d (.int a)) (ms1 := []) rfl (acons_ok (s := .d (.int b)) (ms1 := []) rfl (acons_ok eq1 (acons_ok (s := .d (.str (sh a b))) (ms1 := []) rfl (acons_ok b4 (al := aNil) (ss := []) (ms2 := []) rfl)))))]
        rfl
end Ga
set_option Elab.async false
set_option linter.all false
set_option maxRecDepth 100000
set_option maxHeartbeats 1000000
namespace Ga
open PySem L2 PySem.Spec PyProof.Rows Fw
def tk (x y : D) (e : Fw.Env) : T := match fits x y with
  | true => .rt (.d (.obj 4 [x, y])) []
  | false => .ex 1 [y, x] e []
theorem ret_tk {x y : D} {me : Fw.Env → Ms → R S} {env : Fw.Env} (h : me env [] = mk x y) : sRet me env [] = tk x y env := by
  unfold mk at h
  unfold tk
  cases hf : fits x y with
  | true => rw [hf] at h; exact ret_ok h
  | false => rw [hf] at h; exact ret_ex h
theorem cons_tk {x y : D} {m k : Fw.Env → Ms → T} {env e : Fw.Env} (h : m env [] = tk x y e) : sCons m k env [] = tk x y e := by
  unfold tk at h ⊢
  cases hf : fits x y with
  | true => rw [hf] at h; exact cons_rt h
  | false => rw [hf] at h; exact cons_ex h
theorem fn_tk {x y : D} {m : Fw.Env → Ms → T} {e : Fw.Env} {n : Nat} {ss : List S} (h : m (start0 n ss) [] = tk x y e) : fnSem n m ss [] = mk x y := by
  unfold tk at h
  unfold mk
  cases hf : fits x y with
  | true => rw [hf] at h; exact fn_rt h
  | false => rw [hf] at h; exact fn_ex h
theorem call_mk {x y : D} {sem : List S → Ms → R S} {xs : List D} (h : sem (xs.map .d) [] = mk x y) : callSem sem (xs.map .d) [] = mk x y := by
  unfold mk at h ⊢
  cases hf : fits x y with
  | true => rw [hf] at h; exact call_data h
  | false => rw [hf] at h; exact call_dataX h
theorem rod_spec {v : D} (h : Dat v) : f_Span_rod [.d (.fn 4), .d v] [] = mk v v :=
  fn_tk (ret_tk ((show mCallV [(4, mkS 4 (fld 4) (bndS f_Span_init [0, 1, 2] []))] (mVar 0) (mLen 2 (aCons (mVar 1) (aCons (mVar 1) (aNil)))) (start0 2 [.d (.fn 4), .d v]) [] = mkS 4 (fld 4) (bndS f_Span_init [0, 1, 2] []) [.d v, .d v] [] from rfl).trans (mk_spec h h)))
theorem rope_spec {v : D} (h : Dat v) : f_Span_rope [.d (.fn 4), .d v] [] = mk (.int 0) v :=
  fn_tk (ret_tk ((show mCallV [(4, mkS 4 (fld 4) (bndS f_Span_init [0, 1, 2] []))] (mVar 0) (mLen 2 (aCons (mC (.d (.int 0))) (aCons (mVar 1) (aNil)))) (start0 2 [.d (.fn 4), .d v]) [] = mkS 4 (fld 4) (bndS f_Span_init [0, 1, 2] []) [.d (.int 0), .d v] [] from rfl).trans (mk_spec trivial h)))
abbrev Vm (form : Int) (v u : D) : Fw.Env := [some (.d (.int form)), some (.d v), some (.d u)]
theorem eqc {env : Fw.Env} {ms : Ms} {form k : Int} (h : env[0]? = some (some (.d (.int form)))) : mB (mOp (gEq false) (mVar 0) (mC (.d (.int k)))) env ms = .ok (decide (form = k)) ms := by
  have e : mVar 0 env ms = .ok (.d (.int form)) ms := by unfold mVar; rw [h]
  exact mB_ok ((op_ok e (s2 := .d (.int k)) (ms2 := ms) rfl).trans eqI)
theorem skip {form k : Int} {v u : D} {A B : Fw.Env → Ms → T} (h : form ≠ k) : sCons (sIf (mB (mOp (gEq false) (mVar 0) (mC (.d (.int k))))) A sNil) B (Vm form v u) [] = B (Vm form v u) [] :=
  cons_nx ((if_f ((eqc rfl).trans (by rw [decide_eq_false h]))).trans rfl)
theorem hit {form k : Int} {v u x y : D} {me : Fw.Env → Ms → R S} {B : Fw.Env → Ms → T} (h : form = k) (hm : me (Vm form v u) [] = mk x y) : sCons (sIf (mB (mOp (gEq false) (mVar 0) (mC (.d (.int k))))) (sRet me) sNil) B (Vm form v u) [] = tk x y (Vm form v u) :=
  cons_tk ((if_t ((eqc rfl).trans (by rw [decide_eq_true h]))).trans (ret_tk hm))
/-- what a form makes -/
def ends (form : Int) (v u : D) : D × D := if form < 2 then (v, u) else if form < 4 then (v, v) else (.int 0, u)
theorem made_spec {form : Int} {v u : D} (h0 : 0 ≤ form) (h5 : form ≤ 5) (hv : Dat v) (hu : Dat u) : f__law_made [.d (.int form), .d v, .d u] [] = mk (ends form v u).1 (ends form v u).2 := by
  have c0 : mCallN (mkS 4 (fld 4) (bndS f_Span_init [0, 1, 2] [])) (mLen 2 (aCons (mVar 1) (aCons (mVar 2) (aNil)))) (Vm form v u) [] = mk v u := (show _ = mkS 4 (fld 4) (bndS f_Span_init [0, 1, 2] []) [.d v, .d u] [] from rfl).trans (mk_spec hv hu)
  have c1' : mCallN (mkS 4 (fld 4) (bndS f_Span_init [0, 2, 1] [])) (mLen 2 (aCons (mVar 2) (aCons (mVar 1) (aNil)))) (Vm form v u) [] = mk v u := (show _ = mkS 4 (fld 4) (bndS f_Span_init [0, 2, 1] []) [.d u, .d v] [] from rfl).trans (mk_spec2 hv hu)
  have c2' : mCMeth [(4, bndS f_Span_rod [0, 1] [])] (mC (.d (.fn 4))) (mLen 1 (aCons (mVar 1) (aNil))) (Vm form v u) [] = mk v v := (show _ = callSem f_Span_rod ([.fn 4, v].map .d) [] from rfl).trans (call_mk (rod_spec hv))
  have c4 : mCMeth [(4, bndS f_Span_rope [0, 1] [])] (mC (.d (.fn 4))) (mLen 1 (aCons (mVar 2) (aNil))) (Vm form v u) [] = mk (.int 0) u := (show _ = callSem f_Span_rope ([.fn 4, u].map .d) [] from rfl).trans (call_mk (rope_spec hu))
  refine fn_tk (e := Vm form v u) ?_
  by_cases e0 : form = 0
  · have : ends form v u = (v, u) := by unfold ends; rw [if_pos (by omega)]
    rw [this]; exact hit e0 c0
  refine (skip e0).trans ?_
  by_cases e1 : form = 1
  · have : ends form v u = (v, u) := by unfold ends; rw [if_pos (by omega)]
    rw [this]; exact hit e1 c1'
  refine (skip e1).trans ?_
  by_cases e2 : form = 2
  · have : ends form v u = (v, v) := by unfold ends; rw [if_neg (by omega), if_pos (by omega)]
    rw [this]; exact hit e2 c2'
  refine (skip e2).trans ?_
  by_cases e3 : form = 3
  · have : ends form v u = (v, v) := by unfold ends; rw [if_neg (by omega), if_pos (by omega)]
    rw [this]; exact hit e3 c2'
  refine (skip e3).trans ?_
  have : ends form v u = (.int 0, u) := by unfold ends; rw [if_neg (by omega), if_neg (by omega)]
  rw [this]
  by_cases e4 : form = 4
  · exact hit e4 c4
  refine (skip e4).trans ?_
  exact ret_tk c4
theorem js_cons {m : Fw.Env → Ms → R S} {r : List (Fw.Env → Ms → R S)} {acc y : Str} {env : Fw.Env} {ms ms1 : Ms} (h : m env ms = .ok (.d (.str y)) ms1) (hl : acc.length + y.length ≤ 1000000) : mJs (m :: r) acc env ms = mJs r (acc ++ y) env ms1 := by
  show (m env ms).bind _ = _
  rw [h]
  show (match few (acc ++ y).length with
    | true => mJs r (acc ++ y) env ms1
    | false => .bad) = _
  have : few (acc ++ y).length = true := by unfold few; rw [Nat.ble_eq, PySem.Str.length_append]; exact hl
  rw [this]
theorem fmt_int {me : Fw.Env → Ms → R S} {a : Int} {env : Fw.Env} {ms ms1 : Ms} (h : me env ms = .ok (.d (.int a)) ms1) (Sa : Sm a) : mFmt me env ms = .ok (.d (.str (tx a))) ms1 := by
  unfold mFmt
  rw [h]
  show (match showI a with
    | true => R.ok (S.d (D.str (tx a))) ms1
    | false => .bad) = _
  rw [showI_sm Sa]
theorem str_spec {a b : Int} (Sa : Sm a) (Sb : Sm b) : f_Span_str [.d (.obj 4 [.int a, .int b])] [] = .ok (.d (.str (sh a b))) [] := by
  have low : mAttr "low" [(4, fldG 0)] (mVar 0) [some (.d (.obj 4 [.int a, .int b]))] [] = .ok (.d (.int a)) [] := rfl
  have high : mAttr "high" [(4, fldG 1)] (mVar 0) [some (.d (.obj 4 [.int a, .int b]))] [] = .ok (.d (.int b)) [] := rfl
  have t : mB (mOp (gEq false) (mAttr "low" [(4, fldG 0)] (mVar 0)) (mAttr "high" [(4, fldG 1)] (mVar 0))) [some (.d (.obj 4 [.int a, .int b]))] [] = .ok (decide (a = b)) [] := mB_ok ((op_ok low high).trans eqI)
  by_cases h : a = b
  · have : sh a b = tx a := by unfold sh; rw [decide_eq_true h]
    rw [this]
    refine fn_rt (cons_rt ((if_t (t.trans (by rw [decide_eq_true h]))).trans (ret_ok ?_)))
    exact (b1_ok (acons_ok low (al := aNil) (ss := []) (ms2 := []) rfl)).trans (str_int Sa)
  · have hs : sh a b = (tx a ++ Str.ofString "..") ++ tx b := by unfold sh; rw [decide_eq_false h]
    rw [hs]
    refine fn_rt ((cons_nx ((if_f (t.trans (by rw [decide_eq_false h]))).trans rfl)).trans (ret_ok ?_))
    have tl := tx_len Sa
    have tl2 := tx_len Sb
    have l2 : (Str.ofString "..").length = 2 := rfl
    have l0 : Str.empty.length = 0 := rfl
    refine (js_cons (fmt_int low Sa) (by rw [l0]; omega)).trans ((js_cons (y := Str.ofString "..") (ms1 := []) rfl (by rw [PySem.Str.length_append, l0, l2]; omega)).trans ((js_cons (fmt_int high Sb) (by rw [PySem.Str.length_append, PySem.Str.length_append, l0, l2]; omega)).trans ?_))
    rw [PySem.Str.empty_append]
    rfl
theorem repr_spec {a b : Int} (Sa : Sm a) (Sb : Sm b) : f_Span_repr [.d (.obj 4 [.int a, .int b])] [] = .ok (.d (.str (rp a b))) [] := by
  have low : mAttr "low" [(4, fldG 0)] (mVar 0) [some (.d (.obj 4 [.int a, .int b]))] [] = .ok (.d (.int a)) [] := rfl
  have high : mAttr "high" [(4, fldG 1)] (mVar 0) [some (.d (.obj 4 [.int a, .int b]))] [] = .ok (.d (.int b)) [] := rfl
  have tl := tx_len Sa
  have tl2 := tx_len Sb
  have l0 : Str.empty.length = 0 := rfl
  have l1 : (Str.ofString "Span(").length = 5 := rfl
  have l2 : (Str.ofString ", ").length = 2 := rfl
  have l3 : (Str.ofString ")").length = 1 := rfl
  refine fn_rt (ret_ok ?_)
  refine (js_cons (y := Str.ofString "Span(") (ms1 := []) rfl (by rw [l0, l1]; omega)).trans ((js_cons (fmt_int low Sa) (by rw [PySem.Str.length_append, l0, l1]; omega)).trans ((js_cons (y := Str.ofString ", ") (ms1 := []) rfl (by rw [PySem.Str.length_append, PySem.Str.length_append, l0, l1, l2]; omega)).trans
    ((js_cons (fmt_int high Sb) (by rw [PySem.Str.length_append, PySem.Str.length_append, PySem.Str.length_append, l0, l1, l2]; omega)).trans ((js_cons (y := Str.ofString ")") (ms1 := []) rfl (by rw [PySem.Str.length_append, PySem.Str.length_append, PySem.Str.length_append, PySem.Str.length_append, l0, l1, l2, l3]; omega)).trans ?_))))
  rw [PySem.Str.empty_append]
  rfl
/-! ### told -/
abbrev Vt (form : Int) (v u : D) (f m : Option S) : Fw.Env := [some (.d (.int form)), some (.d v), some (.d u), f, m, none]
abbrev oth : S := .d (.tup [.str "other"])
theorem told_spec {form : Int} {v u : D} (h0 : 0 ≤ form) (h5 : form ≤ 5) (hv : Dat v) (hu : Dat u) (sv : ∀ a, v = .int a → Sm a) (su : ∀ a, u = .int a → Sm a) : f__law_told [.d (.int form), .d v, .d u] [] = .ok (.d (Rs (ends form v u).1 (ends form v u).2)) [] := by
  have hm := made_spec h0 h5 hv hu
  have sx : ∀ a, (ends form v u).1 = .int a → Sm a := fun a h => by
    unfold ends at h
    split at h
    · exact sv a h
    · split at h
      · exact sv a h
      · cases h; exact (by decide : (0 : Int).natAbs < 10 ^ 31)
  have sy : ∀ a, (ends form v u).2 = .int a → Sm a := fun a h => by
    unfold ends at h
    split at h
    · exact su a h
    · split at h
      · exact sv a h
      · exact su a h
  generalize (ends form v u).1 = x at hm sx ⊢
  generalize (ends form v u).2 = y at hm sy ⊢
  have call : mCallN (bndS f__law_made [0, 1, 2] []) (mLen 3 (aCons (mVar 0) (aCons (mVar 1) (aCons (mVar 2) (aNil))))) (Vt form v u (some oth) none) [] = mk x y := (show _ = callSem f__law_made ([.int form, v, u].map .d) [] from rfl).trans (call_mk hm)
  refine fn_rt ((cons_nx (e1 := Vt form v u (some oth) none) (ms1 := []) rfl).trans ?_)
  cases hf : fits x y with
  | false =>
    have e : mk x y = .ex 1 [y, x] [] := by unfold mk; rw [hf]
    rw [e] at call
    have hr : Rs x y = inv x y := by unfold Rs; rw [hf]
    rw [hr]
    have body := cons_ex (k := sSet 3 (mTup (aCons (mC (.d (.str "span"))) (aCons (mAttr "least" [(4, propG 4 (bndS f_Span_least [0] []))] (mVar 4)) (aCons (mAttr "greatest" [(4, propG 4 (bndS f_Span_greatest [0] []))] (mVar 4)) (aCons (mAttr "is_rod" [(4, propG 4 (bndS f_Span_is_rod [0] []))] (mVar 4)) (aCons (mB1 (cOr (c1 strD) (cOwn [(4, bndS f_Span_str [0] [])])) (aCons (mVar 4) (aNil))) (aCons (mB1 (cOr (c1 reprD) (cOwn [(4, bndS f_Span_repr [0] [])])) (aCons (mVar 4) (aNil))) (aNil))))))))) (set_ex (i := 4) call)
    refine (cons_nx (e1 := Vt form v u (some (.d (inv x y))) none) (ms1 := []) ?_).trans rfl
    unfold sTry
    rw [body]
    rfl
  | true =>
    have e : mk x y = .ok (.d (.obj 4 [x, y])) [] := by unfold mk; rw [hf]
    rw [e] at call
    cases x <;> first | cases hf | skip
    cases y <;> first | cases hf | skip
    rename_i a b
    have Sa := sx a rfl
    have Sb := sy b rfl
    have hr : Rs (.int a) (.int b) = .tup [.str "span", .int a, .int b, .bl (decide (a = b)), .str (sh a b), .str (rp a b)] := by unfold Rs; rw [hf]
    rw [hr]
    have V4 : Fw.Env := Vt form v u (some oth) (some (.d (.obj 4 [.int a, .int b])))
    have p1 : mAttr "least" [(4, propG 4 (bndS f_Span_least [0] []))] (mVar 4) (Vt form v u (some oth) (some (.d (.obj 4 [.int a, .int b])))) [] = .ok (.d (.int a)) [] := rfl
    have p2 : mAttr "greatest" [(4, propG 4 (bndS f_Span_greatest [0] []))] (mVar 4) (Vt form v u (some oth) (some (.d (.obj 4 [.int a, .int b])))) [] = .ok (.d (.int b)) [] := rfl
    have r0 : f_Span_is_rod [.d (.obj 4 [.int a, .int b])] [] = .ok (.d (.bl (decide (a = b)))) [] := fn_rt (ret_ok ((op_ok (s1 := .d (.int a)) (s2 := .d (.int b)) (ms1 := []) (ms2 := []) rfl rfl).trans eqI))
    have p3 : mAttr "is_rod" [(4, propG 4 (bndS f_Span_is_rod [0] []))] (mVar 4) (Vt form v u (some oth) (some (.d (.obj 4 [.int a, .int b])))) [] = .ok (.d (.bl (decide (a = b)))) [] := by
      show noEx (noEx (callSem f_Span_is_rod ([.obj 4 [.int a, .int b]].map .d) [])) = _
      rw [call_data (m0 := []) r0]
      rfl
    have p4 : mB1 (cOr (c1 strD) (cOwn [(4, bndS f_Span_str [0] [])])) (aCons (mVar 4) (aNil)) (Vt form v u (some oth) (some (.d (.obj 4 [.int a, .int b])))) [] = .ok (.d (.str (sh a b))) [] := by
      show asStr (callSem f_Span_str ([.obj 4 [.int a, .int b]].map .d) []) = _
      rw [call_data (m0 := []) (str_spec Sa Sb)]
      rfl
    have p5 : mB1 (cOr (c1 reprD) (cOwn [(4, bndS f_Span_repr [0] [])])) (aCons (mVar 4) (aNil)) (Vt form v u (some oth) (some (.d (.obj 4 [.int a, .int b])))) [] = .ok (.d (.str (rp a b))) [] := by
      show asStr (callSem f_Span_repr ([.obj 4 [.int a, .int b]].map .d) []) = _
      rw [call_data (m0 := []) (repr_spec Sa Sb)]
      rfl
    refine (cons_nx (e1 := Vt form v u (some (.d (.tup [.str "span", .int a, .int b, .bl (decide (a = b)), .str (sh a b), .str (rp a b)]))) (some (.d (.obj 4 [.int a, .int b])))) (ms1 := []) ?_).trans rfl
    unfold sTry
    rw [cons_nx (e1 := Vt form v u (some oth) (some (.d (.obj 4 [.int a, .int b])))) (ms1 := []) (set_ok call)]
    rw [set_ok (s := .d (.tup [.str "span", .int a, .int b, .bl (decide (a = b)), .str (sh a b), .str (rp a b)])) (ms1 := []) (by
      unfold mTup
      rw [acons_ok (s := .d (.str "span")) (ms1 := []) rfl (acons_ok p1 (acons_ok p2 (acons_ok p3 (acons_ok p4 (acons_ok p5 (al := aNil) (ss := []) (ms2 := []) rfl)))))]
      rfl)]
    rfl
end Ga
set_option Elab.async false
set_option linter.all false
set_option maxRecDepth 100000
set_option maxHeartbeats 1000000
namespace Ga
open PySem L2 PySem.Spec PyProof.Rows Fw
structure Rp (k W : Nat) (d : D) (p : PyData) : Prop where
  to : toP d = some p
  sh : p.showable = true
  dp : p.depth ≤ k
  nd : p.hasDict = false
  lv : p.leavesShort 40 = true
  wt : p.weight ≤ W
def Rep (k W : Nat) (d : D) : Prop := ∃ p, Rp k W d p
theorem Rep.mono {k k' W W' : Nat} {d : D} (h : Rep k W d) (h1 : k ≤ k') (h2 : W ≤ W') : Rep k' W' d := let ⟨p, r⟩ := h; ⟨p, r.to, r.sh, Nat.le_trans r.dp h1, r.nd, r.lv, Nat.le_trans r.wt h2⟩
theorem rep_int {a : Int} (h : Sm a) : Rep 0 110 (.int a) := by
  have hl : a.natAbs.log2 < 104 := PySem.Flt.log2_lt_of (by decide) (Nat.lt_of_lt_of_le h (by decide))
  refine ⟨.int a, rfl, ?_, Nat.le_refl _, rfl, ?_, ?_⟩
  · simp only [PyData.showable, decide_eq_true_eq]; omega
  · simp only [PyData.leavesShort, decide_eq_true_eq]
    rw [PyData.shown_int]
    exact Nat.le_trans (tx_len h) (by decide)
  · simp only [PyData.weight]
    split <;> omega
def Asc (x : Str) : Prop := ∀ c ∈ x.cps.toList, c < 16 ^ 8
theorem asc_of (s : String) : Asc (Str.ofString s) := by
  intro c hc
  rw [Str.ofString_eq_toList] at hc
  simp only [List.mem_map] at hc
  obtain ⟨ch, _, rfl⟩ := hc
  have := ch.val.toNat_lt
  exact Nat.lt_of_lt_of_le this (by decide)
theorem asc_app {x y : Str} (h : Asc x) (h2 : Asc y) : Asc (x ++ y) := by
  intro c hc
  have : c ∈ x.cps.toList ++ y.cps.toList := by
    have e : (x ++ y).cps.toList = x.cps.toList ++ y.cps.toList := by
      show (x.cps ++ y.cps).toList = _
      rw [Array.toList_append]
    rw [e] at hc; exact hc
  rcases List.mem_append.mp this with z | z
  · exact h c z
  · exact h2 c z
theorem rep_str {x : Str} (h : Asc x) (hl : x.length ≤ 110) : Rep 0 110 (.str x) := by
  refine ⟨.str x, rfl, rfl, Nat.le_refl _, rfl, ?_, ?_⟩
  · simp only [PyData.leavesShort, List.all_eq_true, decide_eq_true_eq]
    exact h
  · simp only [PyData.weight]; exact hl
theorem rep_bl (b : Bool) : Rep 0 110 (.bl b) := ⟨.bool b, rfl, rfl, Nat.le_refl _, rfl, rfl, by simp [PyData.weight]⟩
theorem rep_non : Rep 0 110 .non := ⟨.none, rfl, rfl, Nat.le_refl _, rfl, rfl, by simp [PyData.weight]⟩
theorem reps {k W : Nat} : ∀ {l : List D}, (∀ x ∈ l, Rep k W x) → ∃ ps, toPs l = some ps ∧ PyData.showableAll ps = true ∧ PyData.depthAll ps ≤ k ∧ PyData.hasDictAll ps = false ∧ PyData.leavesShortAll 40 ps = true ∧ PyData.weightAll ps ≤ l.length * (W + 1)
  | [], _ => ⟨[], rfl, rfl, Nat.zero_le _, rfl, rfl, by simp [PyData.weightAll]⟩
  | x :: l, h => by
    obtain ⟨p, r⟩ := h x List.mem_cons_self
    obtain ⟨ps, h1, h2, h3, h4, h5, h6⟩ := reps fun y hy => h y (List.mem_cons_of_mem _ hy)
    refine ⟨p :: ps, ?_, ?_, ?_, ?_, ?_, ?_⟩
    · simp only [toPs, r.to, h1, Option.bind_some, Option.map_some]
    · simp only [PyData.showableAll, r.sh, h2, Bool.and_self]
    · simp only [PyData.depthAll]; exact Nat.max_le.mpr ⟨r.dp, h3⟩
    · simp only [PyData.hasDictAll, r.nd, h4, Bool.or_self]
    · simp only [PyData.leavesShortAll, r.lv, h5, Bool.and_self]
    · simp only [PyData.weightAll, List.length_cons]
      have := r.wt
      rw [Nat.add_mul]; omega
theorem rep_tup {k W : Nat} {l : List D} (h : ∀ x ∈ l, Rep k W x) : Rep (k + 1) (l.length * (W + 1)) (.tup l) := by
  obtain ⟨ps, h1, h2, h3, h4, h5, h6⟩ := reps h
  refine ⟨.tuple ps, ?_, ?_, ?_, ?_, ?_, ?_⟩
  · simp only [toP, h1, Option.map_some]
  · simp only [PyData.showable]; exact h2
  · simp only [PyData.depth]; omega
  · simp only [PyData.hasDict]; exact h4
  · simp only [PyData.leavesShort]; exact h5
  · simp only [PyData.weight]; exact h6
theorem repr_ok {d : D} (h : Rep 3 4000 d) {ms : Ms} : ∃ z, c1 reprD [.d d] ms = .ok (.d (.str z)) ms := by
  obtain ⟨p, r⟩ := h
  have hs := PyData.shown_le 40 (by decide) p r.lv
  have hb : (p.showable && decide (p.depth ≤ 40) && few p.shown.length && !p.hasDict) = true := by
    rw [r.sh, r.nd, decide_eq_true (by have := r.dp; omega : p.depth ≤ 40)]
    have : few p.shown.length = true := by
      unfold few
      rw [Nat.ble_eq]
      have := r.wt
      omega
    rw [this]; rfl
  refine ⟨p.shown, ?_⟩
  have e : reprD d = some (.str p.shown) := by
    unfold reprD
    rw [r.to]
    show (match (p.showable && decide (p.depth ≤ 40) && few p.shown.length && !p.hasDict) with
      | true => some (D.str p.shown)
      | false => none) = _
    rw [hb]
  show (match (some d).bind reprD with
    | some d => R.ok (S.d d) ms
    | none => .bad) = _
  rw [show (some d).bind reprD = some (.str p.shown) from e]
theorem atom_rep {v : D} (h : Atom v) : Rep 0 110 v := by
  rcases h with h | h | h
  · simp only [lInt, List.mem_cons, List.not_mem_nil, or_false] at h
    rcases h with rfl | rfl | rfl | rfl | rfl | rfl | rfl | rfl <;> exact rep_int (by unfold Sm; decide)
  · simp only [lStr, List.mem_cons, List.not_mem_nil, or_false] at h
    rcases h with rfl | rfl | rfl | rfl | rfl | rfl | rfl | rfl <;> exact rep_str (asc_of _) (by rw [PySem.ofString_length]; decide)
  · simp only [lRest, List.mem_cons, List.not_mem_nil, or_false] at h
    rcases h with rfl | rfl | rfl
    · exact rep_bl _
    · exact rep_bl _
    · exact rep_non
theorem bnd_rep {v : D} (h : Bnd v) : Rep 1 333 v := by
  rcases h with (h | ⟨l, rfl, hl, ha⟩) | ⟨i, rfl, h1, h2⟩
  · exact (atom_rep h).mono (by decide) (by decide)
  · exact (rep_tup fun x hx => atom_rep (ha x hx)).mono (by decide) (by omega)
  · exact (rep_int (by unfold Sm; omega)).mono (by decide) (by decide)
theorem bnd_dat {v : D} (h : Bnd v) : Dat v := by
  rcases h with ((h | h | h) | ⟨l, rfl, _⟩) | ⟨i, rfl, _⟩
  · simp only [lInt, List.mem_cons, List.not_mem_nil, or_false] at h
    rcases h with rfl | rfl | rfl | rfl | rfl | rfl | rfl | rfl <;> trivial
  · simp only [lStr, List.mem_cons, List.not_mem_nil, or_false] at h
    rcases h with rfl | rfl | rfl | rfl | rfl | rfl | rfl | rfl <;> trivial
  · simp only [lRest, List.mem_cons, List.not_mem_nil, or_false] at h
    rcases h with rfl | rfl | rfl <;> trivial
  · trivial
  · trivial
theorem bnd_sm {v : D} (h : Bnd v) : ∀ a, v = .int a → Sm a := by
  rintro a rfl
  rcases h with ((h | h | h) | ⟨l, e, _⟩) | ⟨i, e, h1, h2⟩
  · simp only [lInt, List.mem_cons, List.not_mem_nil, or_false, D.int.injEq] at h
    rcases h with rfl | rfl | rfl | rfl | rfl | rfl | rfl | rfl <;> (unfold Sm; decide)
  · simp [lStr] at h
  · simp [lRest] at h
  · cases e
  · cases e; unfold Sm; omega
theorem rs_rep {x y : D} (hx : Rep 1 333 x) (hy : Rep 1 333 y) (sx : ∀ a, x = .int a → Sm a) (sy : ∀ a, y = .int a → Sm a) : Rep 3 4000 (Rs x y) := by
  have hi : Rep 3 4000 (inv x y) := (rep_tup (k := 1) (W := 333) (l := [.str "invalid", x, y, .bl false]) (by
    intro z hz
    simp only [List.mem_cons, List.not_mem_nil, or_false] at hz
    rcases hz with rfl | rfl | rfl | rfl
    · exact (rep_str (asc_of _) (by rw [PySem.ofString_length]; decide)).mono (by decide) (by decide)
    · exact hx
    · exact hy
    · exact (rep_bl _).mono (by decide) (by decide))).mono (by decide) (by show 4 * 334 ≤ 4000; decide)
  cases hf : fits x y with
  | false => rw [show Rs x y = inv x y by unfold Rs; rw [hf]]; exact hi
  | true =>
    cases x <;> first | cases hf | skip
    cases y <;> first | cases hf | skip
    rename_i a b
    rw [show Rs (.int a) (.int b) = .tup [.str "span", .int a, .int b, .bl (decide (a = b)), .str (sh a b), .str (rp a b)] by unfold Rs; rw [hf]]
    have ta := tx_len (sx a rfl)
    have tb := tx_len (sy b rfl)
    refine (rep_tup (k := 1) (W := 333) ?_).mono (by decide) (by show 6 * 334 ≤ 4000; decide)
    intro z hz
    simp only [List.mem_cons, List.not_mem_nil, or_false] at hz
    rcases hz with rfl | rfl | rfl | rfl | rfl | rfl
    · exact (rep_str (asc_of _) (by rw [PySem.ofString_length]; decide)).mono (by decide) (by decide)
    · exact hx
    · exact hy
    · exact (rep_bl _).mono (by decide) (by decide)
    · refine (rep_str ?_ ?_).mono (by decide) (by decide)
      · unfold sh
        cases decide (a = b) with
        | true => exact asc_of _
        | false => exact asc_app (asc_app (asc_of _) (asc_of _)) (asc_of _)
      · unfold sh
        cases decide (a = b) with
        | true => show (tx a).length ≤ 110; omega
        | false =>
          show ((tx a ++ Str.ofString "..") ++ tx b).length ≤ 110
          rw [PySem.Str.length_append, PySem.Str.length_append, show (Str.ofString "..").length = 2 from rfl]; omega
    · refine (rep_str ?_ ?_).mono (by decide) (by decide)
      · exact asc_app (asc_app (asc_app (asc_app (asc_of _) (asc_of _)) (asc_of _)) (asc_of _)) (asc_of _)
      · unfold rp
        rw [PySem.Str.length_append, PySem.Str.length_append, PySem.Str.length_append, PySem.Str.length_append, show (Str.ofString "Span(").length = 5 from rfl, show (Str.ofString ", ").length = 2 from rfl, show (Str.ofString ")").length = 1 from rfl]; omega
end Ga
set_option Elab.async false
set_option linter.all false
set_option maxRecDepth 100000
set_option maxHeartbeats 1000000
namespace Ga
open PySem L2 PySem.Spec PyProof.Rows Fw
theorem mulI {a b : Int} {ms : Ms} (h : cMul a b = true) : gMul (.d (.int a)) (.d (.int b)) ms = .ok (.d (.int (a * b))) ms := by
  have e : gMulI (.d (.int a)) (.d (.int b)) ms = .ok (.d (.int (a * b))) ms := by
    show (match cMul a b with
      | true => R.ok (S.d (.int (a * b))) ms
      | false => .bad) = _
    rw [h]
  unfold gMul gOr
  rw [e]
theorem cMul_l {a b : Int} (h : -(2 ^ 64) < a ∧ a < 2 ^ 64) : cMul a b = true := by unfold cMul; rw [decide_eq_true h]; rfl
theorem cMul_r {a b : Int} (h : -(2 ^ 64) < b ∧ b < 2 ^ 64) : cMul a b = true := by unfold cMul; rw [decide_eq_true h, Bool.or_true]
theorem modI {a b : Int} {ms : Ms} (h : 0 < b) : gModI (.d (.int a)) (.d (.int b)) ms = .ok (.d (.int (a % b))) ms := by
  show (match cMod a b with
    | true => R.ok (S.d (.int (a % b))) ms
    | false => .bad) = _
  have : cMod a b = true := decide_eq_true h
  rw [this]
abbrev Vf (ns : List Int) (k : Int) (o p : Option S) : Fw.Env := [some (scr ns), some (.d (.int k)), o, p]
theorem scr_len {ns : List Int} {ms : Ms} {env : Fw.Env} (h : env[0]? = some (some (scr ns))) : mB1 (c1 lenD) (aCons (mVar 0) (aNil)) env ms = .ok (.d (.int ns.length)) ms := by
  have ev : mVar 0 env ms = .ok (scr ns) ms := by unfold mVar; rw [h]
  refine (b1_ok (acons_ok ev (ss := []) rfl)).trans ?_
  show R.ok (S.d (.int ((ns.map D.int).length : Int))) ms = _
  rw [List.length_map]
theorem scr_ix {ns : List Int} {k : Int} {ms : Ms} (h0 : 0 ≤ k) (h1 : k < ns.length) : ∃ v, gIx (scr ns) (.d (.int k)) ms = .ok (.d (.int v)) ms := by
  have hk : k.toNat < ns.length := by omega
  refine ⟨ns[k.toNat], ?_⟩
  have e : L2.atI (ns.map D.int) k = some (.int ns[k.toNat]) := by
    unfold L2.atI L2.ixN
    rw [if_pos h0, List.length_map, if_pos h1]
    simp [hk]
  show (match L2.atI (ns.map D.int) k with
    | some d => R.ok (S.d d) ms
    | none => .bad) = _
  rw [e]
theorem abs_ok {v : Int} {ms : Ms} : c1 absD [.d (.int v)] ms = .ok (.d (.int (if v < 0 then -v else v))) ms := rfl
abbrev mid : Fw.Env → Ms → T := sIf (mB (mOp gLt (mVar 1) (mB1 (c1 lenD) (aCons (mVar 0) (aNil))))) (sSet 2 (mB1 (c1 absD) (aCons (mOp gIx (mVar 0) (mVar 1)) (aNil)))) (sIf (mB (mOp gGt (mB1 (c1 lenD) (aCons (mVar 0) (aNil))) (mC (.d (.int 0))))) (sSet 2 (mOp gAdd (mVar 2) (mOp gMul (mOp gModI (mB1 (c1 absD) (aCons (mOp gIx (mVar 0) (mOp gModI (mVar 1) (mB1 (c1 lenD) (aCons (mVar 0) (aNil))))) (aNil))) (mC (.d (.int 2147483629)))) (mC (.d (.int 50021)))))) (sNil))
theorem mid_ok {ns : List Int} {k a : Int} (h0 : 0 ≤ k) : ∃ b : Int, mid (Vf ns k (some (.d (.int a))) none) [] = .nx (Vf ns k (some (.d (.int b))) none) [] := by
  have hl : ∀ ms, mB1 (c1 lenD) (aCons (mVar 0) (aNil)) (Vf ns k (some (.d (.int a))) none) ms = .ok (.d (.int ns.length)) ms := fun ms => scr_len rfl
  have t1 : mB (mOp gLt (mVar 1) (mB1 (c1 lenD) (aCons (mVar 0) (aNil)))) (Vf ns k (some (.d (.int a))) none) [] = .ok (decide (k < ns.length)) [] :=
    mB_ok ((op_ok (s1 := .d (.int k)) (ms1 := []) rfl (hl _)).trans rfl)
  by_cases h1 : k < ns.length
  · obtain ⟨v, e⟩ := scr_ix (ms := []) h0 h1
    refine ⟨if v < 0 then -v else v, (if_t (t1.trans (by rw [decide_eq_true h1]))).trans ?_⟩
    refine (set_ok ((b1_ok (acons_ok (s := .d (.int v)) (ms1 := []) (ss := []) ?_ rfl)).trans abs_ok)).trans rfl
    exact (op_ok (s1 := scr ns) (s2 := .d (.int k)) (ms1 := []) (ms2 := []) rfl rfl).trans e
  · have t2 : mB (mOp gGt (mB1 (c1 lenD) (aCons (mVar 0) (aNil))) (mC (.d (.int 0)))) (Vf ns k (some (.d (.int a))) none) [] = .ok (decide ((0 : Int) < ns.length)) [] :=
      mB_ok ((op_ok (hl _) (s2 := .d (.int 0)) (ms2 := []) rfl).trans rfl)
    by_cases h2 : (0 : Int) < ns.length
    · obtain ⟨v, e⟩ := scr_ix (ns := ns) (k := k % ns.length) (ms := []) (Int.emod_nonneg _ (by omega)) (Int.emod_lt_of_pos _ h2)
      refine ⟨a + (if v < 0 then -v else v) % 2147483629 * 50021, (if_f (t1.trans (by rw [decide_eq_false h1]))).trans ((if_t (t2.trans (by rw [decide_eq_true h2]))).trans ?_)⟩
      have x1 : mOp gModI (mVar 1) (mB1 (c1 lenD) (aCons (mVar 0) (aNil))) (Vf ns k (some (.d (.int a))) none) [] = .ok (.d (.int (k % ns.length))) [] :=
        (op_ok (s1 := .d (.int k)) (ms1 := []) rfl (hl _)).trans (modI h2)
      have x2 := (op_ok (g := gIx) (ma := mVar 0) (s1 := scr ns) (ms1 := []) rfl x1).trans e
      have x3 := (b1_ok (g := c1 absD) (acons_ok (al := aNil) x2 (ss := []) (ms2 := []) rfl)).trans abs_ok
      have x4 := (op_ok (g := gModI) x3 (mb := mC (.d (.int 2147483629))) (s2 := .d (.int 2147483629)) (ms2 := []) rfl).trans (modI (by decide))
      have x5 := (op_ok (g := gMul) x4 (mb := mC (.d (.int 50021))) (s2 := .d (.int 50021)) (ms2 := []) rfl).trans (mulI (cMul_r (by decide)))
      exact (set_ok ((op_ok (g := gAdd) (ma := mVar 2) (s1 := .d (.int a)) (ms1 := []) rfl x5).trans rfl)).trans rfl
    · exact ⟨a, (if_f (t1.trans (by rw [decide_eq_false h1]))).trans ((if_f (t2.trans (by rw [decide_eq_false h2]))).trans rfl)⟩
theorem feed_spec {ns : List Int} {k : Int} (h0 : 0 ≤ k) : ∃ c, IsFeed c ∧ f__law_feed [scr ns, .d (.int k)] [] = .ok (.loc 0) [c] := by
  obtain ⟨b, eb⟩ := mid_ok (ns := ns) (a := 6151 * k + 23) h0
  let t : Int := (b % 2147483629 * 48271 + 40692 * k) % 2147483629 + 1
  let z : Int := if decide ((1000000000000000000 : Int) ≤ b) then 1 else 0
  refine ⟨.lst [.int (b * z), .int t, .int 0], ⟨_, _, _, rfl⟩, ?_⟩
  have hz : cMul b z = true := cMul_r (by
    show -(2 ^ 64) < (if _ then (1 : Int) else 0) ∧ (if _ then (1 : Int) else 0) < 2 ^ 64
    split <;> decide)
  have s1 : sSet 2 (mOp gAdd (mOp gMul (mC (.d (.int 6151))) (mVar 1)) (mC (.d (.int 23)))) (Vf ns k none none) [] = .nx (Vf ns k (some (.d (.int (6151 * k + 23)))) none) [] :=
    (set_ok ((op_ok ((op_ok (s1 := .d (.int 6151)) (s2 := .d (.int k)) (ms1 := []) (ms2 := []) rfl rfl).trans (mulI (cMul_l (by decide)))) (s2 := .d (.int 23)) (ms2 := []) rfl).trans rfl)).trans rfl
  have s3 : sSet 3 (mOp gAdd (mOp gModI (mOp gAdd (mOp gMul (mOp gModI (mVar 2) (mC (.d (.int 2147483629)))) (mC (.d (.int 48271)))) (mOp gMul (mC (.d (.int 40692))) (mVar 1))) (mC (.d (.int 2147483629)))) (mC (.d (.int 1)))) (Vf ns k (some (.d (.int b))) none) [] = .nx (Vf ns k (some (.d (.int b))) (some (.d (.int t)))) [] := by
    have y1 := (op_ok (g := gModI) (env := Vf ns k (some (.d (.int b))) none) (ms := []) (ma := mVar 2) (mb := mC (.d (.int 2147483629))) (s1 := .d (.int b)) (s2 := .d (.int 2147483629)) (ms1 := []) (ms2 := []) rfl rfl).trans (modI (by decide))
    have y2 := (op_ok (g := gMul) y1 (mb := mC (.d (.int 48271))) (s2 := .d (.int 48271)) (ms2 := []) rfl).trans (mulI (cMul_r (by decide)))
    have y3 := (op_ok (g := gMul) (env := Vf ns k (some (.d (.int b))) none) (ms := []) (ma := mC (.d (.int 40692))) (mb := mVar 1) (s1 := .d (.int 40692)) (s2 := .d (.int k)) (ms1 := []) (ms2 := []) rfl rfl).trans (mulI (cMul_l (by decide)))
    have y4 := (op_ok (g := gAdd) y2 y3).trans (show _ = R.ok (S.d (.int (b % 2147483629 * 48271 + 40692 * k))) [] from rfl)
    have y5 := (op_ok (g := gModI) y4 (mb := mC (.d (.int 2147483629))) (s2 := .d (.int 2147483629)) (ms2 := []) rfl).trans (modI (by decide))
    have y6 := (op_ok (g := gAdd) y5 (mb := mC (.d (.int 1))) (s2 := .d (.int 1)) (ms2 := []) rfl).trans (show _ = R.ok (S.d (.int t)) [] from rfl)
    exact (set_ok y6).trans rfl
  have r1 : mOp gMul (mVar 2) (mB1 (c1 intD) (aCons (mOp gGe (mVar 2) (mOp gPowI (mC (.d (.int 10))) (mC (.d (.int 18))))) (aNil))) (Vf ns k (some (.d (.int b))) (some (.d (.int t)))) [] = .ok (.d (.int (b * z))) [] := by
    refine (op_ok (s1 := .d (.int b)) (ms1 := []) rfl (s2 := .d (.int z)) (ms2 := []) ?_).trans (mulI hz)
    refine (b1_ok (acons_ok (s := .d (.bl (decide ((1000000000000000000 : Int) ≤ b)))) (ms1 := []) (ss := []) ?_ rfl)).trans rfl
    exact (op_ok (s1 := .d (.int b)) (s2 := .d (.int 1000000000000000000)) (ms1 := []) (ms2 := []) rfl rfl).trans rfl
  have last : sRet (mNew (aCons (mOp gMul (mVar 2) (mB1 (c1 intD) (aCons (mOp gGe (mVar 2) (mOp gPowI (mC (.d (.int 10))) (mC (.d (.int 18))))) (aNil)))) (aCons (mVar 3) (aCons (mC (.d (.int 0))) (aNil))))) (Vf ns k (some (.d (.int b))) (some (.d (.int t)))) [] = .rt (.loc 0) [.lst [.int (b * z), .int t, .int 0]] := by
    refine ret_ok ?_
    have := acons_ok (al := aCons (mVar 3) (aCons (mC (.d (.int 0))) (aNil))) r1 (ss := [.d (.int t), .d (.int 0)]) (ms2 := []) rfl
    unfold mNew
    rw [this]
    rfl
  have all : m__law_feed (start0 4 [scr ns, .d (.int k)]) [] = .rt (.loc 0) [.lst [.int (b * z), .int t, .int 0]] :=
    (cons_nx (env := Vf ns k none none) s1).trans ((cons_nx eb).trans ((cons_nx s3).trans last))
  show fnSem 4 m__law_feed _ _ = _
  unfold fnSem
  rw [all]
  rfl
theorem call_new {sem : List S → Ms → R S} {xs : List D} {c : Cell} {ms : Ms} (h : sem (xs.map .d) [] = .ok (.loc 0) [c]) : callSem sem (xs.map .d) ms = .ok (.loc ms.length) (ms ++ [c]) := by
  have l0 : ∀ xs : List D, locsOf (xs.map S.d) = [] := fun xs => by
    induction xs with
    | nil => rfl
    | cons x xs ih => exact ih
  have nx : ∀ xs : List D, (xs.map S.d).all S.noX = true := fun xs => by
    induction xs with
    | nil => rfl
    | cons x xs ih => exact ih
  have r0 : ∀ (ls : List Nat) (xs : List D), (xs.map S.d).map (renS ls) = xs.map S.d := fun ls xs => by
    induction xs with
    | nil => rfl
    | cons x xs ih => show S.d x :: (xs.map S.d).map (renS ls) = _; rw [ih]; rfl
  unfold callSem
  rw [l0, nx]
  show callEnd [] ms (sem ((xs.map S.d).map (renS [])) []) = _
  rw [r0, h]
  rfl
theorem eqNe {z : Str} {ms : Ms} : gEq true (.d (.str z)) (.d (.str z)) ms = .ok (.d (.bl false)) ms := by
  show R.ok (S.d (D.bl (if true = true then z != z else z == z))) ms = _
  have e : (z != z) = false := by simp
  rw [e]; rfl
end Ga
set_option Elab.async false
set_option linter.all false
set_option maxRecDepth 100000
set_option maxHeartbeats 1000000
namespace Ga
open PySem L2 PySem.Spec PyProof.Rows Fw
/-- the law's slots -/
abbrev Vl (ns : List Int) (k : Int) (n : Nat) (t a b f e : Option S) : Fw.Env := [some (scr ns), some (.d (.int k)), some (.loc n), t, a, b, f, e]
noncomputable abbrev formsM : Fw.Env → Ms → T := (sCons (sSet 7 (mOp gIx (mLst (aCons (mTup (aCons (mVar 4) (aCons (mVar 5) (aNil)))) (aCons (mTup (aCons (mVar 4) (aCons (mVar 5) (aNil)))) (aCons (mTup (aCons (mVar 4) (aCons (mVar 4) (aNil)))) (aCons (mTup (aCons (mVar 4) (aCons (mVar 4) (aNil)))) (aCons (mTup (aCons (mC (.d (.int 0))) (aCons (mVar 5) (aNil)))) (aCons (mTup (aCons (mC (.d (.int 0))) (aCons (mVar 5) (aNil)))) (aNil)))))))) (mVar 6)))
 (sIf (mB (mOp (gEq true) (mB1 (c1 reprD) (aCons (mCallN (bndS f__law_told [0, 1, 2] []) (mLen 3 (aCons (mVar 6) (aCons (mVar 4) (aCons (mVar 5) (aNil)))))) (aNil))) (mB1 (c1 reprD) (aCons (mCallN (bndS f__law_due [0, 1] []) (mLen 2 (aCons (mOp gIx (mVar 7) (mC (.d (.int 0)))) (aCons (mOp gIx (mVar 7) (mC (.d (.int 1)))) (aNil))))) (aNil))))) (sRet (mC (.d (.bl false)))) (sNil)))
theorem ends_dat {f : Int} {v u : D} (hv : Bnd v) (hu : Bnd u) : ∀ x, x = (ends f v u).1 ∨ x = (ends f v u).2 → Dat x ∧ Rep 1 333 x ∧ ∀ a, x = .int a → Sm a := by
  have z : Dat (.int 0) ∧ Rep 1 333 (.int 0) ∧ ∀ a, D.int 0 = .int a → Sm a := ⟨trivial, (rep_int (by unfold Sm; decide)).mono (by decide) (by decide), fun a e => by cases e; unfold Sm; decide⟩
  have V := And.intro (bnd_dat hv) (And.intro (bnd_rep hv) (bnd_sm hv))
  have U := And.intro (bnd_dat hu) (And.intro (bnd_rep hu) (bnd_sm hu))
  intro x hx
  unfold ends at hx
  split at hx
  · rcases hx with rfl | rfl
    · exact V
    · exact U
  · split at hx
    · rcases hx with rfl | rfl
      · exact V
      · exact V
    · rcases hx with rfl | rfl
      · exact z
      · exact U
theorem form_ok {ns : List Int} {k f : Int} {n : Nat} {t e : Option S} {v u : D} {ms : Ms} (h0 : 0 ≤ f) (h5 : f ≤ 5) (hv : Bnd v) (hu : Bnd u) :
    ∃ e', formsM (Vl ns k n t (some (.d v)) (some (.d u)) (some (.d (.int f))) e) ms = .nx (Vl ns k n t (some (.d v)) (some (.d u)) (some (.d (.int f))) e') ms := by
  obtain ⟨d1, r1, s1⟩ := ends_dat (f := f) hv hu _ (.inl rfl)
  obtain ⟨d2, r2, s2⟩ := ends_dat (f := f) hv hu _ (.inr rfl)
  obtain ⟨z, hz⟩ := repr_ok (rs_rep r1 r2 s1 s2) (ms := ms)
  refine ⟨some (.d (.tup [(ends f v u).1, (ends f v u).2])), ?_⟩
  have l : mLst (aCons (mTup (aCons (mVar 4) (aCons (mVar 5) (aNil)))) (aCons (mTup (aCons (mVar 4) (aCons (mVar 5) (aNil)))) (aCons (mTup (aCons (mVar 4) (aCons (mVar 4) (aNil)))) (aCons (mTup (aCons (mVar 4) (aCons (mVar 4) (aNil)))) (aCons (mTup (aCons (mC (.d (.int 0))) (aCons (mVar 5) (aNil)))) (aCons (mTup (aCons (mC (.d (.int 0))) (aCons (mVar 5) (aNil)))) (aNil)))))))
      (Vl ns k n t (some (.d v)) (some (.d u)) (some (.d (.int f))) e) ms = .ok (.d (.lst [.tup [v, u], .tup [v, u], .tup [v, v], .tup [v, v], .tup [.int 0, u], .tup [.int 0, u]])) ms := rfl
  have ix : gIx (.d (.lst [.tup [v, u], .tup [v, u], .tup [v, v], .tup [v, v], .tup [.int 0, u], .tup [.int 0, u]])) (.d (.int f)) ms = .ok (.d (.tup [(ends f v u).1, (ends f v u).2])) ms := by
    have : f = 0 ∨ f = 1 ∨ f = 2 ∨ f = 3 ∨ f = 4 ∨ f = 5 := by omega
    rcases this with rfl | rfl | rfl | rfl | rfl | rfl <;> rfl
  refine (cons_nx (e1 := Vl ns k n t (some (.d v)) (some (.d u)) (some (.d (.int f))) (some (.d (.tup [(ends f v u).1, (ends f v u).2])))) (ms1 := ms) (set_ok ((op_ok l (mb := mVar 6) (s2 := .d (.int f)) (ms2 := ms) rfl).trans ix))).trans ?_
  refine (if_f (ms1 := ms) (mB_ok ?_)).trans rfl
  refine (op_ok (s1 := .d (.str z)) (s2 := .d (.str z)) (ms1 := ms) (ms2 := ms) ?_ ?_).trans eqNe
  · refine (b1_ok (acons_ok (s := .d (Rs (ends f v u).1 (ends f v u).2)) (ms1 := ms) (ss := []) ?_ rfl)).trans hz
    exact (callN_ok (len_ok (acons_ok (s := .d (.int f)) (ms1 := ms) rfl (acons_ok (s := .d v) (ms1 := ms) rfl (acons_ok (s := .d u) (ms1 := ms) (ss := []) rfl rfl))) rfl)).trans (call_data (xs := [.int f, v, u]) (told_spec h0 h5 (bnd_dat hv) (bnd_dat hu) (bnd_sm hv) (bnd_sm hu)))
  · refine (b1_ok (acons_ok (s := .d (Rs (ends f v u).1 (ends f v u).2)) (ms1 := ms) (ss := []) ?_ rfl)).trans hz
    exact (callN_ok (len_ok (acons_ok (s := .d (ends f v u).1) (ms1 := ms) rfl (acons_ok (s := .d (ends f v u).2) (ms1 := ms) (ss := []) rfl rfl)) rfl)).trans (call_data (xs := [(ends f v u).1, (ends f v u).2]) (due_spec d1 d2 s1 s2))
noncomputable abbrev formsL : Fw.Env → Ms → T := sFor (iList (mLst (aCons (mC (.d (.int 0))) (aCons (mC (.d (.int 1))) (aCons (mC (.d (.int 2))) (aCons (mC (.d (.int 3))) (aCons (mC (.d (.int 4))) (aCons (mC (.d (.int 5))) (aCons (mC (.d (.int 0))) (aNil)))))))))) (gSet 6) formsM
theorem forms_ok {ns : List Int} {k : Int} {n : Nat} {t f e : Option S} {v u : D} {ms : Ms} (hv : Bnd v) (hu : Bnd u) :
    ∃ f' e', formsL (Vl ns k n t (some (.d v)) (some (.d u)) f e) ms = .nx (Vl ns k n t (some (.d v)) (some (.d u)) f' e') ms := by
  have hi := for_ok (m := formsM) (mi := iList (mLst (aCons (mC (.d (.int 0))) (aCons (mC (.d (.int 1))) (aCons (mC (.d (.int 2))) (aCons (mC (.d (.int 3))) (aCons (mC (.d (.int 4))) (aCons (mC (.d (.int 5))) (aCons (mC (.d (.int 0))) (aNil)))))))))) (g := gSet 6) (env := Vl ns k n t (some (.d v)) (some (.d u)) f e) (ms := ms) (ms1 := ms) (xs := [.d (.int 0), .d (.int 1), .d (.int 2), .d (.int 3), .d (.int 4), .d (.int 5), .d (.int 0)]) rfl
  obtain ⟨e2, m2, h, f', e', rfl, rfl⟩ := forL_inv (m := formsM) (g := gSet 6) (xs := [.d (.int 0), .d (.int 1), .d (.int 2), .d (.int 3), .d (.int 4), .d (.int 5), .d (.int 0)]) (env := Vl ns k n t (some (.d v)) (some (.d u)) f e) (ms := ms)
    (fun en m => ∃ f' e', en = Vl ns k n t (some (.d v)) (some (.d u)) f' e' ∧ m = ms) (fun x hx en m p => by
      obtain ⟨f', e', rfl, rfl⟩ := p
      obtain ⟨i, rfl, i0, i5⟩ : ∃ i : Int, x = .d (.int i) ∧ 0 ≤ i ∧ i ≤ 5 := by
        simp only [List.mem_cons, List.not_mem_nil, or_false] at hx
        rcases hx with rfl | rfl | rfl | rfl | rfl | rfl | rfl <;> exact ⟨_, rfl, by decide, by decide⟩
      obtain ⟨e3, h3⟩ := form_ok (ns := ns) (k := k) (n := n) (t := t) (e := e') (ms := m) i0 i5 hv hu
      exact ⟨_, _, _, rfl, h3, _, _, rfl, rfl⟩) ⟨_, _, rfl, rfl⟩
  exact ⟨f', e', hi.trans h⟩
abbrev isI (v : D) : Bool := match v with
  | .int _ => true
  | .bl _ => true
  | _ => false
theorem isint {i : Nat} {env : Fw.Env} {ms : Ms} {v : D} (h : env[i]? = some (some (.d v))) (hv : Dat v) : mB (mB1 (cIsi [] [] (fun _ _ => false)) (aCons (mVar i) (aCons (mC (.d (.ty "int"))) (aNil)))) env ms = .ok (isI v) ms := by
  have ev : mVar i env ms = .ok (.d v) ms := by unfold mVar; rw [h]
  refine mB_ok ((b1_ok (acons_ok ev (ss := [.d (.ty "int")]) (ms2 := ms) rfl)).trans ?_)
  cases v <;> first | rfl | exact hv.elim
theorem gt_isI {v u : D} (hv : isI v = true) (hu : isI u = true) : ∃ b, ∀ ms, gGt (.d v) (.d u) ms = .ok (.d (.bl b)) ms := by
  cases v <;> cases hv <;> cases u <;> cases hu <;> exact ⟨_, fun _ => rfl⟩
noncomputable abbrev swapC : Fw.Env → Ms → R Bool := mAnd (mB (mB1 (cIsi [] [] (fun _ _ => false)) (aCons (mVar 4) (aCons (mC (.d (.ty "int"))) (aNil))))) (mAnd (mB (mB1 (cIsi [] [] (fun _ _ => false)) (aCons (mVar 5) (aCons (mC (.d (.ty "int"))) (aNil))))) (mAnd (mB (mOp gGt (mVar 4) (mVar 5))) (mB (mOp gGt (mCallN (bndS f__law_take [0, 1] []) (mLen 2 (aCons (mVar 2) (aCons (mC (.d (.int 4))) (aNil))))) (mC (.d (.int 0)))))))
theorem getSet {ms : Ms} {n : Nat} {c c' : Cell} (h : ms[n]? = some c) : (ms.set n c')[n]? = some c' := by
  have := (List.getElem?_eq_some_iff.mp h).1
  simp [this]
theorem swap_ok {ns : List Int} {k : Int} {n : Nat} {t f e : Option S} {v u : D} {ms : Ms} {c : Cell} (hc : ms[n]? = some c) (hf : IsFeed c) (hv : Bnd v) (hu : Bnd u) :
    ∃ b ms', swapC (Vl ns k n t (some (.d v)) (some (.d u)) f e) ms = .ok b ms' ∧ ∃ c', ms'[n]? = some c' ∧ IsFeed c' := by
  have i1 := isint (i := 4) (env := Vl ns k n t (some (.d v)) (some (.d u)) f e) (ms := ms) (v := v) rfl (bnd_dat hv)
  have i2 := isint (i := 5) (env := Vl ns k n t (some (.d v)) (some (.d u)) f e) (ms := ms) (v := u) rfl (bnd_dat hu)
  cases h1 : isI v with
  | false => exact ⟨false, ms, and_f (i1.trans (by rw [h1])), c, hc, hf⟩
  | true =>
    cases h2 : isI u with
    | false => exact ⟨false, ms, (and_t (i1.trans (by rw [h1]))).trans (and_f (i2.trans (by rw [h2]))), c, hc, hf⟩
    | true =>
      obtain ⟨b, hb⟩ := gt_isI h1 h2
      have g : mB (mOp gGt (mVar 4) (mVar 5)) (Vl ns k n t (some (.d v)) (some (.d u)) f e) ms = .ok b ms := mB_ok ((op_ok (s1 := .d v) (s2 := .d u) (ms1 := ms) (ms2 := ms) rfl rfl).trans (hb ms))
      cases b with
      | false => exact ⟨false, ms, (and_t (i1.trans (by rw [h1]))).trans ((and_t (i2.trans (by rw [h2]))).trans (and_f g)), c, hc, hf⟩
      | true =>
        obtain ⟨r, c', f', r0, r1, e'⟩ := ev_take (i := 2) (n := n) (k := 4) (env := Vl ns k n t (some (.d v)) (some (.d u)) f e) (ms := ms) rfl hc hf (by decide) (by decide)
        refine ⟨decide (0 < r), ms.set n c', (and_t (i1.trans (by rw [h1]))).trans ((and_t (i2.trans (by rw [h2]))).trans ((and_t g).trans (mB_ok ?_))), c', getSet hc, f'⟩
        exact (op_ok e' (mb := mC (.d (.int 0))) (s2 := .d (.int 0)) (ms2 := ms.set n c') rfl).trans rfl
theorem ev_bound {env : Fw.Env} {ms : Ms} {n : Nat} {c : Cell} (he : env[2]? = some (some (.loc n))) (hc : ms[n]? = some c) (hf : IsFeed c) :
    ∃ v c', Bnd v ∧ IsFeed c' ∧ mCallN (bndS f__law_bound [0] []) (mLen 1 (aCons (mVar 2) (aNil))) env ms = .ok (.d v) (ms.set n c') := by
  obtain ⟨v, c', hv, f, e⟩ := bound_spec hf
  have ev : mVar 2 env ms = .ok (.loc n) ms := by unfold mVar; rw [he]
  exact ⟨v, c', hv, f, (callN_ok (len_ok (acons_ok ev (ss := []) rfl) rfl)).trans (call_one (xs := []) hc e)⟩
noncomputable abbrev turnM : Fw.Env → Ms → T := sCons (sPar 4 5 (aCons (mCallN (bndS f__law_bound [0] []) (mLen 1 (aCons (mVar 2) (aNil)))) (aCons (mCallN (bndS f__law_bound [0] []) (mLen 1 (aCons (mVar 2) (aNil)))) (aNil))))
 (sCons (sIf swapC (sPar 4 5 (aCons (mVar 5) (aCons (mVar 4) (aNil)))) (sNil)) formsL)
theorem turn_ok {ns : List Int} {k : Int} {n : Nat} {t a b f e : Option S} {ms : Ms} {c : Cell} (hc : ms[n]? = some c) (hf : IsFeed c) :
    ∃ a' b' f' e' ms', turnM (Vl ns k n t a b f e) ms = .nx (Vl ns k n t a' b' f' e') ms' ∧ ∃ c', ms'[n]? = some c' ∧ IsFeed c' := by
  obtain ⟨v, c1, hv, f1, e1⟩ := ev_bound (env := Vl ns k n t a b f e) rfl hc hf
  obtain ⟨u, c2, hu, f2, e2⟩ := ev_bound (env := Vl ns k n t a b f e) rfl (getSet hc) f1
  have p : sPar 4 5 (aCons (mCallN (bndS f__law_bound [0] []) (mLen 1 (aCons (mVar 2) (aNil)))) (aCons (mCallN (bndS f__law_bound [0] []) (mLen 1 (aCons (mVar 2) (aNil)))) (aNil))) (Vl ns k n t a b f e) ms = .nx (Vl ns k n t (some (.d v)) (some (.d u)) f e) ((ms.set n c1).set n c2) := by
    unfold sPar
    rw [acons_ok e1 (acons_ok e2 (ss := []) rfl)]
    rfl
  obtain ⟨q, m3, e3, c3, hc3, f3⟩ := swap_ok (ns := ns) (k := k) (t := t) (f := f) (e := e) (getSet (c' := c2) (getSet (c' := c1) hc)) f2 hv hu
  cases q with
  | true =>
    obtain ⟨f', e', h⟩ := forms_ok (ns := ns) (k := k) (n := n) (t := t) (f := f) (e := e) (ms := m3) hu hv
    exact ⟨_, _, _, _, m3, (cons_nx p).trans ((cons_nx (e1 := Vl ns k n t (some (.d u)) (some (.d v)) f e) (ms1 := m3) ((if_t e3).trans rfl)).trans h), c3, hc3, f3⟩
  | false =>
    obtain ⟨f', e', h⟩ := forms_ok (ns := ns) (k := k) (n := n) (t := t) (f := f) (e := e) (ms := m3) hv hu
    exact ⟨_, _, _, _, m3, (cons_nx p).trans ((cons_nx (e1 := Vl ns k n t (some (.d v)) (some (.d u)) f e) (ms1 := m3) ((if_f e3).trans rfl)).trans h), c3, hc3, f3⟩
noncomputable abbrev turnsL : Fw.Env → Ms → T := sFor (iRng1 (aCons (mC (.d (.int 4))) (aNil))) (gSet 3) turnM
theorem turns_ok {ns : List Int} {k : Int} {n : Nat} {t a b f e : Option S} {ms : Ms} {c : Cell} (hc : ms[n]? = some c) (hf : IsFeed c) :
    ∃ t' a' b' f' e' ms', turnsL (Vl ns k n t a b f e) ms = .nx (Vl ns k n t' a' b' f' e') ms' := by
  have hi := for_ok (m := turnM) (mi := iRng1 (aCons (mC (.d (.int 4))) (aNil))) (g := gSet 3) (env := Vl ns k n t a b f e) (ms := ms) (ms1 := ms) (xs := rngS 0 4) rfl
  obtain ⟨e2, m2, h, ⟨t', a', b', f', e', rfl⟩, _⟩ := forL_inv (m := turnM) (g := gSet 3) (xs := rngS 0 4) (env := Vl ns k n t a b f e) (ms := ms)
    (fun en m => (∃ t' a' b' f' e', en = Vl ns k n t' a' b' f' e') ∧ ∃ c', m[n]? = some c' ∧ IsFeed c') (fun x hx en m p => by
      obtain ⟨⟨t', a', b', f', e', rfl⟩, c', hc', hf'⟩ := p
      obtain ⟨a2, b2, f2, e2, m2, h2, c2, hc2, hf2⟩ := turn_ok (ns := ns) (k := k) (n := n) (t := some x) (a := a') (b := b') (f := f') (e := e') hc' hf'
      exact ⟨_, _, _, rfl, h2, ⟨_, _, _, _, _, rfl⟩, c2, hc2, hf2⟩) ⟨⟨_, _, _, _, _, rfl⟩, c, hc, hf⟩
  exact ⟨t', a', b', f', e', m2, hi.trans h⟩
theorem law_len {ns : List Int} {ms : Ms} : Fw.iRng1 (aCons (mB1 (c2 maxI) (aCons (mC (.d (.int 1))) (aCons (mB1 (c2 minI) (aCons (mC (.d (.int 6))) (aCons (mB1 (c1 lenD) (aCons (mVar 0) (aNil))) (aNil)))) (aNil)))) (aNil)) [some (scr ns), none, none, none, none, none, none, none] ms = .ok (rngS 0 (maxI 1 (minI 6 ns.length)).toNat, none) ms := by
  have hl : mB1 (c1 lenD) (aCons (mVar 0) (aNil)) [some (scr ns), none, none, none, none, none, none, none] ms = .ok (.d (.int ns.length)) ms := scr_len rfl
  have h1 : mB1 (c2 minI) (aCons (mC (.d (.int 6))) (aCons (mB1 (c1 lenD) (aCons (mVar 0) (aNil))) (aNil))) [some (scr ns), none, none, none, none, none, none, none] ms = .ok (.d (.int (minI 6 ns.length))) ms :=
    (b1_ok (acons_ok (s := .d (.int 6)) (ms1 := ms) rfl (acons_ok hl (ss := []) rfl))).trans rfl
  have h2 : mB1 (c2 maxI) (aCons (mC (.d (.int 1))) (aCons (mB1 (c2 minI) (aCons (mC (.d (.int 6))) (aCons (mB1 (c1 lenD) (aCons (mVar 0) (aNil))) (aNil)))) (aNil))) [some (scr ns), none, none, none, none, none, none, none] ms = .ok (.d (.int (maxI 1 (minI 6 ns.length)))) ms :=
    (b1_ok (acons_ok (s := .d (.int 1)) (ms1 := ms) rfl (acons_ok h1 (ss := []) rfl))).trans rfl
  unfold Fw.iRng1
  rw [acons_ok h2 (ss := []) rfl]
  show (match Fw.inR (maxI 1 (minI 6 ns.length)) with
    | true => R.ok (rngS 0 (maxI 1 (minI 6 ns.length)).toNat, none) ms
    | false => .bad) = _
  have : Fw.inR (maxI 1 (minI 6 ns.length)) = true := by
    unfold Fw.inR
    rw [decide_eq_true_eq]
    unfold maxI minI
    split <;> split <;> omega
  rw [this]
theorem plain (ns : List Int) : ∃ ms', f_law [scr ns] [] = .ok (.d (.bl true)) ms' := by
  obtain ⟨e2, m2, h, _⟩ := forL_inv (m := sCons (sSet 2 (mCallN (bndS f__law_feed [0, 1] []) (mLen 2 (aCons (mVar 0) (aCons (mVar 1) (aNil)))))) turnsL) (g := gSet 1) (xs := rngS 0 (maxI 1 (minI 6 ns.length)).toNat) (env := [some (scr ns), none, none, none, none, none, none, none]) (ms := [])
    (fun en m => ∃ k n t a b f e, en = [some (scr ns), k, n, t, a, b, f, e]) (fun x hx en m p => by
      obtain ⟨k, n, t, a, b, f, e, rfl⟩ := p
      obtain ⟨i, rfl, i0⟩ : ∃ i : Int, x = .d (.int i) ∧ 0 ≤ i := by
        unfold rngS at hx
        obtain ⟨j, _, rfl⟩ := List.mem_map.mp hx
        exact ⟨_, rfl, by omega⟩
      obtain ⟨c, hf, ef⟩ := feed_spec (ns := ns) i0
      have ec : mCallN (bndS f__law_feed [0, 1] []) (mLen 2 (aCons (mVar 0) (aCons (mVar 1) (aNil)))) [some (scr ns), some (.d (.int i)), n, t, a, b, f, e] m = .ok (.loc m.length) (m ++ [c]) :=
        (callN_ok (len_ok (acons_ok (s := scr ns) (ms1 := m) rfl (acons_ok (s := .d (.int i)) (ms1 := m) (ss := []) rfl rfl)) rfl)).trans (call_new (xs := [.frz (ns.map .int), .int i]) ef)
      have hc : (m ++ [c])[m.length]? = some c := by simp
      obtain ⟨t', a', b', f', e', m', ht⟩ := turns_ok (ns := ns) (k := i) (t := t) (a := a) (b := b) (f := f) (e := e) hc hf
      exact ⟨[some (scr ns), some (.d (.int i)), n, t, a, b, f, e], _, _, rfl, (cons_nx (e1 := Vl ns i m.length t a b f e) (set_ok ec)).trans ht, _, _, _, _, _, _, _, rfl⟩) ⟨_, _, _, _, _, _, _, rfl⟩
  refine ⟨m2, ?_⟩
  show fnSem 8 m_law _ _ = _
  refine fn_rt ((cons_nx ((for_ok law_len).trans h)).trans rfl)
end Ga
set_option Elab.async false
set_option linter.all false
set_option maxRecDepth 100000
set_option maxHeartbeats 0
namespace Ga
open PySem L2 PySem.Spec PyProof.Rows Fw

def fn : List DefX := [
  ⟨gA "_law_feed", "_law_feed", "_law_feed", defArgs (top 15), defBody (top 15), defScope (top 15), [], []⟩,
  ⟨gA "_law_take", "_law_take", "_law_take", defArgs (top 16), defBody (top 16), defScope (top 16), [], []⟩,
  ⟨gA "_law_value", "_law_value", "_law_value", defArgs (top 17), defBody (top 17), defScope (top 17), [], []⟩,
  ⟨gA "_law_bound", "_law_bound", "_law_bound", defArgs (top 18), defBody (top 18), defScope (top 18), [], []⟩,
  ⟨gA "is_whole", "is_whole", "is_whole", defArgs (top 9), defBody (top 9), defScope (top 9), [], []⟩,
  ⟨mA "Span" "__init__", "__init__", "Span.__init__", defArgs (sub (top 13) 0), defBody (sub (top 13) 0), defScope (sub (top 13) 0), [], []⟩,
  ⟨recA "classmethod" (mA "Span" "rod"), "rod", "Span.rod", defArgs (sub (top 13) 1), defBody (sub (top 13) 1), defScope (sub (top 13) 1), [], []⟩,
  ⟨recA "classmethod" (mA "Span" "rope"), "rope", "Span.rope", defArgs (sub (top 13) 2), defBody (sub (top 13) 2), defScope (sub (top 13) 2), [], []⟩,
  ⟨gA "_law_made", "_law_made", "_law_made", defArgs (top 19), defBody (top 19), defScope (top 19), [], []⟩,
  ⟨recA "property" (mA "Span" "least"), "least", "Span.least", defArgs (sub (top 13) 4), defBody (sub (top 13) 4), defScope (sub (top 13) 4), [], []⟩,
  ⟨recA "property" (mA "Span" "greatest"), "greatest", "Span.greatest", defArgs (sub (top 13) 5), defBody (sub (top 13) 5), defScope (sub (top 13) 5), [], []⟩,
  ⟨recA "property" (mA "Span" "is_rod"), "is_rod", "Span.is_rod", defArgs (sub (top 13) 6), defBody (sub (top 13) 6), defScope (sub (top 13) 6), [], []⟩,
  ⟨mA "Span" "__str__", "__str__", "Span.__str__", defArgs (sub (top 13) 15), defBody (sub (top 13) 15), defScope (sub (top 13) 15), [], []⟩,
  ⟨mA "Span" "__repr__", "__repr__", "Span.__repr__", defArgs (sub (top 13) 16), defBody (sub (top 13) 16), defScope (sub (top 13) 16), [], []⟩,
  ⟨gA "_law_told", "_law_told", "_law_told", defArgs (top 20), defBody (top 20), defScope (top 20), [], []⟩,
  ⟨gA "_law_due", "_law_due", "_law_due", defArgs (top 21), defBody (top 21), defScope (top 21), [], []⟩,
  ⟨gA "law", "law", "law", defArgs (top 22), defBody (top 22), defScope (top 22), [], []⟩,
  ⟨mA "InvalidSpan" "__init__", "__init__", "InvalidSpan.__init__", defArgs (sub (top 3) 0), defBody (sub (top 3) 0), defScope (sub (top 3) 0), [], ["__class__"]⟩]

def fa : List (PySem.W.Frag → Bool) := [
  fun K => (He.Fa.free "len").ok K,
  fun K => (He.Fa.free "min").ok K,
  fun K => (He.Fa.free "max").ok K,
  fun K => (He.Fa.free "range").ok K,
  fun K => (He.Fa.free "abs").ok K,
  fun K => (He.Fa.free "int").ok K,
  fun K => (He.Fa.glo "_law_feed").ok K,
  fun K => (He.Fa.glo "_law_take").ok K,
  fun K => (He.Fa.glo "_law_value").ok K,
  fun K => (He.Fa.free "tuple").ok K,
  fun K => (He.Fa.glo "_law_bound").ok K,
  fun K => (He.Fa.free "isinstance").ok K,
  fun K => (He.Fa.free "bool").ok K,
  fun K => (He.Fa.glo "is_whole").ok K,
  fun K => bCls (gA "Span" K) K,
  fun K => (He.Fa.noat "Span" "low").ok K,
  fun K => (He.Fa.noat "Span" "high").ok K,
  fun K => (He.Fa.mkr "Span").ok K,
  fun K => (He.Fa.glo "Span").ok K,
  fun K => bCm (gA "Span" K) "rod" (mA "Span" "rod" K) (recA "classmethod" (mA "Span" "rod") K) K,
  fun K => bCm (gA "Span" K) "rope" (mA "Span" "rope" K) (recA "classmethod" (mA "Span" "rope") K) K,
  fun K => (He.Fa.glo "_law_made").ok K,
  fun K => bProp (gA "Span" K) "least" (mA "Span" "least" K) (recA "property" (mA "Span" "least") K) K,
  fun K => bProp (gA "Span" K) "greatest" (mA "Span" "greatest" K) (recA "property" (mA "Span" "greatest") K) K,
  fun K => bProp (gA "Span" K) "is_rod" (mA "Span" "is_rod" K) (recA "property" (mA "Span" "is_rod") K) K,
  fun K => (He.Fa.free "str").ok K,
  fun K => (He.Fa.str "DOTS" "..").ok K,
  fun K => bSp (gA "Span" K) "__str__" (mA "Span" "__str__" K) K,
  fun K => bSp (gA "Span" K) "__repr__" (mA "Span" "__repr__" K) K,
  fun K => (He.Fa.free "repr").ok K,
  fun K => bExc (gA "InvalidSpan" K) K,
  fun K => bNo (gA "InvalidSpan" K) "low" K,
  fun K => bExc (gA "Snapped" K) K,
  fun K => bNo (gA "Snapped" K) "low" K,
  fun K => bNo (gA "InvalidSpan" K) "high" K,
  fun K => bNo (gA "Snapped" K) "high" K,
  fun K => bXis Γ [0, 1, 2, 3] [2] subT K,
  fun K => (He.Fa.glo "Snapped").ok K,
  fun K => bTst Γ [(0, false), (1, true), (2, false), (3, false)] (gA "InvalidSpan") K,
  fun K => (He.Fa.glo "InvalidSpan").ok K,
  fun K => bTst Γ [(0, true), (1, true), (2, true), (3, true)] (gA "WayroundError") K,
  fun K => (He.Fa.glo "WayroundError").ok K,
  fun K => (He.Fa.glo "_law_told").ok K,
  fun K => (He.Fa.glo "_law_due").ok K,
  fun K => bX Pg.main.file (gA "InvalidSpan" K) (mA "InvalidSpan" "__init__" K) ["low", "high"] K,
  fun K => (He.Fa.free "super").ok K,
  fun K => (He.Fa.glo "law").ok K]

section
variable {K : PySem.W.Frag}
theorem q0 (c : SaysX fa fn K) : ((He.Fa.free "len").ok K) = true := c.fact 0 (f := fun K => (He.Fa.free "len").ok K) rfl
theorem q1 (c : SaysX fa fn K) : ((He.Fa.free "min").ok K) = true := c.fact 1 (f := fun K => (He.Fa.free "min").ok K) rfl
theorem q2 (c : SaysX fa fn K) : ((He.Fa.free "max").ok K) = true := c.fact 2 (f := fun K => (He.Fa.free "max").ok K) rfl
theorem q3 (c : SaysX fa fn K) : ((He.Fa.free "range").ok K) = true := c.fact 3 (f := fun K => (He.Fa.free "range").ok K) rfl
theorem q4 (c : SaysX fa fn K) : ((He.Fa.free "abs").ok K) = true := c.fact 4 (f := fun K => (He.Fa.free "abs").ok K) rfl
theorem q5 (c : SaysX fa fn K) : ((He.Fa.free "int").ok K) = true := c.fact 5 (f := fun K => (He.Fa.free "int").ok K) rfl
theorem q6 (c : SaysX fa fn K) : ((He.Fa.glo "_law_feed").ok K) = true := c.fact 6 (f := fun K => (He.Fa.glo "_law_feed").ok K) rfl
theorem q7 (c : SaysX fa fn K) : ((He.Fa.glo "_law_take").ok K) = true := c.fact 7 (f := fun K => (He.Fa.glo "_law_take").ok K) rfl
theorem q8 (c : SaysX fa fn K) : ((He.Fa.glo "_law_value").ok K) = true := c.fact 8 (f := fun K => (He.Fa.glo "_law_value").ok K) rfl
theorem q9 (c : SaysX fa fn K) : ((He.Fa.free "tuple").ok K) = true := c.fact 9 (f := fun K => (He.Fa.free "tuple").ok K) rfl
theorem q10 (c : SaysX fa fn K) : ((He.Fa.glo "_law_bound").ok K) = true := c.fact 10 (f := fun K => (He.Fa.glo "_law_bound").ok K) rfl
theorem q11 (c : SaysX fa fn K) : ((He.Fa.free "isinstance").ok K) = true := c.fact 11 (f := fun K => (He.Fa.free "isinstance").ok K) rfl
theorem q12 (c : SaysX fa fn K) : ((He.Fa.free "bool").ok K) = true := c.fact 12 (f := fun K => (He.Fa.free "bool").ok K) rfl
theorem q13 (c : SaysX fa fn K) : ((He.Fa.glo "is_whole").ok K) = true := c.fact 13 (f := fun K => (He.Fa.glo "is_whole").ok K) rfl
theorem q14 (c : SaysX fa fn K) : (bCls (gA "Span" K) K) = true := c.fact 14 (f := fun K => bCls (gA "Span" K) K) rfl
theorem q15 (c : SaysX fa fn K) : ((He.Fa.noat "Span" "low").ok K) = true := c.fact 15 (f := fun K => (He.Fa.noat "Span" "low").ok K) rfl
theorem q16 (c : SaysX fa fn K) : ((He.Fa.noat "Span" "high").ok K) = true := c.fact 16 (f := fun K => (He.Fa.noat "Span" "high").ok K) rfl
theorem q17 (c : SaysX fa fn K) : ((He.Fa.mkr "Span").ok K) = true := c.fact 17 (f := fun K => (He.Fa.mkr "Span").ok K) rfl
theorem q18 (c : SaysX fa fn K) : ((He.Fa.glo "Span").ok K) = true := c.fact 18 (f := fun K => (He.Fa.glo "Span").ok K) rfl
theorem q19 (c : SaysX fa fn K) : (bCm (gA "Span" K) "rod" (mA "Span" "rod" K) (recA "classmethod" (mA "Span" "rod") K) K) = true := c.fact 19 (f := fun K => bCm (gA "Span" K) "rod" (mA "Span" "rod" K) (recA "classmethod" (mA "Span" "rod") K) K) rfl
theorem q20 (c : SaysX fa fn K) : (bCm (gA "Span" K) "rope" (mA "Span" "rope" K) (recA "classmethod" (mA "Span" "rope") K) K) = true := c.fact 20 (f := fun K => bCm (gA "Span" K) "rope" (mA "Span" "rope" K) (recA "classmethod" (mA "Span" "rope") K) K) rfl
theorem q21 (c : SaysX fa fn K) : ((He.Fa.glo "_law_made").ok K) = true := c.fact 21 (f := fun K => (He.Fa.glo "_law_made").ok K) rfl
theorem q22 (c : SaysX fa fn K) : (bProp (gA "Span" K) "least" (mA "Span" "least" K) (recA "property" (mA "Span" "least") K) K) = true := c.fact 22 (f := fun K => bProp (gA "Span" K) "least" (mA "Span" "least" K) (recA "property" (mA "Span" "least") K) K) rfl
theorem q23 (c : SaysX fa fn K) : (bProp (gA "Span" K) "greatest" (mA "Span" "greatest" K) (recA "property" (mA "Span" "greatest") K) K) = true := c.fact 23 (f := fun K => bProp (gA "Span" K) "greatest" (mA "Span" "greatest" K) (recA "property" (mA "Span" "greatest") K) K) rfl
theorem q24 (c : SaysX fa fn K) : (bProp (gA "Span" K) "is_rod" (mA "Span" "is_rod" K) (recA "property" (mA "Span" "is_rod") K) K) = true := c.fact 24 (f := fun K => bProp (gA "Span" K) "is_rod" (mA "Span" "is_rod" K) (recA "property" (mA "Span" "is_rod") K) K) rfl
theorem q25 (c : SaysX fa fn K) : ((He.Fa.free "str").ok K) = true := c.fact 25 (f := fun K => (He.Fa.free "str").ok K) rfl
theorem q26 (c : SaysX fa fn K) : ((He.Fa.str "DOTS" "..").ok K) = true := c.fact 26 (f := fun K => (He.Fa.str "DOTS" "..").ok K) rfl
theorem q27 (c : SaysX fa fn K) : (bSp (gA "Span" K) "__str__" (mA "Span" "__str__" K) K) = true := c.fact 27 (f := fun K => bSp (gA "Span" K) "__str__" (mA "Span" "__str__" K) K) rfl
theorem q28 (c : SaysX fa fn K) : (bSp (gA "Span" K) "__repr__" (mA "Span" "__repr__" K) K) = true := c.fact 28 (f := fun K => bSp (gA "Span" K) "__repr__" (mA "Span" "__repr__" K) K) rfl
theorem q29 (c : SaysX fa fn K) : ((He.Fa.free "repr").ok K) = true := c.fact 29 (f := fun K => (He.Fa.free "repr").ok K) rfl
theorem q30 (c : SaysX fa fn K) : (bExc (gA "InvalidSpan" K) K) = true := c.fact 30 (f := fun K => bExc (gA "InvalidSpan" K) K) rfl
theorem q31 (c : SaysX fa fn K) : (bNo (gA "InvalidSpan" K) "low" K) = true := c.fact 31 (f := fun K => bNo (gA "InvalidSpan" K) "low" K) rfl
theorem q32 (c : SaysX fa fn K) : (bExc (gA "Snapped" K) K) = true := c.fact 32 (f := fun K => bExc (gA "Snapped" K) K) rfl
theorem q33 (c : SaysX fa fn K) : (bNo (gA "Snapped" K) "low" K) = true := c.fact 33 (f := fun K => bNo (gA "Snapped" K) "low" K) rfl
theorem q34 (c : SaysX fa fn K) : (bNo (gA "InvalidSpan" K) "high" K) = true := c.fact 34 (f := fun K => bNo (gA "InvalidSpan" K) "high" K) rfl
theorem q35 (c : SaysX fa fn K) : (bNo (gA "Snapped" K) "high" K) = true := c.fact 35 (f := fun K => bNo (gA "Snapped" K) "high" K) rfl
theorem q36 (c : SaysX fa fn K) : (bXis Γ [0, 1, 2, 3] [2] subT K) = true := c.fact 36 (f := fun K => bXis Γ [0, 1, 2, 3] [2] subT K) rfl
theorem q37 (c : SaysX fa fn K) : ((He.Fa.glo "Snapped").ok K) = true := c.fact 37 (f := fun K => (He.Fa.glo "Snapped").ok K) rfl
theorem q38 (c : SaysX fa fn K) : (bTst Γ [(0, false), (1, true), (2, false), (3, false)] (gA "InvalidSpan") K) = true := c.fact 38 (f := fun K => bTst Γ [(0, false), (1, true), (2, false), (3, false)] (gA "InvalidSpan") K) rfl
theorem q39 (c : SaysX fa fn K) : ((He.Fa.glo "InvalidSpan").ok K) = true := c.fact 39 (f := fun K => (He.Fa.glo "InvalidSpan").ok K) rfl
theorem q40 (c : SaysX fa fn K) : (bTst Γ [(0, true), (1, true), (2, true), (3, true)] (gA "WayroundError") K) = true := c.fact 40 (f := fun K => bTst Γ [(0, true), (1, true), (2, true), (3, true)] (gA "WayroundError") K) rfl
theorem q41 (c : SaysX fa fn K) : ((He.Fa.glo "WayroundError").ok K) = true := c.fact 41 (f := fun K => (He.Fa.glo "WayroundError").ok K) rfl
theorem q42 (c : SaysX fa fn K) : ((He.Fa.glo "_law_told").ok K) = true := c.fact 42 (f := fun K => (He.Fa.glo "_law_told").ok K) rfl
theorem q43 (c : SaysX fa fn K) : ((He.Fa.glo "_law_due").ok K) = true := c.fact 43 (f := fun K => (He.Fa.glo "_law_due").ok K) rfl
theorem q44 (c : SaysX fa fn K) : (bX Pg.main.file (gA "InvalidSpan" K) (mA "InvalidSpan" "__init__" K) ["low", "high"] K) = true := c.fact 44 (f := fun K => bX Pg.main.file (gA "InvalidSpan" K) (mA "InvalidSpan" "__init__" K) ["low", "high"] K) rfl
theorem q45 (c : SaysX fa fn K) : ((He.Fa.free "super").ok K) = true := c.fact 45 (f := fun K => (He.Fa.free "super").ok K) rfl
theorem q46 (c : SaysX fa fn K) : ((He.Fa.glo "law").ok K) = true := c.fact 46 (f := fun K => (He.Fa.glo "law").ok K) rfl
end

end Ga
set_option Elab.async false
set_option linter.all false
set_option maxRecDepth 100000
set_option maxHeartbeats 0
namespace Ga
open PySem L2 PySem.Spec PyProof.Rows Fw

theorem x_InvalidSpan {K : PySem.W.Frag} {mg : Str → Option Value} {base : Heap} (c : SaysX fa fn K) (KB : K.In base) (GB : base.Ns mainGlobals mg) : ExcOk Pg K mg "InvalidSpan" (gA "InvalidSpan" K) ["low", "high"] := by
  obtain ⟨e, ok⟩ := c.def0 17 rfl
  refine ⟨He.glo_ok KB GB (q39 c), ⟨_, _, _, _, _, _, [("low", "low"), ("high", "high")], ["low", "high"], _, _, _, _, _, _, _, _, _, _, _, _, _, x_ok (prog := Pg) (fs := [("low", "low"), ("high", "high")]) rfl (q44 c) e ok rfl rfl rfl rfl (by decide +kernel), ⟨rfl, rfl, rfl, rfl, rfl, by decide +kernel, by decide +kernel, by decide⟩, rfl, fun _ => rfl, (.cons (.cons .nil)), rfl, rfl, by decide, fun us hl kV doc pm an ct v => match us, hl with | [_, _], _ => rfl⟩, He.free_ok KB GB (q45 c)⟩

theorem sc__law_feed : FnScope ["_law_script", "_law_k", "_law_cell", "_law_seed"] ["_law_script", "_law_k"] (defScope (top 15)) := ⟨rfl, rfl, rfl, by decide +kernel, rfl, by decide +kernel, by decide +kernel⟩

theorem d__law_feed {w : World} {K : PySem.W.Frag} {mg : Str → Option Value} {base : Heap} (c : SaysX fa fn K) (KB : K.In base) (GB : base.Ns mainGlobals mg) : ∃ fd, FunD K "_law_feed" "_law_feed" (defArgs (top 15)) (defBody (top 15)) (defScope (top 15)) [] [] (gA "_law_feed" K) fd ∧ DF Pg w K mg base (Γ K) 1 (gA "_law_feed" K) fd ["_law_script", "_law_k"] f__law_feed := by
  obtain ⟨fd, F0⟩ := c.def_ 0 rfl rfl
  have F : FunD K "_law_feed" "_law_feed" (defArgs (top 15)) (defBody (top 15)) (defScope (top 15)) [] [] (gA "_law_feed" K) fd := F0
  exact ⟨fd, F, d_fn (k := 0) (m := m__law_feed) F sc__law_feed rfl fun cd A outer s H E ok dk =>
   (ss_cons (s_set ok.nd (e_bin o_add (e_bin o_mul e_int (e_var 1)) e_int))
 (ss_cons (s_if (t_cmp1 o_lt (e_var 1) (e_callB cd_len rfl (He.free_ok KB GB (q0 c)) (by decide +kernel) (a_cons (e_var 0) a_nil)) rfl) (ss_one (s_set ok.nd (e_callB cd_abs rfl (He.free_ok KB GB (q4 c)) (by decide +kernel) (a_cons (e_ix (e_var 0) (e_var 1)) a_nil)))) (ss_one (s_if (t_cmp1 o_gt (e_callB cd_len rfl (He.free_ok KB GB (q0 c)) (by decide +kernel) (a_cons (e_var 0) a_nil)) e_int rfl) (ss_one (s_set ok.nd (e_bin o_add (e_var 2) (e_bin o_mul (e_bin o_modI (e_callB cd_abs rfl (He.free_ok KB GB (q4 c)) (by decide +kernel) (a_cons (e_ix (e_var 0) (e_bin o_modI (e_var 1) (e_callB cd_len rfl (He.free_ok KB GB (q0 c)) (by decide +kernel) (a_cons (e_var 0) a_nil)))) a_nil)) e_int) e_int)))) ss_nil)))
 (ss_cons (s_set ok.nd (e_bin o_add (e_bin o_modI (e_bin o_add (e_bin o_mul (e_bin o_modI (e_var 2) e_int) e_int) (e_bin o_mul e_int (e_var 1))) e_int) e_int))
 (ss_one (s_ret (e_new (a_cons (e_bin o_mul (e_var 2) (e_callT cd_int rfl (He.free_ok KB GB (q5 c)) (by decide +kernel) (a_cons (e_cmp1 o_ge (e_var 2) (e_bin o_powI e_int e_int) rfl) a_nil))) (a_cons (e_var 3) (a_cons e_int a_nil)))))))))⟩

theorem sc__law_take : FnScope ["_law_feed_here", "_law_many", "_law_digit", "_law_mix"] ["_law_feed_here", "_law_many"] (defScope (top 16)) := ⟨rfl, rfl, rfl, by decide +kernel, rfl, by decide +kernel, by decide +kernel⟩

theorem d__law_take {w : World} {K : PySem.W.Frag} {mg : Str → Option Value} {base : Heap} (c : SaysX fa fn K) (KB : K.In base) (GB : base.Ns mainGlobals mg) : ∃ fd, FunD K "_law_take" "_law_take" (defArgs (top 16)) (defBody (top 16)) (defScope (top 16)) [] [] (gA "_law_take" K) fd ∧ DF Pg w K mg base (Γ K) 1 (gA "_law_take" K) fd ["_law_feed_here", "_law_many"] f__law_take := by
  obtain ⟨fd, F0⟩ := c.def_ 1 rfl rfl
  have F : FunD K "_law_take" "_law_take" (defArgs (top 16)) (defBody (top 16)) (defScope (top 16)) [] [] (gA "_law_take" K) fd := F0
  exact ⟨fd, F, d_fn (k := 0) (m := m__law_take) F sc__law_take rfl fun cd A outer s H E ok dk =>
   (ss_cons (s_if (t_cmp1 o_gt (e_ix (e_var 0) e_int) e_int rfl) (ss_cons (s_set ok.nd (e_bin o_modI (e_ix (e_var 0) e_int) (e_var 1)))
 (ss_cons (s_sub (e_bin o_divI (e_ix (e_var 0) e_int) (e_var 1)) (e_var 0) e_int)
 (ss_one (s_ret (e_var 2))))) ss_nil)
 (ss_cons (s_sub (e_bin o_add (e_ix (e_var 0) e_int) e_int) (e_var 0) e_int)
 (ss_cons (s_set ok.nd (e_bin o_modI (e_bin o_mul (e_bin o_add (e_ix (e_var 0) e_int) (e_bin o_mul e_int (e_ix (e_var 0) e_int))) e_int) e_int))
 (ss_cons (s_sub (e_bin o_add (e_bin o_modI (e_bin o_add (e_bin o_mul (e_var 3) e_int) e_int) e_int) e_int) (e_var 0) e_int)
 (ss_one (s_ret (e_bin o_modI (e_bin o_divI (e_bin o_add (e_bin o_mul (e_var 3) e_int) (e_ix (e_var 0) e_int)) e_int) (e_var 1))))))))⟩

theorem sc__law_value : FnScope ["_law_feed_here", "_law_deep", "_law_form", "_law_turn"] ["_law_feed_here", "_law_deep"] (defScope (top 17)) := ⟨rfl, rfl, rfl, by decide +kernel, rfl, by decide +kernel, by decide +kernel⟩

theorem d__law_value {w : World} {K : PySem.W.Frag} {mg : Str → Option Value} {base : Heap} (c : SaysX fa fn K) (KB : K.In base) (GB : base.Ns mainGlobals mg) : ∃ fd, FunD K "_law_value" "_law_value" (defArgs (top 17)) (defBody (top 17)) (defScope (top 17)) [] [] (gA "_law_value" K) fd ∧ ∀ n : Nat, DF Pg w K mg base (Γ K) (1 + n) (gA "_law_value" K) fd ["_law_feed_here", "_law_deep"] (f__law_value n) := by
  obtain ⟨fd, F0⟩ := c.def_ 2 rfl rfl
  obtain ⟨fd__law_take, F__law_take, D__law_take⟩ := d__law_take (w := w) c KB GB
  have F : FunD K "_law_value" "_law_value" (defArgs (top 17)) (defBody (top 17)) (defScope (top 17)) [] [] (gA "_law_value" K) fd := F0
  refine ⟨fd, F, fun n => ?_⟩
  induction n with
  | zero => exact DF.bad
  | succ nn DR => exact d_fn (k := 1 + nn) (m := m__law_value (f__law_value nn)) F sc__law_value rfl fun cd A outer s H E ok dk =>
   (ss_cons (s_set ok.nd (e_callN (Cal.fn ok D__law_take (by omega) (bd_of (n := 2) (ks := []) (pk := [0, 1]) F__law_take rfl (by decide) fun _ _ _ _ _ _ us ws h1 h2 => match us, ws, h1, h2 with | [_, _], [], _, _ => rfl) (fun _ => .nil)) rfl (He.glo_ok KB GB (q7 c)) F__law_take.kp (c_pos (a_cons (e_var 0) (a_cons e_int a_nil)))))
 (ss_cons (s_if (DW.t (w_and (t_cmp1 o_lt (e_var 2) e_int rfl) (w_and1 (t_cmp1 o_gt (e_var 1) e_int rfl)))) (ss_one (s_ret (e_callT cd_tuple rfl (He.free_ok KB GB (q9 c)) (by decide +kernel) (a_cons (e_lc false ok (i_range1 rfl (He.free_ok KB GB (q3 c)) (a_cons (e_callN (Cal.fn ok D__law_take (by omega) (bd_of (n := 2) (ks := []) (pk := [0, 1]) F__law_take rfl (by decide) fun _ _ _ _ _ _ us ws h1 h2 => match us, ws, h1, h2 with | [_, _], [], _, _ => rfl) (fun _ => .nil)) rfl (He.glo_ok KB GB (q7 c)) F__law_take.kp (c_pos (a_cons (e_var 0) (a_cons e_int a_nil)))) a_nil)) (blkOk_by (N := ["_law_feed_here", "_law_deep", "_law_form", "_law_turn"]) (sc := defScope (top 17)) (own := [("_law_turn", 3)]) (by decide +kernel)) rfl (fun s_ H_ C_ cl_ fp_ => (gv_name (ok.blk s_ H_ _ C_ cl_ fp_).nd)) (fun s_ H_ C_ cl_ fp_ => ts_nil) (fun s_ H_ C_ cl_ fp_ => (e_callN (Cal.fn (ok.blk s_ H_ _ C_ cl_ fp_) DR (by omega) (bd_of (n := 2) (ks := []) (pk := [0, 1]) F rfl (by decide) fun _ _ _ _ _ _ us ws h1 h2 => match us, ws, h1, h2 with | [_, _], [], _, _ => rfl) (fun _ => .nil)) rfl (He.glo_ok KB GB (q8 c)) F.kp (c_pos (a_cons (e_var 0) (a_cons (e_bin o_subI (e_var 1) e_int) a_nil)))))) a_nil)))) ss_nil)
 (ss_cons (s_if (t_cmp1 o_lt (e_var 2) e_int rfl) (ss_one (s_ret (e_ix (e_lst (a_cons e_int (a_cons e_int (a_cons e_int (a_cons e_int (a_cons (e_bin o_subI e_int e_int) (a_cons e_int (a_cons (e_bin o_subI e_int e_int) (a_cons (e_bin o_powI e_int e_int) a_nil))))))))) (e_callN (Cal.fn ok D__law_take (by omega) (bd_of (n := 2) (ks := []) (pk := [0, 1]) F__law_take rfl (by decide) fun _ _ _ _ _ _ us ws h1 h2 => match us, ws, h1, h2 with | [_, _], [], _, _ => rfl) (fun _ => .nil)) rfl (He.glo_ok KB GB (q7 c)) F__law_take.kp (c_pos (a_cons (e_var 0) (a_cons e_int a_nil))))))) ss_nil)
 (ss_cons (s_if (t_cmp1 o_lt (e_var 2) e_int rfl) (ss_one (s_ret (e_ix (e_lst (a_cons e_str (a_cons e_str (a_cons e_str (a_cons e_str (a_cons e_str (a_cons e_str (a_cons e_str (a_cons e_str a_nil))))))))) (e_callN (Cal.fn ok D__law_take (by omega) (bd_of (n := 2) (ks := []) (pk := [0, 1]) F__law_take rfl (by decide) fun _ _ _ _ _ _ us ws h1 h2 => match us, ws, h1, h2 with | [_, _], [], _, _ => rfl) (fun _ => .nil)) rfl (He.glo_ok KB GB (q7 c)) F__law_take.kp (c_pos (a_cons (e_var 0) (a_cons e_int a_nil))))))) ss_nil)
 (ss_one (s_ret (e_ix (e_lst (a_cons e_bl (a_cons e_bl (a_cons e_non a_nil)))) (e_callN (Cal.fn ok D__law_take (by omega) (bd_of (n := 2) (ks := []) (pk := [0, 1]) F__law_take rfl (by decide) fun _ _ _ _ _ _ us ws h1 h2 => match us, ws, h1, h2 with | [_, _], [], _, _ => rfl) (fun _ => .nil)) rfl (He.glo_ok KB GB (q7 c)) F__law_take.kp (c_pos (a_cons (e_var 0) (a_cons e_int a_nil)))))))))))

theorem sc__law_bound : FnScope ["_law_feed_here"] ["_law_feed_here"] (defScope (top 18)) := ⟨rfl, rfl, rfl, by decide +kernel, rfl, by decide +kernel, by decide +kernel⟩

theorem d__law_bound {w : World} {K : PySem.W.Frag} {mg : Str → Option Value} {base : Heap} (c : SaysX fa fn K) (KB : K.In base) (GB : base.Ns mainGlobals mg) : ∃ fd, FunD K "_law_bound" "_law_bound" (defArgs (top 18)) (defBody (top 18)) (defScope (top 18)) [] [] (gA "_law_bound" K) fd ∧ DF Pg w K mg base (Γ K) 5 (gA "_law_bound" K) fd ["_law_feed_here"] f__law_bound := by
  obtain ⟨fd, F0⟩ := c.def_ 3 rfl rfl
  obtain ⟨fd__law_take, F__law_take, D__law_take⟩ := d__law_take (w := w) c KB GB
  obtain ⟨fd__law_value, F__law_value, D__law_value⟩ := d__law_value (w := w) c KB GB
  have F : FunD K "_law_bound" "_law_bound" (defArgs (top 18)) (defBody (top 18)) (defScope (top 18)) [] [] (gA "_law_bound" K) fd := F0
  exact ⟨fd, F, d_fn (k := 4) (m := m__law_bound) F sc__law_bound rfl fun cd A outer s H E ok dk =>
   (ss_cons (s_if (t_cmp1 (o_eq ok) (e_callN (Cal.fn ok D__law_take (by omega) (bd_of (n := 2) (ks := []) (pk := [0, 1]) F__law_take rfl (by decide) fun _ _ _ _ _ _ us ws h1 h2 => match us, ws, h1, h2 with | [_, _], [], _, _ => rfl) (fun _ => .nil)) rfl (He.glo_ok KB GB (q7 c)) F__law_take.kp (c_pos (a_cons (e_var 0) (a_cons e_int a_nil)))) e_int rfl) (ss_one (s_ret (e_callN (Cal.fn ok (D__law_value 3) (by omega) (bd_of (n := 2) (ks := []) (pk := [0, 1]) F__law_value rfl (by decide) fun _ _ _ _ _ _ us ws h1 h2 => match us, ws, h1, h2 with | [_, _], [], _, _ => rfl) (fun _ => .nil)) rfl (He.glo_ok KB GB (q8 c)) F__law_value.kp (c_pos (a_cons (e_var 0) (a_cons e_int a_nil)))))) ss_nil)
 (ss_one (s_ret (e_bin o_subI (e_callN (Cal.fn ok D__law_take (by omega) (bd_of (n := 2) (ks := []) (pk := [0, 1]) F__law_take rfl (by decide) fun _ _ _ _ _ _ us ws h1 h2 => match us, ws, h1, h2 with | [_, _], [], _, _ => rfl) (fun _ => .nil)) rfl (He.glo_ok KB GB (q7 c)) F__law_take.kp (c_pos (a_cons (e_var 0) (a_cons (e_ix (e_lst (a_cons e_int (a_cons e_int (a_cons e_int (a_cons (e_bin o_powI e_int e_int) a_nil))))) (e_callN (Cal.fn ok D__law_take (by omega) (bd_of (n := 2) (ks := []) (pk := [0, 1]) F__law_take rfl (by decide) fun _ _ _ _ _ _ us ws h1 h2 => match us, ws, h1, h2 with | [_, _], [], _, _ => rfl) (fun _ => .nil)) rfl (He.glo_ok KB GB (q7 c)) F__law_take.kp (c_pos (a_cons (e_var 0) (a_cons e_int a_nil))))) a_nil)))) (e_ix (e_lst (a_cons e_int (a_cons e_int (a_cons e_int (a_cons e_int a_nil))))) (e_callN (Cal.fn ok D__law_take (by omega) (bd_of (n := 2) (ks := []) (pk := [0, 1]) F__law_take rfl (by decide) fun _ _ _ _ _ _ us ws h1 h2 => match us, ws, h1, h2 with | [_, _], [], _, _ => rfl) (fun _ => .nil)) rfl (He.glo_ok KB GB (q7 c)) F__law_take.kp (c_pos (a_cons (e_var 0) (a_cons e_int a_nil)))))))))⟩

theorem sc_is_whole : FnScope ["value"] ["value"] (defScope (top 9)) := ⟨rfl, rfl, rfl, by decide +kernel, rfl, by decide +kernel, by decide +kernel⟩

theorem d_is_whole {w : World} {K : PySem.W.Frag} {mg : Str → Option Value} {base : Heap} (c : SaysX fa fn K) (KB : K.In base) (GB : base.Ns mainGlobals mg) : ∃ fd, FunD K "is_whole" "is_whole" (defArgs (top 9)) (defBody (top 9)) (defScope (top 9)) [] [] (gA "is_whole" K) fd ∧ DF Pg w K mg base (Γ K) 1 (gA "is_whole" K) fd ["value"] f_is_whole := by
  obtain ⟨fd, F0⟩ := c.def_ 4 rfl rfl
  have F : FunD K "is_whole" "is_whole" (defArgs (top 9)) (defBody (top 9)) (defScope (top 9)) [] [] (gA "is_whole" K) fd := F0
  exact ⟨fd, F, d_fn (k := 0) (m := m_is_whole) F sc_is_whole rfl fun cd A outer s H E ok dk =>
   (ss_one (s_ret (e_and (e_callB (cd_isi IsiOk.base) rfl (He.free_ok KB GB (q11 c)) (by decide +kernel) (a_cons (e_var 0) (a_cons (e_bty rfl (He.free_ok KB GB (q5 c)) (by decide +kernel)) a_nil))) (e_one (e_not (e_callB (cd_isi IsiOk.base) rfl (He.free_ok KB GB (q11 c)) (by decide +kernel) (a_cons (e_var 0) (a_cons (e_bty rfl (He.free_ok KB GB (q12 c)) (by decide +kernel)) a_nil))))))))⟩

theorem sc_Span_init : FnScope ["self", "least", "greatest"] ["self", "least", "greatest"] (defScope (sub (top 13) 0)) := ⟨rfl, rfl, rfl, by decide +kernel, rfl, by decide +kernel, by decide +kernel⟩

theorem d_Span_init {w : World} {K : PySem.W.Frag} {mg : Str → Option Value} {base : Heap} (c : SaysX fa fn K) (KB : K.In base) (GB : base.Ns mainGlobals mg) : ∃ fd, FunD K "__init__" "Span.__init__" (defArgs (sub (top 13) 0)) (defBody (sub (top 13) 0)) (defScope (sub (top 13) 0)) [] [] (mA "Span" "__init__" K) fd ∧ DF Pg w K mg base (Γ K) 2 (mA "Span" "__init__" K) fd ["self", "least", "greatest"] f_Span_init := by
  obtain ⟨fd, F0⟩ := c.def_ 5 rfl rfl
  obtain ⟨fd_is_whole, F_is_whole, D_is_whole⟩ := d_is_whole (w := w) c KB GB
  have F : FunD K "__init__" "Span.__init__" (defArgs (sub (top 13) 0)) (defBody (sub (top 13) 0)) (defScope (sub (top 13) 0)) [] [] (mA "Span" "__init__" K) fd := F0
  exact ⟨fd, F, d_fn (k := 1) (m := m_Span_init) F sc_Span_init rfl fun cd A outer s H E ok dk =>
   (ss_cons (s_if (DW.t (w_or (t_not (t_val (e_callN (Cal.fn ok D_is_whole (by omega) (bd_of (n := 1) (ks := []) (pk := [0]) F_is_whole rfl (by decide) fun _ _ _ _ _ _ us ws h1 h2 => match us, ws, h1, h2 with | [_], [], _, _ => rfl) (fun _ => .nil)) rfl (He.glo_ok KB GB (q13 c)) F_is_whole.kp (c_pos (a_cons (e_var 1) a_nil))))) (w_or (t_not (t_val (e_callN (Cal.fn ok D_is_whole (by omega) (bd_of (n := 1) (ks := []) (pk := [0]) F_is_whole rfl (by decide) fun _ _ _ _ _ _ us ws h1 h2 => match us, ws, h1, h2 with | [_], [], _, _ => rfl) (fun _ => .nil)) rfl (He.glo_ok KB GB (q13 c)) F_is_whole.kp (c_pos (a_cons (e_var 2) a_nil))))) (w_or1 (t_not (t_chain o_le o_le e_int (e_var 1) (e_var 2))))))) (ss_one (s_raise ok (x_InvalidSpan c KB GB) rfl rfl rfl (c_pos (a_cons (e_var 1) (a_cons (e_var 2) a_nil))))) ss_nil)
 (ss_cons (s_fld (cs := [4]) (e_var 1) (e_var 0) (fun z hz => by rcases List.mem_singleton.mp hz with rfl; exact ⟨(cls_ok (q14 c)), He.noat_ok (q15 c)⟩))
 (ss_one (s_fld (cs := [4]) (e_var 2) (e_var 0) (fun z hz => by rcases List.mem_singleton.mp hz with rfl; exact ⟨(cls_ok (q14 c)), He.noat_ok (q16 c)⟩)))))⟩

theorem sc_Span_rod : FnScope ["cls", "length"] ["cls", "length"] (defScope (sub (top 13) 1)) := ⟨rfl, rfl, rfl, by decide +kernel, rfl, by decide +kernel, by decide +kernel⟩

theorem d_Span_rod {w : World} {K : PySem.W.Frag} {mg : Str → Option Value} {base : Heap} (c : SaysX fa fn K) (KB : K.In base) (GB : base.Ns mainGlobals mg) : ∃ fd, FunD K "rod" "Span.rod" (defArgs (sub (top 13) 1)) (defBody (sub (top 13) 1)) (defScope (sub (top 13) 1)) [] [] (recA "classmethod" (mA "Span" "rod") K) fd ∧ DF Pg w K mg base (Γ K) 4 (recA "classmethod" (mA "Span" "rod") K) fd ["cls", "length"] f_Span_rod := by
  obtain ⟨fd, F0⟩ := c.def_ 6 rfl rfl
  obtain ⟨fd_Span_init, F_Span_init, D_Span_init⟩ := d_Span_init (w := w) c KB GB
  have F : FunD K "rod" "Span.rod" (defArgs (sub (top 13) 1)) (defBody (sub (top 13) 1)) (defScope (sub (top 13) 1)) [] [] (recA "classmethod" (mA "Span" "rod") K) fd := F0
  exact ⟨fd, F, d_fn (k := 3) (m := m_Span_rod) F sc_Span_rod rfl fun cd A outer s H E ok dk =>
   (ss_one (s_ret (e_callV (e_var 0) (.cons ⟨(He.mkr_ok (q17 c)).kp, (Cal.make (c := 4) ok (He.mkr_ok (q17 c)) rfl D_Span_init (by omega) (bd_of (n := 3) (ks := []) (pk := [0, 1, 2]) F_Span_init rfl (by decide) fun _ _ _ _ _ _ us ws h1 h2 => match us, ws, h1, h2 with | [_, _, _], [], _, _ => rfl) (fun _ => .nil))⟩ .nil) (c_pos (a_cons (e_var 1) (a_cons (e_var 1) a_nil))))))⟩

theorem sc_Span_rope : FnScope ["cls", "length"] ["cls", "length"] (defScope (sub (top 13) 2)) := ⟨rfl, rfl, rfl, by decide +kernel, rfl, by decide +kernel, by decide +kernel⟩

theorem d_Span_rope {w : World} {K : PySem.W.Frag} {mg : Str → Option Value} {base : Heap} (c : SaysX fa fn K) (KB : K.In base) (GB : base.Ns mainGlobals mg) : ∃ fd, FunD K "rope" "Span.rope" (defArgs (sub (top 13) 2)) (defBody (sub (top 13) 2)) (defScope (sub (top 13) 2)) [] [] (recA "classmethod" (mA "Span" "rope") K) fd ∧ DF Pg w K mg base (Γ K) 4 (recA "classmethod" (mA "Span" "rope") K) fd ["cls", "length"] f_Span_rope := by
  obtain ⟨fd, F0⟩ := c.def_ 7 rfl rfl
  obtain ⟨fd_Span_init, F_Span_init, D_Span_init⟩ := d_Span_init (w := w) c KB GB
  have F : FunD K "rope" "Span.rope" (defArgs (sub (top 13) 2)) (defBody (sub (top 13) 2)) (defScope (sub (top 13) 2)) [] [] (recA "classmethod" (mA "Span" "rope") K) fd := F0
  exact ⟨fd, F, d_fn (k := 3) (m := m_Span_rope) F sc_Span_rope rfl fun cd A outer s H E ok dk =>
   (ss_one (s_ret (e_callV (e_var 0) (.cons ⟨(He.mkr_ok (q17 c)).kp, (Cal.make (c := 4) ok (He.mkr_ok (q17 c)) rfl D_Span_init (by omega) (bd_of (n := 3) (ks := []) (pk := [0, 1, 2]) F_Span_init rfl (by decide) fun _ _ _ _ _ _ us ws h1 h2 => match us, ws, h1, h2 with | [_, _, _], [], _, _ => rfl) (fun _ => .nil))⟩ .nil) (c_pos (a_cons e_int (a_cons (e_var 1) a_nil))))))⟩

theorem sc__law_made : FnScope ["_law_form", "_law_a", "_law_b"] ["_law_form", "_law_a", "_law_b"] (defScope (top 19)) := ⟨rfl, rfl, rfl, by decide +kernel, rfl, by decide +kernel, by decide +kernel⟩

theorem d__law_made {w : World} {K : PySem.W.Frag} {mg : Str → Option Value} {base : Heap} (c : SaysX fa fn K) (KB : K.In base) (GB : base.Ns mainGlobals mg) : ∃ fd, FunD K "_law_made" "_law_made" (defArgs (top 19)) (defBody (top 19)) (defScope (top 19)) [] [] (gA "_law_made" K) fd ∧ DF Pg w K mg base (Γ K) 5 (gA "_law_made" K) fd ["_law_form", "_law_a", "_law_b"] f__law_made := by
  obtain ⟨fd, F0⟩ := c.def_ 8 rfl rfl
  obtain ⟨fd_Span_init, F_Span_init, D_Span_init⟩ := d_Span_init (w := w) c KB GB
  obtain ⟨fd_Span_rod, F_Span_rod, D_Span_rod⟩ := d_Span_rod (w := w) c KB GB
  obtain ⟨fd_Span_rope, F_Span_rope, D_Span_rope⟩ := d_Span_rope (w := w) c KB GB
  have F : FunD K "_law_made" "_law_made" (defArgs (top 19)) (defBody (top 19)) (defScope (top 19)) [] [] (gA "_law_made" K) fd := F0
  exact ⟨fd, F, d_fn (k := 4) (m := m__law_made) F sc__law_made rfl fun cd A outer s H E ok dk =>
   (ss_cons (s_if (t_cmp1 (o_eq ok) (e_var 0) e_int rfl) (ss_one (s_ret (e_callN (Cal.make (c := 4) ok (He.mkr_ok (q17 c)) rfl D_Span_init (by omega) (bd_of (n := 3) (ks := []) (pk := [0, 1, 2]) F_Span_init rfl (by decide) fun _ _ _ _ _ _ us ws h1 h2 => match us, ws, h1, h2 with | [_, _, _], [], _, _ => rfl) (fun _ => .nil)) rfl (He.glo_ok KB GB (q18 c)) (He.mkr_ok (q17 c)).kp (c_pos (a_cons (e_var 1) (a_cons (e_var 2) a_nil)))))) ss_nil)
 (ss_cons (s_if (t_cmp1 (o_eq ok) (e_var 0) e_int rfl) (ss_one (s_ret (e_callN (Cal.make (c := 4) ok (He.mkr_ok (q17 c)) rfl D_Span_init (by omega) (bd_of (n := 1) (ks := ["greatest", "least"]) (pk := [0, 2, 1]) F_Span_init rfl (by decide) fun _ _ _ _ _ _ us ws h1 h2 => match us, ws, h1, h2 with | [_], [_, _], _, _ => rfl) (fun _ => .nil)) rfl (He.glo_ok KB GB (q18 c)) (He.mkr_ok (q17 c)).kp (c_kw0 (k_cons (e_var 2) (k_cons (e_var 1) k_nil)))))) ss_nil)
 (ss_cons (s_if (t_cmp1 (o_eq ok) (e_var 0) e_int rfl) (ss_one (s_ret (e_cmeth (e_gfn 4 rfl (He.glo_ok KB GB (q18 c))) (.cons ⟨_, _, _, (cm_ok (q19 c)).1, (cm_ok (q19 c)).2, (Cal.fn ok D_Span_rod (by omega) (bd_of (n := 2) (ks := []) (pk := [0, 1]) F_Span_rod rfl (by decide) fun _ _ _ _ _ _ us ws h1 h2 => match us, ws, h1, h2 with | [_, _], [], _, _ => rfl) (fun _ => .nil))⟩ .nil) (c_pos (a_cons (e_var 1) a_nil))))) ss_nil)
 (ss_cons (s_if (t_cmp1 (o_eq ok) (e_var 0) e_int rfl) (ss_one (s_ret (e_cmeth (e_gfn 4 rfl (He.glo_ok KB GB (q18 c))) (.cons ⟨_, _, _, (cm_ok (q19 c)).1, (cm_ok (q19 c)).2, (Cal.fn ok D_Span_rod (by omega) (bd_of (n := 1) (ks := ["length"]) (pk := [0, 1]) F_Span_rod rfl (by decide) fun _ _ _ _ _ _ us ws h1 h2 => match us, ws, h1, h2 with | [_], [_], _, _ => rfl) (fun _ => .nil))⟩ .nil) (c_kw0 (k_cons (e_var 1) k_nil))))) ss_nil)
 (ss_cons (s_if (t_cmp1 (o_eq ok) (e_var 0) e_int rfl) (ss_one (s_ret (e_cmeth (e_gfn 4 rfl (He.glo_ok KB GB (q18 c))) (.cons ⟨_, _, _, (cm_ok (q20 c)).1, (cm_ok (q20 c)).2, (Cal.fn ok D_Span_rope (by omega) (bd_of (n := 2) (ks := []) (pk := [0, 1]) F_Span_rope rfl (by decide) fun _ _ _ _ _ _ us ws h1 h2 => match us, ws, h1, h2 with | [_, _], [], _, _ => rfl) (fun _ => .nil))⟩ .nil) (c_pos (a_cons (e_var 2) a_nil))))) ss_nil)
 (ss_one (s_ret (e_cmeth (e_gfn 4 rfl (He.glo_ok KB GB (q18 c))) (.cons ⟨_, _, _, (cm_ok (q20 c)).1, (cm_ok (q20 c)).2, (Cal.fn ok D_Span_rope (by omega) (bd_of (n := 1) (ks := ["length"]) (pk := [0, 1]) F_Span_rope rfl (by decide) fun _ _ _ _ _ _ us ws h1 h2 => match us, ws, h1, h2 with | [_], [_], _, _ => rfl) (fun _ => .nil))⟩ .nil) (c_kw0 (k_cons (e_var 2) k_nil))))))))))⟩

theorem sc_Span_least : FnScope ["self"] ["self"] (defScope (sub (top 13) 4)) := ⟨rfl, rfl, rfl, by decide +kernel, rfl, by decide +kernel, by decide +kernel⟩

theorem d_Span_least {w : World} {K : PySem.W.Frag} {mg : Str → Option Value} {base : Heap} (c : SaysX fa fn K) (KB : K.In base) (GB : base.Ns mainGlobals mg) : ∃ fd, FunD K "least" "Span.least" (defArgs (sub (top 13) 4)) (defBody (sub (top 13) 4)) (defScope (sub (top 13) 4)) [] [] (recA "property" (mA "Span" "least") K) fd ∧ DF Pg w K mg base (Γ K) 1 (recA "property" (mA "Span" "least") K) fd ["self"] f_Span_least := by
  obtain ⟨fd, F0⟩ := c.def_ 9 rfl rfl
  have F : FunD K "least" "Span.least" (defArgs (sub (top 13) 4)) (defBody (sub (top 13) 4)) (defScope (sub (top 13) 4)) [] [] (recA "property" (mA "Span" "least") K) fd := F0
  exact ⟨fd, F, d_fn (k := 0) (m := m_Span_least) F sc_Span_least rfl fun cd A outer s H E ok dk =>
   (ss_one (s_ret (e_attr (e_var 0) (.cons (at_fld (c := 4) (cls_ok (q14 c)) (He.noat_ok (q15 c)) rfl rfl) .nil))))⟩

theorem sc_Span_greatest : FnScope ["self"] ["self"] (defScope (sub (top 13) 5)) := ⟨rfl, rfl, rfl, by decide +kernel, rfl, by decide +kernel, by decide +kernel⟩

theorem d_Span_greatest {w : World} {K : PySem.W.Frag} {mg : Str → Option Value} {base : Heap} (c : SaysX fa fn K) (KB : K.In base) (GB : base.Ns mainGlobals mg) : ∃ fd, FunD K "greatest" "Span.greatest" (defArgs (sub (top 13) 5)) (defBody (sub (top 13) 5)) (defScope (sub (top 13) 5)) [] [] (recA "property" (mA "Span" "greatest") K) fd ∧ DF Pg w K mg base (Γ K) 1 (recA "property" (mA "Span" "greatest") K) fd ["self"] f_Span_greatest := by
  obtain ⟨fd, F0⟩ := c.def_ 10 rfl rfl
  have F : FunD K "greatest" "Span.greatest" (defArgs (sub (top 13) 5)) (defBody (sub (top 13) 5)) (defScope (sub (top 13) 5)) [] [] (recA "property" (mA "Span" "greatest") K) fd := F0
  exact ⟨fd, F, d_fn (k := 0) (m := m_Span_greatest) F sc_Span_greatest rfl fun cd A outer s H E ok dk =>
   (ss_one (s_ret (e_attr (e_var 0) (.cons (at_fld (c := 4) (cls_ok (q14 c)) (He.noat_ok (q16 c)) rfl rfl) .nil))))⟩

theorem sc_Span_is_rod : FnScope ["self"] ["self"] (defScope (sub (top 13) 6)) := ⟨rfl, rfl, rfl, by decide +kernel, rfl, by decide +kernel, by decide +kernel⟩

theorem d_Span_is_rod {w : World} {K : PySem.W.Frag} {mg : Str → Option Value} {base : Heap} (c : SaysX fa fn K) (KB : K.In base) (GB : base.Ns mainGlobals mg) : ∃ fd, FunD K "is_rod" "Span.is_rod" (defArgs (sub (top 13) 6)) (defBody (sub (top 13) 6)) (defScope (sub (top 13) 6)) [] [] (recA "property" (mA "Span" "is_rod") K) fd ∧ DF Pg w K mg base (Γ K) 1 (recA "property" (mA "Span" "is_rod") K) fd ["self"] f_Span_is_rod := by
  obtain ⟨fd, F0⟩ := c.def_ 11 rfl rfl
  have F : FunD K "is_rod" "Span.is_rod" (defArgs (sub (top 13) 6)) (defBody (sub (top 13) 6)) (defScope (sub (top 13) 6)) [] [] (recA "property" (mA "Span" "is_rod") K) fd := F0
  exact ⟨fd, F, d_fn (k := 0) (m := m_Span_is_rod) F sc_Span_is_rod rfl fun cd A outer s H E ok dk =>
   (ss_one (s_ret (e_cmp1 (o_eq ok) (e_attr (e_var 0) (.cons (at_fld (c := 4) (cls_ok (q14 c)) (He.noat_ok (q15 c)) rfl rfl) .nil)) (e_attr (e_var 0) (.cons (at_fld (c := 4) (cls_ok (q14 c)) (He.noat_ok (q16 c)) rfl rfl) .nil)) rfl)))⟩

theorem sc_Span_str : FnScope ["self"] ["self"] (defScope (sub (top 13) 15)) := ⟨rfl, rfl, rfl, by decide +kernel, rfl, by decide +kernel, by decide +kernel⟩

theorem d_Span_str {w : World} {K : PySem.W.Frag} {mg : Str → Option Value} {base : Heap} (c : SaysX fa fn K) (KB : K.In base) (GB : base.Ns mainGlobals mg) : ∃ fd, FunD K "__str__" "Span.__str__" (defArgs (sub (top 13) 15)) (defBody (sub (top 13) 15)) (defScope (sub (top 13) 15)) [] [] (mA "Span" "__str__" K) fd ∧ DF Pg w K mg base (Γ K) 1 (mA "Span" "__str__" K) fd ["self"] f_Span_str := by
  obtain ⟨fd, F0⟩ := c.def_ 12 rfl rfl
  have F : FunD K "__str__" "Span.__str__" (defArgs (sub (top 13) 15)) (defBody (sub (top 13) 15)) (defScope (sub (top 13) 15)) [] [] (mA "Span" "__str__" K) fd := F0
  exact ⟨fd, F, d_fn (k := 0) (m := m_Span_str) F sc_Span_str rfl fun cd A outer s H E ok dk =>
   (ss_cons (s_if (t_cmp1 (o_eq ok) (e_attr (e_var 0) (.cons (at_fld (c := 4) (cls_ok (q14 c)) (He.noat_ok (q15 c)) rfl rfl) .nil)) (e_attr (e_var 0) (.cons (at_fld (c := 4) (cls_ok (q14 c)) (He.noat_ok (q16 c)) rfl rfl) .nil)) rfl) (ss_one (s_ret (e_callT cd_str rfl (He.free_ok KB GB (q25 c)) (by decide +kernel) (a_cons (e_attr (e_var 0) (.cons (at_fld (c := 4) (cls_ok (q14 c)) (He.noat_ok (q15 c)) rfl rfl) .nil)) a_nil)))) ss_nil)
 (ss_one (s_ret (e_joined (.cons (e_fmt (e_attr (e_var 0) (.cons (at_fld (c := 4) (cls_ok (q14 c)) (He.noat_ok (q15 c)) rfl rfl) .nil))) (.cons (e_fmt (e_gstr rfl (He.str_ok KB GB (q26 c)))) (.cons (e_fmt (e_attr (e_var 0) (.cons (at_fld (c := 4) (cls_ok (q14 c)) (He.noat_ok (q16 c)) rfl rfl) .nil))) .nil)))))))⟩

theorem sc_Span_repr : FnScope ["self"] ["self"] (defScope (sub (top 13) 16)) := ⟨rfl, rfl, rfl, by decide +kernel, rfl, by decide +kernel, by decide +kernel⟩

theorem d_Span_repr {w : World} {K : PySem.W.Frag} {mg : Str → Option Value} {base : Heap} (c : SaysX fa fn K) (KB : K.In base) (GB : base.Ns mainGlobals mg) : ∃ fd, FunD K "__repr__" "Span.__repr__" (defArgs (sub (top 13) 16)) (defBody (sub (top 13) 16)) (defScope (sub (top 13) 16)) [] [] (mA "Span" "__repr__" K) fd ∧ DF Pg w K mg base (Γ K) 1 (mA "Span" "__repr__" K) fd ["self"] f_Span_repr := by
  obtain ⟨fd, F0⟩ := c.def_ 13 rfl rfl
  have F : FunD K "__repr__" "Span.__repr__" (defArgs (sub (top 13) 16)) (defBody (sub (top 13) 16)) (defScope (sub (top 13) 16)) [] [] (mA "Span" "__repr__" K) fd := F0
  exact ⟨fd, F, d_fn (k := 0) (m := m_Span_repr) F sc_Span_repr rfl fun cd A outer s H E ok dk =>
   (ss_one (s_ret (e_joined (.cons e_str (.cons (e_fmt (e_attr (e_var 0) (.cons (at_fld (c := 4) (cls_ok (q14 c)) (He.noat_ok (q15 c)) rfl rfl) .nil))) (.cons e_str (.cons (e_fmt (e_attr (e_var 0) (.cons (at_fld (c := 4) (cls_ok (q14 c)) (He.noat_ok (q16 c)) rfl rfl) .nil))) (.cons e_str .nil))))))))⟩

theorem sc__law_told : FnScope ["_law_form", "_law_a", "_law_b", "_law_found", "_law_made_here", "e"] ["_law_form", "_law_a", "_law_b"] (defScope (top 20)) := ⟨rfl, rfl, rfl, by decide +kernel, rfl, by decide +kernel, by decide +kernel⟩

theorem d__law_told {w : World} {K : PySem.W.Frag} {mg : Str → Option Value} {base : Heap} (c : SaysX fa fn K) (KB : K.In base) (GB : base.Ns mainGlobals mg) : ∃ fd, FunD K "_law_told" "_law_told" (defArgs (top 20)) (defBody (top 20)) (defScope (top 20)) [] [] (gA "_law_told" K) fd ∧ DF Pg w K mg base (Γ K) 6 (gA "_law_told" K) fd ["_law_form", "_law_a", "_law_b"] f__law_told := by
  obtain ⟨fd, F0⟩ := c.def_ 14 rfl rfl
  obtain ⟨fd__law_made, F__law_made, D__law_made⟩ := d__law_made (w := w) c KB GB
  obtain ⟨fd_Span_least, F_Span_least, D_Span_least⟩ := d_Span_least (w := w) c KB GB
  obtain ⟨fd_Span_greatest, F_Span_greatest, D_Span_greatest⟩ := d_Span_greatest (w := w) c KB GB
  obtain ⟨fd_Span_is_rod, F_Span_is_rod, D_Span_is_rod⟩ := d_Span_is_rod (w := w) c KB GB
  obtain ⟨fd_Span_str, F_Span_str, D_Span_str⟩ := d_Span_str (w := w) c KB GB
  obtain ⟨fd_Span_repr, F_Span_repr, D_Span_repr⟩ := d_Span_repr (w := w) c KB GB
  have F : FunD K "_law_told" "_law_told" (defArgs (top 20)) (defBody (top 20)) (defScope (top 20)) [] [] (gA "_law_told" K) fd := F0
  exact ⟨fd, F, d_fn (k := 5) (m := m__law_told) F sc__law_told rfl fun cd A outer s H E ok dk =>
   (ss_cons (s_set ok.nd (e_tup (a_cons e_str a_nil)))
 (ss_cons (s_try ok dk (fun W_ pn_ xe_ ok2 => (ss_cons (s_set ok2.nd (e_callN (Cal.fn ok2 D__law_made (by omega) (bd_of (n := 3) (ks := []) (pk := [0, 1, 2]) F__law_made rfl (by decide) fun _ _ _ _ _ _ us ws h1 h2 => match us, ws, h1, h2 with | [_, _, _], [], _, _ => rfl) (fun _ => .nil)) rfl (He.glo_ok KB GB (q21 c)) F__law_made.kp (c_pos (a_cons (e_var 0) (a_cons (e_var 1) (a_cons (e_var 2) a_nil))))))
 (ss_one (s_set ok2.nd (e_tup (a_cons e_str (a_cons (e_attr (e_var 4) (.cons (at_prop (c := 4) ok2 (cls_ok (q14 c)) (prop_ok (q22 c)) D_Span_least (by omega) (bd_of (n := 1) (ks := []) (pk := [0]) F_Span_least rfl (by decide) fun _ _ _ _ _ _ us ws h1 h2 => match us, ws, h1, h2 with | [_], [], _, _ => rfl) (fun _ => .nil)) .nil)) (a_cons (e_attr (e_var 4) (.cons (at_prop (c := 4) ok2 (cls_ok (q14 c)) (prop_ok (q23 c)) D_Span_greatest (by omega) (bd_of (n := 1) (ks := []) (pk := [0]) F_Span_greatest rfl (by decide) fun _ _ _ _ _ _ us ws h1 h2 => match us, ws, h1, h2 with | [_], [], _, _ => rfl) (fun _ => .nil)) .nil)) (a_cons (e_attr (e_var 4) (.cons (at_prop (c := 4) ok2 (cls_ok (q14 c)) (prop_ok (q24 c)) D_Span_is_rod (by omega) (bd_of (n := 1) (ks := []) (pk := [0]) F_Span_is_rod rfl (by decide) fun _ _ _ _ _ _ us ws h1 h2 => match us, ws, h1, h2 with | [_], [], _, _ => rfl) (fun _ => .nil)) .nil)) (a_cons (e_callT (CallD.or cd_str (cd_strOwn ok2 (.cons ⟨_, _, _, _, [0], [], [], _, (sp_ok (q27 c)).1, (sp_ok (q27 c)).2, D_Span_str, (by omega), (bd_of (n := 1) (ks := []) (pk := [0]) F_Span_str rfl (by decide) fun _ _ _ _ _ _ us ws h1 h2 => match us, ws, h1, h2 with | [_], [], _, _ => rfl), (fun _ => .nil), rfl⟩ .nil))) rfl (He.free_ok KB GB (q25 c)) (by decide +kernel) (a_cons (e_var 4) a_nil)) (a_cons (e_callB (CallD.or (cd_repr ok2) (cd_reprOwn ok2 (.cons ⟨_, _, _, _, [0], [], [], _, (sp_ok (q28 c)).1, (sp_ok (q28 c)).2, D_Span_repr, (by omega), (bd_of (n := 1) (ks := []) (pk := [0]) F_Span_repr rfl (by decide) fun _ _ _ _ _ _ us ws h1 h2 => match us, ws, h1, h2 with | [_], [], _, _ => rfl), (fun _ => .nil), rfl⟩ .nil))) rfl (He.free_ok KB GB (q29 c)) (by decide +kernel) (a_cons (e_var 4) a_nil)) a_nil))))))))))) (.named (names_own rfl (He.glo_ok KB GB (q39 c))) rfl rfl (tst_ok (Γ := Γ) (D := gA "InvalidSpan") rfl (q38 c)) (fun a oe cls d pn hz hf => (ss_one (s_set ok.nd (e_tup (a_cons e_str (a_cons (e_xat hz hf (e_var 5) (.cons (xat_ok (c := 1) (q30 c) (q31 c) rfl rfl) (.cons (xat_ok (c := 2) (q32 c) (q33 c) rfl rfl) .nil))) (a_cons (e_xat hz hf (e_var 5) (.cons (xat_ok (c := 1) (q30 c) (q34 c) rfl rfl) (.cons (xat_ok (c := 2) (q32 c) (q35 c) rfl rfl) .nil))) (a_cons (e_callB (cd_xis hz hf (xis_ok (Γ := Γ) rfl (q36 c))) rfl (He.free_ok KB GB (q11 c)) (by decide +kernel) (a_cons (e_var 5) (a_cons (e_gfn 2 rfl (He.glo_ok KB GB (q37 c))) a_nil))) a_nil))))))))  (.plain (names_own rfl (He.glo_ok KB GB (q41 c))) (tst_ok (Γ := Γ) (D := gA "WayroundError") rfl (q40 c)) (fun a oe cls d pn hz hf => (ss_one (s_set ok.nd (e_tup (a_cons e_str a_nil)))))  .nil)))
 (ss_one (s_ret (e_var 3)))))⟩

theorem sc__law_due : FnScope ["_law_a", "_law_b", "_law_bound_here", "_law_shown"] ["_law_a", "_law_b"] (defScope (top 21)) := ⟨rfl, rfl, rfl, by decide +kernel, rfl, by decide +kernel, by decide +kernel⟩

theorem d__law_due {w : World} {K : PySem.W.Frag} {mg : Str → Option Value} {base : Heap} (c : SaysX fa fn K) (KB : K.In base) (GB : base.Ns mainGlobals mg) : ∃ fd, FunD K "_law_due" "_law_due" (defArgs (top 21)) (defBody (top 21)) (defScope (top 21)) [] [] (gA "_law_due" K) fd ∧ DF Pg w K mg base (Γ K) 1 (gA "_law_due" K) fd ["_law_a", "_law_b"] f__law_due := by
  obtain ⟨fd, F0⟩ := c.def_ 15 rfl rfl
  have F : FunD K "_law_due" "_law_due" (defArgs (top 21)) (defBody (top 21)) (defScope (top 21)) [] [] (gA "_law_due" K) fd := F0
  exact ⟨fd, F, d_fn (k := 0) (m := m__law_due) F sc__law_due rfl fun cd A outer s H E ok dk =>
   (ss_cons (s_for ok.own ok.calm (i_tup (e_tup (a_cons (e_var 0) (a_cons (e_var 1) a_nil)))) (g_name ok.nd) (ss_one (s_if (DW.t (w_or (t_not (t_val (e_callB (cd_isi IsiOk.base) rfl (He.free_ok KB GB (q11 c)) (by decide +kernel) (a_cons (e_var 2) (a_cons (e_bty rfl (He.free_ok KB GB (q5 c)) (by decide +kernel)) a_nil))))) (w_or (t_val (e_callB (cd_isi IsiOk.base) rfl (He.free_ok KB GB (q11 c)) (by decide +kernel) (a_cons (e_var 2) (a_cons (e_bty rfl (He.free_ok KB GB (q12 c)) (by decide +kernel)) a_nil)))) (w_or1 (t_cmp1 o_lt (e_var 2) e_int rfl))))) (ss_one (s_ret (e_tup (a_cons e_str (a_cons (e_var 0) (a_cons (e_var 1) (a_cons e_bl a_nil))))))) ss_nil)))
 (ss_cons (s_if (t_cmp1 o_gt (e_var 0) (e_var 1) rfl) (ss_one (s_ret (e_tup (a_cons e_str (a_cons (e_var 0) (a_cons (e_var 1) (a_cons e_bl a_nil))))))) ss_nil)
 (ss_cons (s_set ok.nd (e_bin o_add (e_callT cd_str rfl (He.free_ok KB GB (q25 c)) (by decide +kernel) (a_cons (e_var 0) a_nil)) (e_bin o_mul (e_bin o_add e_str (e_callT cd_str rfl (He.free_ok KB GB (q25 c)) (by decide +kernel) (a_cons (e_var 1) a_nil))) (e_callT cd_int rfl (He.free_ok KB GB (q5 c)) (by decide +kernel) (a_cons (e_cmp1 o_lt (e_var 0) (e_var 1) rfl) a_nil)))))
 (ss_one (s_ret (e_tup (a_cons e_str (a_cons (e_var 0) (a_cons (e_var 1) (a_cons (e_cmp1 (o_eq ok) (e_var 0) (e_var 1) rfl) (a_cons (e_var 3) (a_cons (e_bin o_add (e_bin o_add (e_bin o_add (e_bin o_add e_str (e_callT cd_str rfl (He.free_ok KB GB (q25 c)) (by decide +kernel) (a_cons (e_var 0) a_nil))) e_str) (e_callT cd_str rfl (He.free_ok KB GB (q25 c)) (by decide +kernel) (a_cons (e_var 1) a_nil))) e_str) a_nil))))))))))))⟩

theorem sc_law : FnScope ["_law_script", "_law_k", "_law_feed_here", "_law_turn", "_law_a", "_law_b", "_law_form", "_law_ends"] ["_law_script"] (defScope (top 22)) := ⟨rfl, rfl, rfl, by decide +kernel, rfl, by decide +kernel, by decide +kernel⟩

theorem d_law {w : World} {K : PySem.W.Frag} {mg : Str → Option Value} {base : Heap} (c : SaysX fa fn K) (KB : K.In base) (GB : base.Ns mainGlobals mg) : ∃ fd, FunD K "law" "law" (defArgs (top 22)) (defBody (top 22)) (defScope (top 22)) [] [] (gA "law" K) fd ∧ DF Pg w K mg base (Γ K) 7 (gA "law" K) fd ["_law_script"] f_law := by
  obtain ⟨fd, F0⟩ := c.def_ 16 rfl rfl
  obtain ⟨fd__law_feed, F__law_feed, D__law_feed⟩ := d__law_feed (w := w) c KB GB
  obtain ⟨fd__law_bound, F__law_bound, D__law_bound⟩ := d__law_bound (w := w) c KB GB
  obtain ⟨fd__law_take, F__law_take, D__law_take⟩ := d__law_take (w := w) c KB GB
  obtain ⟨fd__law_told, F__law_told, D__law_told⟩ := d__law_told (w := w) c KB GB
  obtain ⟨fd__law_due, F__law_due, D__law_due⟩ := d__law_due (w := w) c KB GB
  have F : FunD K "law" "law" (defArgs (top 22)) (defBody (top 22)) (defScope (top 22)) [] [] (gA "law" K) fd := F0
  exact ⟨fd, F, d_fn (k := 6) (m := m_law) F sc_law rfl fun cd A outer s H E ok dk =>
   (ss_cons (s_for ok.own ok.calm (i_range1 rfl (He.free_ok KB GB (q3 c)) (a_cons (e_callB (cd_max ok.calm) rfl (He.free_ok KB GB (q2 c)) (by decide +kernel) (a_cons e_int (a_cons (e_callB (cd_min ok.calm) rfl (He.free_ok KB GB (q1 c)) (by decide +kernel) (a_cons e_int (a_cons (e_callB cd_len rfl (He.free_ok KB GB (q0 c)) (by decide +kernel) (a_cons (e_var 0) a_nil)) a_nil))) a_nil))) a_nil)) (g_name ok.nd) (ss_cons (s_set ok.nd (e_callN (Cal.fn ok D__law_feed (by omega) (bd_of (n := 2) (ks := []) (pk := [0, 1]) F__law_feed rfl (by decide) fun _ _ _ _ _ _ us ws h1 h2 => match us, ws, h1, h2 with | [_, _], [], _, _ => rfl) (fun _ => .nil)) rfl (He.glo_ok KB GB (q6 c)) F__law_feed.kp (c_pos (a_cons (e_var 0) (a_cons (e_var 1) a_nil)))))
 (ss_one (s_for ok.own ok.calm (i_range1 rfl (He.free_ok KB GB (q3 c)) (a_cons e_int a_nil)) (g_name ok.nd) (ss_cons (s_par ok (by decide) (a_cons (e_callN (Cal.fn ok D__law_bound (by omega) (bd_of (n := 1) (ks := []) (pk := [0]) F__law_bound rfl (by decide) fun _ _ _ _ _ _ us ws h1 h2 => match us, ws, h1, h2 with | [_], [], _, _ => rfl) (fun _ => .nil)) rfl (He.glo_ok KB GB (q10 c)) F__law_bound.kp (c_pos (a_cons (e_var 2) a_nil))) (a_cons (e_callN (Cal.fn ok D__law_bound (by omega) (bd_of (n := 1) (ks := []) (pk := [0]) F__law_bound rfl (by decide) fun _ _ _ _ _ _ us ws h1 h2 => match us, ws, h1, h2 with | [_], [], _, _ => rfl) (fun _ => .nil)) rfl (He.glo_ok KB GB (q10 c)) F__law_bound.kp (c_pos (a_cons (e_var 2) a_nil))) a_nil)) rfl)
 (ss_cons (s_if (DW.t (w_and (t_val (e_callB (cd_isi IsiOk.base) rfl (He.free_ok KB GB (q11 c)) (by decide +kernel) (a_cons (e_var 4) (a_cons (e_bty rfl (He.free_ok KB GB (q5 c)) (by decide +kernel)) a_nil)))) (w_and (t_val (e_callB (cd_isi IsiOk.base) rfl (He.free_ok KB GB (q11 c)) (by decide +kernel) (a_cons (e_var 5) (a_cons (e_bty rfl (He.free_ok KB GB (q5 c)) (by decide +kernel)) a_nil)))) (w_and (t_cmp1 o_gt (e_var 4) (e_var 5) rfl) (w_and1 (t_cmp1 o_gt (e_callN (Cal.fn ok D__law_take (by omega) (bd_of (n := 2) (ks := []) (pk := [0, 1]) F__law_take rfl (by decide) fun _ _ _ _ _ _ us ws h1 h2 => match us, ws, h1, h2 with | [_, _], [], _, _ => rfl) (fun _ => .nil)) rfl (He.glo_ok KB GB (q7 c)) F__law_take.kp (c_pos (a_cons (e_var 2) (a_cons e_int a_nil)))) e_int rfl)))))) (ss_one (s_par ok (by decide) (a_cons (e_var 5) (a_cons (e_var 4) a_nil)) rfl)) ss_nil)
 (ss_one (s_for ok.own ok.calm (i_list (e_lst (a_cons e_int (a_cons e_int (a_cons e_int (a_cons e_int (a_cons e_int (a_cons e_int (a_cons e_int a_nil))))))))) (g_name ok.nd) (ss_cons (s_set ok.nd (e_ix (e_lst (a_cons (e_tup (a_cons (e_var 4) (a_cons (e_var 5) a_nil))) (a_cons (e_tup (a_cons (e_var 4) (a_cons (e_var 5) a_nil))) (a_cons (e_tup (a_cons (e_var 4) (a_cons (e_var 4) a_nil))) (a_cons (e_tup (a_cons (e_var 4) (a_cons (e_var 4) a_nil))) (a_cons (e_tup (a_cons e_int (a_cons (e_var 5) a_nil))) (a_cons (e_tup (a_cons e_int (a_cons (e_var 5) a_nil))) a_nil))))))) (e_var 6)))
 (ss_one (s_if (t_cmp1 (o_ne ok) (e_callB (cd_repr ok) rfl (He.free_ok KB GB (q29 c)) (by decide +kernel) (a_cons (e_callN (Cal.fn ok D__law_told (by omega) (bd_of (n := 3) (ks := []) (pk := [0, 1, 2]) F__law_told rfl (by decide) fun _ _ _ _ _ _ us ws h1 h2 => match us, ws, h1, h2 with | [_, _, _], [], _, _ => rfl) (fun _ => .nil)) rfl (He.glo_ok KB GB (q42 c)) F__law_told.kp (c_pos (a_cons (e_var 6) (a_cons (e_var 4) (a_cons (e_var 5) a_nil))))) a_nil)) (e_callB (cd_repr ok) rfl (He.free_ok KB GB (q29 c)) (by decide +kernel) (a_cons (e_callN (Cal.fn ok D__law_due (by omega) (bd_of (n := 2) (ks := []) (pk := [0, 1]) F__law_due rfl (by decide) fun _ _ _ _ _ _ us ws h1 h2 => match us, ws, h1, h2 with | [_, _], [], _, _ => rfl) (fun _ => .nil)) rfl (He.glo_ok KB GB (q43 c)) F__law_due.kp (c_pos (a_cons (e_ix (e_var 7) e_int) (a_cons (e_ix (e_var 7) e_int) a_nil)))) a_nil)) rfl) (ss_one (s_ret e_bl)) ss_nil)))))))))))
 (ss_one (s_ret e_bl)))⟩

end Ga
set_option Elab.async false
set_option linter.all false
set_option maxRecDepth 100000
set_option maxHeartbeats 0
namespace Ga
open PySem L2 PySem.Spec PyProof.Rows Fw
abbrev Rw : PySem.W.OpenRow := PySem.W.OpenLaw.row PySem.Challenge.rw_wayround_k02_spans_created
abbrev hk : PySem.W.Hook := hookX 6 fa fn
def ob (s : PySem.W.SharedT) : AlX := obsXG 6 fa fn (HandSHeadRun.getT s)
theorem ob_eq (s : PySem.W.SharedT) : ob s = hk.obs s.abs := obsXG_eq (HandSHeadRun.getT_eq s)
def loose : List Str := ["_wall", "__name__", "WayroundError", "InvalidSpan", "Snapped", "InvalidText", "DIGITS", "MOST_DIGITS", "is_whole", "number_of", "DOTS", "Span", "_law_feed", "_law_take", "_law_value", "_law_bound", "_law_made", "_law_told", "_law_due"]
theorem run (w : World) : HandSHeadRun.RunEq Rw (PySem.W.view Rw.prog [22]) hk ob 6000 loose w := by
  intro os
  kernel_rfl
end Ga
set_option Elab.async false
set_option linter.all false
set_option maxRecDepth 100000
set_option maxHeartbeats 0
namespace Ga
open PySem L2 PySem.Spec PyProof.Rows Fw
theorem facts {w : World} {K : PySem.W.Frag} {h : Heap} {mg : Str → Option Value} {f : Addr} (X : K.In h) (G : h.Ns mainGlobals mg) (hfa : mg ("law" : Str) = some (.ref f)) (c : SaysX fa fn K) :
    ∃ fd : FuncData, (∀ (s : Shared) (v : Value), BindsTo s fd ⟨[v], []⟩ [("_law_script", v)]) ∧ ∀ base : Heap, K.In base → base.Ns mainGlobals mg → DF Pg w K mg base (Γ K) 7 f fd ["_law_script"] f_law := by
  obtain ⟨fd, F0⟩ := c.def_ 16 rfl rfl
  have F : FunD K "law" "law" (defArgs (top 22)) (defBody (top 22)) (defScope (top 22)) [] [] (gA "law" K) fd := F0
  have e := hfa.symm.trans (He.glo_ok X G (q46 c))
  cases e
  have b := FunD.bindsA (ps := ["_law_script"]) F fun _ _ _ _ _ _ us hl => match us, hl with | [_], _ => rfl
  refine ⟨fd, fun s v => b s [v] rfl, fun base KB GB => ?_⟩
  obtain ⟨fd2, F2, D2⟩ := d_law (w := w) c KB GB
  have : fd2 = fd := by
    obtain ⟨oc, od, dV, kV, doc, pm, an, cdv, ct, osl, e1, e2, _⟩ := F.ex
    obtain ⟨oc', od', dV', kV', doc', pm', an', cdv', ct', osl', e1', e2', _⟩ := F2.ex
    rw [e2] at e2'
    simp only [Option.some.injEq, Obj.mk.injEq, Data.func.injEq] at e2'
    exact e2'.2.2.1.symm
  subst this
  exact D2
end Ga
open PySem PySem.W PySem.Calls PyProof.Rows
theorem PySem.Challenge.cw_wayround_k02_spans_created_holds : PySem.Challenge.rw_wayround_k02_spans_created.Holds := by
  w_on; o_law
  refine HandSHeadRun.head_any (r := OpenLaw.row PySem.Challenge.rw_wayround_k02_spans_created) (q := view (OpenLaw.row PySem.Challenge.rw_wayround_k02_spans_created).prog [22]) (H := Ga.hk) (ob := Ga.ob) (M := 6000) (loose := Ga.loose) (d := HandSHeadRun.topDef (OpenLaw.row PySem.Challenge.rw_wayround_k02_spans_created).prog 22) (kwd := []) Ga.ob_eq
    (by kernel_rfl) (fun s => by kernel_rfl) Ga.run (by kernel_rfl) (by kernel_rfl) (by kernel_rfl) (by rfl) (by first | assumption | decide +kernel) (by decide +kernel) ⟨rfl, rfl, rfl, rfl, rfl, by decide +kernel⟩ ?hw ?hc
  case hw => w_witness2
  case hc =>
    refine Fw.walk_df (l := PySem.Challenge.rw_wayround_k02_spans_created) (n := 63) (k := 7) (x := "_law_script") rfl (by decide) (by kernel_rfl) ⟨rfl, by decide, by decide⟩ ?F
    intro w mg fa h Y G hmg0
    obtain ⟨K, KX, c⟩ := Y
    have hmg : mg ("law" : PySem.Str) = some (.ref fa) := by
      have e : (HandSHeadRun.topDef (OpenLaw.row PySem.Challenge.rw_wayround_k02_spans_created).prog 22).name = ("law" : PySem.Str) := by kernel_rfl
      rw [← e]
      exact hmg0
    obtain ⟨fd, hb, hF⟩ := Ga.facts (w := w) KX G hmg c
    exact ⟨K, Ga.Γ K, fd, Ga.f_law, KX, hb, fun ns _ => Ga.plain ns, hF⟩
