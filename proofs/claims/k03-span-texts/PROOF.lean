import PyProof.Rows.All
import Wide.All
import OpenK.AllK
import Wide.FinOn
import HandS.ForMost
import HandS.Exc
import HandS.CallSlots
import HandS.Defaults
import HandS.Wide
import HandS.TupAny
import HandS.IsInst
import HandS.FStr
import HandS.RaiseMore
import HandS.MakeKw
import HandS.ClsMeth
import HandS.Property
import HandS.TryMany
import HandS.Comp
import HandS.Style
import KE.KExcSuper
import KE.KExcMake
import KE.KSuper
import HandS.ExcInit
import HandS.ExcField
import HandS.ExcIs
import KE.KIsAll
import KE.KTryMore
import KE.KCallOwn
import OpenK.KOps
import KE.KStateDown
import HandS.Ends
import HandS.Words
import HandS.WordsExc
import HandS.Head0
import HandS.Head1
import HandS.Head2
import HandS.HeadEnd
import HandS.HeadHook1
import HandS.HeadHook2
import HandS.Text
import HandS.TupLe
import HandS.Deep
import PyProof.ListStr
import HandS.Conv
import HandS.SlotsOwn
import HandS.Iter
import KE.IntTextLaws
import PyProof.ReprLen
import HandS.Codes
import PySem.Challenge.RW_wayround_k03_span_texts
set_option Elab.async false
set_option linter.all false
set_option maxRecDepth 100000
set_option maxHeartbeats 4000000
/-! Fw0: Python data as Lean data, the mutable cells apart, what a def computes as a Lean function; all relations to the hand layer's heap. -/
namespace Fw
open PySem L2

/-- immutable data -/
inductive D where
  | non | bl (b : Bool) | int (i : Int) | str (x : Str)
  | tup (ds : List D) | lst (ds : List D) | frz (ds : List D)
  | obj (c : Nat) (ds : List D)
  | dic (ks vs : List D) | dit (ks vs : List D)
  | fn (n : Nat) | ty (n : String)
/-- what a name holds: data, a mutable cell, or (within an except suite) the caught exception -/
inductive S where
  | d (x : D) | loc (n : Nat) | exn (c : Nat) (ds : List D)
inductive Cell where
  | lst (ds : List D)
  | ins (c : Nat) (fs : List (Str × D))
  | dead
def keyD : Key → D
  | .inl i => .int i
  | .inr x => .str x
abbrev Ms := List Cell
abbrev Env := List (Option S)
inductive R (α : Type) where
  | ok (a : α) (ms : Ms)
  | ex (c : Nat) (ds : List D) (ms : Ms)
  | bad
/-- a statement's end -/
inductive T where
  | nx (e : Env) (ms : Ms)
  | rt (s : S) (ms : Ms)
  | bk (e : Env) (ms : Ms)
  | ct (e : Env) (ms : Ms)
  | ex (c : Nat) (ds : List D) (e : Env) (ms : Ms)
  | bad
def R.bind {α β : Type} (r : R α) (f : α → Ms → R β) : R β := match r with
  | .ok a ms => f a ms
  | .ex c ds ms => .ex c ds ms
  | .bad => .bad
def R.post {α : Type} (r : R α) (P : α → Ms → Prop) (E : Nat → List D → Ms → Prop) : Prop := match r with
  | .ok a ms => P a ms
  | .ex c ds ms => E c ds ms
  | .bad => False
def T.post (t : T) (N : Env → Ms → Prop) (Rt : S → Ms → Prop) (B C : Env → Ms → Prop) (E : Nat → List D → Env → Ms → Prop) : Prop := match t with
  | .nx e ms => N e ms
  | .rt s ms => Rt s ms
  | .bk e ms => B e ms
  | .ct e ms => C e ms
  | .ex c ds e ms => E c ds e ms
  | .bad => False
theorem R.post_bind {α β : Type} {r : R α} {f : α → Ms → R β} {P : β → Ms → Prop} {E : Nat → List D → Ms → Prop} (h : (r.bind f).post P E) : r.post (fun a ms => (f a ms).post P E) E := by
  cases r with
  | ok a ms => exact h
  | ex c ds ms => exact h
  | bad => exact h
theorem R.post_mono {α : Type} {r : R α} {P P' : α → Ms → Prop} {E E' : Nat → List D → Ms → Prop} (h : r.post P E) (hp : ∀ a ms, P a ms → P' a ms) (he : ∀ c ds ms, E c ds ms → E' c ds ms) : r.post P' E' := by
  cases r with
  | ok a ms => exact hp _ _ h
  | ex c ds ms => exact he _ _ _ h
  | bad => exact h
theorem T.post_mono {t : T} {N N' : Env → Ms → Prop} {Rt Rt' : S → Ms → Prop} {B B' C C' : Env → Ms → Prop} {E E' : Nat → List D → Env → Ms → Prop} (h : t.post N Rt B C E)
    (hN : ∀ e ms, N e ms → N' e ms) (hR : ∀ s ms, Rt s ms → Rt' s ms) (hB : ∀ e ms, B e ms → B' e ms) (hC : ∀ e ms, C e ms → C' e ms) (hE : ∀ c ds e ms, E c ds e ms → E' c ds e ms) : t.post N' Rt' B' C' E' := by
  cases t with
  | nx e ms => exact hN _ _ h
  | rt s ms => exact hR _ _ h
  | bk e ms => exact hB _ _ h
  | ct e ms => exact hC _ _ h
  | ex c ds e ms => exact hE _ _ _ _ h
  | bad => exact h

/-- the static part: the classes' addresses, their attributes in order, the defs' addresses -/
structure G where
  cls : Nat → Addr
  fld : Nat → List Str
  fn : Nat → Addr
/-- frozen heap, protected heap (it stands, nobody may write it), cells' addresses -/
structure Wd where
  F : Hp
  P : Hp
  mu : List Addr
structure Ext (w w' : Wd) : Prop where
  F : ∀ a o, w.F a = some o → w'.F a = some o
  mu : ∀ (n : Nat) a, w.mu[n]? = some a → w'.mu[n]? = some a
  P : w'.P = w.P
theorem Ext.refl (w : Wd) : Ext w w := ⟨fun _ _ h => h, fun _ _ h => h, rfl⟩
theorem Ext.trans {a b c : Wd} (x : Ext a b) (y : Ext b c) : Ext a c := ⟨fun p o h => y.F p o (x.F p o h), fun n p h => y.mu n p (x.mu n p h), y.P.trans x.P⟩

mutual
def DR (K : PySem.W.Frag) (Γ : G) (F : Hp) : D → V → Prop
  | .non, v => v = .non
  | .bl b, v => v = .bl b
  | .int i, v => v = .int i
  | .str x, v => v = .str x
  | .tup ds, v => ∃ a xs, v = .ref a ∧ SqT K F a xs ∧ DRs K Γ F ds xs
  | .lst ds, v => ∃ a xs, v = .ref a ∧ F a = some (.lst xs) ∧ DRs K Γ F ds xs
  | .frz ds, v => ∃ a xs, v = .ref a ∧ SqL K F a xs ∧ DRs K Γ F ds xs
  | .obj c ds, v => ∃ a dx xs, v = .ref a ∧ F a = some (.ins (Γ.cls c) dx ((Γ.fld c).zip xs)) ∧ (Γ.fld c).length = xs.length ∧ DRs K Γ F ds xs
  | .dic ks vs, v => ∃ a kvs, v = .ref a ∧ F a = some (.dK kvs) ∧ ks = kvs.map (fun p => keyD p.1) ∧ DRs K Γ F vs (kvs.map (·.2))
  | .dit ks vs, v => ∃ a kvs, v = .ref a ∧ F a = some (.dT kvs) ∧ ks = kvs.map (fun p => .tup (p.1.map keyD)) ∧ DRs K Γ F vs (kvs.map (·.2))
  | .fn n, v => v = .ref (Γ.fn n)
  | .ty n, v => v = .ty n
def DRs (K : PySem.W.Frag) (Γ : G) (F : Hp) : List D → List V → Prop
  | [], xs => xs = []
  | d :: ds, xs => ∃ x r, xs = x :: r ∧ DR K Γ F d x ∧ DRs K Γ F ds r
end
theorem sqT_mono {K : PySem.W.Frag} {F F' : Hp} {a : Addr} {xs : List V} (h : SqT K F a xs) (e : ∀ a o, F a = some o → F' a = some o) : SqT K F' a xs := by
  rcases h with (h | ⟨o, h⟩) | h
  · exact .inl (.inl (e _ _ h))
  · exact .inl (.inr ⟨o, e _ _ h⟩)
  · exact .inr h
theorem sqL_mono {K : PySem.W.Frag} {F F' : Hp} {a : Addr} {xs : List V} (h : SqL K F a xs) (e : ∀ a o, F a = some o → F' a = some o) : SqL K F' a xs := by
  rcases h with (h | ⟨o, h⟩) | h
  · exact .inl (.inl (e _ _ h))
  · exact .inl (.inr ⟨o, e _ _ h⟩)
  · exact .inr h
mutual
theorem DR.mono {K : PySem.W.Frag} {Γ : G} {F F' : Hp} (e : ∀ a o, F a = some o → F' a = some o) : ∀ (d : D) (v : V), DR K Γ F d v → DR K Γ F' d v
  | .non, v, h => h
  | .bl b, v, h => h
  | .int i, v, h => h
  | .str x, v, h => h
  | .tup ds, v, h => by
    simp only [DR] at h ⊢
    obtain ⟨a, xs, h1, h2, h3⟩ := h
    exact ⟨a, xs, h1, sqT_mono h2 e, DRs.mono e ds xs h3⟩
  | .lst ds, v, h => by
    simp only [DR] at h ⊢
    obtain ⟨a, xs, h1, h2, h3⟩ := h
    exact ⟨a, xs, h1, e _ _ h2, DRs.mono e ds xs h3⟩
  | .frz ds, v, h => by
    simp only [DR] at h ⊢
    obtain ⟨a, xs, h1, h2, h3⟩ := h
    exact ⟨a, xs, h1, sqL_mono h2 e, DRs.mono e ds xs h3⟩
  | .obj c ds, v, h => by
    simp only [DR] at h ⊢
    obtain ⟨a, dx, xs, h1, h2, h4, h3⟩ := h
    exact ⟨a, dx, xs, h1, e _ _ h2, h4, DRs.mono e ds xs h3⟩
  | .dic ks vs, v, h => by
    simp only [DR] at h ⊢
    obtain ⟨a, kvs, h1, h2, h4, h3⟩ := h
    exact ⟨a, kvs, h1, e _ _ h2, h4, DRs.mono e vs _ h3⟩
  | .dit ks vs, v, h => by
    simp only [DR] at h ⊢
    obtain ⟨a, kvs, h1, h2, h4, h3⟩ := h
    exact ⟨a, kvs, h1, e _ _ h2, h4, DRs.mono e vs _ h3⟩
  | .fn n, v, h => h
  | .ty n, v, h => h
theorem DRs.mono {K : PySem.W.Frag} {Γ : G} {F F' : Hp} (e : ∀ a o, F a = some o → F' a = some o) : ∀ (ds : List D) (xs : List V), DRs K Γ F ds xs → DRs K Γ F' ds xs
  | [], xs, h => h
  | d :: ds, xs, h => by
    simp only [DRs] at h ⊢
    obtain ⟨x, r, h1, h2, h3⟩ := h
    exact ⟨x, r, h1, DR.mono e d x h2, DRs.mono e ds r h3⟩
end
end Fw
set_option Elab.async false
set_option linter.all false
set_option maxRecDepth 100000
set_option maxHeartbeats 4000000
/-! Fw1: the relations to the heap, the judgements, expressions. -/
namespace Fw
open PySem L2

structure Cy where
  X : Cx
  Γ : G
  W : WX
  ea : Addr
  ed : Option Addr
  ec : Value

def XD (K : PySem.W.Frag) (Γ : G) (F : Hp) (c : Nat) (ds : List D) (dd : Option Addr) : Prop :=
  (Γ.fld c = [] ∧ ds = [] ∧ dd = none) ∨ ∃ d xs, dd = some d ∧ F d = some (.xd ((Γ.fld c).zip xs)) ∧ (Γ.fld c).length = xs.length ∧ DRs K Γ F ds xs
theorem XD.mono {K : PySem.W.Frag} {Γ : G} {F F' : Hp} {c : Nat} {ds : List D} {dd : Option Addr} (h : XD K Γ F c ds dd) (e : ∀ a o, F a = some o → F' a = some o) : XD K Γ F' c ds dd := by
  rcases h with h | ⟨d, xs, h1, h2, h3, h4⟩
  · exact .inl h
  · exact .inr ⟨d, xs, h1, e _ _ h2, h3, DRs.mono e ds xs h4⟩

def SR0 (K : PySem.W.Frag) (Γ : G) (w : Wd) : S → V → Prop
  | .d x, v => DR K Γ w.F x v
  | .loc n, v => ∃ a, w.mu[n]? = some a ∧ v = .ref a
  | .exn _ _, _ => False
abbrev SRs0 (K : PySem.W.Frag) (Γ : G) (w : Wd) (ss : List S) (vs : List V) : Prop := Paired (SR0 K Γ w) ss vs
def CR (K : PySem.W.Frag) (Γ : G) (w : Wd) (H : Hp) (a : Addr) : Cell → Prop
  | .lst ds => ∃ xs, H a = some (.lst xs) ∧ DRs K Γ w.F ds xs
  | .ins c fs => ∃ dx xs, H a = some (.ins (Γ.cls c) dx ((fs.map (·.1)).zip xs)) ∧ DRs K Γ w.F (fs.map (·.2)) xs
  | .dead => True
structure HR0 (K : PySem.W.Frag) (Γ : G) (w : Wd) (H : Hp) (ms : Ms) : Prop where
  sub : ∀ a o, w.F a = some o → H a = some o
  prot : ∀ a o, w.P a = some o → H a = some o
  dis : ∀ a o, w.P a = some o → w.F a = none
  len : w.mu.length = ms.length
  inj : ∀ (i j : Nat) a c c', w.mu[i]? = some a → w.mu[j]? = some a → ms[i]? = some c → ms[j]? = some c' → c ≠ .dead → c' ≠ .dead → i = j
  sep : ∀ (n : Nat) a c, w.mu[n]? = some a → ms[n]? = some c → c ≠ .dead → w.F a = none ∧ w.P a = none
  cel : ∀ (n : Nat) a c, w.mu[n]? = some a → ms[n]? = some c → CR K Γ w H a c
abbrev HR (Y : Cy) (w : Wd) (H : Hp) (ms : Ms) : Prop := HR0 Y.X.K Y.Γ w H ms
section
variable (Y : Cy)
def SR (w : Wd) : S → V → Prop
  | .d x, v => DR Y.X.K Y.Γ w.F x v
  | .loc n, v => ∃ a, w.mu[n]? = some a ∧ v = .ref a
  | .exn c ds, v => (v = .ref Y.ea ∧ Y.ec = .ref (Y.Γ.cls c)) ∧ XD Y.X.K Y.Γ w.F c ds Y.ed
def SRs (w : Wd) (ss : List S) (vs : List V) : Prop := Paired (SR Y w) ss vs
structure ER (w : Wd) (σ : St) (env : Env) : Prop where
  len : σ.length = env.length
  slot : ∀ (i : Nat) s, env[i]? = some (some s) → ∃ v, σ[i]? = some (some v) ∧ SR Y w s v
end

section
variable {Y : Cy} {w w1 w2 : Wd} {σ : St} {H H1 H2 : Hp} {env : Env} {ms ms1 ms2 : Ms}
theorem SR.mono (e : Ext w w1) {s : S} {v : V} (h : SR Y w s v) : SR Y w1 s v := by
  cases s with
  | d x => exact DR.mono e.F x v h
  | loc n => obtain ⟨a, h1, h2⟩ := h; exact ⟨a, e.mu n a h1, h2⟩
  | exn c ds => exact ⟨h.1, h.2.mono e.F⟩
theorem SRs.mono (e : Ext w w1) {ss : List S} {vs : List V} (h : SRs Y w ss vs) : SRs Y w1 ss vs := Paired.mapP h fun _ _ q => q.mono e
theorem SR0.mono {K : PySem.W.Frag} {Γ : G} (e : Ext w w1) {s : S} {v : V} (h : SR0 K Γ w s v) : SR0 K Γ w1 s v := by
  cases s with
  | d x => exact DR.mono e.F x v h
  | loc n => obtain ⟨a, h1, h2⟩ := h; exact ⟨a, e.mu n a h1, h2⟩
  | exn c ds => exact h.elim
theorem SRs0.mono {K : PySem.W.Frag} {Γ : G} (e : Ext w w1) {ss : List S} {vs : List V} (h : SRs0 K Γ w ss vs) : SRs0 K Γ w1 ss vs := Paired.mapP h fun _ _ q => q.mono e
theorem SR0.up {s : S} {v : V} (h : SR0 Y.X.K Y.Γ w s v) : SR Y w s v := by
  cases s with
  | d x => exact h
  | loc n => exact h
  | exn c ds => exact h.elim
theorem SRs0.up {ss : List S} {vs : List V} (h : SRs0 Y.X.K Y.Γ w ss vs) : SRs Y w ss vs := Paired.mapP h fun _ _ q => q.up
def S.noX : S → Bool
  | .exn _ _ => false
  | _ => true
theorem SR.down {s : S} {v : V} (h : SR Y w s v) (n : s.noX = true) : SR0 Y.X.K Y.Γ w s v := by
  cases s with
  | d x => exact h
  | loc n => exact h
  | exn c ds => cases n
theorem SRs.down : ∀ {ss : List S} {vs : List V}, SRs Y w ss vs → ss.all S.noX = true → SRs0 Y.X.K Y.Γ w ss vs
  | _, _, .nil, _ => .nil
  | s :: r, _, .cons a b, h => by
    rw [List.all_cons, Bool.and_eq_true] at h
    exact .cons (a.down h.1) (SRs.down b h.2)
theorem CR.mono {K : PySem.W.Frag} {Γ : G} (e : Ext w w1) {a : Addr} {c : Cell} (h : CR K Γ w H a c) (hH : ∀ o, H a = some o → H1 a = some o) : CR K Γ w1 H1 a c := by
  cases c with
  | lst ds => obtain ⟨xs, h1, h2⟩ := h; exact ⟨xs, hH _ h1, DRs.mono e.F _ _ h2⟩
  | ins c fs => obtain ⟨dx, xs, h1, h2⟩ := h; exact ⟨dx, xs, hH _ h1, DRs.mono e.F _ _ h2⟩
  | dead => trivial
theorem ER.mono (e : Ext w w1) (h : ER Y w σ env) : ER Y w1 σ env := ⟨h.len, fun i s hs => let ⟨v, h1, h2⟩ := h.slot i s hs; ⟨v, h1, h2.mono e⟩⟩

def okP (Y : Cy) (w : Wd) (Q : VK) : S → Ms → Prop := fun s ms' => ∀ w' H' v, Ext w w' → HR Y w' H' ms' → SR Y w' s v → Q v H'
def exP (Y : Cy) (w : Wd) (σ : St) : Nat → List D → Ms → Prop := fun c ds ms' => ∀ w' H' dd, Ext w w' → HR Y w' H' ms' → XD Y.X.K Y.Γ w'.F c ds dd → Y.W (.ref (Y.Γ.cls c)) dd σ H'
theorem exP.ext (e : Ext w w1) {c : Nat} {ds : List D} (h : exP Y w σ c ds ms) : exP Y w1 σ c ds ms := fun w' H' dd e' => h w' H' dd (e.trans e')

/-- a reading computes what m says -/
def SndE (Y : Cy) (t : TE) (m : Env → Ms → R S) : Prop :=
  ∀ (w : Wd) (σ : St) (H : Hp) (env : Env) (ms : Ms) (Q : VK), ER Y w σ env → HR Y w H ms → (m env ms).post (okP Y w Q) (exP Y w σ) → t σ H Q
structure DE (Y : Cy) (e : Expr) (m : Env → Ms → R S) : Prop where
  ex : ∃ t, PE Y.X e t ∧ SndE Y t m
def SndT (Y : Cy) (t : TT) (m : Env → Ms → R Bool) : Prop :=
  ∀ (w : Wd) (σ : St) (H : Hp) (env : Env) (ms : Ms) (Q : Bool → Hp → Prop), ER Y w σ env → HR Y w H ms → (m env ms).post (fun b ms' => ∀ w' H', Ext w w' → HR Y w' H' ms' → Q b H') (exP Y w σ) → t σ H Q
structure DT (Y : Cy) (e : Expr) (m : Env → Ms → R Bool) : Prop where
  ex : ∃ t, PT Y.X e t ∧ SndT Y t m
structure DW (Y : Cy) (e : Expr) (m : Env → Ms → R Bool) : Prop where
  ex : ∃ t, PW Y.X e t ∧ SndT Y t m
def SndA (Y : Cy) (t : TA) (m : Env → Ms → R (List S)) : Prop :=
  ∀ (w : Wd) (σ : St) (H : Hp) (env : Env) (ms : Ms) (Q : List V → Hp → Prop), ER Y w σ env → HR Y w H ms → (m env ms).post (fun ss ms' => ∀ w' H' vs, Ext w w' → HR Y w' H' ms' → SRs Y w' ss vs → Q vs H') (exP Y w σ) → t σ H Q
structure DA (Y : Cy) (es : List Expr) (m : Env → Ms → R (List S)) : Prop where
  ex : ∃ t, PA Y.X es t ∧ SndA Y t m

/-- on with a value -/
theorem SndE.go {t : TE} {m : Env → Ms → R S} (h : SndE Y t m) {β : Type} {f : S → Ms → R β} {P : β → Ms → Prop} {k : VK} (er : ER Y w σ env) (hr : HR Y w H ms)
    (hp : ((m env ms).bind f).post P (exP Y w σ)) (hk : ∀ s ms1 w1 H1 v, Ext w w1 → ER Y w1 σ env → HR Y w1 H1 ms1 → SR Y w1 s v → (f s ms1).post P (exP Y w1 σ) → k v H1) : t σ H k := by
  refine h w σ H env ms k er hr (R.post_mono (R.post_bind hp) (fun s ms1 q => ?_) fun _ _ _ q => q)
  intro w1 H1 v e1 hr1 sr
  exact hk s ms1 w1 H1 v e1 (er.mono e1) hr1 sr (R.post_mono q (fun _ _ z => z) fun _ _ _ z => z.ext e1)
theorem SndT.go {t : TT} {m : Env → Ms → R Bool} (h : SndT Y t m) {β : Type} {f : Bool → Ms → R β} {P : β → Ms → Prop} {k : Bool → Hp → Prop} (er : ER Y w σ env) (hr : HR Y w H ms)
    (hp : ((m env ms).bind f).post P (exP Y w σ)) (hk : ∀ b ms1 w1 H1, Ext w w1 → ER Y w1 σ env → HR Y w1 H1 ms1 → (f b ms1).post P (exP Y w1 σ) → k b H1) : t σ H k := by
  refine h w σ H env ms k er hr (R.post_mono (R.post_bind hp) (fun s ms1 q => ?_) fun _ _ _ q => q)
  intro w1 H1 e1 hr1
  exact hk s ms1 w1 H1 e1 (er.mono e1) hr1 (R.post_mono q (fun _ _ z => z) fun _ _ _ z => z.ext e1)
theorem SndA.go {t : TA} {m : Env → Ms → R (List S)} (h : SndA Y t m) {β : Type} {f : List S → Ms → R β} {P : β → Ms → Prop} {k : List V → Hp → Prop} (er : ER Y w σ env) (hr : HR Y w H ms)
    (hp : ((m env ms).bind f).post P (exP Y w σ)) (hk : ∀ ss ms1 w1 H1 vs, Ext w w1 → ER Y w1 σ env → HR Y w1 H1 ms1 → SRs Y w1 ss vs → (f ss ms1).post P (exP Y w1 σ) → k vs H1) : t σ H k := by
  refine h w σ H env ms k er hr (R.post_mono (R.post_bind hp) (fun s ms1 q => ?_) fun _ _ _ q => q)
  intro w1 H1 vs e1 hr1 sr
  exact hk s ms1 w1 H1 vs e1 (er.mono e1) hr1 sr (R.post_mono q (fun _ _ z => z) fun _ _ _ z => z.ext e1)
theorem okP.use {Q : VK} {P : S → Ms → Prop} {s : S} {ms : Ms} (h : P s ms) (hP : P = okP Y w Q) {v : V} (hr : HR Y w H ms) (sr : SR Y w s v) : Q v H := by
  subst hP
  exact h w H v (Ext.refl w) hr sr
theorem okP.at {Q : VK} {s : S} {v : V} (h : okP Y w Q s ms) (e : Ext w w1) (hr : HR Y w1 H1 ms) (sr : SR Y w1 s v) : Q v H1 := h w1 H1 v e hr sr
theorem okP.ext {Q : VK} {s : S} (e : Ext w w1) (h : okP Y w Q s ms) : okP Y w1 Q s ms := fun w' H' v e' => h w' H' v (e.trans e')
theorem post_ext {r : R S} {Q : VK} (e : Ext w w1) (h : r.post (okP Y w Q) (exP Y w1 σ)) : r.post (okP Y w1 Q) (exP Y w1 σ) := R.post_mono h (fun _ _ z => z.ext e) fun _ _ _ z => z

/-! ### names, constants -/
def mVar (i : Nat) : Env → Ms → R S := fun env ms => match env[i]? with
  | some (some s) => .ok s ms
  | _ => .bad
def mC (s : S) : Env → Ms → R S := fun _ ms => .ok s ms
theorem e_var (i : Nat) {x : Str} {pos : Pos} (hN : Y.X.N[i]? = some x := by rfl) (hv : Vis Y.X.env.scope x := by first | exact Or.inl rfl | exact Or.inr (Or.inl rfl) | exact Or.inr (Or.inr rfl)) (hd : (x == ("__debug__" : Str)) = false := by decide)
    (hcd : (x == ("__classdict__" : Str)) = false := by decide) : DE Y (.Name x pos) (mVar i) := by
  refine ⟨_, pe_var hN hv hd hcd, fun w σ H env ms Q er hr h => ?_⟩
  unfold mVar at h
  cases he : env[i]? with
  | none => rw [he] at h; exact h.elim
  | some o =>
    cases o with
    | none => rw [he] at h; exact h.elim
    | some s =>
      rw [he] at h
      obtain ⟨v, h1, h2⟩ := er.slot i s he
      exact ⟨v, h1, h.at (Ext.refl w) hr h2⟩
theorem e_c {e : Expr} {v : V} {s : S} (h : PE Y.X e (tC v)) (hs : ∀ w, SR Y w s v) : DE Y e (mC s) :=
  ⟨_, h, fun w _ _ _ _ _ _ hr q => q.at (Ext.refl w) hr (hs w)⟩
theorem e_int {i : Int} {j pos} : DE Y (.Constant (.int i) j pos) (mC (.d (.int i))) := e_c pe_int fun _ => rfl
theorem e_bl {b : Bool} {j pos} : DE Y (.Constant (.bool b) j pos) (mC (.d (.bl b))) := e_c pe_bl fun _ => rfl
theorem e_non {j pos} : DE Y (.Constant .none j pos) (mC (.d .non)) := e_c pe_non fun _ => rfl
theorem e_str {x : Str} {j pos} : DE Y (.Constant (.str x) j pos) (mC (.d (.str x))) := e_c pe_str fun _ => rfl
/-- a module's constant -/
theorem e_glob {x : Str} {v : V} {s : S} {u : Value} {pos : Pos} (hg : Gl Y.X x) (hm : Y.X.mg x = some u) (r : RelV v u) (hs : ∀ w, SR Y w s v) (hd : (x == ("__debug__" : Str)) = false := by decide) : DE Y (.Name x pos) (mC s) := e_c (pe_glob hg hm r hd) hs

/-! ### operators by values -/
def SndR2 (Y : Cy) (r : R2) (g : S → S → Ms → R S) : Prop :=
  ∀ (w : Wd) (H : Hp) (ms : Ms) (x y : S) (u v : V) (Q : VK), HR Y w H ms → SR Y w x u → SR Y w y v → (g x y ms).post (okP Y w Q) (fun _ _ _ => False) → r u v H Q
def mOp (g : S → S → Ms → R S) (ma mb : Env → Ms → R S) : Env → Ms → R S := fun env ms => (ma env ms).bind fun x ms1 => (mb env ms1).bind fun y ms2 => g x y ms2
theorem snd_op {r : R2} {g : S → S → Ms → R S} {ta tb : TE} {ma mb : Env → Ms → R S} (hg : ∀ x y ms c ds ms', g x y ms ≠ .ex c ds ms') (hs : SndR2 Y r g) (ha : SndE Y ta ma) (hb : SndE Y tb mb) : SndE Y (tOp r ta tb) (mOp g ma mb) := by
  intro w σ H env ms Q er hr h
  refine ha.go er hr h fun x ms1 w1 H1 u e1 er1 hr1 su h1 => ?_
  refine hb.go er1 hr1 h1 fun y ms2 w2 H2 v e2 er2 hr2 sv h2 => ?_
  refine hs w2 H2 ms2 x y u v Q hr2 (su.mono e2) sv ?_
  have hx := hg x y ms2
  cases hgx : g x y ms2 with
  | ok s ms' => rw [hgx] at h2; exact h2.ext (e1.trans e2)
  | ex c ds ms' => exact absurd hgx (hx c ds ms')
  | bad => rw [hgx] at h2; exact h2
theorem e_op {op : Operator} {r : R2} {g : S → S → Ms → R S} {a b : Expr} {ma mb : Env → Ms → R S} {pos : Pos} (ho : OpR Y.X (binaryOp op) r) (hg : ∀ x y ms c ds ms', g x y ms ≠ .ex c ds ms') (hs : SndR2 Y r g) (ha : DE Y a ma) (hb : DE Y b mb) : DE Y (.BinOp a op b pos) (mOp g ma mb) := by
  obtain ⟨ta, pa, sa⟩ := ha.ex
  obtain ⟨tb, pb, sb⟩ := hb.ex
  exact ⟨_, pe_op ho pa pb, snd_op hg hs sa sb⟩
theorem e_cmp {op : CmpOp} {r : R2} {g : S → S → Ms → R S} {a b : Expr} {ma mb : Env → Ms → R S} {pos : Pos} (ho : OpR Y.X (compareOp op) r) (hg : ∀ x y ms c ds ms', g x y ms ≠ .ex c ds ms') (hs : SndR2 Y r g) (ha : DE Y a ma) (hb : DE Y b mb) (hm : behindInMarks op b = false) : DE Y (.Compare a [op] [b] pos) (mOp g ma mb) := by
  obtain ⟨ta, pa, sa⟩ := ha.ex
  obtain ⟨tb, pb, sb⟩ := hb.ex
  exact ⟨_, pe_cmpR ho pa pb hm, snd_op hg hs sa sb⟩
end
end Fw
set_option Elab.async false
set_option linter.all false
set_option maxRecDepth 100000
set_option maxHeartbeats 4000000
/-! Fw2: argument lists, displays, tests, statements, loops. -/
namespace Fw
open PySem L2

section
variable {Y : Cy} {w w1 w2 : Wd} {σ : St} {H H1 H2 : Hp} {env : Env} {ms ms1 ms2 : Ms}

theorem paired_nil_iff {ss : List S} (h : SRs Y w ss []) : ss = [] := by cases h; rfl
theorem HR0.live (h : HR Y w H ms) {n : Nat} {a : Addr} {c : Cell} (hm : w.mu[n]? = some a) (hc : ms[n]? = some c) (hd : c ≠ .dead) : ∃ o, H a = some o := by
  have q := h.cel n a c hm hc
  cases c with
  | lst ds => obtain ⟨xs, e, _⟩ := q; exact ⟨_, e⟩
  | ins c fs => obtain ⟨dx, xs, e, _⟩ := q; exact ⟨_, e⟩
  | dead => exact absurd rfl hd
theorem HR0.freeF (h : HR Y w H ms) {p : Addr} (hp : H p = none) : w.F p = none := by
  cases e : w.F p with
  | none => rfl
  | some u => rw [h.sub p u e] at hp; cases hp
theorem HR0.freeP (h : HR Y w H ms) {p : Addr} (hp : H p = none) : w.P p = none := by
  cases e : w.P p with
  | none => rfl
  | some u => rw [h.prot p u e] at hp; cases hp
/-- a new object, frozen -/
theorem HR0.froz {p : Addr} {o : HO} (h : HR Y w H ms) (hp : H p = none) : HR Y ⟨upd w.F p o, w.P, w.mu⟩ (upd H p o) ms ∧ Ext w ⟨upd w.F p o, w.P, w.mu⟩ := by
  have fp : ∀ a u, w.F a = some u → a ≠ p := fun a u e => ne_of_none (h.sub a u e) hp
  have ex : Ext w ⟨upd w.F p o, w.P, w.mu⟩ := ⟨fun a u e => by show upd w.F p o a = some u; rw [upd_ne (fp a u e)]; exact e, fun _ _ e => e, rfl⟩
  refine ⟨⟨fun a u e => ?_, fun a u e => ?_, fun a u e => ?_, h.len, h.inj, fun n a c hm hc hd => ?_, fun n a c hm hc => ?_⟩, ex⟩
  · have e : upd w.F p o a = some u := e
    by_cases z : a = p
    · subst z; rw [upd_same] at e ⊢; exact e
    · rw [upd_ne z] at e ⊢; exact h.sub a u e
  · have e : w.P a = some u := e
    rw [upd_ne (ne_of_none (h.prot a u e) hp)]
    exact h.prot a u e
  · have e : w.P a = some u := e
    show upd w.F p o a = none
    rw [upd_ne (ne_of_none (h.prot a u e) hp)]
    exact h.dis a u e
  · obtain ⟨u, e⟩ := h.live hm hc hd
    refine ⟨?_, (h.sep n a c hm hc hd).2⟩
    show upd w.F p o a = none
    rw [upd_ne (ne_of_none e hp)]
    exact (h.sep n a c hm hc hd).1
  · exact (h.cel n a c hm hc).mono ex fun u e => by rw [upd_ne (ne_of_none e hp)]; exact e
/-- a new cell -/
theorem HR0.cell {p : Addr} {o : HO} {c : Cell} (h : HR Y w H ms) (hp : H p = none) (hc : CR Y.X.K Y.Γ ⟨w.F, w.P, w.mu ++ [p]⟩ (upd H p o) p c) : HR Y ⟨w.F, w.P, w.mu ++ [p]⟩ (upd H p o) (ms ++ [c]) ∧ Ext w ⟨w.F, w.P, w.mu ++ [p]⟩ := by
  have lt : ∀ {n : Nat} {a : Addr}, w.mu[n]? = some a → n < w.mu.length := fun e => (List.getElem?_eq_some_iff.mp e).1
  have ex : Ext w ⟨w.F, w.P, w.mu ++ [p]⟩ := ⟨fun _ _ e => e, fun n a e => by show (w.mu ++ [p])[n]? = some a; rw [List.getElem?_append_left (lt e)]; exact e, rfl⟩
  have old : ∀ {n : Nat} {a : Addr}, (w.mu ++ [p])[n]? = some a → n < w.mu.length → w.mu[n]? = some a := fun e z => by rw [List.getElem?_append_left z] at e; exact e
  have new : ∀ {n : Nat} {a : Addr}, (w.mu ++ [p])[n]? = some a → ¬ n < w.mu.length → a = p ∧ n = w.mu.length := fun {n a} e z => by
    rw [List.getElem?_append_right (Nat.le_of_not_lt z)] at e
    have : n - w.mu.length = 0 := by
      cases q : n - w.mu.length with
      | zero => rfl
      | succ k => rw [q] at e; simp at e
    rw [this] at e
    exact ⟨by simpa using e.symm, by omega⟩
  have mp : ∀ {n : Nat} {c' : Cell}, ms[n]? = some c' → w.mu[n]? = some p → c' = .dead := fun {n c'} e e2 => Classical.byContradiction fun z => by
    obtain ⟨u, q⟩ := h.live e2 e z
    rw [q] at hp; cases hp
  refine ⟨⟨fun a u e => by rw [upd_ne (ne_of_none (h.sub a u e) hp)]; exact h.sub a u e, fun a u e => by rw [upd_ne (ne_of_none (h.prot a u e) hp)]; exact h.prot a u e, h.dis, by simp [h.len], fun i j a c1 c2 e1 e2 k1 k2 d1 d2 => ?_, fun n a c' e1 e2 hd => ?_, fun n a c' e1 e2 => ?_⟩, ex⟩
  · have dp : ∀ {n : Nat} {c' : Cell}, w.mu[n]? = some p → (ms ++ [c])[n]? = some c' → n < w.mu.length → c' = .dead := fun {n c'} e q z => by
      rw [List.getElem?_append_left (by rw [← h.len]; exact z)] at q
      exact mp q e
    by_cases z1 : i < w.mu.length
    · by_cases z2 : j < w.mu.length
      · refine h.inj i j a c1 c2 (old e1 z1) (old e2 z2) ?_ ?_ d1 d2
        · rw [List.getElem?_append_left (by rw [← h.len]; exact z1)] at k1; exact k1
        · rw [List.getElem?_append_left (by rw [← h.len]; exact z2)] at k2; exact k2
      · obtain ⟨q1, q2⟩ := new e2 z2
        subst q1
        exact absurd (dp (old e1 z1) k1 z1) d1
    · obtain ⟨q1, q2⟩ := new e1 z1
      subst q1
      by_cases z2 : j < w.mu.length
      · exact absurd (dp (old e2 z2) k2 z2) d2
      · rw [q2, (new e2 z2).2]
  · by_cases z : n < w.mu.length
    · rw [List.getElem?_append_left (by rw [← h.len]; exact z)] at e2
      exact h.sep n a c' (old e1 z) e2 hd
    · rw [(new e1 z).1]; exact ⟨h.freeF hp, h.freeP hp⟩
  · by_cases z : n < w.mu.length
    · rw [List.getElem?_append_left (by rw [← h.len]; exact z)] at e2
      have q := h.cel n a c' (old e1 z) e2
      exact q.mono ex fun u e => by rw [upd_ne (ne_of_none e hp)]; exact e
    · obtain ⟨q1, q2⟩ := new e1 z
      subst q1 q2
      rw [List.getElem?_append_right (by rw [h.len]; exact Nat.le_refl _)] at e2
      have : c' = c := by rw [h.len] at e2; simpa using e2.symm
      subst this
      exact hc
/-- a cell is written -/
theorem HR0.write {n : Nat} {a : Addr} {o : HO} {c c' : Cell} (h : HR Y w H ms) (hm : w.mu[n]? = some a) (hc : ms[n]? = some c) (hd : c ≠ .dead) (new : CR Y.X.K Y.Γ w (upd H a o) a c') : HR Y w (upd H a o) (ms.set n c') := by
  obtain ⟨nF, nP⟩ := h.sep n a c hm hc hd
  have hn : n < ms.length := (List.getElem?_eq_some_iff.mp hc).1
  have other : ∀ {i : Nat} {b : Addr} {k : Cell}, w.mu[i]? = some b → ms[i]? = some k → k ≠ .dead → i ≠ n → b ≠ a := fun {i b k} e q z ne x => by
    subst x
    exact ne (h.inj i n b k c e hm q hc z hd)
  have at_ : ∀ {i : Nat} {k : Cell}, (ms.set n c')[i]? = some k → i ≠ n → ms[i]? = some k := fun e ne => by rw [List.getElem?_set_ne (Ne.symm ne)] at e; exact e
  refine ⟨fun b u e => ?_, fun b u e => ?_, h.dis, by simp [h.len], fun i j b c1 c2 e1 e2 k1 k2 d1 d2 => ?_, fun i b k e q z => ?_, fun i b k e q => ?_⟩
  · have : b ≠ a := fun x => by subst x; rw [nF] at e; cases e
    rw [upd_ne this]; exact h.sub b u e
  · have : b ≠ a := fun x => by subst x; rw [nP] at e; cases e
    rw [upd_ne this]; exact h.prot b u e
  · by_cases z1 : i = n
    · by_cases z2 : j = n
      · rw [z1, z2]
      · subst z1
        rw [hm] at e1
        cases e1
        exact absurd rfl (other e2 (at_ k2 z2) d2 z2)
    · by_cases z2 : j = n
      · subst z2
        rw [hm] at e2
        cases e2
        exact absurd rfl (other e1 (at_ k1 z1) d1 z1)
      · exact h.inj i j b c1 c2 e1 e2 (at_ k1 z1) (at_ k2 z2) d1 d2
  · by_cases z1 : i = n
    · subst z1; rw [hm] at e; cases e; exact ⟨nF, nP⟩
    · exact h.sep i b k e (at_ q z1) z
  · by_cases z1 : i = n
    · subst z1
      rw [hm] at e; cases e
      rw [List.getElem?_set_self hn] at q
      cases q
      exact new
    · have q' := at_ q z1
      have r := h.cel i b k e q'
      cases k with
      | dead => trivial
      | lst ds => exact r.mono (Ext.refl w) fun u z => by rw [upd_ne (other e q' (by intro x; cases x) z1)]; exact z
      | ins c fs => exact r.mono (Ext.refl w) fun u z => by rw [upd_ne (other e q' (by intro x; cases x) z1)]; exact z

/-! ### data out of slots -/
def S.toD : S → Option D
  | .d x => some x
  | _ => none
def toDs : List S → Option (List D)
  | [] => some []
  | .d x :: r => (toDs r).map (x :: ·)
  | _ :: _ => none
theorem toDs_rel : ∀ {ss : List S} {ds : List D} {vs : List V}, toDs ss = some ds → SRs Y w ss vs → DRs Y.X.K Y.Γ w.F ds vs
  | [], ds, vs, h, r => by cases r; cases h; rfl
  | .d x :: r, ds, vs, h, rr => by
    cases rr with
    | cons q t =>
      unfold toDs at h
      cases e : toDs r with
      | none => rw [e] at h; cases h
      | some ds' =>
        rw [e] at h
        cases h
        exact ⟨_, _, rfl, q, toDs_rel e t⟩
  | .loc _ :: _, _, _, h, _ => by cases h
  | .exn _ _ :: _, _, _, h, _ => by cases h
theorem toDs_map : ∀ ds : List D, toDs (ds.map S.d) = some ds
  | [] => rfl
  | d :: ds => by show (toDs (ds.map S.d)).map _ = _; rw [toDs_map ds]; rfl
theorem DRs.length : ∀ {K : PySem.W.Frag} {Γ : G} {F : Hp} {ds : List D} {vs : List V}, DRs K Γ F ds vs → ds.length = vs.length
  | _, _, _, [], vs, h => by cases h; rfl
  | _, _, _, d :: ds, vs, h => by obtain ⟨x, r, rfl, _, h3⟩ := h; simp [DRs.length h3]
theorem DRs.get {K : PySem.W.Frag} {Γ : G} {F : Hp} : ∀ {ds : List D} {vs : List V} {i : Nat} {d : D}, DRs K Γ F ds vs → ds[i]? = some d → ∃ v, vs[i]? = some v ∧ DR K Γ F d v
  | [], _, _, _, _, e => by simp at e
  | d :: ds, _, 0, d', h, e => by obtain ⟨x, r, rfl, h2, _⟩ := h; simp at e; subst e; exact ⟨x, rfl, h2⟩
  | d :: ds, _, i + 1, d', h, e => by obtain ⟨x, r, rfl, _, h3⟩ := h; simpa using DRs.get h3 (by simpa using e)
theorem SRs_of_DRs : ∀ {ds : List D} {vs : List V}, DRs Y.X.K Y.Γ w.F ds vs → SRs Y w (ds.map S.d) vs
  | [], _, h => by cases h; exact .nil
  | d :: ds, _, h => by obtain ⟨x, r, rfl, h2, h3⟩ := h; exact .cons h2 (SRs_of_DRs h3)
theorem DRs_of_SRs : ∀ {ds : List D} {vs : List V}, SRs Y w (ds.map S.d) vs → DRs Y.X.K Y.Γ w.F ds vs
  | [], _, h => by cases h; rfl
  | d :: ds, _, h => by cases h with | cons a b => exact ⟨_, _, rfl, a, DRs_of_SRs b⟩
theorem DRs.append {K : PySem.W.Frag} {Γ : G} {F : Hp} : ∀ {ds es : List D} {vs us : List V}, DRs K Γ F ds vs → DRs K Γ F es us → DRs K Γ F (ds ++ es) (vs ++ us)
  | [], _, _, _, h, h' => by cases h; exact h'
  | d :: ds, _, _, _, h, h' => by obtain ⟨x, r, rfl, h2, h3⟩ := h; exact ⟨x, r ++ _, rfl, h2, DRs.append h3 h'⟩
theorem DRs.drop {K : PySem.W.Frag} {Γ : G} {F : Hp} : ∀ {ds : List D} {vs : List V} (n : Nat), DRs K Γ F ds vs → DRs K Γ F (ds.drop n) (vs.drop n)
  | ds, vs, 0, h => h
  | [], _, n + 1, h => by cases h; rfl
  | d :: ds, _, n + 1, h => by obtain ⟨x, r, rfl, h2, h3⟩ := h; exact DRs.drop n h3
theorem DRs.take {K : PySem.W.Frag} {Γ : G} {F : Hp} : ∀ {ds : List D} {vs : List V} (n : Nat), DRs K Γ F ds vs → DRs K Γ F (ds.take n) (vs.take n)
  | ds, vs, 0, h => rfl
  | [], _, n + 1, h => by cases h; rfl
  | d :: ds, _, n + 1, h => by obtain ⟨x, r, rfl, h2, h3⟩ := h; exact ⟨x, r.take n, rfl, h2, DRs.take n h3⟩
theorem SRs.length {ss : List S} {vs : List V} (h : SRs Y w ss vs) : ss.length = vs.length := Paired.length h
theorem SRs.get : ∀ {ss : List S} {vs : List V} {i : Nat} {s : S}, SRs Y w ss vs → ss[i]? = some s → ∃ v, vs[i]? = some v ∧ SR Y w s v
  | _, _, i, _, .nil, e => by simp at e
  | _, _, 0, _, .cons r _, e => by simp at e; subst e; exact ⟨_, rfl, r⟩
  | _, _, i + 1, s, .cons _ t, e => by simpa using SRs.get (i := i) t (by simpa using e)

/-! ### argument lists, displays -/
def aNil : Env → Ms → R (List S) := fun _ ms => .ok [] ms
def aCons (m : Env → Ms → R S) (ma : Env → Ms → R (List S)) : Env → Ms → R (List S) := fun env ms => (m env ms).bind fun x ms1 => (ma env ms1).bind fun xs ms2 => .ok (x :: xs) ms2
theorem a_nil : DA Y [] aNil := ⟨_, pa_nil, fun w _ _ _ _ _ _ hr q => q w _ [] (Ext.refl w) hr .nil⟩
theorem a_cons {e : Expr} {es : List Expr} {m : Env → Ms → R S} {ma : Env → Ms → R (List S)} (h1 : DE Y e m) (h2 : DA Y es ma) (hs : starEach (e :: es) Y.X.env = (false, eval e Y.X.env) :: starEach es Y.X.env := by rfl) : DA Y (e :: es) (aCons m ma) := by
  obtain ⟨t, p, s⟩ := h1.ex
  obtain ⟨ta, pa, sa⟩ := h2.ex
  refine ⟨_, pa_cons p pa hs, fun w σ H env ms Q er hr h => ?_⟩
  refine s.go er hr h fun x ms1 w1 H1 v e1 er1 hr1 sv h1 => ?_
  refine sa.go er1 hr1 h1 fun xs ms2 w2 H2 vs e2 er2 hr2 svs h2 => ?_
  exact h2 w2 H2 (v :: vs) (e1.trans e2) hr2 (.cons (sv.mono e2) svs)
def few (n : Nat) : Bool := Nat.ble n 1000000
theorem few_ok {n : Nat} (h : few n = true) : n ≤ sizeLine := by
  have : n ≤ 1000000 := Nat.le_of_ble_eq_true h
  rw [sizeLine_eq]; omega
def dispD (f : List D → D) (ss : List S) (ms : Ms) : R S := match toDs ss with
  | some ds => match few ds.length with
    | true => .ok (.d (f ds)) ms
    | false => .bad
  | none => .bad
def mTup (ma : Env → Ms → R (List S)) : Env → Ms → R S := fun env ms => (ma env ms).bind (dispD .tup)
def mLst (ma : Env → Ms → R (List S)) : Env → Ms → R S := fun env ms => (ma env ms).bind (dispD .lst)
def newL (ss : List S) (ms : Ms) : R S := match toDs ss with
  | some ds => match few ds.length with
    | true => .ok (.loc ms.length) (ms ++ [.lst ds])
    | false => .bad
  | none => .bad
def mNew (ma : Env → Ms → R (List S)) : Env → Ms → R S := fun env ms => (ma env ms).bind newL
theorem e_tup {es : List Expr} {ma : Env → Ms → R (List S)} {x1 : Nat} {pos : Pos} (h : DA Y es ma) : DE Y (.Tuple es x1 pos) (mTup ma) := by
  obtain ⟨t, p, s⟩ := h.ex
  refine ⟨_, pe_tup p, fun w σ H env ms Q er hr h => ?_⟩
  refine s.go er hr h fun ss ms1 w1 H1 vs e1 er1 hr1 sv h1 => ?_
  unfold dispD at h1
  cases e : toDs ss with
  | none => rw [e] at h1; exact h1.elim
  | some ds =>
    rw [e] at h1
    dsimp only at h1
    cases f : few ds.length with
    | false => rw [f] at h1; exact h1.elim
    | true =>
      rw [f] at h1
      have r := toDs_rel e sv
      refine ⟨by rw [← DRs.length r]; exact few_ok f, fun p hp => ?_⟩
      obtain ⟨hr2, e2⟩ := hr1.froz (o := .tup vs) hp
      exact h1 _ _ _ (e1.trans e2) hr2 ⟨p, vs, rfl, SqT.of upd_same, DRs.mono e2.F _ _ r⟩
theorem e_lst {es : List Expr} {ma : Env → Ms → R (List S)} {pos : Pos} (h : DA Y es ma) : DE Y (.List es pos) (mLst ma) := by
  obtain ⟨t, p, s⟩ := h.ex
  refine ⟨_, pe_lst p, fun w σ H env ms Q er hr h => ?_⟩
  refine s.go er hr h fun ss ms1 w1 H1 vs e1 er1 hr1 sv h1 => ?_
  unfold dispD at h1
  cases e : toDs ss with
  | none => rw [e] at h1; exact h1.elim
  | some ds =>
    rw [e] at h1
    dsimp only at h1
    cases f : few ds.length with
    | false => rw [f] at h1; exact h1.elim
    | true =>
      rw [f] at h1
      have r := toDs_rel e sv
      refine ⟨by rw [← DRs.length r]; exact few_ok f, fun p hp => ?_⟩
      obtain ⟨hr2, e2⟩ := hr1.froz (o := .lst vs) hp
      exact h1 _ _ _ (e1.trans e2) hr2 ⟨p, vs, rfl, upd_same, DRs.mono e2.F _ _ r⟩
theorem e_new {es : List Expr} {ma : Env → Ms → R (List S)} {pos : Pos} (h : DA Y es ma) : DE Y (.List es pos) (mNew ma) := by
  obtain ⟨t, p, s⟩ := h.ex
  refine ⟨_, pe_lst p, fun w σ H env ms Q er hr h => ?_⟩
  refine s.go er hr h fun ss ms1 w1 H1 vs e1 er1 hr1 sv h1 => ?_
  unfold newL at h1
  cases e : toDs ss with
  | none => rw [e] at h1; exact h1.elim
  | some ds =>
    rw [e] at h1
    dsimp only at h1
    cases f : few ds.length with
    | false => rw [f] at h1; exact h1.elim
    | true =>
      rw [f] at h1
      have r := toDs_rel e sv
      refine ⟨by rw [← DRs.length r]; exact few_ok f, fun p hp => ?_⟩
      obtain ⟨hr2, e2⟩ := hr1.cell (o := .lst vs) (c := .lst ds) hp ⟨vs, upd_same, r⟩
      refine h1 _ _ _ (e1.trans e2) hr2 ⟨p, ?_, rfl⟩
      show (w1.mu ++ [p])[ms1.length]? = some p
      rw [← hr1.len]; simp

/-! ### tests -/
def asB (s : S) (ms : Ms) : R Bool := match s with
  | .d (.bl b) => .ok b ms
  | _ => .bad
def mB (m : Env → Ms → R S) : Env → Ms → R Bool := fun env ms => (m env ms).bind asB
theorem snd_B {t : TE} {m : Env → Ms → R S} (h : SndE Y t m) : SndT Y (tB t) (mB m) := by
  intro w σ H env ms Q er hr hw
  refine h.go er hr hw fun s ms1 w1 H1 v e1 er1 hr1 sv h1 => ?_
  unfold asB at h1
  cases s with
  | d x =>
    cases x with
    | bl b => cases sv; exact ⟨b, rfl, h1 w1 H1 e1 hr1⟩
    | _ => exact h1.elim
  | loc n => exact h1.elim
  | exn c ds => exact h1.elim
theorem t_val {e : Expr} {m : Env → Ms → R S} (h : DE Y e m) (he : ∀ whole, isTrue e Y.X.env whole = (do let v ← whole; standAt e.pos; holding [v] (truthy v)) := by intro _; rfl) : DT Y e (mB m) := by
  obtain ⟨t, p, s⟩ := h.ex
  exact ⟨_, pt_val p he, snd_B s⟩
theorem t_cmp {op : CmpOp} {r : R2} {g : S → S → Ms → R S} {a b : Expr} {ma mb : Env → Ms → R S} {pos : Pos} (ho : OpR Y.X (compareOp op) r) (hg : ∀ x y ms c ds ms', g x y ms ≠ .ex c ds ms') (hs : SndR2 Y r g) (ha : DE Y a ma) (hb : DE Y b mb) (hm : behindInMarks op b = false) : DT Y (.Compare a [op] [b] pos) (mB (mOp g ma mb)) := by
  obtain ⟨ta, pa, sa⟩ := ha.ex
  obtain ⟨tb, pb, sb⟩ := hb.ex
  exact ⟨_, pt_cmpR ho pa pb hm, snd_B (snd_op hg hs sa sb)⟩
def mAnd (m k : Env → Ms → R Bool) : Env → Ms → R Bool := fun env ms => (m env ms).bind fun b ms1 => match b with
  | true => k env ms1
  | false => .ok false ms1
def mOr (m k : Env → Ms → R Bool) : Env → Ms → R Bool := fun env ms => (m env ms).bind fun b ms1 => match b with
  | true => .ok true ms1
  | false => k env ms1
def mNot (m : Env → Ms → R Bool) : Env → Ms → R Bool := fun env ms => (m env ms).bind fun b ms1 => .ok (!b) ms1
variable {a b c : Expr} {rest : List Expr} {pos : Pos}
theorem w_and1 {m : Env → Ms → R Bool} (h : DT Y a m) : DW Y (.BoolOp .And [a] pos) m := let ⟨t, p, s⟩ := h.ex; ⟨_, pw_and1 p, s⟩
theorem w_or1 {m : Env → Ms → R Bool} (h : DT Y a m) : DW Y (.BoolOp .Or [a] pos) m := let ⟨t, p, s⟩ := h.ex; ⟨_, pw_or1 p, s⟩
theorem w_and {m k : Env → Ms → R Bool} (h : DT Y a m) (h2 : DW Y (.BoolOp .And (b :: rest) pos) k) : DW Y (.BoolOp .And (a :: b :: rest) pos) (mAnd m k) := by
  obtain ⟨t, p, s⟩ := h.ex
  obtain ⟨t2, p2, s2⟩ := h2.ex
  refine ⟨_, pw_and p p2, fun w σ H env ms Q er hr hw => ?_⟩
  refine s.go er hr hw fun x ms1 w1 H1 e1 er1 hr1 h1 => ?_
  cases x with
  | true => exact iteT (s2 w1 σ H1 env ms1 Q er1 hr1 (R.post_mono h1 (fun b ms2 z w2 H2 e2 => z w2 H2 (e1.trans e2)) fun _ _ _ z => z))
  | false => exact iteF (h1 w1 H1 e1 hr1)
theorem w_or {m k : Env → Ms → R Bool} (h : DT Y a m) (h2 : DW Y (.BoolOp .Or (b :: rest) pos) k) : DW Y (.BoolOp .Or (a :: b :: rest) pos) (mOr m k) := by
  obtain ⟨t, p, s⟩ := h.ex
  obtain ⟨t2, p2, s2⟩ := h2.ex
  refine ⟨_, pw_or p p2, fun w σ H env ms Q er hr hw => ?_⟩
  refine s.go er hr hw fun x ms1 w1 H1 e1 er1 hr1 h1 => ?_
  cases x with
  | false => exact iteF (s2 w1 σ H1 env ms1 Q er1 hr1 (R.post_mono h1 (fun b ms2 z w2 H2 e2 => z w2 H2 (e1.trans e2)) fun _ _ _ z => z))
  | true => exact iteT (h1 w1 H1 e1 hr1)
theorem DW.t {e : Expr} {m : Env → Ms → R Bool} (h : DW Y e m) : DT Y e m := let ⟨t, p, s⟩ := h.ex; ⟨_, p.pt, s⟩
theorem t_not {m : Env → Ms → R Bool} (h : DT Y a m) : DT Y (.UnaryOp .Not a pos) (mNot m) := by
  obtain ⟨t, p, s⟩ := h.ex
  refine ⟨_, pt_not p, fun w σ H env ms Q er hr hw => ?_⟩
  exact s.go er hr hw fun x ms1 w1 H1 e1 er1 hr1 h1 => h1 w1 H1 e1 hr1
/-- as values -/
def mAndV (m k : Env → Ms → R S) : Env → Ms → R S := fun env ms => (mB m env ms).bind fun b ms1 => match b with
  | true => k env ms1
  | false => .ok (.d (.bl false)) ms1
def mOrV (m k : Env → Ms → R S) : Env → Ms → R S := fun env ms => (mB m env ms).bind fun b ms1 => match b with
  | true => .ok (.d (.bl true)) ms1
  | false => k env ms1
def mNotV (m : Env → Ms → R S) : Env → Ms → R S := fun env ms => (mB m env ms).bind fun b ms1 => .ok (.d (.bl (!b))) ms1
theorem bind_assoc {α β γ : Type} (r : R α) (f : α → Ms → R β) (g : β → Ms → R γ) : (r.bind f).bind g = r.bind fun a ms => (f a ms).bind g := by cases r <;> rfl
/-- on with a bool -/
theorem SndE.goB {t : TE} {m : Env → Ms → R S} (h : SndE Y t m) {β : Type} {f : Bool → Ms → R β} {P : β → Ms → Prop} {k : VK} (er : ER Y w σ env) (hr : HR Y w H ms)
    (hp : ((mB m env ms).bind f).post P (exP Y w σ)) (hk : ∀ b ms1 w1 H1, Ext w w1 → ER Y w1 σ env → HR Y w1 H1 ms1 → (f b ms1).post P (exP Y w1 σ) → k (.bl b) H1) : t σ H k := by
  unfold mB at hp
  rw [bind_assoc] at hp
  refine h.go er hr hp fun s ms1 w1 H1 v e1 er1 hr1 sv h1 => ?_
  unfold asB at h1
  cases s with
  | d x =>
    cases x with
    | bl b => cases sv; exact hk b ms1 w1 H1 e1 er1 hr1 h1
    | _ => exact h1.elim
  | loc n => exact h1.elim
  | exn c ds => exact h1.elim
theorem e_one {op} {m : Env → Ms → R S} (h : DE Y a m) : DE Y (.BoolOp op [a] pos) m := let ⟨t, p, s⟩ := h.ex; ⟨_, pe_one p, s⟩
theorem e_and {m k : Env → Ms → R S} (h : DE Y a m) (h2 : DE Y (.BoolOp .And (b :: rest) pos) k) : DE Y (.BoolOp .And (a :: b :: rest) pos) (mAndV m k) := by
  obtain ⟨t, p, s⟩ := h.ex
  obtain ⟨t2, p2, s2⟩ := h2.ex
  refine ⟨_, pe_and p p2, fun w σ H env ms Q er hr hw => ?_⟩
  refine s.goB er hr hw fun x ms1 w1 H1 e1 er1 hr1 h1 => ⟨x, rfl, ?_⟩
  cases x with
  | true => exact iteT (s2 w1 σ H1 env ms1 Q er1 hr1 (R.post_mono h1 (fun _ _ z => z.ext e1) fun _ _ _ z => z))
  | false => exact iteF (h1.at e1 hr1 rfl)
theorem e_or {m k : Env → Ms → R S} (h : DE Y a m) (h2 : DE Y (.BoolOp .Or (b :: rest) pos) k) : DE Y (.BoolOp .Or (a :: b :: rest) pos) (mOrV m k) := by
  obtain ⟨t, p, s⟩ := h.ex
  obtain ⟨t2, p2, s2⟩ := h2.ex
  refine ⟨_, pe_or p p2, fun w σ H env ms Q er hr hw => ?_⟩
  refine s.goB er hr hw fun x ms1 w1 H1 e1 er1 hr1 h1 => ⟨x, rfl, ?_⟩
  cases x with
  | false => exact iteF (s2 w1 σ H1 env ms1 Q er1 hr1 (R.post_mono h1 (fun _ _ z => z.ext e1) fun _ _ _ z => z))
  | true => exact iteT (h1.at e1 hr1 rfl)
theorem e_not {m : Env → Ms → R S} (h : DE Y a m) : DE Y (.UnaryOp .Not a pos) (mNotV m) := by
  obtain ⟨t, p, s⟩ := h.ex
  refine ⟨_, pe_not p, fun w σ H env ms Q er hr hw => ?_⟩
  exact s.goB er hr hw fun x ms1 w1 H1 e1 er1 hr1 h1 => ⟨x, rfl, h1.at e1 hr1 rfl⟩
def mIf {α : Type} (c : Env → Ms → R Bool) (m k : Env → Ms → R α) : Env → Ms → R α := fun env ms => (c env ms).bind fun b ms1 => match b with
  | true => m env ms1
  | false => k env ms1
theorem e_if {mc : Env → Ms → R Bool} {m k : Env → Ms → R S} (hc : DT Y c mc) (ha : DE Y a m) (hb : DE Y b k) : DE Y (.IfExp c a b pos) (mIf mc m k) := by
  obtain ⟨t, p, s⟩ := hc.ex
  obtain ⟨t1, p1, s1⟩ := ha.ex
  obtain ⟨t2, p2, s2⟩ := hb.ex
  refine ⟨_, pe_ifExp p p1 p2, fun w σ H env ms Q er hr hw => ?_⟩
  refine s.go er hr hw fun x ms1 w1 H1 e1 er1 hr1 h1 => ?_
  cases x with
  | true => exact iteT (s1 w1 σ H1 env ms1 Q er1 hr1 (R.post_mono h1 (fun _ _ z => z.ext e1) fun _ _ _ z => z))
  | false => exact iteF (s2 w1 σ H1 env ms1 Q er1 hr1 (R.post_mono h1 (fun _ _ z => z.ext e1) fun _ _ _ z => z))
end
end Fw
set_option Elab.async false
set_option linter.all false
set_option maxRecDepth 100000
set_option maxHeartbeats 4000000
/-! Fw3: statements, targets, loops, defs. -/
namespace Fw
open PySem L2

def nxP (Y : Cy) (w : Wd) (Q : St → Hp → Prop) : Env → Ms → Prop := fun env' ms' => ∀ w' H' σ', Ext w w' → HR Y w' H' ms' → ER Y w' σ' env' → Q σ' H'
def rtP (Y : Cy) (w : Wd) (Q : VK) : S → Ms → Prop := okP Y w Q
def sxP (Y : Cy) (w : Wd) : Nat → List D → Env → Ms → Prop := fun c ds env' ms' => ∀ w' H' σ' dd, Ext w w' → HR Y w' H' ms' → ER Y w' σ' env' → XD Y.X.K Y.Γ w'.F c ds dd → Y.W (.ref (Y.Γ.cls c)) dd σ' H'
def tP (Y : Cy) (w : Wd) (Ed : Ends) (t : T) : Prop := t.post (nxP Y w Ed.nx) (rtP Y w Ed.rt) (nxP Y w Ed.bk) (nxP Y w Ed.ct) (sxP Y w)
def SndS (Y : Cy) (t : TS) (m : Env → Ms → T) : Prop :=
  ∀ (w : Wd) (σ : St) (H : Hp) (env : Env) (ms : Ms) (Ed : Ends), ER Y w σ env → HR Y w H ms → tP Y w Ed (m env ms) → t Ed σ H
structure DS (Y : Cy) (st : Stmt) (m : Env → Ms → T) : Prop where
  ex : ∃ t, PS Y.X st t ∧ SndS Y t m
structure DSs (Y : Cy) (st : List Stmt) (m : Env → Ms → T) : Prop where
  ex : ∃ t, PSs Y.X st t ∧ SndS Y t m
def SndG (Y : Cy) (t : TG) (g : S → Env → Ms → Option Env) : Prop :=
  ∀ (w : Wd) (σ : St) (H : Hp) (env : Env) (ms : Ms) (s : S) (v : V) (Q : St → Hp → Prop) (env' : Env), ER Y w σ env → HR Y w H ms → SR Y w s v → g s env ms = some env' → (∀ σ', ER Y w σ' env' → Q σ' H) → t v σ H Q
structure DG (Y : Cy) (tg : Expr) (g : S → Env → Ms → Option Env) : Prop where
  ex : ∃ t, PG Y.X tg t ∧ SndG Y t g
def SndGs (Y : Cy) (t : TGs) (g : List S → Env → Ms → Option Env) : Prop :=
  ∀ (w : Wd) (σ : St) (H : Hp) (env : Env) (ms : Ms) (ss : List S) (vs : List V) (Q : St → Hp → Prop) (env' : Env), ER Y w σ env → HR Y w H ms → SRs Y w ss vs → g ss env ms = some env' → (∀ σ', ER Y w σ' env' → Q σ' H) → t vs σ H Q
structure DGs (Y : Cy) (tgs : List Expr) (g : List S → Env → Ms → Option Env) : Prop where
  ex : ∃ t, PGs Y.X tgs t ∧ SndGs Y t g

section
variable {Y : Cy} {w w1 w2 : Wd} {σ : St} {H H1 H2 : Hp} {env : Env} {ms ms1 ms2 : Ms} {Ed : Ends}
theorem nxP.ext (e : Ext w w1) {Q : St → Hp → Prop} (h : nxP Y w Q env ms) : nxP Y w1 Q env ms := fun w' H' σ' e' => h w' H' σ' (e.trans e')
theorem sxP.ext (e : Ext w w1) {c : Nat} {ds : List D} (h : sxP Y w c ds env ms) : sxP Y w1 c ds env ms := fun w' H' σ' dd e' => h w' H' σ' dd (e.trans e')
theorem tP.ext (e : Ext w w1) {t : T} (h : tP Y w Ed t) : tP Y w1 Ed t := T.post_mono h (fun _ _ z => z.ext e) (fun _ _ z => okP.ext e z) (fun _ _ z => z.ext e) (fun _ _ z => z.ext e) fun _ _ _ _ z => z.ext e
theorem ER.set (h : ER Y w σ env) {s : S} {v : V} (r : SR Y w s v) (i : Nat) : ER Y w (σ.set i (some v)) (env.set i (some s)) := by
  refine ⟨by simp [h.len], fun j s' e => ?_⟩
  by_cases z : i = j
  · subst z
    have hi : i < env.length := by
      have := (List.getElem?_eq_some_iff.mp e).1
      simpa using this
    rw [List.getElem?_set_self hi] at e
    cases e
    exact ⟨v, by rw [List.getElem?_set_self (by rw [h.len]; exact hi)], r⟩
  · rw [List.getElem?_set_ne z] at e
    obtain ⟨u, e1, r1⟩ := h.slot j s' e
    exact ⟨u, by rw [List.getElem?_set_ne z]; exact e1, r1⟩
theorem ER.unset (h : ER Y w σ env) (i : Nat) (o : Option V) : ER Y w (σ.set i o) (env.set i none) := by
  refine ⟨by simp [h.len], fun j s' e => ?_⟩
  by_cases z : i = j
  · subst z
    have hi : i < env.length := by
      have := (List.getElem?_eq_some_iff.mp e).1
      simpa using this
    rw [List.getElem?_set_self hi] at e
    cases e
  · rw [List.getElem?_set_ne z] at e
    obtain ⟨u, e1, r1⟩ := h.slot j s' e
    exact ⟨u, by rw [List.getElem?_set_ne z]; exact e1, r1⟩

/-! ### blocks -/
def T.seq (t : T) (k : Env → Ms → T) : T := match t with
  | .nx env ms => k env ms
  | .rt s ms => .rt s ms
  | .bk e ms => .bk e ms
  | .ct e ms => .ct e ms
  | .ex c ds e ms => .ex c ds e ms
  | .bad => .bad
def T.ofE {α : Type} (r : R α) (env : Env) (k : α → Ms → T) : T := match r with
  | .ok a ms => k a ms
  | .ex c ds ms => .ex c ds env ms
  | .bad => .bad
def sNil : Env → Ms → T := .nx
def sCons (m k : Env → Ms → T) : Env → Ms → T := fun env ms => (m env ms).seq k
variable {st : Stmt} {rest : List Stmt} {m k : Env → Ms → T} {pos : Pos}
theorem ss_nil : DSs Y [] sNil := ⟨_, pss_nil, fun w σ H env ms Ed er hr h => h w H σ (Ext.refl w) hr er⟩
theorem ss_cons (h1 : DS Y st m) (h2 : DSs Y rest k) : DSs Y (st :: rest) (sCons m k) := by
  obtain ⟨t, p, s⟩ := h1.ex
  obtain ⟨t2, p2, s2⟩ := h2.ex
  refine ⟨_, pss_cons p p2, fun w σ H env ms Ed er hr h => ?_⟩
  refine s w σ H env ms _ er hr ?_
  unfold sCons at h
  cases hm : m env ms with
  | nx e ms1 =>
    rw [hm] at h
    exact fun w1 H1 σ1 e1 hr1 er1 => s2 w1 σ1 H1 e ms1 Ed er1 hr1 (tP.ext e1 h)
  | rt v ms1 => rw [hm] at h; exact h
  | bk e ms1 => rw [hm] at h; exact h
  | ct e ms1 => rw [hm] at h; exact h
  | ex c ds e ms1 => rw [hm] at h; exact h
  | bad => rw [hm] at h; exact h.elim
theorem ss_one (h1 : DS Y st m) : DSs Y [st] m := let ⟨t, p, s⟩ := h1.ex; ⟨_, pss_one p, s⟩
/-- on behind an expression -/
theorem SndE.goS {t : TE} {me : Env → Ms → R S} (h : SndE Y t me) {f : S → Ms → T} {q : VK} (er : ER Y w σ env) (hr : HR Y w H ms)
    (hp : tP Y w Ed (T.ofE (me env ms) env f)) (hk : ∀ s ms1 w1 H1 v, Ext w w1 → ER Y w1 σ env → HR Y w1 H1 ms1 → SR Y w1 s v → tP Y w1 Ed (f s ms1) → q v H1) : t σ H q := by
  refine h w σ H env ms q er hr ?_
  cases hm : me env ms with
  | ok s ms1 =>
    rw [hm] at hp
    exact fun w1 H1 v e1 hr1 sv => hk s ms1 w1 H1 v e1 (er.mono e1) hr1 sv (tP.ext e1 hp)
  | ex c ds ms1 =>
    rw [hm] at hp
    exact fun w1 H1 dd e1 hr1 xd => hp w1 H1 σ dd e1 hr1 (er.mono e1) xd
  | bad => rw [hm] at hp; exact hp.elim
theorem SndT.goS {t : TT} {me : Env → Ms → R Bool} (h : SndT Y t me) {f : Bool → Ms → T} {q : Bool → Hp → Prop} (er : ER Y w σ env) (hr : HR Y w H ms)
    (hp : tP Y w Ed (T.ofE (me env ms) env f)) (hk : ∀ s ms1 w1 H1, Ext w w1 → ER Y w1 σ env → HR Y w1 H1 ms1 → tP Y w1 Ed (f s ms1) → q s H1) : t σ H q := by
  refine h w σ H env ms q er hr ?_
  cases hm : me env ms with
  | ok s ms1 =>
    rw [hm] at hp
    exact fun w1 H1 e1 hr1 => hk s ms1 w1 H1 e1 (er.mono e1) hr1 (tP.ext e1 hp)
  | ex c ds ms1 =>
    rw [hm] at hp
    exact fun w1 H1 dd e1 hr1 xd => hp w1 H1 σ dd e1 hr1 (er.mono e1) xd
  | bad => rw [hm] at hp; exact hp.elim

def sPass : Env → Ms → T := .nx
def sBrk : Env → Ms → T := .bk
def sCnt : Env → Ms → T := .ct
def sNever : Env → Ms → T := fun _ _ => .bad
def sExpr (me : Env → Ms → R S) : Env → Ms → T := fun env ms => T.ofE (me env ms) env fun _ ms1 => .nx env ms1
def sRet (me : Env → Ms → R S) : Env → Ms → T := fun env ms => T.ofE (me env ms) env .rt
def sRetN : Env → Ms → T := fun _ ms => .rt (.d .non) ms
def sIf (c : Env → Ms → R Bool) (a b : Env → Ms → T) : Env → Ms → T := fun env ms => T.ofE (c env ms) env fun x ms1 => match x with
  | true => a env ms1
  | false => b env ms1
theorem s_pass : DS Y (.Pass pos) sPass := ⟨_, ps_pass, fun w σ H env ms Ed er hr h => h w H σ (Ext.refl w) hr er⟩
theorem s_break : DS Y (.Break pos) sBrk := ⟨_, ps_break, fun w σ H env ms Ed er hr h => h w H σ (Ext.refl w) hr er⟩
theorem s_continue : DS Y (.Continue pos) sCnt := ⟨_, ps_continue, fun w σ H env ms Ed er hr h => h w H σ (Ext.refl w) hr er⟩
theorem s_never : DS Y st sNever := ⟨_, ps_never, fun w σ H env ms Ed er hr h => h.elim⟩
theorem s_doc {x : Str} {j} {pos' : Pos} : DS Y (.Expr (.Constant (.str x) j pos) pos') sPass := ⟨_, ps_doc, fun w σ H env ms Ed er hr h => h w H σ (Ext.refl w) hr er⟩
variable {e : Expr} {me : Env → Ms → R S}
theorem s_expr (h : DE Y e me) (hs : swapsWith e none pos.line Y.X.env = pure false := by rfl) : DS Y (.Expr e pos) (sExpr me) := by
  obtain ⟨t, p, s⟩ := h.ex
  exact ⟨_, ps_expr p hs, fun w σ H env ms Ed er hr h => s.goS er hr h fun x ms1 w1 H1 v e1 er1 hr1 sv h1 => h1 w1 H1 σ (Ext.refl w1) hr1 er1⟩
theorem s_ret (h : DE Y e me) : DS Y (.Return (some e) pos) (sRet me) := by
  obtain ⟨t, p, s⟩ := h.ex
  exact ⟨_, ps_ret p, fun w σ H env ms Ed er hr h => s.goS er hr h fun x ms1 w1 H1 v e1 er1 hr1 sv h1 => h1 w1 H1 v (Ext.refl w1) hr1 sv⟩
theorem s_retN : DS Y (.Return none pos) sRetN := ⟨_, ps_retN, fun w σ H env ms Ed er hr h => h w H .non (Ext.refl w) hr rfl⟩
theorem s_if {c : Expr} {mc : Env → Ms → R Bool} {a b : List Stmt} (hc : DT Y c mc) (ha : DSs Y a m) (hb : DSs Y b k) : DS Y (.If c a b pos) (sIf mc m k) := by
  obtain ⟨t, p, s⟩ := hc.ex
  obtain ⟨t1, p1, s1⟩ := ha.ex
  obtain ⟨t2, p2, s2⟩ := hb.ex
  refine ⟨_, ps_if p p1 p2, fun w σ H env ms Ed er hr h => ?_⟩
  refine s.goS er hr h fun x ms1 w1 H1 e1 er1 hr1 h1 => ?_
  cases x with
  | true => exact iteT (s1 w1 σ H1 env ms1 Ed er1 hr1 h1)
  | false => exact iteF (s2 w1 σ H1 env ms1 Ed er1 hr1 h1)

/-! ### targets -/
def gSet (i : Nat) : S → Env → Ms → Option Env := fun s env _ => some (env.set i (some s))
theorem g_name {i : Nat} {x : Str} (hN : Y.X.N.Nodup) (hi : Y.X.N[i]? = some x := by rfl) (hx : Loc Y.X.env.scope x := by first | exact Or.inl rfl | exact Or.inr rfl) (hf : Y.X.fn x = true ∨ Y.X.env.scope.names.lookup x = some .local := by first | exact .inl rfl | exact .inr rfl) :
    DG Y (.Name x pos) (gSet i) := by
  refine ⟨_, pg_name hN hi hx hf, fun w σ H env ms s v Q env' er hr sv he hq => ?_⟩
  cases he
  exact hq _ (er.set sv i)
def gsNil : List S → Env → Ms → Option Env := fun ss env _ => match ss with
  | [] => some env
  | _ => none
def gsCons (g : S → Env → Ms → Option Env) (gs : List S → Env → Ms → Option Env) : List S → Env → Ms → Option Env := fun ss env ms => match ss with
  | s :: r => (g s env ms).bind fun env1 => gs r env1 ms
  | [] => none
theorem gs_nil : DGs Y [] gsNil := by
  refine ⟨_, pgs_nil, fun w σ H env ms ss vs Q env' er hr sv he hq => ?_⟩
  cases sv with
  | nil => cases he; exact ⟨rfl, hq _ er⟩
  | cons a b => cases he
theorem gs_cons {es : List Expr} {g : S → Env → Ms → Option Env} {gs : List S → Env → Ms → Option Env} (h1 : DG Y e g) (h2 : DGs Y es gs)
    (hs : (assignEach (e :: es) Y.X.env).map (·.2) = assign e Y.X.env :: (assignEach es Y.X.env).map (·.2) := by rfl) : DGs Y (e :: es) (gsCons g gs) := by
  obtain ⟨t, p, s⟩ := h1.ex
  obtain ⟨t2, p2, s2⟩ := h2.ex
  refine ⟨_, pgs_cons p p2 hs, fun w σ H env ms ss vs Q env' er hr sv he hq => ?_⟩
  cases sv with
  | nil => cases he
  | @cons a b ss vs ra rb =>
    have he : (g a env ms).bind (fun env1 => gs ss env1 ms) = some env' := he
    cases hg : g a env ms with
    | none => rw [hg] at he; cases he
    | some env1 =>
      rw [hg] at he
      exact ⟨_, _, rfl, s w σ H env ms a b _ env1 er hr ra hg fun σ1 er1 => s2 w σ1 H env1 ms ss vs Q env' er1 hr rb he hq⟩
def gUn (n : Nat) (gs : List S → Env → Ms → Option Env) : S → Env → Ms → Option Env := fun s env ms => match s with
  | .d (.tup ds) => match Nat.beq ds.length n with
    | true => gs (ds.map S.d) env ms
    | false => none
  | _ => none
theorem g_tup {es : List Expr} {j : Nat} {n : Nat} {gs : List S → Env → Ms → Option Env} (hc : Y.X.calm = true) (h : DGs Y es gs)
    (hn : (assignEach es Y.X.env).length = n := by rfl) (hst : (assignEach es Y.X.env).findIdx? (·.1) = none := by rfl) : DG Y (.Tuple es j pos) (gUn n gs) := by
  obtain ⟨t, p, s⟩ := h.ex
  refine ⟨_, pg_tup hc p hn hst, fun w σ H env ms x v Q env' er hr sv he hq => ?_⟩
  cases x with
  | loc i => cases he
  | exn c ds => cases he
  | d x =>
    cases x with
    | tup ds =>
      unfold gUn at he
      dsimp only at he
      cases hl : Nat.beq ds.length n with
      | false => rw [hl] at he; cases he
      | true =>
        rw [hl] at he
        obtain ⟨a, xs, rfl, h2, h3⟩ := sv
        refine ⟨a, xs, rfl, sqT_mono h2 hr.sub, by rw [← DRs.length h3]; exact Nat.eq_of_beq_eq_true hl, ?_⟩
        exact s w σ H env ms _ xs Q env' er hr (SRs_of_DRs h3) he hq
    | _ => cases he

def sSet (i : Nat) (me : Env → Ms → R S) : Env → Ms → T := fun env ms => T.ofE (me env ms) env fun s ms1 => .nx (env.set i (some s)) ms1
theorem s_set {i : Nat} {x : Str} {pos' : Pos} (hN : Y.X.N.Nodup) (he : DE Y e me) (hi : Y.X.N[i]? = some x := by rfl) (hx : Loc Y.X.env.scope x := by first | exact Or.inl rfl | exact Or.inr rfl) (hs : swapsWith e (some (.Name x pos')) pos.line Y.X.env = pure false := by rfl)
    (hf : Y.X.fn x = true ∨ Y.X.env.scope.names.lookup x = some .local := by first | exact .inl rfl | exact .inr rfl) : DS Y (.Assign [.Name x pos'] e pos) (sSet i me) := by
  obtain ⟨t, p, s⟩ := he.ex
  refine ⟨_, ps_set hN hi hx p hs hf, fun w σ H env ms Ed er hr h => ?_⟩
  exact s.goS er hr h fun x ms1 w1 H1 v e1 er1 hr1 sv h1 => h1 w1 H1 _ (Ext.refl w1) hr1 (er1.set sv i)
def sAsg (g : S → Env → Ms → Option Env) (me : Env → Ms → R S) : Env → Ms → T := fun env ms => T.ofE (me env ms) env fun s ms1 => match g s env ms1 with
  | some env' => .nx env' ms1
  | none => .bad
theorem s_asg {tg : Expr} {g : S → Env → Ms → Option Env} (he : DE Y e me) (hg : DG Y tg g) (hs : swapsWithSole [tg] e pos.line Y.X.env = pure false := by rfl) (hw : swappedStores [tg] e Y.X.env = pure none := by rfl)
    (h1 : (assignEach [tg] Y.X.env).map (·.2) = [assign tg Y.X.env] := by rfl) : DS Y (.Assign [tg] e pos) (sAsg g me) := by
  obtain ⟨t, p, s⟩ := he.ex
  obtain ⟨t2, p2, s2⟩ := hg.ex
  refine ⟨_, ps_asg p p2 hs hw h1, fun w σ H env ms Ed er hr h => ?_⟩
  refine s.goS er hr h fun x ms1 w1 H1 v e1 er1 hr1 sv h1 => ?_
  cases q : g x env ms1 with
  | none => rw [q] at h1; exact h1.elim
  | some env' =>
    rw [q] at h1
    exact s2 w1 σ H1 env ms1 x v Ed.nx env' er1 hr1 sv q fun σ' er' => h1 w1 H1 σ' (Ext.refl w1) hr1 er'
/-- a, b = x, y -/
def sPar (i j : Nat) (ma : Env → Ms → R (List S)) : Env → Ms → T := fun env ms => T.ofE (ma env ms) env fun ss ms1 => match ss with
  | [x, y] => .nx ((env.set i (some x)).set j (some y)) ms1
  | _ => .bad
theorem SndA.goS {t : TA} {ma : Env → Ms → R (List S)} (h : SndA Y t ma) {f : List S → Ms → T} {q : List V → Hp → Prop} (er : ER Y w σ env) (hr : HR Y w H ms)
    (hp : tP Y w Ed (T.ofE (ma env ms) env f)) (hk : ∀ s ms1 w1 H1 v, Ext w w1 → ER Y w1 σ env → HR Y w1 H1 ms1 → SRs Y w1 s v → tP Y w1 Ed (f s ms1) → q v H1) : t σ H q := by
  refine h w σ H env ms q er hr ?_
  cases hm : ma env ms with
  | ok s ms1 =>
    rw [hm] at hp
    exact fun w1 H1 v e1 hr1 sv => hk s ms1 w1 H1 v e1 (er.mono e1) hr1 sv (tP.ext e1 hp)
  | ex c ds ms1 =>
    rw [hm] at hp
    exact fun w1 H1 dd e1 hr1 xd => hp w1 H1 σ dd e1 hr1 (er.mono e1) xd
  | bad => rw [hm] at hp; exact hp.elim
end
end Fw
set_option Elab.async false
set_option linter.all false
set_option maxRecDepth 100000
set_option maxHeartbeats 4000000
/-! Fw4: loops. -/
namespace Fw
open PySem L2

/-- what an iterator yields: xs, as long as the cell kp stays -/
def keptC (kp : Option (Nat × Cell)) (ms : Ms) : Prop := ∀ n c, kp = some (n, c) → ms[n]? = some c
/-- more is frozen, more cells: whatever is protected -/
structure Wd.Sub (w w' : Wd) : Prop where
  F : ∀ a o, w.F a = some o → w'.F a = some o
  mu : ∀ (n : Nat) a, w.mu[n]? = some a → w'.mu[n]? = some a
theorem Ext.wsub {w w' : Wd} (e : Ext w w') : w.Sub w' := ⟨e.F, e.mu⟩
theorem Wd.Sub.trans {a b c : Wd} (x : a.Sub b) (y : b.Sub c) : a.Sub c := ⟨fun p o h => y.F p o (x.F p o h), fun n p h => y.mu n p (x.mu n p h)⟩
def Yields (Y : Cy) (w0 : Wd) (xs : List S) (kp : Option (Nat × Cell)) (J : It) : Prop :=
  ∀ (w : Wd) (H : Hp) (ms : Ms), w0.Sub w → HR Y w H ms → keptC kp ms →
    J.stop xs.length H ∧ ∀ (i : Nat) (s : S), xs[i]? = some s → J.go i H ∧ ∀ (x : V) (H' : Hp), J.yld i H x H' → ∃ w', Ext w w' ∧ HR Y w' H' ms ∧ SR Y w' s x
def SndI (Y : Cy) (wi : TI) (mi : Env → Ms → R (List S × Option (Nat × Cell))) : Prop :=
  ∀ (w : Wd) (σ : St) (H : Hp) (env : Env) (ms : Ms) (Rr : It → Hp → Prop), ER Y w σ env → HR Y w H ms →
    (mi env ms).post (fun xk ms1 => ∀ (w1 : Wd) (H1 : Hp) (J : It), Ext w w1 → HR Y w1 H1 ms1 → Yields Y w1 xk.1 xk.2 J → keptC xk.2 ms1 → Rr J H1) (exP Y w σ) → wi σ H Rr
structure DI (Y : Cy) (tg iter : Expr) (mi : Env → Ms → R (List S × Option (Nat × Cell))) : Prop where
  ex : ∃ wi, PI Y.X tg iter wi ∧ SndI Y wi mi
open Classical in
noncomputable def chk {α : Type} (kp : Option (Nat × Cell)) (ms : Ms) (a : α) (b : α) : α := match kp with
  | none => a
  | some (n, c) => if ms[n]? = some c then a else b
noncomputable def forL (kp : Option (Nat × Cell)) (g : S → Env → Ms → Option Env) (body : Env → Ms → T) : List S → Env → Ms → T
  | [], env, ms => chk kp ms (.nx env ms) .bad
  | x :: r, env, ms => chk kp ms (match g x env ms with
    | none => .bad
    | some env1 => match body env1 ms with
      | .nx e m => forL kp g body r e m
      | .ct e m => forL kp g body r e m
      | .bk e m => .nx e m
      | .rt s m => .rt s m
      | .ex c ds e m => .ex c ds e m
      | .bad => .bad) .bad
noncomputable def sFor (mi : Env → Ms → R (List S × Option (Nat × Cell))) (g : S → Env → Ms → Option Env) (body : Env → Ms → T) : Env → Ms → T := fun env ms =>
  T.ofE (mi env ms) env fun xk ms1 => forL xk.2 g body xk.1 env ms1

section
variable {Y : Cy} {w w1 w2 : Wd} {σ : St} {H H1 H2 : Hp} {env : Env} {ms ms1 ms2 : Ms} {Ed : Ends} {pos : Pos}
theorem chk_post {kp : Option (Nat × Cell)} {t : T} (h : tP Y w Ed (chk kp ms t .bad)) : keptC kp ms ∧ tP Y w Ed t := by
  unfold chk at h
  cases kp with
  | none => exact ⟨fun _ _ e => (nomatch e), h⟩
  | some p =>
    obtain ⟨n, c⟩ := p
    dsimp only at h
    by_cases z : ms[n]? = some c
    · rw [if_pos z] at h
      exact ⟨fun m d e => by cases e; exact z, h⟩
    · rw [if_neg z] at h
      exact h.elim
theorem s_for {tg iter : Expr} {body : List Stmt} {mi : Env → Ms → R (List S × Option (Nat × Cell))} {g : S → Env → Ms → Option Env} {mb : Env → Ms → T} (hp : PassesOwn (model Y.X.prog Y.X.w) Y.X.A Y.X.env Y.X.xe) (hc : Y.X.calm = true)
    (hi : DI Y tg iter mi) (hg : DG Y tg g) (hb : DSs Y body mb) (hs : ∀ x, foldedSetIterable iter Y.X.env x = pure x := by intro _; rfl) : DS Y (.For tg iter body [] pos) (sFor mi g mb) := by
  obtain ⟨wi, pi, si⟩ := hi.ex
  obtain ⟨tg', pg, sg⟩ := hg.ex
  obtain ⟨tb, pb, sb⟩ := hb.ex
  refine ⟨_, ps_for hp hc pi pg pb hs, fun w σ H env ms Ed er hr h => ?_⟩
  refine si w σ H env ms _ er hr ?_
  unfold sFor at h
  cases hm : mi env ms with
  | bad => rw [hm] at h; exact h.elim
  | ex c ds ms1 => rw [hm] at h; exact fun w1 H1 dd e1 hr1 xd => h w1 H1 σ dd e1 hr1 (er.mono e1) xd
  | ok xk ms1 =>
    rw [hm] at h
    obtain ⟨xs, kp⟩ := xk
    intro w1 H1 J e1 hr1 hy _
    have h : tP Y w Ed (forL kp g mb xs env ms1) := h
    have hy : Yields Y w1 xs kp J := hy
    refine ⟨fun i m σ' H' => m = xs.length - i ∧ i ≤ xs.length ∧ ∃ (w' : Wd) (env' : Env) (ms' : Ms), Ext w1 w' ∧ HR Y w' H' ms' ∧ ER Y w' σ' env' ∧ tP Y w' Ed (forL kp g mb (xs.drop i) env' ms'),
      ⟨xs.length, by omega, by omega, w1, env, ms1, Ext.refl w1, hr1, er.mono e1, tP.ext e1 h⟩, ?_⟩
    rintro i m σ' H' ⟨rfl, hi, w', env', ms', e', hr', er', h'⟩
    by_cases hlt : i < xs.length
    · refine .inr ?_
      have hx : xs[i]? = some xs[i] := by simp [hlt]
      rw [List.drop_eq_getElem_cons hlt] at h'
      obtain ⟨kc, h'⟩ := chk_post h'
      obtain ⟨hgo, hyl⟩ := (hy w' H' ms' e'.wsub hr' kc).2 i _ hx
      refine ⟨hgo, fun σ2 H2 => i + 1 ≤ xs.length ∧ ∃ (w2 : Wd) (env2 : Env) (ms2 : Ms), Ext w1 w2 ∧ HR Y w2 H2 ms2 ∧ ER Y w2 σ2 env2 ∧ tP Y w2 Ed (forL kp g mb (xs.drop (i + 1)) env2 ms2), fun σ2 H2 n2 => ⟨xs.length - (i + 1), by omega, rfl, n2.1, n2.2⟩, fun x H2 y2 => ?_⟩
      obtain ⟨w2, e2, hr2, sv⟩ := hyl x H2 y2
      cases hgx : g xs[i] env' ms' with
      | none => rw [hgx] at h'; exact h'.elim
      | some env1 =>
        rw [hgx] at h'
        dsimp only at h'
        refine sg w2 σ' H2 env' ms' _ x _ env1 (er'.mono e2) hr2 sv hgx fun σ3 er3 => ?_
        refine sb w2 σ3 H2 env1 ms' _ er3 hr2 ?_
        have h' := tP.ext e2 h'
        have nxt : ∀ e m, tP Y w2 Ed (forL kp g mb (xs.drop (i + 1)) e m) → nxP Y w2 (fun σ2 H2 => i + 1 ≤ xs.length ∧ ∃ (w2 : Wd) (env2 : Env) (ms2 : Ms), Ext w1 w2 ∧ HR Y w2 H2 ms2 ∧ ER Y w2 σ2 env2 ∧ tP Y w2 Ed (forL kp g mb (xs.drop (i + 1)) env2 ms2)) e m := fun e m q w4 H4 σ4 e4 hr4 er4 =>
          ⟨hlt, w4, e, m, (e'.trans e2).trans e4, hr4, er4, tP.ext e4 q⟩
        cases hbm : mb env1 ms' with
        | nx e m => rw [hbm] at h'; exact nxt e m h'
        | ct e m => rw [hbm] at h'; exact nxt e m h'
        | bk e m => rw [hbm] at h'; exact h'
        | rt s m => rw [hbm] at h'; exact h'
        | ex c ds e m => rw [hbm] at h'; exact h'
        | bad => rw [hbm] at h'; exact h'.elim
    · have e : i = xs.length := by omega
      subst e
      rw [List.drop_length] at h'
      obtain ⟨kc, h'⟩ := chk_post h'
      exact .inl ⟨(hy w' H' ms' e'.wsub hr' kc).1, h' w' H' σ' (Ext.refl w') hr' er'⟩

/-! ### what is walked -/
/-- over data: a frozen list, the script, a tuple -/
def itD (s : S) (ms : Ms) : R (List S × Option (Nat × Cell)) := match s with
  | .d (.lst ds) => .ok (ds.map S.d, none) ms
  | .d (.frz ds) => .ok (ds.map S.d, none) ms
  | .loc n => match ms[n]? with
    | some (.lst ds) => .ok (ds.map S.d, some (n, .lst ds)) ms
    | _ => .bad
  | _ => .bad
def itT (s : S) (ms : Ms) : R (List S × Option (Nat × Cell)) := match s with
  | .d (.tup ds) => .ok (ds.map S.d, none) ms
  | _ => .bad
def iList (m : Env → Ms → R S) : Env → Ms → R (List S × Option (Nat × Cell)) := fun env ms => (m env ms).bind itD
def iTup (m : Env → Ms → R S) : Env → Ms → R (List S × Option (Nat × Cell)) := fun env ms => (m env ms).bind itT
theorem map_get {ds : List D} {i : Nat} {s : S} (h : (ds.map S.d)[i]? = some s) : ∃ d, ds[i]? = some d ∧ s = .d d := by
  rw [List.getElem?_map] at h
  cases e : ds[i]? with
  | none => rw [e] at h; cases h
  | some d => rw [e] at h; exact ⟨d, rfl, (Option.some.inj h).symm⟩
theorem yields_list {a : Addr} {xs : List V} {ds : List D} (h : SqL Y.X.K w.F a xs) (r : DRs Y.X.K Y.Γ w.F ds xs) : Yields Y w (ds.map S.d) none (Itl Y.X.K a) := by
  intro w' H' ms' e' hr' _
  have q := sqL_mono (sqL_mono h e'.F) hr'.sub
  refine ⟨⟨xs, q, by rw [List.length_map, DRs.length r]; exact Nat.le_refl _⟩, fun i s hs => ?_⟩
  obtain ⟨d, hd, rfl⟩ := map_get hs
  obtain ⟨v, hv, rv⟩ := DRs.get r hd
  refine ⟨⟨xs, v, q, hv⟩, fun x H2 y => ?_⟩
  obtain ⟨rfl, y⟩ := y
  have : v = x := Option.some.inj (hv.symm.trans (y xs q))
  subst this
  exact ⟨w', Ext.refl w', hr', DR.mono e'.F _ _ rv⟩
theorem yields_cell {n : Nat} {a : Addr} {ds : List D} (h : w.mu[n]? = some a) : Yields Y w (ds.map S.d) (some (n, .lst ds)) (Itl Y.X.K a) := by
  intro w' H' ms' e' hr' kc
  have hc := kc n _ rfl
  obtain ⟨xs, q, r⟩ := hr'.cel n a _ (e'.mu n a h) hc
  have q' : SqL Y.X.K H' a xs := SqL.of q
  refine ⟨⟨xs, q', by rw [List.length_map, DRs.length r]; exact Nat.le_refl _⟩, fun i s hs => ?_⟩
  obtain ⟨d, hd, rfl⟩ := map_get hs
  obtain ⟨v, hv, rv⟩ := DRs.get r hd
  refine ⟨⟨xs, v, q', hv⟩, fun x H2 y => ?_⟩
  obtain ⟨rfl, y⟩ := y
  have : v = x := Option.some.inj (hv.symm.trans (y xs q'))
  subst this
  exact ⟨w', Ext.refl w', hr', rv⟩
theorem yields_tup {a : Addr} {xs : List V} {ds : List D} (h : SqT Y.X.K w.F a xs) (r : DRs Y.X.K Y.Γ w.F ds xs) : Yields Y w (ds.map S.d) none (Itt Y.X.K a) := by
  intro w' H' ms' e' hr' _
  have q := sqT_mono (sqT_mono h e'.F) hr'.sub
  refine ⟨⟨xs, q, by rw [List.length_map, DRs.length r]; exact Nat.le_refl _⟩, fun i s hs => ?_⟩
  obtain ⟨d, hd, rfl⟩ := map_get hs
  obtain ⟨v, hv, rv⟩ := DRs.get r hd
  refine ⟨⟨xs, v, q, hv⟩, fun x H2 y => ?_⟩
  obtain ⟨rfl, y⟩ := y
  have : v = x := Option.some.inj (hv.symm.trans (y xs q))
  subst this
  exact ⟨w', Ext.refl w', hr', DR.mono e'.F _ _ rv⟩
variable {tg l : Expr} {m : Env → Ms → R S}
theorem i_list (h : DE Y l m) : DI Y tg l (iList m) := by
  obtain ⟨t, p, s⟩ := h.ex
  refine ⟨_, pi_list p, fun w σ H env ms Rr er hr h => ?_⟩
  refine s.go er hr h fun x ms1 w1 H1 v e1 er1 hr1 sv h1 => ?_
  cases x with
  | exn c ds => exact h1.elim
  | loc n =>
    obtain ⟨a, ha, rfl⟩ := sv
    unfold itD at h1
    dsimp only at h1
    cases hc : ms1[n]? with
    | none => rw [hc] at h1; exact h1.elim
    | some c =>
      rw [hc] at h1
      cases c with
      | lst ss =>
        obtain ⟨xs, q, r⟩ := hr1.cel n a _ ha hc
        exact ⟨a, rfl, ⟨xs, SqL.of q⟩, h1 w1 H1 _ e1 hr1 (yields_cell ha) (fun i c e => by cases e; exact hc)⟩
      | ins c fs => exact h1.elim
      | dead => exact h1.elim
  | d x =>
    cases x with
    | lst ds =>
      obtain ⟨a, xs, rfl, h2, h3⟩ := sv
      exact ⟨a, rfl, ⟨xs, SqL.of (hr1.sub _ _ h2)⟩, h1 w1 H1 _ e1 hr1 (yields_list (SqL.of h2) h3) (fun _ _ e => nomatch e)⟩
    | frz ds =>
      obtain ⟨a, xs, rfl, h2, h3⟩ := sv
      exact ⟨a, rfl, ⟨xs, sqL_mono h2 hr1.sub⟩, h1 w1 H1 _ e1 hr1 (yields_list h2 h3) (fun _ _ e => nomatch e)⟩
    | _ => exact h1.elim
theorem i_tup (h : DE Y l m) : DI Y tg l (iTup m) := by
  obtain ⟨t, p, s⟩ := h.ex
  refine ⟨_, pi_tup p, fun w σ H env ms Rr er hr h => ?_⟩
  refine s.go er hr h fun x ms1 w1 H1 v e1 er1 hr1 sv h1 => ?_
  cases x with
  | exn c ds => exact h1.elim
  | loc n => exact h1.elim
  | d x =>
    cases x with
    | tup ds =>
      obtain ⟨a, xs, rfl, h2, h3⟩ := sv
      exact ⟨a, rfl, ⟨xs, sqT_mono h2 hr1.sub⟩, h1 w1 H1 _ e1 hr1 (yields_tup h2 h3) (fun _ _ e => nomatch e)⟩
    | _ => exact h1.elim
/-- range -/
def rngS (lo : Int) (n : Nat) : List S := (List.range n).map fun i => S.d (.int (lo + (i : Nat)))
theorem yields_rng {lo : Int} {n : Nat} : Yields Y w (rngS lo n) none (Itr lo n) := by
  intro w' H' ms' e' hr' _
  refine ⟨by show n ≤ (rngS lo n).length; simp [rngS], fun i s hs => ?_⟩
  have hi : i < n := by
    have := (List.getElem?_eq_some_iff.mp hs).1
    simpa [rngS] using this
  have hsv : s = .d (.int (lo + (i : Nat))) := by
    simp [rngS, hi] at hs
    exact hs.symm
  refine ⟨hi, fun x H2 y => ?_⟩
  obtain ⟨rfl, rfl⟩ := y
  exact ⟨w', Ext.refl w', hr', by rw [hsv]; rfl⟩
def inR (i : Int) : Bool := decide (-(2 ^ 62) ≤ i ∧ i < 2 ^ 62)
def itR1 (ss : List S) (ms : Ms) : R (List S × Option (Nat × Cell)) := match ss with
  | [.d (.int j)] => match inR j with
    | true => .ok (rngS 0 j.toNat, none) ms
    | false => .bad
  | _ => .bad
def itR2 (ss : List S) (ms : Ms) : R (List S × Option (Nat × Cell)) := match ss with
  | [.d (.int i), .d (.int j)] => match inR i && inR j with
    | true => .ok (rngS i (j - i).toNat, none) ms
    | false => .bad
  | _ => .bad
def iRng1 (m : Env → Ms → R (List S)) : Env → Ms → R (List S × Option (Nat × Cell)) := fun env ms => (m env ms).bind itR1
def iRng2 (m : Env → Ms → R (List S)) : Env → Ms → R (List S × Option (Nat × Cell)) := fun env ms => (m env ms).bind itR2
variable {a b : Expr} {p pos' : Pos} {ma : Env → Ms → R (List S)}
theorem i_range1 (hg : Gl Y.X "range") (hm : Y.X.mg "range" = none) (ha : DA Y [a] ma) (hs : starEach [a] Y.X.env = [(false, eval a Y.X.env)] := by rfl) : DI Y tg (.Call (.Name "range" p) [a] [] pos') (iRng1 ma) := by
  obtain ⟨t, pa, s⟩ := ha.ex
  refine ⟨_, pi_range1 hg hm pa hs, fun w σ H env ms Rr er hr h => ?_⟩
  refine s.go er hr h fun ss ms1 w1 H1 vs e1 er1 hr1 sv h1 => ?_
  unfold itR1 at h1
  split at h1
  · rename_i j
    cases hj : inR j with
    | false => rw [hj] at h1; exact h1.elim
    | true =>
      rw [hj] at h1
      have := of_decide_eq_true hj
      cases sv with
      | cons q r =>
        cases r
        cases q
        exact ⟨j, rfl, this.1, this.2, h1 w1 H1 _ e1 hr1 yields_rng (fun _ _ e => nomatch e)⟩
  · exact h1.elim
theorem i_range2 (hg : Gl Y.X "range") (hm : Y.X.mg "range" = none) (ha : DA Y [a, b] ma) (hs : starEach [a, b] Y.X.env = [(false, eval a Y.X.env), (false, eval b Y.X.env)] := by rfl) (hs2 : starEach [b] Y.X.env = [(false, eval b Y.X.env)] := by rfl) :
    DI Y tg (.Call (.Name "range" p) [a, b] [] pos') (iRng2 ma) := by
  obtain ⟨t, pa, s⟩ := ha.ex
  refine ⟨_, pi_range2 hg hm pa hs hs2, fun w σ H env ms Rr er hr h => ?_⟩
  refine s.go er hr h fun ss ms1 w1 H1 vs e1 er1 hr1 sv h1 => ?_
  unfold itR2 at h1
  split at h1
  · rename_i i j
    cases hj : (inR i && inR j) with
    | false => rw [hj] at h1; exact h1.elim
    | true =>
      rw [hj] at h1
      obtain ⟨k1, k2⟩ := Bool.and_eq_true_iff.mp hj
      have q1 := of_decide_eq_true k1
      have q2 := of_decide_eq_true k2
      cases sv with
      | cons q r =>
        cases r with
        | cons q' r' =>
          cases r'
          cases q
          cases q'
          exact ⟨i, j, rfl, ⟨q1.1, q1.2, q2.1, q2.2⟩, h1 w1 H1 _ e1 hr1 yields_rng (fun _ _ e => nomatch e)⟩
  · exact h1.elim

/-! ### while -/
def whileL (c : Env → Ms → R Bool) (b : Env → Ms → T) : Nat → Env → Ms → T
  | 0, _, _ => .bad
  | n + 1, env, ms => match c env ms with
    | .ok true ms1 => match b env ms1 with
      | .nx e m => whileL c b n e m
      | .ct e m => whileL c b n e m
      | .bk e m => .nx e m
      | .rt s m => .rt s m
      | .ex c ds e m => .ex c ds e m
      | .bad => .bad
    | .ok false ms1 => .nx env ms1
    | .ex k ds ms1 => .ex k ds env ms1
    | .bad => .bad
def sWhile (fu : Env → Ms → Nat) (c : Env → Ms → R Bool) (b : Env → Ms → T) : Env → Ms → T := fun env ms => whileL c b (fu env ms) env ms
theorem s_while (fu : Env → Ms → Nat) {c : Expr} {body : List Stmt} {mc : Env → Ms → R Bool} {mb : Env → Ms → T} (hp : PassesOwn (model Y.X.prog Y.X.w) Y.X.A Y.X.env Y.X.xe) (hc : DT Y c mc) (hb : DSs Y body mb) : DS Y (.While c body [] pos) (sWhile fu mc mb) := by
  obtain ⟨tc, pc, sc⟩ := hc.ex
  obtain ⟨tb, pb, sb⟩ := hb.ex
  refine ⟨_, ps_while hp pc pb, fun w σ H env ms Ed er hr h => ?_⟩
  refine ⟨fun n σ' H' => ∃ (w' : Wd) (env' : Env) (ms' : Ms), HR Y w' H' ms' ∧ ER Y w' σ' env' ∧ tP Y w' Ed (whileL mc mb n env' ms'), ⟨fu env ms, w, env, ms, hr, er, h⟩, ?_⟩
  rintro n σ1 H1 ⟨w1, env1, ms1, hr1, er1, h1⟩
  cases n with
  | zero => exact h1.elim
  | succ n =>
    unfold whileL at h1
    refine sc w1 σ1 H1 env1 ms1 _ er1 hr1 ?_
    cases hm : mc env1 ms1 with
    | bad => rw [hm] at h1; exact h1.elim
    | ex k ds ms2 => rw [hm] at h1; exact fun w2 H2 dd e2 hr2 xd => h1 w2 H2 σ1 dd e2 hr2 (er1.mono e2) xd
    | ok x ms2 =>
      rw [hm] at h1
      intro w2 H2 e2 hr2
      cases x with
      | false => exact iteF (h1 w2 H2 σ1 e2 hr2 (er1.mono e2))
      | true =>
        refine iteT ⟨fun σ' H' => ∃ (w' : Wd) (env' : Env) (ms' : Ms), HR Y w' H' ms' ∧ ER Y w' σ' env' ∧ tP Y w' Ed (whileL mc mb n env' ms'), fun σ' H' q => ⟨n, Nat.lt_succ_self n, q⟩, ?_⟩
        refine sb w2 σ1 H2 env1 ms2 _ (er1.mono e2) hr2 ?_
        have h1 := tP.ext e2 h1
        have nxt : ∀ e m, tP Y w2 Ed (whileL mc mb n e m) → nxP Y w2 (fun σ' H' => ∃ (w' : Wd) (env' : Env) (ms' : Ms), HR Y w' H' ms' ∧ ER Y w' σ' env' ∧ tP Y w' Ed (whileL mc mb n env' ms')) e m := fun e m q w4 H4 σ4 e4 hr4 er4 =>
          ⟨w4, e, m, hr4, er4, tP.ext e4 q⟩
        dsimp only at h1
        cases hbm : mb env1 ms2 with
        | nx e m => rw [hbm] at h1; exact nxt e m h1
        | ct e m => rw [hbm] at h1; exact nxt e m h1
        | bk e m => rw [hbm] at h1; exact h1
        | rt s m => rw [hbm] at h1; exact h1
        | ex c ds e m => rw [hbm] at h1; exact h1
        | bad => rw [hbm] at h1; exact h1.elim
end
end Fw
set_option Elab.async false
set_option linter.all false
set_option maxRecDepth 100000
set_option maxHeartbeats 4000000
/-! Fw5: defs: what a def computes, its rule, calls. -/
namespace Fw
open PySem L2 PySem.Spec PyProof.Rows

def start0 (n : Nat) (ss : List S) : Env := ss.map some ++ List.replicate (n - ss.length) none
def endS (s : S) (ms : Ms) : R S := match s.noX with
  | true => .ok s ms
  | false => .bad
def fnSem (n : Nat) (m : Env → Ms → T) : List S → Ms → R S := fun ss ms => match m (start0 n ss) ms with
  | .nx _ ms' => .ok (.d .non) ms'
  | .rt s ms' => endS s ms'
  | .ex c ds _ ms' => .ex c ds ms'
  | _ => .bad

/-! ### a call: the callee sees only the cells it is handed -/
def locsOf : List S → List Nat
  | [] => []
  | .loc n :: r => n :: locsOf r
  | .d _ :: r => locsOf r
  | .exn _ _ :: r => locsOf r
def renS (ls : List Nat) : S → S
  | .loc n => .loc (ls.idxOf n)
  | .d x => .d x
  | .exn c ds => .exn c ds
def getC (ms : Ms) (n : Nat) : Cell := match ms[n]? with
  | some c => c
  | none => .dead
def wb : List Nat → Ms → Ms → Ms
  | l :: ls, c :: cs, ms => wb ls cs (ms.set l c)
  | _, _, ms => ms
def nodupB : List Nat → Bool
  | [] => true
  | l :: ls => !ls.contains l && nodupB ls
def callEnd (ls : List Nat) (ms : Ms) (r : R S) : R S := match r with
  | .ok (.d x) ms' => .ok (.d x) (wb ls ms' ms)
  | .ok (.loc j) ms' => match ls[j]? with
    | some n => .ok (.loc n) (wb ls ms' ms)
    | none => match ms'[j]? with
      | some c => .ok (.loc ms.length) (wb ls ms' ms ++ [c])
      | none => .bad
  | .ok (.exn _ _) _ => .bad
  | .ex c ds ms' => .ex c ds (wb ls ms' ms)
  | .bad => .bad
def callSem (sem : List S → Ms → R S) (ss : List S) (ms : Ms) : R S := match ss.all S.noX && nodupB (locsOf ss) with
  | true => callEnd (locsOf ss) ms (sem (ss.map (renS (locsOf ss))) ((locsOf ss).map (getC ms)))
  | false => .bad
theorem nodupB_ok : ∀ {ls : List Nat}, nodupB ls = true → ls.Nodup
  | [], _ => List.nodup_nil
  | l :: ls, h => by
    unfold nodupB at h
    rw [Bool.and_eq_true, Bool.not_eq_true'] at h
    refine List.nodup_cons.mpr ⟨fun m => ?_, nodupB_ok h.2⟩
    have := List.contains_iff_mem.mpr m
    rw [h.1] at this; cases this
theorem wb_len : ∀ (ls : List Nat) (cs ms : Ms), (wb ls cs ms).length = ms.length
  | [], cs, ms => by unfold wb; rfl
  | l :: ls, [], ms => by unfold wb; rfl
  | l :: ls, c :: cs, ms => by show (wb ls cs (ms.set l c)).length = _; rw [wb_len]; simp
theorem wb_out : ∀ {ls : List Nat} {cs ms : Ms} {n : Nat}, n ∉ ls → (wb ls cs ms)[n]? = ms[n]?
  | [], cs, ms, n, _ => by unfold wb; rfl
  | l :: ls, [], ms, n, _ => by unfold wb; rfl
  | l :: ls, c :: cs, ms, n, h => by
    show (wb ls cs (ms.set l c))[n]? = _
    rw [wb_out (fun z => h (List.mem_cons_of_mem _ z)), List.getElem?_set_ne (fun z => h (by subst z; exact List.mem_cons_self))]
theorem wb_in : ∀ {ls : List Nat} {cs ms : Ms} {n k : Nat} {c : Cell}, ls.Nodup → ls[k]? = some n → cs[k]? = some c → n < ms.length → (wb ls cs ms)[n]? = some c
  | [], cs, ms, n, k, c, _, h, _, _ => by simp at h
  | l :: ls, [], ms, n, k, c, _, _, h, _ => by simp at h
  | l :: ls, c :: cs, ms, n, 0, d, nd, h, h2, hn => by
    simp at h h2
    subst h h2
    show (wb ls cs (ms.set l c))[l]? = _
    rw [wb_out (List.nodup_cons.mp nd).1, List.getElem?_set_self hn]
  | l :: ls, c :: cs, ms, n, k + 1, d, nd, h, h2, hn => by
    show (wb ls cs (ms.set l c))[n]? = _
    exact wb_in (List.nodup_cons.mp nd).2 (by simpa using h) (by simpa using h2) (by simpa using hn)
theorem mem_of_locs : ∀ {ss : List S} {n : Nat}, S.loc n ∈ ss → n ∈ locsOf ss
  | .loc m :: r, n, h => by
    rcases List.mem_cons.mp h with e | e
    · cases e; exact List.mem_cons_self
    · exact List.mem_cons_of_mem _ (mem_of_locs e)
  | .d x :: r, n, h => by
    have : S.loc n ∈ r := by
      rcases List.mem_cons.mp h with e | e
      · cases e
      · exact e
    exact mem_of_locs (ss := r) this
  | .exn _ _ :: r, n, h => by
    have : S.loc n ∈ r := by
      rcases List.mem_cons.mp h with e | e
      · cases e
      · exact e
    exact mem_of_locs (ss := r) this
section
variable {K : PySem.W.Frag} {Γ : G} {w w1 : Wd} {H H1 : Hp} {ms ms1 : Ms}
theorem locs_lt : ∀ {ss : List S} {vs : List V}, SRs0 K Γ w ss vs → ∀ n ∈ locsOf ss, ∃ a, w.mu[n]? = some a
  | _, _, .nil, n, h => nomatch h
  | .loc m :: r, _, .cons q t, n, h => by
    rcases List.mem_cons.mp h with e | e
    · subst e; obtain ⟨a, h1, _⟩ := q; exact ⟨a, h1⟩
    · exact locs_lt t n e
  | .d _ :: r, _, .cons q t, n, h => locs_lt t n h
  | .exn _ _ :: r, _, .cons q t, n, h => locs_lt t n h
open Classical in
/-- the caller's other cells, and what it protects itself -/
noncomputable def guardP (w : Wd) (H : Hp) (ms : Ms) (ls : List Nat) : Hp := fun a => match w.P a with
  | some o => some o
  | none => if ∃ (n : Nat) (c : Cell), w.mu[n]? = some a ∧ ms[n]? = some c ∧ c ≠ .dead ∧ n ∉ ls then H a else none
theorem guardP_P {ls : List Nat} {a : Addr} {o : HO} (h : w.P a = some o) : guardP w H ms ls a = some o := by unfold guardP; rw [h]
theorem guardP_cell {ls : List Nat} {a : Addr} {n : Nat} {c : Cell} (hp : w.P a = none) (h1 : w.mu[n]? = some a) (h2 : ms[n]? = some c) (h3 : c ≠ .dead) (h4 : n ∉ ls) : guardP w H ms ls a = H a := by
  unfold guardP; rw [hp]; exact if_pos ⟨n, c, h1, h2, h3, h4⟩
theorem guardP_inv {ls : List Nat} {a : Addr} {o : HO} (h : guardP w H ms ls a = some o) : w.P a = some o ∨ (H a = some o ∧ ∃ (n : Nat) (c : Cell), w.mu[n]? = some a ∧ ms[n]? = some c ∧ c ≠ .dead ∧ n ∉ ls) := by
  unfold guardP at h
  cases e : w.P a with
  | some u => rw [e] at h; exact .inl h
  | none =>
    rw [e] at h
    dsimp only at h
    split at h
    · rename_i z; exact .inr ⟨h, z⟩
    · cases h
def addr (w : Wd) (n : Nat) : Addr := match w.mu[n]? with
  | some a => a
  | none => 0
theorem addr_eq {n : Nat} {a : Addr} (h : w.mu[n]? = some a) : addr w n = a := by unfold addr; rw [h]
/-- the callee's world -/
noncomputable def callW (w : Wd) (H : Hp) (ms : Ms) (ls : List Nat) : Wd := ⟨w.F, guardP w H ms ls, ls.map (addr w)⟩
theorem getC_eq {n : Nat} {c : Cell} (h : ms[n]? = some c) : getC ms n = c := by unfold getC; rw [h]
theorem HR0.cell_at (h : HR0 K Γ w H ms) {n : Nat} {a : Addr} (e : w.mu[n]? = some a) : ms[n]? = some (getC ms n) := by
  have : n < ms.length := by rw [← h.len]; exact (List.getElem?_eq_some_iff.mp e).1
  unfold getC
  rw [List.getElem?_eq_getElem this]
theorem HR0.alive (h : HR0 K Γ w H ms) {n : Nat} {a : Addr} {c : Cell} (hm : w.mu[n]? = some a) (hc : ms[n]? = some c) (hd : c ≠ .dead) : ∃ o, H a = some o := by
  have q := h.cel n a c hm hc
  cases c with
  | lst ds => obtain ⟨xs, e, _⟩ := q; exact ⟨_, e⟩
  | ins c fs => obtain ⟨dx, xs, e, _⟩ := q; exact ⟨_, e⟩
  | dead => exact absurd rfl hd
theorem HR0.callW {ls : List Nat} (h : HR0 K Γ w H ms) (nd : ls.Nodup) (hl : ∀ n ∈ ls, ∃ a, w.mu[n]? = some a) : HR0 K Γ (callW w H ms ls) H (ls.map (getC ms)) := by
  have at_ : ∀ {i : Nat} {a : Addr}, (ls.map (addr w))[i]? = some a → ∃ n, ls[i]? = some n ∧ w.mu[n]? = some a := fun {i a} e => by
    rw [List.getElem?_map] at e
    cases q : ls[i]? with
    | none => rw [q] at e; cases e
    | some n =>
      rw [q] at e
      obtain ⟨b, hb⟩ := hl n (List.mem_of_getElem? q)
      have : addr w n = a := Option.some.inj e
      rw [addr_eq hb] at this
      subst this
      exact ⟨n, rfl, hb⟩
  have mc : ∀ {i n : Nat} {c : Cell}, ls[i]? = some n → (ls.map (getC ms))[i]? = some c → ms[n]? = some c := fun {i n c} e q => by
    rw [List.getElem?_map, e] at q
    obtain ⟨b, hb⟩ := hl n (List.mem_of_getElem? e)
    rw [h.cell_at hb]
    exact q
  refine ⟨h.sub, fun a o e => ?_, fun a o e => ?_, by simp [Fw.callW], fun i j a c c' e1 e2 k1 k2 d1 d2 => ?_, fun i a c e k hd => ?_, fun i a c e k => ?_⟩
  · rcases guardP_inv e with e | ⟨e, _⟩
    · exact h.prot a o e
    · exact e
  · rcases guardP_inv e with e | ⟨_, n, c, e1, e2, e3, _⟩
    · exact h.dis a o e
    · exact (h.sep n a c e1 e2 e3).1
  · obtain ⟨n, hn, en⟩ := at_ e1
    obtain ⟨m, hm, em⟩ := at_ e2
    have := h.inj n m a c c' en em (mc hn k1) (mc hm k2) d1 d2
    subst this
    exact (List.getElem?_inj (List.getElem?_eq_some_iff.mp hn).1 nd).mp (hn.trans hm.symm)
  · obtain ⟨n, hn, en⟩ := at_ e
    have s := h.sep n a c en (mc hn k) hd
    refine ⟨s.1, ?_⟩
    show guardP w H ms ls a = none
    cases q : guardP w H ms ls a with
    | none => rfl
    | some o =>
      rcases guardP_inv q with z | ⟨_, m, c', z1, z2, z3, z4⟩
      · rw [s.2] at z; cases z
      · have := h.inj n m a c c' en z1 (mc hn k) z2 hd z3
        subst this
        exact absurd (List.mem_of_getElem? hn) z4
  · obtain ⟨n, hn, en⟩ := at_ e
    have q := h.cel n a c en (mc hn k)
    cases c with
    | dead => trivial
    | lst ds => exact q
    | ins c fs => exact q
theorem renS_rel {ls : List Nat} {s : S} {v : V} (h : SR0 K Γ w s v) (hl : ∀ n, s = .loc n → n ∈ ls) : SR0 K Γ (callW w H ms ls) (renS ls s) v := by
  cases s with
  | d x => exact h
  | exn c ds => exact h.elim
  | loc n =>
    obtain ⟨a, e1, rfl⟩ := h
    refine ⟨a, ?_, rfl⟩
    show (ls.map (addr w))[ls.idxOf n]? = some a
    have hm := hl n rfl
    rw [List.getElem?_map, List.getElem?_eq_getElem (List.idxOf_lt_length_of_mem hm), List.getElem_idxOf]
    show some (addr w n) = _
    rw [addr_eq e1]
theorem renSs_rel {ls : List Nat} : ∀ {ss : List S} {vs : List V}, SRs0 K Γ w ss vs → (∀ n, S.loc n ∈ ss → n ∈ ls) → SRs0 K Γ (callW w H ms ls) (ss.map (renS ls)) vs
  | _, _, .nil, _ => .nil
  | s :: r, _, .cons a b, h => .cons (renS_rel a fun n e => h n (by subst e; exact List.mem_cons_self)) (renSs_rel b fun n e => h n (List.mem_cons_of_mem _ e))
/-- behind the call -/
theorem HR0.back {ls : List Nat} {w' : Wd} {H' : Hp} {ms' : Ms} {mu2 : List Addr} {ms2 : Ms} (src : Nat → Option Nat) (h : HR0 K Γ w H ms) (e : Ext (Fw.callW w H ms ls) w') (h' : HR0 K Γ w' H' ms') (len : mu2.length = ms2.length)
    (k1 : ∀ (n : Nat) a c, mu2[n]? = some a → ms2[n]? = some c → src n = none → w.mu[n]? = some a ∧ ms[n]? = some c ∧ n ∉ ls)
    (k2 : ∀ (n k : Nat) a c, mu2[n]? = some a → ms2[n]? = some c → src n = some k → w'.mu[k]? = some a ∧ ms'[k]? = some c)
    (k3 : ∀ (n m k : Nat), n < mu2.length → m < mu2.length → src n = some k → src m = some k → n = m) : HR0 K Γ ⟨w'.F, w.P, mu2⟩ H' ms2 := by
  have eP : w'.P = guardP w H ms ls := e.P
  have old : ∀ {n : Nat} {a : Addr} {c : Cell}, w.mu[n]? = some a → ms[n]? = some c → c ≠ .dead → n ∉ ls → w'.P a = H a ∧ w.P a = none := fun {n a c} q1 q2 q3 q4 => by
    have s := h.sep n a c q1 q2 q3
    exact ⟨by rw [eP]; exact guardP_cell s.2 q1 q2 q3 q4, s.2⟩
  have clash : ∀ {n k : Nat} {a : Addr} {c c' : Cell}, w.mu[n]? = some a → ms[n]? = some c → c ≠ .dead → n ∉ ls → w'.mu[k]? = some a → ms'[k]? = some c' → c' ≠ .dead → False := fun {n k a c c'} q1 q2 q3 q4 r1 r2 r3 => by
    obtain ⟨o, ho⟩ := h.alive q1 q2 q3
    have := (h'.sep k a c' r1 r2 r3).2
    rw [(old q1 q2 q3 q4).1, ho] at this
    cases this
  refine ⟨h'.sub, fun a o q => ?_, fun a o q => ?_, len, fun i j a c c' e1 e2 q1 q2 d1 d2 => ?_, fun n a c q1 q2 q3 => ?_, fun n a c q1 q2 => ?_⟩
  · exact h'.prot a o (by rw [eP]; exact guardP_P q)
  · exact h'.dis a o (by rw [eP]; exact guardP_P q)
  · cases si : src i with
    | none =>
      obtain ⟨x1, x2, x3⟩ := k1 i a c e1 q1 si
      cases sj : src j with
      | none =>
        obtain ⟨y1, y2, y3⟩ := k1 j a c' e2 q2 sj
        exact h.inj i j a c c' x1 y1 x2 y2 d1 d2
      | some k =>
        obtain ⟨y1, y2⟩ := k2 j k a c' e2 q2 sj
        exact (clash x1 x2 d1 x3 y1 y2 d2).elim
    | some k =>
      obtain ⟨x1, x2⟩ := k2 i k a c e1 q1 si
      cases sj : src j with
      | none =>
        obtain ⟨y1, y2, y3⟩ := k1 j a c' e2 q2 sj
        exact (clash y1 y2 d2 y3 x1 x2 d1).elim
      | some k' =>
        obtain ⟨y1, y2⟩ := k2 j k' a c' e2 q2 sj
        have := h'.inj k k' a c c' x1 y1 x2 y2 d1 d2
        subst this
        exact k3 i j k (List.getElem?_eq_some_iff.mp e1).1 (List.getElem?_eq_some_iff.mp e2).1 si sj
  · cases si : src n with
    | none =>
      obtain ⟨x1, x2, x3⟩ := k1 n a c q1 q2 si
      obtain ⟨o, ho⟩ := h.alive x1 x2 q3
      obtain ⟨z1, z2⟩ := old x1 x2 q3 x3
      exact ⟨h'.dis a o (z1.trans ho), z2⟩
    | some k =>
      obtain ⟨x1, x2⟩ := k2 n k a c q1 q2 si
      have s := h'.sep k a c x1 x2 q3
      refine ⟨s.1, ?_⟩
      cases z : w.P a with
      | none => rfl
      | some o =>
        have := s.2
        rw [eP, guardP_P z] at this
        cases this
  · cases si : src n with
    | none =>
      obtain ⟨x1, x2, x3⟩ := k1 n a _ q1 q2 si
      cases c with
      | dead => trivial
      | lst ds =>
        have nd : (Cell.lst ds) ≠ .dead := by intro z; cases z
        obtain ⟨xs, y1, y2⟩ := h.cel n a _ x1 x2
        exact ⟨xs, h'.prot a _ ((old x1 x2 nd x3).1.trans y1), DRs.mono e.F _ _ y2⟩
      | ins c fs =>
        have nd : (Cell.ins c fs) ≠ .dead := by intro z; cases z
        obtain ⟨dx, xs, y1, y2⟩ := h.cel n a _ x1 x2
        exact ⟨dx, xs, h'.prot a _ ((old x1 x2 nd x3).1.trans y1), DRs.mono e.F _ _ y2⟩
    | some k =>
      obtain ⟨x1, x2⟩ := k2 n k a _ q1 q2 si
      have q := h'.cel k a _ x1 x2
      cases c with
      | dead => trivial
      | lst ds => exact q
      | ins c fs => exact q
/-- no new cell -/
theorem HR0.back0 {ls : List Nat} {w' : Wd} {H' : Hp} {ms' : Ms} (h : HR0 K Γ w H ms) (nd : ls.Nodup) (hl : ∀ n ∈ ls, ∃ a, w.mu[n]? = some a) (e : Ext (Fw.callW w H ms ls) w') (h' : HR0 K Γ w' H' ms') : HR0 K Γ ⟨w'.F, w.P, w.mu⟩ H' (wb ls ms' ms) := by
  refine h.back (ls := ls) (fun n => match decide (n ∈ ls) with
    | true => some (ls.idxOf n)
    | false => none) e h' (by rw [wb_len]; exact h.len) (fun n a c q1 q2 z => ?_) (fun n k a c q1 q2 z => ?_) fun n m k _ _ z1 z2 => ?_
  · cases b : decide (n ∈ ls) with
    | true => rw [b] at z; cases z
    | false =>
      have := of_decide_eq_false b
      rw [wb_out this] at q2
      exact ⟨q1, q2, this⟩
  · cases b : decide (n ∈ ls) with
    | false => rw [b] at z; cases z
    | true =>
      rw [b] at z
      cases z
      have hm := of_decide_eq_true b
      have hi : ls[ls.idxOf n]? = some n := by rw [List.getElem?_eq_getElem (List.idxOf_lt_length_of_mem hm), List.getElem_idxOf]
      have hmu : w'.mu[ls.idxOf n]? = some a := e.mu _ a (by
        show (ls.map (addr w))[ls.idxOf n]? = _
        rw [List.getElem?_map, hi]
        show some (addr w n) = _
        rw [addr_eq q1])
      refine ⟨hmu, ?_⟩
      have hc := h'.cell_at hmu
      rw [wb_in nd hi hc (by rw [← h.len]; exact (List.getElem?_eq_some_iff.mp q1).1)] at q2
      rw [hc, q2]
  · cases b1 : decide (n ∈ ls) with
    | false => rw [b1] at z1; cases z1
    | true =>
      cases b2 : decide (m ∈ ls) with
      | false => rw [b2] at z2; cases z2
      | true =>
        rw [b1] at z1
        rw [b2] at z2
        have z1 : ls.idxOf n = k := Option.some.inj z1
        have z2 : ls.idxOf m = k := Option.some.inj z2
        have h1 : ls[ls.idxOf n]? = some n := by rw [List.getElem?_eq_getElem (List.idxOf_lt_length_of_mem (of_decide_eq_true b1)), List.getElem_idxOf]
        have h2 : ls[ls.idxOf m]? = some m := by rw [List.getElem?_eq_getElem (List.idxOf_lt_length_of_mem (of_decide_eq_true b2)), List.getElem_idxOf]
        rw [z1] at h1; rw [z2] at h2
        exact Option.some.inj (h1.symm.trans h2)
/-- with a new cell -/
theorem HR0.back1 {ls : List Nat} {w' : Wd} {H' : Hp} {ms' : Ms} {j : Nat} {b : Addr} {d : Cell} (h : HR0 K Γ w H ms) (nd : ls.Nodup) (hl : ∀ n ∈ ls, ∃ a, w.mu[n]? = some a) (e : Ext (Fw.callW w H ms ls) w') (h' : HR0 K Γ w' H' ms')
    (hj : ls[j]? = none) (hb : w'.mu[j]? = some b) (hd : ms'[j]? = some d) : HR0 K Γ ⟨w'.F, w.P, w.mu ++ [b]⟩ H' (wb ls ms' ms ++ [d]) := by
  have nin : w.mu.length ∉ ls := fun z => by
    obtain ⟨a, q⟩ := hl _ z
    have := (List.getElem?_eq_some_iff.mp q).1
    omega
  have hjl : ls.length ≤ j := List.getElem?_eq_none_iff.mp hj
  have side : ∀ {n : Nat} {a : Addr} {c : Cell}, (w.mu ++ [b])[n]? = some a → (wb ls ms' ms ++ [d])[n]? = some c → (n < w.mu.length ∧ w.mu[n]? = some a ∧ (wb ls ms' ms)[n]? = some c) ∨ (n = w.mu.length ∧ a = b ∧ c = d) := fun {n a c} q1 q2 => by
    have l := wb_len ls ms' ms
    by_cases z : n < w.mu.length
    · rw [List.getElem?_append_left z] at q1
      rw [List.getElem?_append_left (by rw [l, ← h.len]; exact z)] at q2
      exact .inl ⟨z, q1, q2⟩
    · have lt := (List.getElem?_eq_some_iff.mp q1).1
      have : n = w.mu.length := by simp at lt; omega
      subst this
      rw [List.getElem?_append_right (Nat.le_refl _)] at q1
      rw [List.getElem?_append_right (by rw [l, ← h.len]; exact Nat.le_refl _)] at q2
      rw [l, ← h.len] at q2
      simp at q1 q2
      exact .inr ⟨rfl, q1.symm, q2.symm⟩
  refine h.back (ls := ls) (fun n => match decide (n ∈ ls) with
    | true => some (ls.idxOf n)
    | false => match Nat.beq n w.mu.length with
      | true => some j
      | false => none) e h' (by rw [List.length_append, List.length_append, wb_len, h.len]; rfl) (fun n a c q1 q2 z => ?_) (fun n k a c q1 q2 z => ?_) fun n m k ln lm z1 z2 => ?_
  · cases b1 : decide (n ∈ ls) with
    | true => rw [b1] at z; cases z
    | false =>
      rw [b1] at z
      dsimp only at z
      cases b2 : Nat.beq n w.mu.length with
      | true => rw [b2] at z; cases z
      | false =>
        have := of_decide_eq_false b1
        rcases side q1 q2 with ⟨_, r1, r2⟩ | ⟨rfl, _, _⟩
        · rw [wb_out this] at r2
          exact ⟨r1, r2, this⟩
        · rw [Nat.beq_refl] at b2; cases b2
  · cases b1 : decide (n ∈ ls) with
    | false =>
      rw [b1] at z
      dsimp only at z
      cases b2 : Nat.beq n w.mu.length with
      | false => rw [b2] at z; cases z
      | true =>
        rw [b2] at z
        cases z
        have : n = w.mu.length := Nat.eq_of_beq_eq_true b2
        rcases side q1 q2 with ⟨r0, _, _⟩ | ⟨_, rfl, rfl⟩
        · omega
        · exact ⟨hb, hd⟩
    | true =>
      rw [b1] at z
      cases z
      have hm := of_decide_eq_true b1
      have hi : ls[ls.idxOf n]? = some n := by rw [List.getElem?_eq_getElem (List.idxOf_lt_length_of_mem hm), List.getElem_idxOf]
      rcases side q1 q2 with ⟨_, r1, r2⟩ | ⟨rfl, _, _⟩
      · have hmu : w'.mu[ls.idxOf n]? = some a := e.mu _ a (by
          show (ls.map (addr w))[ls.idxOf n]? = _
          rw [List.getElem?_map, hi]
          show some (addr w n) = _
          rw [addr_eq r1])
        refine ⟨hmu, ?_⟩
        have hc := h'.cell_at hmu
        rw [wb_in nd hi hc (by rw [← h.len]; exact (List.getElem?_eq_some_iff.mp r1).1)] at r2
        rw [hc, r2]
      · exact absurd hm nin
  · have hin : ∀ {n : Nat}, n ∈ ls → ls[ls.idxOf n]? = some n := fun hm => by rw [List.getElem?_eq_getElem (List.idxOf_lt_length_of_mem hm), List.getElem_idxOf]
    cases b1 : decide (n ∈ ls) with
    | false =>
      rw [b1] at z1
      dsimp only at z1
      cases c1 : Nat.beq n w.mu.length with
      | false => rw [c1] at z1; cases z1
      | true =>
        rw [c1] at z1
        cases z1
        have e1 : n = w.mu.length := Nat.eq_of_beq_eq_true c1
        cases b2 : decide (m ∈ ls) with
        | true =>
          rw [b2] at z2
          have z2 : ls.idxOf m = j := Option.some.inj z2
          have := List.idxOf_lt_length_of_mem (of_decide_eq_true b2)
          omega
        | false =>
          rw [b2] at z2
          dsimp only at z2
          cases c2 : Nat.beq m w.mu.length with
          | false => rw [c2] at z2; cases z2
          | true => rw [e1, Nat.eq_of_beq_eq_true c2]
    | true =>
      rw [b1] at z1
      have z1 : ls.idxOf n = k := Option.some.inj z1
      have h1 := hin (of_decide_eq_true b1)
      have l1 := List.idxOf_lt_length_of_mem (of_decide_eq_true b1)
      cases b2 : decide (m ∈ ls) with
      | true =>
        rw [b2] at z2
        have z2 : ls.idxOf m = k := Option.some.inj z2
        have h2 := hin (of_decide_eq_true b2)
        rw [z1] at h1; rw [z2] at h2
        exact Option.some.inj (h1.symm.trans h2)
      | false =>
        rw [b2] at z2
        dsimp only at z2
        cases c2 : Nat.beq m w.mu.length with
        | false => rw [c2] at z2; cases z2
        | true =>
          rw [c2] at z2
          have z2 : j = k := Option.some.inj z2
          omega
end

/-! ### a def's promise -/
def okF (K : PySem.W.Frag) (Γ : G) (w : Wd) (Q : VK) : S → Ms → Prop := fun s ms' => ∀ w' H' v, Ext w w' → HR0 K Γ w' H' ms' → SR0 K Γ w' s v → Q v H'
def exF (K : PySem.W.Frag) (Γ : G) (w : Wd) (E : XK) : Nat → List D → Ms → Prop := fun c ds ms' => ∀ w' H' dd, Ext w w' → HR0 K Γ w' H' ms' → XD K Γ w'.F c ds dd → E (.ref (Γ.cls c)) dd H'
structure DF (P : Program) (w : World) (K : PySem.W.Frag) (mg : Str → Option Value) (base : Heap) (Γ : G) (k : Nat) (f : Addr) (fd : FuncData) (ps : List Str) (sem : List S → Ms → R S) : Prop where
  run : ∀ (A : Around) (outer : List PySem.Env) (s : Shared) (H : Hp) (args : Args) (us : List Value) (vs : List V) (ss : List S) (ms : Ms) (wd : Wd) (Q : VK) (E : XK), Room k A → A.guards = some [] → Env0 P w K mg base A outer s H →
    BindsTo s fd args (ps.zip us) → Vals vs us → vs.length = ps.length → HR0 K Γ wd H ms → SRs0 K Γ wd ss vs → (sem ss ms).post (okF K Γ wd Q) (exF K Γ wd E) →
    codeAny (model P w) A (.call (.ref f) args) (L2.CR (CX P w) outer P w H s Q E) s
theorem DF.mono {P : Program} {w : World} {K : PySem.W.Frag} {mg : Str → Option Value} {base : Heap} {Γ : G} {j k : Nat} {f : Addr} {fd : FuncData} {ps : List Str} {sem : List S → Ms → R S} (h : DF P w K mg base Γ j f fd ps sem) (l : j ≤ k) : DF P w K mg base Γ k f fd ps sem :=
  ⟨fun A outer s H args us vs ss ms wd Q E hr => h.run A outer s H args us vs ss ms wd Q E (hr.mono l)⟩

/-- where a body stands -/
structure CyOk (Y : Cy) (k : Nat) : Prop where
  hr : Room k Y.X.A
  gd : Y.X.A.guards = some []
  tk : Takes Y.X Y.W
  own : PassesOwn (model Y.X.prog Y.X.w) Y.X.A Y.X.env Y.X.xe
  calm : Y.X.calm = true
  nd : Y.X.N.Nodup
/-- a def's own body: not a block within it -/
structure DefOk (Y : Cy) : Prop where
  stk : Y.X.stack = Y.X.env :: Y.X.outer
  frm : Y.X.env.frame = some Y.X.env.locals
def fnCy (P : Program) (w : World) (K : PySem.W.Frag) (mg : Str → Option Value) (base : Heap) (Γ : G) (N : List Str) (qual : Str) (scope : Scope) (f : Addr) (cd : Value) (A : Around) (outer : List PySem.Env) (s : Shared) (H : Hp) (E : XK) : Cy :=
  ⟨cxOf (CX P w) P w K mg base N qual scope f cd A outer s H E, Γ, fun cls d _ H => E cls d H, 0, none, .none⟩
section
variable {P : Program} {w : World} {K : PySem.W.Frag} {mg : Str → Option Value} {base : Heap} {Γ : G} {x qual : Str} {params : Arguments} {body : List Stmt} {scope : Scope} {dvs : List V} {kws : List (Str × V)} {f : Addr} {fd : FuncData} {N ps : List Str} {k : Nat}
theorem start_rel {Y : Cy} {wd : Wd} {n : Nat} {ss : List S} {vs : List V} (h : SRs0 Y.X.K Y.Γ wd ss vs) (hn : N.length = n) : ER Y wd (L2.start N vs) (start0 n ss) := by
  have l := Paired.length h
  refine ⟨by unfold L2.start start0; simp [l, hn], fun i s e => ?_⟩
  unfold start0 at e
  by_cases z : i < ss.length
  · rw [List.getElem?_append_left (by simpa using z), List.getElem?_map] at e
    cases q : ss[i]? with
    | none => rw [q] at e; cases e
    | some s' =>
      rw [q] at e
      cases e
      obtain ⟨v, hv, r⟩ := SRs.get (Y := Y) h.up q
      refine ⟨v, ?_, r⟩
      unfold L2.start
      rw [List.getElem?_append_left (by rw [List.length_map, ← l]; exact z), List.getElem?_map, hv]
      rfl
  · rw [List.getElem?_append_right (by simpa using z), List.getElem?_replicate] at e
    split at e <;> cases e
/-- THE RULE for a def -/
theorem d_fn {n : Nat} {m : Env → Ms → T} (F : FunD K x qual params body scope dvs kws f fd) (Sc : FnScope N ps scope) (hn : N.length = n)
    (hb : ∀ (cd : Value) (A : Around) (outer : List PySem.Env) (s : Shared) (H : Hp) (E : XK), CyOk (fnCy P w K mg base Γ N qual scope f cd A outer s H E) k → DefOk (fnCy P w K mg base Γ N qual scope f cd A outer s H E) → DSs (fnCy P w K mg base Γ N qual scope f cd A outer s H E) body m) :
    DF P w K mg base Γ (k + 1) f fd ps (fnSem n m) := by
  obtain ⟨oc, od, dV, kV, doc, pm, an, cd, ct, osl, rfl, lk, hcd, _, _⟩ := F.ex
  refine ⟨fun A outer s H args us vs ss ms wd Q E hr hg e0 hbd rv hl hh hs hp => ?_⟩
  have inK : K.In s.heap := e0.mod.kin.keeps fun b o e => (e0.bs b o e).1
  refine codeAny_call_function hr.depth (inK _ _ lk) rfl Sc.co Sc.gen rfl (PySem.W.codeRec_of inK hcd) (hbd _ _ _ _ ?_)
  have kinds : ∀ y ∈ ps.zip us, scope.names.lookup y.1 = some .local ∨ (scope.names.lookup y.1 = some .cell ∧ ((cellsFrom (s.heap.objs.size + 1) scope.names []).lookup y.1).isSome = true) := by
    rintro ⟨n1, v1⟩ hy
    exact (Sc.par n1 (List.of_mem_zip hy).1).imp id fun q => ⟨q, PySem.W.cellsFrom_some _ _ _ (.inl q)⟩
  refine wpAny_newFunctionEnv_cells Sc.kind kinds fun env he s1 hx => ?_
  subst he
  have lim : s.heap.NoLimit := e0.mod.nolimit.keeps fun b o e => (e0.bs b o e).1
  refine ⟨lim.keeps hx.toInCall.keep, codeAny_func ?_⟩
  have nd : N.Nodup := Sc.nd
  have ok : CyOk (fnCy P w K mg base Γ N qual scope f cd A outer s H E) k :=
    ⟨hr.deeper _, hg, takes_of rfl rfl rfl rfl, PassesOwn.leaving, rfl, nd⟩
  obtain ⟨t, pt, st⟩ := (hb cd A outer s H E ok ⟨rfl, rfl⟩).ex
  have I0 : Inv (fnCy P w K mg base Γ N qual scope f cd A outer s H E).X [] (L2.start N vs) H s1 := inv_start Sc hr.hd e0 hl rv hx
  have er : ER (fnCy P w K mg base Γ N qual scope f cd A outer s H E) wd (L2.start N vs) (start0 n ss) := start_rel hs hn
  have ends : ∀ (s' : S) (ms' : Ms), (endS s' ms').post (okF K Γ wd Q) (exF K Γ wd E) → okP (fnCy P w K mg base Γ N qual scope f cd A outer s H E) wd Q s' ms' := by
    intro s' ms' h w' H' v e' hr' sv
    unfold endS at h
    cases nx : s'.noX with
    | false => rw [nx] at h; exact h.elim
    | true =>
      rw [nx] at h
      exact h w' H' v e' hr' (sv.down nx)
  have hq : t { nx := fun _ H' => Q .non H', rt := Q } (L2.start N vs) H := by
    refine st wd _ H _ ms _ er hh ?_
    unfold fnSem at hp
    cases hm : m (start0 n ss) ms with
    | nx e ms' =>
      rw [hm] at hp
      exact fun w' H' σ' e' hr' er' => hp w' H' .non e' hr' rfl
    | rt s' ms' =>
      rw [hm] at hp
      exact ends _ _ hp
    | bk e ms' => rw [hm] at hp; exact hp.elim
    | ct e ms' => rw [hm] at hp; exact hp.elim
    | ex c ds e ms' =>
      rw [hm] at hp
      exact fun w' H' σ' dd e' hr' er' xd => hp w' H' dd e' hr' xd
    | bad => rw [hm] at hp; exact hp.elim
  refine wpAny_mono (pt.run [] s1 (L2.start N vs) H _ I0 hq) (fun fl s' hfl => ?_) fun e s' he => he
  cases fl with
  | next =>
    obtain ⟨σ', H', J, q⟩ := hfl
    exact ⟨V.non, H', J.os, J.bare, J.base, J.hok, rfl, q⟩
  | ret u =>
    obtain ⟨v, σ', H', J, r, q⟩ := hfl
    exact ⟨v, H', J.os, J.bare, J.base, J.hok, r, q⟩
  | brk => obtain ⟨_, _, _, q⟩ := hfl; exact q.elim
  | cont => obtain ⟨_, _, _, q⟩ := hfl; exact q.elim
end

/-! ### calls -/
section
variable {Y : Cy} {j k : Nat} {f : Addr} {fd : FuncData} {ps : List Str} {sem : List S → Ms → R S} {x : Str} {p pos : Pos} {e : Expr} {es : List Expr} {ma : Env → Ms → R (List S)}
abbrev DFY (Y : Cy) (j : Nat) (f : Addr) (fd : FuncData) (ps : List Str) (sem : List S → Ms → R S) : Prop := DF Y.X.prog Y.X.w Y.X.K Y.X.mg Y.X.base Y.Γ j f fd ps sem
/-- the callee's ends are the caller's -/
theorem call_post {w : Wd} {H : Hp} {ms : Ms} {ss : List S} {vs : List V} {σ : L2.St} {Q : VK} (hr : HR Y w H ms) (sv : SRs Y w ss vs) (h : (callSem sem ss ms).post (okP Y w Q) (exP Y w σ)) :
    ∃ wc mc sc, HR0 Y.X.K Y.Γ wc H mc ∧ SRs0 Y.X.K Y.Γ wc sc vs ∧ (sem sc mc).post (okF Y.X.K Y.Γ wc Q) (exF Y.X.K Y.Γ wc fun cls d H' => Y.W cls d σ H') := by
  unfold callSem at h
  cases b : (ss.all S.noX && nodupB (locsOf ss)) with
  | false => rw [b] at h; exact h.elim
  | true =>
    rw [b] at h
    dsimp only at h
    obtain ⟨nx, nd⟩ := Bool.and_eq_true_iff.mp b
    have nd := nodupB_ok nd
    have s0 := sv.down nx
    have hl := locs_lt s0
    refine ⟨callW w H ms (locsOf ss), _, _, hr.callW nd hl, renSs_rel s0 (fun n e => mem_of_locs e), ?_⟩
    cases hs : sem (ss.map (renS (locsOf ss))) ((locsOf ss).map (getC ms)) with
    | bad => rw [hs] at h; exact h.elim
    | ex c ds ms' =>
      rw [hs] at h
      intro w' H' dd e' hr' xd
      exact h ⟨w'.F, w.P, w.mu⟩ H' dd ⟨e'.F, fun _ _ z => z, rfl⟩ (hr.back0 nd hl e' hr') xd
    | ok s ms' =>
      rw [hs] at h
      intro w' H' v e' hr' sv'
      unfold callEnd at h
      cases s with
      | exn c ds => exact sv'.elim
      | d x => exact h ⟨w'.F, w.P, w.mu⟩ H' v ⟨e'.F, fun _ _ z => z, rfl⟩ (hr.back0 nd hl e' hr') sv'
      | loc j =>
        dsimp only at h
        obtain ⟨a, ha, rfl⟩ := sv'
        cases hj : (locsOf ss)[j]? with
        | some n =>
          rw [hj] at h
          refine h ⟨w'.F, w.P, w.mu⟩ H' _ ⟨e'.F, fun _ _ z => z, rfl⟩ (hr.back0 nd hl e' hr') ⟨a, ?_, rfl⟩
          obtain ⟨b, hb⟩ := hl n (List.mem_of_getElem? hj)
          have : w'.mu[j]? = some b := e'.mu j b (by
            show ((locsOf ss).map (addr w))[j]? = _
            rw [List.getElem?_map, hj]
            show some (addr w n) = _
            rw [addr_eq hb])
          rw [ha] at this
          cases this
          exact hb
        | none =>
          rw [hj] at h
          dsimp only at h
          cases hc : ms'[j]? with
          | none => rw [hc] at h; exact h.elim
          | some c =>
            rw [hc] at h
            refine h ⟨w'.F, w.P, w.mu ++ [a]⟩ H' _ ⟨e'.F, fun n b z => ?_, rfl⟩ (hr.back1 nd hl e' hr' hj ha hc) ⟨a, ?_, rfl⟩
            · show (w.mu ++ [a])[n]? = some b
              rw [List.getElem?_append_left (List.getElem?_eq_some_iff.mp z).1]
              exact z
            · show (w.mu ++ [a])[ms.length]? = some a
              rw [← hr.len]; simp
/-- a call's end, in the caller -/
def CalR (Y : Cy) (pins : List (Addr × Obj)) (σ : L2.St) (Q : VK) (r : Result) (s' : Shared) : Prop := match r with
  | .ok (.ret u) => EP Y.X pins σ Q u s'
  | .ok _ => False
  | .error e => Y.X.xe e s'
/-- the callee runs -/
theorem code_df {pins : List (Addr × Obj)} {σ : L2.St} {H : Hp} {s : Shared} {w : Wd} {Q : VK} {us ws : List Value} {vs : List V} {ss : List S} {ms : Ms} {kw : List (Str × Value)} (ok : CyOk Y k) (F : DFY Y j f fd ps sem) (hj : j ≤ k) (hb : BindsTo s fd ⟨us, kw⟩ (ps.zip ws)) (hl : vs.length = ps.length)
    (I : Inv Y.X pins σ H s) (r : Vals vs ws) (hr : HR Y w H ms) (sv : SRs Y w ss vs) (h : (callSem sem ss ms).post (okP Y w Q) (exP Y w σ)) : codeAny (model Y.X.prog Y.X.w) Y.X.A (.call (.ref f) ⟨us, kw⟩) (CalR Y pins σ Q) s := by
  obtain ⟨wc, mc, sc, hr1, s1, h2⟩ := call_post hr sv h
  refine codeAny_mono (F.run Y.X.A Y.X.stack s H ⟨us, kw⟩ ws vs sc mc wc Q _ (ok.hr.mono hj) ok.gd I.env0 hb r hl hr1 s1 h2) fun res s' hq => ?_
  cases res with
  | error er => exact ok.tk er s' (XE.of_call I (fun _ _ _ z => z) hq)
  | ok fl =>
    cases fl with
    | ret u => exact I.after hq
    | next => exact False.elim hq
    | brk => exact False.elim hq
    | cont => exact False.elim hq
theorem Binds.all {K : PySem.W.Frag} {s : Shared} {us : List Value} {vs : List V} (hb : Binds K fd ps []) (hk : K.In s.heap) (r : Vals vs us) (hl : vs.length = ps.length) : BindsTo s fd ⟨us, []⟩ (ps.zip us) := by
  have bt := hb s us hk (by rw [List.append_nil, ← r.length]; exact hl)
  rw [List.append_nil] at bt
  exact bt
end
end Fw
set_option Elab.async false
set_option linter.all false
set_option maxRecDepth 100000
set_option maxHeartbeats 4000000
/-! Fw6: operators and built-ins by data. -/
namespace Fw
open PySem L2 PySem.Spec PyProof.Rows

section
variable {Y : Cy} {w w1 w2 : Wd} {σ : L2.St} {H H1 H2 : Hp} {env : Env} {ms ms1 ms2 : Ms} {k : Nat}

/-- two ints (a bool counts as an int where f says so) -/
def asI : S → Option Int
  | .d (.int i) => some i
  | .d (.bl b) => some (b2i b)
  | _ => none
def gII (C : Int → Int → Bool) (f : Int → Int → D) : S → S → Ms → R S := fun x y ms => match x, y with
  | .d (.int i), .d (.int j) => match C i j with
    | true => .ok (.d (f i j)) ms
    | false => .bad
  | _, _ => .bad
theorem gII_ne {C : Int → Int → Bool} {f : Int → Int → D} : ∀ x y ms c ds ms', gII C f x y ms ≠ .ex c ds ms' := by
  intro x y ms c ds ms' h
  unfold gII at h
  split at h
  · split at h <;> cases h
  · cases h
theorem gII_inv {C : Int → Int → Bool} {f : Int → Int → D} {x y : S} {P : S → Ms → Prop} {E : Nat → List D → Ms → Prop} (h : (gII C f x y ms).post P E) : ∃ i j, x = .d (.int i) ∧ y = .d (.int j) ∧ C i j = true ∧ P (.d (f i j)) ms := by
  unfold gII at h
  split at h
  · rename_i i j
    cases hc : C i j with
    | false => rw [hc] at h; exact h.elim
    | true => rw [hc] at h; exact ⟨i, j, rfl, rfl, hc, h⟩
  · exact h.elim
def flatD : D → Bool
  | .int _ => true
  | .bl _ => true
  | .str _ => true
  | .non => true
  | _ => false
def flatOf : D → V
  | .int i => .int i
  | .bl b => .bl b
  | .str x => .str x
  | _ => .non
theorem flat_rel {K : PySem.W.Frag} {Γ : G} {F : Hp} {d : D} {v : V} (h : flatD d = true) : DR K Γ F d v ↔ v = flatOf d := by
  cases d <;> first | exact Iff.rfl | cases h
theorem snd_I {C : Int → Int → Prop} {Cb : Int → Int → Bool} {g : Int → Int → V} {f : Int → Int → D} (hC : ∀ i j, Cb i j = true → C i j) (hf : ∀ i j, flatD (f i j) = true ∧ flatOf (f i j) = g i j) : SndR2 Y (rI C g) (gII Cb f) := by
  intro w H ms x y u v Q hr sx sy h
  obtain ⟨i, j, rfl, rfl, hc, q⟩ := gII_inv h
  cases sx
  cases sy
  exact ⟨i, j, rfl, rfl, hC i j hc, q.at (Ext.refl w) hr (by show DR _ _ _ _ _; rw [flat_rel (hf i j).1, (hf i j).2])⟩
theorem snd_I0 {Cb : Int → Int → Bool} {g : Int → Int → V} {f : Int → Int → D} (hf : ∀ i j, flatD (f i j) = true ∧ flatOf (f i j) = g i j) : SndR2 Y (rI0 g) (gII Cb f) := by
  intro w H ms x y u v Q hr sx sy h
  obtain ⟨i, j, rfl, rfl, hc, q⟩ := gII_inv h
  cases sx
  cases sy
  exact ⟨i, j, rfl, rfl, q.at (Ext.refl w) hr (by show DR _ _ _ _ _; rw [flat_rel (hf i j).1, (hf i j).2])⟩
def gOr (g g' : S → S → Ms → R S) : S → S → Ms → R S := fun x y ms => match g x y ms with
  | .bad => g' x y ms
  | r => r
theorem gOr_ne {g g' : S → S → Ms → R S} (h : ∀ x y ms c ds ms', g x y ms ≠ .ex c ds ms') (h' : ∀ x y ms c ds ms', g' x y ms ≠ .ex c ds ms') : ∀ x y ms c ds ms', gOr g g' x y ms ≠ .ex c ds ms' := by
  intro x y ms c ds ms' e
  unfold gOr at e
  split at e
  · exact h' _ _ _ _ _ _ e
  · exact h _ _ _ _ _ _ e
theorem snd_or {r r' : R2} {g g' : S → S → Ms → R S} (h : SndR2 Y r g) (h' : SndR2 Y r' g') : SndR2 Y (fun x y H Q => r x y H Q ∨ r' x y H Q) (gOr g g') := by
  intro w H ms x y u v Q hr sx sy q
  unfold gOr at q
  split at q
  · exact .inr (h' w H ms x y u v Q hr sx sy q)
  · exact .inl (h w H ms x y u v Q hr sx sy q)
/-- one rule of an operator: its reading, what it computes -/
structure OpD (Y : Cy) (f : Value → Value → Sem Value) (g : S → S → Ms → R S) : Prop where
  ex : ∃ r, OpR Y.X f r ∧ SndR2 Y r g
  ne : ∀ x y ms c ds ms', g x y ms ≠ .ex c ds ms'
theorem OpD.or {f : Value → Value → Sem Value} {g g' : S → S → Ms → R S} (h : OpD Y f g) (h' : OpD Y f g') : OpD Y f (gOr g g') :=
  let ⟨r, p, s⟩ := h.ex
  let ⟨r', p', s'⟩ := h'.ex
  ⟨⟨_, p.or p', snd_or s s'⟩, gOr_ne h.ne h'.ne⟩
theorem e_bin {op : Operator} {g : S → S → Ms → R S} {a b : Expr} {ma mb : Env → Ms → R S} {pos : Pos} (h : OpD Y (binaryOp op) g) (ha : DE Y a ma) (hb : DE Y b mb) : DE Y (.BinOp a op b pos) (mOp g ma mb) :=
  let ⟨r, p, s⟩ := h.ex
  e_op p h.ne s ha hb
theorem e_cmp1 {op : CmpOp} {g : S → S → Ms → R S} {a b : Expr} {ma mb : Env → Ms → R S} {pos : Pos} (h : OpD Y (compareOp op) g) (ha : DE Y a ma) (hb : DE Y b mb) (hm : behindInMarks op b = false) : DE Y (.Compare a [op] [b] pos) (mOp g ma mb) :=
  let ⟨r, p, s⟩ := h.ex
  e_cmp p h.ne s ha hb hm
theorem t_cmp1 {op : CmpOp} {g : S → S → Ms → R S} {a b : Expr} {ma mb : Env → Ms → R S} {pos : Pos} (h : OpD Y (compareOp op) g) (ha : DE Y a ma) (hb : DE Y b mb) (hm : behindInMarks op b = false) : DT Y (.Compare a [op] [b] pos) (mB (mOp g ma mb)) :=
  let ⟨r, p, s⟩ := h.ex
  t_cmp p h.ne s ha hb hm

/-! ### arithmetic -/
def yes2 : Int → Int → Bool := fun _ _ => true
def gAddI := gII yes2 fun i j => .int (i + j)
def gSubI := gII yes2 fun i j => .int (i - j)
def cMul (i j : Int) : Bool := decide (-(2 ^ 64) < i ∧ i < 2 ^ 64) || decide (-(2 ^ 64) < j ∧ j < 2 ^ 64)
def gMulI := gII cMul fun i j => .int (i * j)
def cMod (_ j : Int) : Bool := decide (0 < j)
def gModI := gII cMod fun i j => .int (i % j)
def cDiv (_ j : Int) : Bool := decide (0 < j ∧ j < 2 ^ 64)
def gDivI := gII cDiv fun i j => .int (i / j)
def cPow (i j : Int) : Bool := decide (0 ≤ j ∧ j ≤ 1000 ∧ i.natAbs < 2 ^ 64)
def gPowI := gII cPow fun i j => .int (i ^ j.toNat)
theorem o_addI : OpD Y (binaryOp .Add) gAddI := ⟨⟨_, op_add, snd_I0 fun _ _ => ⟨rfl, rfl⟩⟩, gII_ne⟩
theorem o_subI : OpD Y (binaryOp .Sub) gSubI := ⟨⟨_, op_sub, snd_I0 fun _ _ => ⟨rfl, rfl⟩⟩, gII_ne⟩
theorem o_mulI : OpD Y (binaryOp .Mult) gMulI := ⟨⟨_, op_mul, snd_I (fun i j h => (Bool.or_eq_true_iff.mp h).imp of_decide_eq_true of_decide_eq_true) fun _ _ => ⟨rfl, rfl⟩⟩, gII_ne⟩
theorem o_modI : OpD Y (binaryOp .Mod) gModI := ⟨⟨_, op_mod, snd_I (fun i j h => of_decide_eq_true h) fun _ _ => ⟨rfl, rfl⟩⟩, gII_ne⟩
theorem o_divI : OpD Y (binaryOp .FloorDiv) gDivI := ⟨⟨_, op_fdivW, snd_I (fun i j h => by
  have := of_decide_eq_true h
  exact wide_div (b := 64) this.1 (by omega) (by decide) (by decide)) fun _ _ => ⟨rfl, rfl⟩⟩, gII_ne⟩
theorem o_powI : OpD Y (binaryOp .Pow) gPowI := ⟨⟨_, op_pow, snd_I (fun i j h => by
  have := of_decide_eq_true h
  exact ⟨this.1, by omega, this.2.2⟩) fun _ _ => ⟨rfl, rfl⟩⟩, gII_ne⟩
/-- texts -/
def gAddS : S → S → Ms → R S := fun x y ms => match x, y with
  | .d (.str a), .d (.str b) => match few (a.length + b.length) with
    | true => .ok (.d (.str (a ++ b))) ms
    | false => .bad
  | _, _ => .bad
theorem o_addS : OpD Y (binaryOp .Add) gAddS := by
  refine ⟨⟨_, op_add_str, fun w H ms x y u v Q hr sx sy h => ?_⟩, fun x y ms c ds ms' h => ?_⟩
  · unfold gAddS at h
    split at h
    · rename_i a b
      cases f : few (a.length + b.length) with
      | false => rw [f] at h; exact h.elim
      | true =>
        rw [f] at h
        cases sx
        cases sy
        exact ⟨a, b, rfl, rfl, few_ok f, h.at (Ext.refl w) hr rfl⟩
    · exact h.elim
  · unfold gAddS at h
    split at h
    · split at h <;> cases h
    · cases h
/-- frozen lists, tuples -/
def gAddL : S → S → Ms → R S := fun x y ms => match x, y with
  | .d (.lst a), .d (.lst b) => match few (a.length + b.length) with
    | true => .ok (.d (.lst (a ++ b))) ms
    | false => .bad
  | _, _ => .bad
theorem o_addL : OpD Y (binaryOp .Add) gAddL := by
  refine ⟨⟨_, op_cat, fun w H ms x y u v Q hr sx sy h => ?_⟩, fun x y ms c ds ms' h => ?_⟩
  · unfold gAddL at h
    split at h
    · rename_i a b
      cases f : few (a.length + b.length) with
      | false => rw [f] at h; exact h.elim
      | true =>
        rw [f] at h
        obtain ⟨p, xs, rfl, e1, r1⟩ := sx
        obtain ⟨q, ys, rfl, e2, r2⟩ := sy
        refine ⟨p, q, xs, ys, rfl, rfl, hr.sub _ _ e1, hr.sub _ _ e2, by rw [← DRs.length r1, ← DRs.length r2]; exact few_ok f, fun l hl => ?_⟩
        obtain ⟨hr2, e⟩ := hr.froz (o := .lst (xs ++ ys)) hl
        exact h.at e hr2 ⟨l, _, rfl, upd_same, DRs.mono e.1 _ _ (DRs.append r1 r2)⟩
    · exact h.elim
  · unfold gAddL at h
    split at h
    · split at h <;> cases h
    · cases h
def gAddT : S → S → Ms → R S := fun x y ms => match x, y with
  | .d (.tup a), .d (.tup b) => match few (a.length + b.length) with
    | true => .ok (.d (.tup (a ++ b))) ms
    | false => .bad
  | _, _ => .bad
theorem o_addT : OpD Y (binaryOp .Add) gAddT := by
  refine ⟨⟨_, op_catA, fun w H ms x y u v Q hr sx sy h => ?_⟩, fun x y ms c ds ms' h => ?_⟩
  · unfold gAddT at h
    split at h
    · rename_i a b
      cases f : few (a.length + b.length) with
      | false => rw [f] at h; exact h.elim
      | true =>
        rw [f] at h
        obtain ⟨p, xs, rfl, e1, r1⟩ := sx
        obtain ⟨q, ys, rfl, e2, r2⟩ := sy
        refine ⟨p, q, xs, ys, rfl, rfl, sqT_mono e1 hr.sub, sqT_mono e2 hr.sub, by rw [← DRs.length r1, ← DRs.length r2]; exact few_ok f, fun z => ?_, fun _ z => ?_, fun _ _ l hl => ?_⟩
        · subst z
          have : a = [] := List.eq_nil_of_length_eq_zero (DRs.length r1)
          subst this
          exact h.at (Ext.refl w) hr ⟨q, ys, rfl, e2, r2⟩
        · subst z
          have : b = [] := List.eq_nil_of_length_eq_zero (DRs.length r2)
          subst this
          rw [List.append_nil] at h
          exact h.at (Ext.refl w) hr ⟨p, xs, rfl, e1, r1⟩
        · obtain ⟨hr2, e⟩ := hr.froz (o := .tup (xs ++ ys)) hl
          exact h.at e hr2 ⟨l, _, rfl, SqT.of upd_same, DRs.mono e.1 _ _ (DRs.append r1 r2)⟩
    · exact h.elim
  · unfold gAddT at h
    split at h
    · split at h <;> cases h
    · cases h
def gAdd := gOr gAddI (gOr gAddS (gOr gAddL gAddT))
theorem o_add : OpD Y (binaryOp .Add) gAdd := o_addI.or (o_addS.or (o_addL.or o_addT))
/-- a text some times -/
def strMul (x : Str) (n : Int) : Str := Txt.mul x n
def gMulS : S → S → Ms → R S := fun x y ms => match x, y with
  | .d (.str a), .d (.int n) => match decide (a.length ≤ 1000 ∧ -1000 ≤ n ∧ n ≤ 1000) with
    | true => .ok (.d (.str (strMul a n))) ms
    | false => .bad
  | _, _ => .bad
theorem mulOk_small {x : Str} {n : Int} (h : x.length ≤ 1000 ∧ -1000 ≤ n ∧ n ≤ 1000) : MulOk x n := by
  obtain ⟨h1, h2, h3⟩ := h
  refine ⟨?_, fun z _ => ?_, fun z _ => ?_⟩
  · have a1 : ¬ n < -(2 ^ 63 : Int) := by omega
    have a2 : ¬ n ≥ 2 ^ 63 := by omega
    rw [decide_eq_false a1, decide_eq_false a2]; rfl
  · have hn : 0 < n := by omega
    have : (1000 : Int) ≤ (2 ^ 63 - 1) / n := by
      rw [Int.le_ediv_iff_mul_le hn]
      have : (1000 : Int) * n ≤ 1000 * 1000 := Int.mul_le_mul_of_nonneg_left h3 (by decide)
      omega
    omega
  · have : x.length * n.toNat ≤ 1000 * 1000 := Nat.mul_le_mul h1 (by omega)
    show decide (_ > sizeLine) = false
    have e := sizeLine_eq
    simp only [decide_eq_false_iff_not]
    omega
theorem op_mul_str : OpR Y.X (binaryOp .Mult) (fun x y H Q => ∃ a n, x = .str a ∧ y = .int n ∧ (a.length ≤ 1000 ∧ -1000 ≤ n ∧ n ≤ 1000) ∧ Q (.str (strMul a n)) H) := by
  intro pins s σ H x y v u Q I rx ry h
  obtain ⟨a, n, rfl, rfl, hz, q⟩ := h
  obtain ⟨t, rfl⟩ := rx
  obtain ⟨t', rfl⟩ := ry
  exact SB.mul (mulOk_small hz) fun t k => ⟨.str _, H, I.tok _, ⟨_, rfl⟩, q⟩
theorem o_mulS : OpD Y (binaryOp .Mult) gMulS := by
  refine ⟨⟨_, op_mul_str, fun w H ms x y u v Q hr sx sy h => ?_⟩, fun x y ms c ds ms' h => ?_⟩
  · unfold gMulS at h
    split at h
    · rename_i a b
      cases f : decide (a.length ≤ 1000 ∧ -1000 ≤ b ∧ b ≤ 1000) with
      | false => rw [f] at h; exact h.elim
      | true =>
        rw [f] at h
        cases sx
        cases sy
        exact ⟨a, b, rfl, rfl, of_decide_eq_true f, h.at (Ext.refl w) hr rfl⟩
    · exact h.elim
  · unfold gMulS at h
    split at h
    · split at h <;> cases h
    · cases h
def gMul := gOr gMulI gMulS
theorem o_mul : OpD Y (binaryOp .Mult) gMul := o_mulI.or o_mulS
end
end Fw
set_option Elab.async false
set_option linter.all false
set_option maxRecDepth 100000
set_option maxHeartbeats 4000000
/-! Fw7: comparisons. -/
namespace Fw
open PySem L2 PySem.Spec PyProof.Rows SeqAt

/-! ### an int beside a bool -/
section
variable {prog : Program} {w : World} {A : Around} {E : Value → Shared → Prop} {s : Shared} {a b : Bool} {n : Int} {u : Tok} {Q : Value → Shared → Prop}
theorem gives_lt_bi (a : Bool) (n : Int) (u : Tok) : Gives (Builtin.«int.__lt__» ⟨[.bool a, .int n u], []⟩) (.val (Value.bool (decide (b2i a < n)))) :=
  .of_wp fun M A E s Q h => by obtain ⟨hp, g, d, tk, os⟩ := s; wp_walk; exact ⟨_, rfl, h⟩
theorem gives_le_bi (a : Bool) (n : Int) (u : Tok) : Gives (Builtin.«int.__le__» ⟨[.bool a, .int n u], []⟩) (.val (Value.bool (decide (b2i a ≤ n)))) :=
  .of_wp fun M A E s Q h => by obtain ⟨hp, g, d, tk, os⟩ := s; wp_walk; exact ⟨_, rfl, h⟩
theorem gives_gt_bi (a : Bool) (n : Int) (u : Tok) : Gives (Builtin.«int.__gt__» ⟨[.bool a, .int n u], []⟩) (.val (Value.bool (decide (b2i a > n)))) :=
  .of_wp fun M A E s Q h => by obtain ⟨hp, g, d, tk, os⟩ := s; wp_walk; exact ⟨_, rfl, h⟩
theorem gives_ge_bi (a : Bool) (n : Int) (u : Tok) : Gives (Builtin.«int.__ge__» ⟨[.bool a, .int n u], []⟩) (.val (Value.bool (decide (b2i a ≥ n)))) :=
  .of_wp fun M A E s Q h => by obtain ⟨hp, g, d, tk, os⟩ := s; wp_walk; exact ⟨_, rfl, h⟩
theorem lt_bi (h : Q (.bool (decide (b2i a < n))) s) : wpAny (model prog w) A (compareOp .Lt (.bool a) (.int n u)) Q E s :=
  rc_left_or (op := .Lt) rfl (typeIs_int s n u) (by decide) F.sub_int_bool F.slot_bool_lt (call_gives F.slot_bool_lt rfl F.entry_int_lt (F.args_int_lt_2 _ _) (gives_lt_bi a n u) ⟨nofun, h⟩) (.inl rfl)
theorem le_bi (h : Q (.bool (decide (b2i a ≤ n))) s) : wpAny (model prog w) A (compareOp .LtE (.bool a) (.int n u)) Q E s :=
  rc_left_or (op := .LtE) rfl (typeIs_int s n u) (by decide) F.sub_int_bool F.slot_bool_le (call_gives F.slot_bool_le rfl F.entry_int_le (F.args_int_le_2 _ _) (gives_le_bi a n u) ⟨nofun, h⟩) (.inl rfl)
theorem gt_bi (h : Q (.bool (decide (b2i a > n))) s) : wpAny (model prog w) A (compareOp .Gt (.bool a) (.int n u)) Q E s :=
  rc_left_or (op := .Gt) rfl (typeIs_int s n u) (by decide) F.sub_int_bool F.slot_bool_gt (call_gives F.slot_bool_gt rfl F.entry_int_gt (F.args_int_gt_2 _ _) (gives_gt_bi a n u) ⟨nofun, h⟩) (.inl rfl)
theorem ge_bi (h : Q (.bool (decide (b2i a ≥ n))) s) : wpAny (model prog w) A (compareOp .GtE (.bool a) (.int n u)) Q E s :=
  rc_left_or (op := .GtE) rfl (typeIs_int s n u) (by decide) F.sub_int_bool F.slot_bool_ge (call_gives F.slot_bool_ge rfl F.entry_int_ge (F.args_int_ge_2 _ _) (gives_ge_bi a n u) ⟨nofun, h⟩) (.inl rfl)
theorem lt_ib (h : Q (.bool (decide (n < b2i a))) s) : wpAny (model prog w) A (compareOp .Lt (.int n u) (.bool a)) Q E s :=
  rc_sub_first_or (op := .Lt) (typeIs_int s n u) rfl (by decide) F.sub_bool_int F.slot_bool_gt_refl (call_gives F.slot_bool_gt_refl rfl F.entry_int_gt (F.args_int_gt_2 _ _) (gives_gt_bi a n u) ⟨nofun, h⟩) (.inl rfl)
theorem le_ib (h : Q (.bool (decide (n ≤ b2i a))) s) : wpAny (model prog w) A (compareOp .LtE (.int n u) (.bool a)) Q E s :=
  rc_sub_first_or (op := .LtE) (typeIs_int s n u) rfl (by decide) F.sub_bool_int F.slot_bool_ge_refl (call_gives F.slot_bool_ge_refl rfl F.entry_int_ge (F.args_int_ge_2 _ _) (gives_ge_bi a n u) ⟨nofun, h⟩) (.inl rfl)
theorem gt_ib (h : Q (.bool (decide (n > b2i a))) s) : wpAny (model prog w) A (compareOp .Gt (.int n u) (.bool a)) Q E s :=
  rc_sub_first_or (op := .Gt) (typeIs_int s n u) rfl (by decide) F.sub_bool_int F.slot_bool_lt_refl (call_gives F.slot_bool_lt_refl rfl F.entry_int_lt (F.args_int_lt_2 _ _) (gives_lt_bi a n u) ⟨nofun, h⟩) (.inl rfl)
theorem ge_ib (h : Q (.bool (decide (n ≥ b2i a))) s) : wpAny (model prog w) A (compareOp .GtE (.int n u) (.bool a)) Q E s :=
  rc_sub_first_or (op := .GtE) (typeIs_int s n u) rfl (by decide) F.sub_bool_int F.slot_bool_le_refl (call_gives F.slot_bool_le_refl rfl F.entry_int_le (F.args_int_le_2 _ _) (gives_le_bi a n u) ⟨nofun, h⟩) (.inl rfl)
end

section
variable {Y : Cy} {w w1 w2 : Wd} {σ : L2.St} {H H1 H2 : Hp} {env : Env} {ms ms1 ms2 : Ms} {k : Nat}
/-- a number, int or bool -/
def numV : V → Option Int
  | .int i => some i
  | .bl b => some (b2i b)
  | _ => none
def rCmp (p : Int → Int → Bool) : R2 := fun x y H Q => ∃ i j, numV x = some i ∧ numV y = some j ∧ Q (.bl (p i j)) H
def gCmp (p : Int → Int → Bool) : S → S → Ms → R S := fun x y ms => match asI x, asI y with
  | some i, some j => .ok (.d (.bl (p i j))) ms
  | _, _ => .bad
theorem num_cases {x : V} {i : Int} (h : numV x = some i) : x = .int i ∨ ∃ b, x = .bl b ∧ i = b2i b := by
  cases x with
  | int j => cases h; exact .inl rfl
  | bl b => cases h; exact .inr ⟨b, rfl, rfl⟩
  | _ => cases h
theorem num_rel {s : S} {v : V} {i : Int} (h : asI s = some i) (r : SR Y w s v) : numV v = some i := by
  cases s with
  | d x =>
    cases x with
    | int j => cases h; cases r; rfl
    | bl b => cases h; cases r; rfl
    | _ => cases h
  | loc n => cases h
  | exn c ds => cases h
theorem snd_cmp {p : Int → Int → Bool} : SndR2 Y (rCmp p) (gCmp p) := by
  intro w H ms x y u v Q hr sx sy h
  unfold gCmp at h
  cases e1 : asI x with
  | none => rw [e1] at h; exact h.elim
  | some i =>
    cases e2 : asI y with
    | none => rw [e1, e2] at h; exact h.elim
    | some j =>
      rw [e1, e2] at h
      exact ⟨i, j, num_rel e1 sx, num_rel e2 sy, h.at (Ext.refl w) hr rfl⟩
theorem gCmp_ne {p : Int → Int → Bool} : ∀ x y ms c ds ms', gCmp p x y ms ≠ .ex c ds ms' := by
  intro x y ms c ds ms' h
  unfold gCmp at h
  split at h <;> cases h
theorem op_num {op : CmpOp} {p : Int → Int → Bool}
    (h1 : ∀ (i j : Int) (t u : Tok) (Q : Value → Shared → Prop) (s : Shared), Q (.bool (p i j)) s → wpAny (model Y.X.prog Y.X.w) Y.X.A (compareOp op (.int i t) (.int j u)) Q Y.X.xe s)
    (h2 : ∀ (a : Bool) (j : Int) (u : Tok) (Q : Value → Shared → Prop) (s : Shared), Q (.bool (p (b2i a) j)) s → wpAny (model Y.X.prog Y.X.w) Y.X.A (compareOp op (.bool a) (.int j u)) Q Y.X.xe s)
    (h3 : ∀ (i : Int) (t : Tok) (b : Bool) (Q : Value → Shared → Prop) (s : Shared), Q (.bool (p i (b2i b))) s → wpAny (model Y.X.prog Y.X.w) Y.X.A (compareOp op (.int i t) (.bool b)) Q Y.X.xe s)
    (h4 : ∀ (a b : Bool) (Q : Value → Shared → Prop) (s : Shared), Q (.bool (p (b2i a) (b2i b))) s → wpAny (model Y.X.prog Y.X.w) Y.X.A (compareOp op (.bool a) (.bool b)) Q Y.X.xe s) : OpR Y.X (compareOp op) (rCmp p) := by
  intro pins s σ H x y v u Q I rx ry h
  obtain ⟨i, j, ex, ey, q⟩ := h
  have fin : EP Y.X pins σ Q (.bool (p i j)) s := ⟨.bl _, H, I, rfl, q⟩
  rcases num_cases ex with rfl | ⟨a, rfl, rfl⟩
  · obtain ⟨t, rfl⟩ := rx
    rcases num_cases ey with rfl | ⟨b, rfl, rfl⟩
    · obtain ⟨t', rfl⟩ := ry
      exact h1 i j t t' _ s fin
    · cases ry
      exact h3 i t b _ s fin
  · cases rx
    rcases num_cases ey with rfl | ⟨b, rfl, rfl⟩
    · obtain ⟨t', rfl⟩ := ry
      exact h2 a j t' _ s fin
    · cases ry
      exact h4 a b _ s fin
def gLt := gCmp fun i j => decide (i < j)
def gLe := gCmp fun i j => decide (i ≤ j)
def gGt := gCmp fun i j => decide (j < i)
def gGe := gCmp fun i j => decide (j ≤ i)
theorem o_lt : OpD Y (compareOp .Lt) gLt := ⟨⟨_, op_num (fun _ _ _ _ _ _ q => PyProof.Rows.lt_int q) (fun _ _ _ _ _ q => lt_bi q) (fun _ _ _ _ _ q => lt_ib q) (fun _ _ _ _ q => lt_bool q), snd_cmp⟩, gCmp_ne⟩
theorem o_le : OpD Y (compareOp .LtE) gLe := ⟨⟨_, op_num (fun _ _ _ _ _ _ q => PyProof.Rows.le_int q) (fun _ _ _ _ _ q => le_bi q) (fun _ _ _ _ _ q => le_ib q) (fun _ _ _ _ q => le_bool q), snd_cmp⟩, gCmp_ne⟩
theorem o_gt : OpD Y (compareOp .Gt) gGt := ⟨⟨_, op_num (fun _ _ _ _ _ _ q => PyProof.Rows.gt_int q) (fun _ _ _ _ _ q => gt_bi q) (fun _ _ _ _ _ q => gt_ib q) (fun _ _ _ _ q => gt_bool q), snd_cmp⟩, gCmp_ne⟩
theorem o_ge : OpD Y (compareOp .GtE) gGe := ⟨⟨_, op_num (fun _ _ _ _ _ _ q => PyProof.Rows.ge_int q) (fun _ _ _ _ _ q => ge_bi q) (fun _ _ _ _ _ q => ge_ib q) (fun _ _ _ _ q => ge_bool q), snd_cmp⟩, gCmp_ne⟩

/-! ### chains -/
def mChain (g g' : S → S → Ms → R S) (ma mb mc : Env → Ms → R S) : Env → Ms → R S := fun env ms => (ma env ms).bind fun x ms1 => (mb env ms1).bind fun y ms2 => (g x y ms2).bind fun z ms3 => (asB z ms3).bind fun b ms4 => match b with
  | true => (mc env ms4).bind fun v ms5 => g' y v ms5
  | false => .ok (.d (.bl false)) ms4
theorem asB_inv {s : S} {β : Type} {f : Bool → Ms → R β} {P : β → Ms → Prop} {E : Nat → List D → Ms → Prop} (h : ((asB s ms).bind f).post P E) : ∃ b, s = .d (.bl b) ∧ (f b ms).post P E := by
  unfold asB at h
  cases s with
  | d x =>
    cases x with
    | bl b => exact ⟨b, rfl, h⟩
    | _ => exact h.elim
  | loc n => exact h.elim
  | exn c ds => exact h.elim
/-- an operator in the middle: its answer handed on -/
theorem op_go {f : Value → Value → Sem Value} {g : S → S → Ms → R S} {r : R2} (hne : ∀ x y ms c ds ms', g x y ms ≠ .ex c ds ms') (hs : SndR2 Y r g) {x y : S} {u v : V} {β : Type} {q : S → Ms → R β} {P : β → Ms → Prop} {kq : VK} (hr : HR Y w H ms) (er : ER Y w σ env) (sx : SR Y w x u) (sy : SR Y w y v)
    (h : ((g x y ms).bind q).post P (exP Y w σ)) (hk : ∀ z ms1 w1 H1 zv, Ext w w1 → ER Y w1 σ env → HR Y w1 H1 ms1 → SR Y w1 z zv → (q z ms1).post P (exP Y w1 σ) → kq zv H1) : r u v H kq := by
  refine hs w H ms x y u v kq hr sx sy ?_
  have hx := hne x y ms
  cases hg : g x y ms with
  | ex c ds ms' => exact absurd hg (hx c ds ms')
  | bad => rw [hg] at h; exact h
  | ok z ms' =>
    rw [hg] at h
    exact fun w1 H1 zv e1 hr1 sz => hk z ms' w1 H1 zv e1 (er.mono e1) hr1 sz (R.post_mono h (fun _ _ z => z) fun _ _ _ z => z.ext e1)
theorem snd_chain {r r' : R2} {g g' : S → S → Ms → R S} {ta tb tc : TE} {ma mb mc : Env → Ms → R S} (hne : ∀ x y ms c ds ms', g x y ms ≠ .ex c ds ms') (hne' : ∀ x y ms c ds ms', g' x y ms ≠ .ex c ds ms')
    (hs : SndR2 Y r g) (hs' : SndR2 Y r' g') (ha : SndE Y ta ma) (hb : SndE Y tb mb) (hc : SndE Y tc mc) : SndE Y (tChain r r' ta tb tc) (mChain g g' ma mb mc) := by
  intro w σ H env ms Q er hr h
  refine ha.go er hr h fun x ms1 w1 H1 u e1 er1 hr1 su h1 => ?_
  refine hb.go er1 hr1 h1 fun y ms2 w2 H2 v e2 er2 hr2 sv h2 => ?_
  refine op_go (f := fun _ _ => pure .none) hne hs hr2 er2 (su.mono e2) sv h2 fun z ms3 w3 H3 zv e3 er3 hr3 sz h3 => ?_
  obtain ⟨b, rfl, h4⟩ := asB_inv h3
  cases sz
  refine ⟨b, rfl, ?_⟩
  cases b with
  | false => exact iteF (h4.at (e1.trans (e2.trans e3)) hr3 rfl)
  | true =>
    refine iteT ?_
    refine hc.go er3 hr3 h4 fun t ms5 w5 H5 tv e5 er5 hr5 st h5 => ?_
    refine hs' w5 H5 ms5 y t v tv Q hr5 (sv.mono (e3.trans e5)) st ?_
    have hx := hne' y t ms5
    cases hg : g' y t ms5 with
    | ex c ds ms' => exact absurd hg (hx c ds ms')
    | bad => rw [hg] at h5; exact h5
    | ok z ms' => rw [hg] at h5; exact h5.ext (e1.trans (e2.trans (e3.trans e5)))
theorem e_chain {op op' : CmpOp} {g g' : S → S → Ms → R S} {a b c : Expr} {ma mb mc : Env → Ms → R S} {pos : Pos} (h : OpD Y (compareOp op) g) (h' : OpD Y (compareOp op') g') (ha : DE Y a ma) (hb : DE Y b mb) (hc : DE Y c mc)
    (hm : lastMarks [op, op'] [b, c] = false := by with_unfolding_all rfl) : DE Y (.Compare a [op, op'] [b, c] pos) (mChain g g' ma mb mc) := by
  obtain ⟨r, p, s⟩ := h.ex
  obtain ⟨r', p', s'⟩ := h'.ex
  obtain ⟨ta, pa, sa⟩ := ha.ex
  obtain ⟨tb, pb, sb⟩ := hb.ex
  obtain ⟨tc, pc, sc⟩ := hc.ex
  exact ⟨_, pe_chain p p' pa pb pc hm, snd_chain h.ne h'.ne s s' sa sb sc⟩
theorem t_chain {op op' : CmpOp} {g g' : S → S → Ms → R S} {a b c : Expr} {ma mb mc : Env → Ms → R S} {pos : Pos} (h : OpD Y (compareOp op) g) (h' : OpD Y (compareOp op') g') (ha : DE Y a ma) (hb : DE Y b mb) (hc : DE Y c mc)
    (hm : lastMarks [op, op'] [b, c] = false := by with_unfolding_all rfl) : DT Y (.Compare a [op, op'] [b, c] pos) (mB (mChain g g' ma mb mc)) := by
  obtain ⟨r, p, s⟩ := h.ex
  obtain ⟨r', p', s'⟩ := h'.ex
  obtain ⟨ta, pa, sa⟩ := ha.ex
  obtain ⟨tb, pb, sb⟩ := hb.ex
  obtain ⟨tc, pc, sc⟩ := hc.ex
  exact ⟨_, pt_chain p p' pa pb pc hm, snd_B (snd_chain h.ne h'.ne s s' sa sb sc)⟩

/-! ### == of data -/
mutual
def toP : D → Option PyData
  | .non => some .none
  | .bl b => some (.bool b)
  | .int i => some (.int i)
  | .str x => some (.str x)
  | .tup ds => (toPs ds).map .tuple
  | .lst ds => (toPs ds).map .list
  | .frz ds => (toPs ds).map .list
  | .obj _ _ => none
  | .dic _ _ => none
  | .dit _ _ => none
  | .fn _ => none
  | .ty _ => none
def toPs : List D → Option (List PyData)
  | [] => some []
  | d :: ds => (toP d).bind fun p => (toPs ds).map (p :: ·)
end
mutual
theorem toP_rel {K : PySem.W.Frag} {Γ : G} {F H : Hp} (e : ∀ a o, F a = some o → H a = some o) : ∀ (d : D) (v : V) (p : PyData), toP d = some p → DR K Γ F d v → Dp K H v p
  | .non, v, p, h, r => by cases h; cases r; exact .non
  | .bl b, v, p, h, r => by cases h; cases r; exact .bl b
  | .int i, v, p, h, r => by cases h; cases r; exact .int i
  | .str x, v, p, h, r => by cases h; cases r; exact .str x
  | .tup ds, v, p, h, r => by
    simp only [toP, Option.map_eq_some_iff] at h
    obtain ⟨ps, h1, rfl⟩ := h
    simp only [DR] at r
    obtain ⟨a, xs, rfl, h2, h3⟩ := r
    exact .tup (sqT_mono h2 e) (toPs_rel e ds xs ps h1 h3)
  | .lst ds, v, p, h, r => by
    simp only [toP, Option.map_eq_some_iff] at h
    obtain ⟨ps, h1, rfl⟩ := h
    simp only [DR] at r
    obtain ⟨a, xs, rfl, h2, h3⟩ := r
    exact .lst (SqL.of (e _ _ h2)) (toPs_rel e ds xs ps h1 h3)
  | .frz ds, v, p, h, r => by
    simp only [toP, Option.map_eq_some_iff] at h
    obtain ⟨ps, h1, rfl⟩ := h
    simp only [DR] at r
    obtain ⟨a, xs, rfl, h2, h3⟩ := r
    exact .lst (sqL_mono h2 e) (toPs_rel e ds xs ps h1 h3)
  | .obj _ _, _, _, h, _ => by cases h
  | .dic _ _, _, _, h, _ => by cases h
  | .dit _ _, _, _, h, _ => by cases h
  | .fn _, _, _, h, _ => by cases h
  | .ty _, _, _, h, _ => by cases h
theorem toPs_rel {K : PySem.W.Frag} {Γ : G} {F H : Hp} (e : ∀ a o, F a = some o → H a = some o) : ∀ (ds : List D) (vs : List V) (ps : List PyData), toPs ds = some ps → DRs K Γ F ds vs → DpAll K H vs ps
  | [], vs, ps, h, r => by cases h; cases r; exact .nil
  | d :: ds, vs, ps, h, r => by
    simp only [toPs, Option.bind_eq_some_iff, Option.map_eq_some_iff] at h
    obtain ⟨p, h1, ps', h2, rfl⟩ := h
    simp only [DRs] at r
    obtain ⟨x, t, rfl, r1, r2⟩ := r
    exact .cons (toP_rel e d x p h1 r1) (toPs_rel e ds t ps' h2 r2)
end
def shapedD (d : D) : Option PyData := match toP d with
  | some p => match SeqAt.shaped p with
    | true => some p
    | false => none
  | none => none
theorem shapedD_inv {d : D} {p : PyData} (h : shapedD d = some p) : toP d = some p ∧ SeqAt.shaped p = true := by
  unfold shapedD at h
  cases e : toP d with
  | none => rw [e] at h; cases h
  | some q =>
    rw [e] at h
    dsimp only at h
    cases f : SeqAt.shaped q with
    | false => rw [f] at h; cases h
    | true => rw [f] at h; cases h; exact ⟨rfl, f⟩
/-- what a slot holds, read as data: a cell's list too -/
def view (s : S) (ms : Ms) : Option D := match s with
  | .d x => some x
  | .loc n => match ms[n]? with
    | some (.lst ds) => some (.lst ds)
    | _ => none
  | .exn _ _ => none
theorem view_rel {s : S} {v : V} {d : D} {p : PyData} (h : view s ms = some d) (hr : HR Y w H ms) (sv : SR Y w s v) (hp : toP d = some p) : Dp Y.X.K H v p := by
  cases s with
  | d x => cases h; exact toP_rel hr.sub _ _ _ hp sv
  | exn c ds => cases h
  | loc n =>
    obtain ⟨a, ha, rfl⟩ := sv
    unfold view at h
    dsimp only at h
    cases hc : ms[n]? with
    | none => rw [hc] at h; cases h
    | some c =>
      rw [hc] at h
      cases c with
      | dead => cases h
      | ins c fs => cases h
      | lst ds =>
        cases h
        obtain ⟨xs, q, r⟩ := hr.cel n a _ ha hc
        simp only [toP, Option.map_eq_some_iff] at hp
        obtain ⟨ps, h1, rfl⟩ := hp
        exact .lst (SqL.of q) (toPs_rel hr.sub ds xs ps h1 r)
def gEqD (neg : Bool) : S → S → Ms → R S := fun x y ms => match (view x ms).bind shapedD, (view y ms).bind shapedD with
  | some p, some q => .ok (.d (.bl (if neg then !PyData.eqv p q else PyData.eqv p q))) ms
  | _, _ => .bad
theorem gEqD_ne {neg : Bool} : ∀ x y ms c ds ms', gEqD neg x y ms ≠ .ex c ds ms' := by
  intro x y ms c ds ms' h
  unfold gEqD at h
  split at h <;> cases h
theorem eqD_inv {neg : Bool} {x y : S} {P : S → Ms → Prop} {E : Nat → List D → Ms → Prop} (h : (gEqD neg x y ms).post P E) : ∃ d e p q, view x ms = some d ∧ view y ms = some e ∧ toP d = some p ∧ toP e = some q ∧ SeqAt.shaped p = true ∧ SeqAt.shaped q = true ∧ P (.d (.bl (if neg then !PyData.eqv p q else PyData.eqv p q))) ms := by
  unfold gEqD at h
  split at h
  · rename_i p q e1 e2
    obtain ⟨d, h1, h2⟩ := Option.bind_eq_some_iff.mp e1
    obtain ⟨e, h3, h4⟩ := Option.bind_eq_some_iff.mp e2
    obtain ⟨k1, k2⟩ := shapedD_inv h2
    obtain ⟨k3, k4⟩ := shapedD_inv h4
    exact ⟨d, e, p, q, h1, h3, k1, k3, k2, k4, h⟩
  · exact h.elim
theorem o_eqD (ok : CyOk Y k) : OpD Y (compareOp .Eq) (gEqD false) := by
  refine ⟨⟨_, op_eqD ok.hr.units, fun w H ms x y u v Q hr sx sy h => ?_⟩, gEqD_ne⟩
  obtain ⟨d, e, p, q, h1, h2, h3, h4, h5, h6, hq⟩ := eqD_inv h
  exact ⟨p, q, view_rel h1 hr sx h3, view_rel h2 hr sy h4, h5, h6, hq.at (Ext.refl w) hr rfl⟩
theorem o_neD (ok : CyOk Y k) : OpD Y (compareOp .NotEq) (gEqD true) := by
  refine ⟨⟨_, op_neD ok.hr.units, fun w H ms x y u v Q hr sx sy h => ?_⟩, gEqD_ne⟩
  obtain ⟨d, e, p, q, h1, h2, h3, h4, h5, h6, hq⟩ := eqD_inv h
  exact ⟨p, q, view_rel h1 hr sx h3, view_rel h2 hr sy h4, h5, h6, hq.at (Ext.refl w) hr rfl⟩
/-- is None -/
def gIsN (neg : Bool) : S → S → Ms → R S := fun x y ms => match y with
  | .d .non => .ok (.d (.bl (match x with
    | .d .non => !neg
    | _ => neg))) ms
  | _ => .bad
theorem gIsN_ne {neg : Bool} : ∀ x y ms c ds ms', gIsN neg x y ms ≠ .ex c ds ms' := by
  intro x y ms c ds ms' h
  unfold gIsN at h
  split at h <;> cases h
theorem isN_rel {s : S} {v : V} (sv : SR Y w s v) : (decide (v = .non)) = (match s with
    | .d .non => true
    | _ => false) := by
  cases s with
  | loc n => obtain ⟨a, _, rfl⟩ := sv; rfl
  | exn c ds => obtain ⟨⟨rfl, _⟩, _⟩ := sv; rfl
  | d x =>
    cases x with
    | non => cases sv; rfl
    | bl b => cases sv; rfl
    | int i => cases sv; rfl
    | str x => cases sv; rfl
    | fn n => cases sv; rfl
    | tup ds => obtain ⟨a, xs, rfl, _⟩ := sv; rfl
    | lst ds => obtain ⟨a, xs, rfl, _⟩ := sv; rfl
    | frz ds => obtain ⟨a, xs, rfl, _⟩ := sv; rfl
    | obj c ds => obtain ⟨a, dx, xs, rfl, _⟩ := sv; rfl
    | dic ks vs => obtain ⟨a, xs, rfl, _⟩ := sv; rfl
    | dit ks vs => obtain ⟨a, xs, rfl, _⟩ := sv; rfl
    | ty n => cases sv; rfl
theorem o_isN : OpD Y (compareOp .Is) (gIsN false) := by
  refine ⟨⟨_, op_isN, fun w H ms x y u v Q hr sx sy h => ?_⟩, gIsN_ne⟩
  unfold gIsN at h
  split at h
  · cases sy
    refine ⟨rfl, ?_⟩
    rw [isN_rel sx]
    refine h.at (Ext.refl w) hr ?_
    cases x with
    | d x => cases x <;> rfl
    | loc n => rfl
    | exn c ds => rfl
  · exact h.elim
theorem o_notN : OpD Y (compareOp .IsNot) (gIsN true) := by
  refine ⟨⟨_, op_notN, fun w H ms x y u v Q hr sx sy h => ?_⟩, gIsN_ne⟩
  unfold gIsN at h
  split at h
  · cases sy
    refine ⟨rfl, ?_⟩
    rw [isN_rel sx]
    refine h.at (Ext.refl w) hr ?_
    cases x with
    | d x => cases x <;> rfl
    | loc n => rfl
    | exn c ds => rfl
  · exact h.elim
end
end Fw
set_option Elab.async false
set_option linter.all false
set_option maxRecDepth 100000
set_option maxHeartbeats 4000000
/-! Fw8: built-in functions, subscripts, comprehensions, f-strings. -/
namespace Fw
open PySem L2 PySem.Spec PyProof.Rows

section
variable {Y : Cy} {w w1 w2 : Wd} {σ : L2.St} {H H1 H2 : Hp} {env : Env} {ms ms1 ms2 : Ms} {k : Nat}

/-! ### calls of built-ins -/
def SndC (Y : Cy) (r : List V → Hp → VK → Prop) (g : List S → Ms → R S) : Prop :=
  ∀ (w : Wd) (H : Hp) (ms : Ms) (ss : List S) (vs : List V) (Q : VK), HR Y w H ms → SRs Y w ss vs → (g ss ms).post (okP Y w Q) (fun _ _ _ => False) → r vs H Q
structure CallD (Y : Cy) (f : Value) (g : List S → Ms → R S) : Prop where
  ex : ∃ r, CallR Y.X f r ∧ SndC Y r g
  ne : ∀ ss ms c ds ms', g ss ms ≠ .ex c ds ms'
def cOr (g g' : List S → Ms → R S) : List S → Ms → R S := fun ss ms => match g ss ms with
  | .bad => g' ss ms
  | r => r
theorem CallD.or {f : Value} {g g' : List S → Ms → R S} (h : CallD Y f g) (h' : CallD Y f g') : CallD Y f (cOr g g') := by
  obtain ⟨r, p, s⟩ := h.ex
  obtain ⟨r', p', s'⟩ := h'.ex
  refine ⟨⟨_, p.or p', fun w H ms ss vs Q hr sv q => ?_⟩, fun ss ms c ds ms' e => ?_⟩
  · unfold cOr at q
    split at q
    · exact .inr (s' w H ms ss vs Q hr sv q)
    · exact .inl (s w H ms ss vs Q hr sv q)
  · unfold cOr at e
    split at e
    · exact h'.ne _ _ _ _ _ e
    · exact h.ne _ _ _ _ _ e
def mB1 (g : List S → Ms → R S) (ma : Env → Ms → R (List S)) : Env → Ms → R S := fun env ms => (ma env ms).bind g
theorem snd_call {r : List V → Hp → VK → Prop} {g : List S → Ms → R S} {t : TA} {ma : Env → Ms → R (List S)} (hne : ∀ ss ms c ds ms', g ss ms ≠ .ex c ds ms') (hs : SndC Y r g) (ha : SndA Y t ma) : SndE Y (tCB r t) (mB1 g ma) := by
  intro w σ H env ms Q er hr h
  refine ha.go er hr h fun ss ms1 w1 H1 vs e1 er1 hr1 sv h1 => ?_
  refine hs w1 H1 ms1 ss vs Q hr1 sv ?_
  have hx := hne ss ms1
  cases hg : g ss ms1 with
  | ex c ds ms' => exact absurd hg (hx c ds ms')
  | bad => rw [hg] at h1; exact h1
  | ok z ms' => rw [hg] at h1; exact h1.ext e1
variable {x : Str} {p pos : Pos} {e : Expr} {es : List Expr} {ma : Env → Ms → R (List S)} {g : List S → Ms → R S}
theorem e_callB {id : String} (hc : CallD Y (.builtin id) g) (hg : Gl Y.X x) (hm : Y.X.mg x = none) (hv : bootBuiltins x = some (.builtin id)) (ha : DA Y (e :: es) ma) (hn : x ≠ "__name__" := by decide) (hdb : (x == ("__debug__" : Str)) = false := by decide)
    (he : starEach (e :: es) Y.X.env = (false, eval e Y.X.env) :: starEach es Y.X.env := by rfl) (hpl : (backTo pos (starEach es Y.X.env)).any (·.1) = false := by rfl) : DE Y (.Call (.Name x p) (e :: es) [] pos) (mB1 g ma) := by
  obtain ⟨r, pr, sr⟩ := hc.ex
  obtain ⟨t, pa, sa⟩ := ha.ex
  exact ⟨_, pe_callB pr hg hm hv pa hn hdb he hpl, snd_call hc.ne sr sa⟩
theorem e_callT {T : String} (hc : CallD Y (.type T) g) (hg : Gl Y.X x) (hm : Y.X.mg x = none) (hv : bootBuiltins x = some (.type T)) (ha : DA Y (e :: es) ma) (hn : x ≠ "__name__" := by decide) (hdb : (x == ("__debug__" : Str)) = false := by decide)
    (he : starEach (e :: es) Y.X.env = (false, eval e Y.X.env) :: starEach es Y.X.env := by rfl) (hpl : (backTo pos (starEach es Y.X.env)).any (·.1) = false := by rfl) : DE Y (.Call (.Name x p) (e :: es) [] pos) (mB1 g ma) := by
  obtain ⟨r, pr, sr⟩ := hc.ex
  obtain ⟨t, pa, sa⟩ := ha.ex
  exact ⟨_, pe_callTy pr hg hm hv pa hn hdb he hpl, snd_call hc.ne sr sa⟩
/-- one data argument -/
def c1 (f : D → Option D) : List S → Ms → R S := fun ss ms => match ss with
  | [s] => match (view s ms).bind f with
    | some d => .ok (.d d) ms
    | none => .bad
  | _ => .bad
theorem c1_ne {f : D → Option D} : ∀ ss ms c ds ms', c1 f ss ms ≠ .ex c ds ms' := by
  intro ss ms c ds ms' h
  unfold c1 at h
  split at h
  · split at h <;> cases h
  · cases h
theorem c1_inv {f : D → Option D} {ss : List S} {P : S → Ms → Prop} {E : Nat → List D → Ms → Prop} (h : (c1 f ss ms).post P E) : ∃ s d d', ss = [s] ∧ view s ms = some d ∧ f d = some d' ∧ P (.d d') ms := by
  unfold c1 at h
  split at h
  · rename_i s
    split at h
    · rename_i d' e
      obtain ⟨d, h1, h2⟩ := Option.bind_eq_some_iff.mp e
      exact ⟨s, d, d', rfl, h1, h2, h⟩
    · exact h.elim
  · exact h.elim
theorem SRs.one {s : S} {vs : List V} (h : SRs Y w [s] vs) : ∃ v, vs = [v] ∧ SR Y w s v := by
  cases h with
  | cons a b => cases b; exact ⟨_, rfl, a⟩
theorem SRs.two {s t : S} {vs : List V} (h : SRs Y w [s, t] vs) : ∃ v u, vs = [v, u] ∧ SR Y w s v ∧ SR Y w t u := by
  cases h with
  | cons a b =>
    obtain ⟨u, rfl, c⟩ := SRs.one b
    exact ⟨_, u, rfl, a, c⟩
/-- the list that a slot's data stands for -/
theorem view_list {s : S} {v : V} {ds : List D} (h : view s ms = some (.lst ds)) (hr : HR Y w H ms) (sv : SR Y w s v) : ∃ a xs, v = .ref a ∧ H a = some (.lst xs) ∧ DRs Y.X.K Y.Γ w.F ds xs := by
  cases s with
  | d x =>
    cases h
    obtain ⟨a, xs, rfl, h2, h3⟩ := sv
    exact ⟨a, xs, rfl, hr.sub _ _ h2, h3⟩
  | exn c ds => cases h
  | loc n =>
    obtain ⟨a, ha, rfl⟩ := sv
    unfold view at h
    dsimp only at h
    cases hc : ms[n]? with
    | none => rw [hc] at h; cases h
    | some c =>
      rw [hc] at h
      cases c with
      | dead => cases h
      | ins c fs => cases h
      | lst ds =>
        cases h
        obtain ⟨xs, q, r⟩ := hr.cel n a _ ha hc
        exact ⟨a, xs, rfl, q, r⟩
theorem view_notlist {s : S} {v : V} {d : D} (h : view s ms = some d) (hn : ∀ ds, d ≠ .lst ds) (sv : SR Y w s v) : DR Y.X.K Y.Γ w.F d v := by
  cases s with
  | d x => cases h; exact sv
  | exn c ds => cases h
  | loc n =>
    unfold view at h
    dsimp only at h
    split at h
    · rename_i ds e
      cases h
      exact absurd rfl (hn ds)
    · cases h

/-! len, abs, int, str, bool -/
def lenD : D → Option D
  | .str x => match few x.length with
    | true => some (.int x.length)
    | false => none
  | .lst ds => some (.int ds.length)
  | .frz ds => some (.int ds.length)
  | .tup ds => some (.int ds.length)
  | _ => none
theorem cd_len : CallD Y (.builtin "len") (c1 lenD) := by
  refine ⟨⟨_, call_len_seq.or call_len_str, fun w H ms ss vs Q hr sv h => ?_⟩, c1_ne⟩
  obtain ⟨s, d, d', rfl, h1, h2, q⟩ := c1_inv h
  obtain ⟨v, rfl, r⟩ := SRs.one sv
  cases d with
  | str x =>
    unfold lenD at h2
    dsimp only at h2
    cases f : few x.length with
    | false => rw [f] at h2; cases h2
    | true =>
      rw [f] at h2
      cases h2
      cases view_notlist h1 (by intro ds z; cases z) r
      exact .inr ⟨x, rfl, few_ok f, q.at (Ext.refl w) hr rfl⟩
  | lst ds =>
    cases h2
    obtain ⟨a, xs, rfl, e1, e2⟩ := view_list h1 hr r
    exact .inl ⟨a, xs, rfl, .inl (SqL.of e1), by rw [← DRs.length e2]; exact q.at (Ext.refl w) hr rfl⟩
  | frz ds =>
    cases h2
    obtain ⟨a, xs, rfl, e1, e2⟩ := view_notlist h1 (by intro ds z; cases z) r
    exact .inl ⟨a, xs, rfl, .inl (sqL_mono e1 hr.sub), by rw [← DRs.length e2]; exact q.at (Ext.refl w) hr rfl⟩
  | tup ds =>
    cases h2
    obtain ⟨a, xs, rfl, e1, e2⟩ := view_notlist h1 (by intro ds z; cases z) r
    exact .inl ⟨a, xs, rfl, .inr (sqT_mono e1 hr.sub), by rw [← DRs.length e2]; exact q.at (Ext.refl w) hr rfl⟩
  | _ => cases h2
def absD : D → Option D
  | .int i => some (.int (if i < 0 then -i else i))
  | _ => none
theorem cd_abs : CallD Y (.builtin "abs") (c1 absD) := by
  refine ⟨⟨_, call_abs, fun w H ms ss vs Q hr sv h => ?_⟩, c1_ne⟩
  obtain ⟨s, d, d', rfl, h1, h2, q⟩ := c1_inv h
  obtain ⟨v, rfl, r⟩ := SRs.one sv
  cases d with
  | int i =>
    cases h2
    cases view_notlist h1 (by intro ds z; cases z) r
    exact ⟨i, rfl, q.at (Ext.refl w) hr rfl⟩
  | _ => cases h2
def intD : D → Option D
  | .int i => some (.int i)
  | .bl b => some (.int (if b then 1 else 0))
  | _ => none
theorem cd_int : CallD Y (.type "int") (c1 intD) := by
  refine ⟨⟨_, call_int1, fun w H ms ss vs Q hr sv h => ?_⟩, c1_ne⟩
  obtain ⟨s, d, d', rfl, h1, h2, q⟩ := c1_inv h
  obtain ⟨v, rfl, r⟩ := SRs.one sv
  cases d with
  | int i =>
    cases h2
    cases view_notlist h1 (by intro ds z; cases z) r
    exact .inl ⟨i, rfl, q.at (Ext.refl w) hr rfl⟩
  | bl b =>
    cases h2
    cases view_notlist h1 (by intro ds z; cases z) r
    exact .inr ⟨b, rfl, q.at (Ext.refl w) hr rfl⟩
  | _ => cases h2
/-- an int that is shown -/
def showI (i : Int) : Bool := decide (i.natAbs < 2 ^ 1000)
theorem showI_ok {i : Int} (h : showI i = true) : i.natAbs.log2 < 1920 := by
  have := of_decide_eq_true h
  exact Nat.lt_of_lt_of_le (PySem.Flt.log2_lt_of (by decide) this) (by decide)
def strD : D → Option D
  | .int i => match showI i with
    | true => some (.str (toString i))
    | false => none
  | .str x => some (.str x)
  | _ => none
theorem cd_str : CallD Y (.type "str") (c1 strD) := by
  refine ⟨⟨_, call_str_int.or SkE.call_str_str, fun w H ms ss vs Q hr sv h => ?_⟩, c1_ne⟩
  obtain ⟨s, d, d', rfl, h1, h2, q⟩ := c1_inv h
  obtain ⟨v, rfl, r⟩ := SRs.one sv
  cases d with
  | int i =>
    unfold strD at h2
    dsimp only at h2
    cases f : showI i with
    | false => rw [f] at h2; cases h2
    | true =>
      rw [f] at h2
      cases h2
      cases view_notlist h1 (by intro ds z; cases z) r
      exact .inl ⟨i, rfl, showI_ok f, q.at (Ext.refl w) hr rfl⟩
  | str x =>
    cases h2
    cases view_notlist h1 (by intro ds z; cases z) r
    exact .inr ⟨x, rfl, q.at (Ext.refl w) hr rfl⟩
  | _ => cases h2
/-- repr of data -/
def reprD (d : D) : Option D := match toP d with
  | some p => match p.showable && decide (p.depth ≤ 40) && few p.shown.length && !p.hasDict with
    | true => some (.str p.shown)
    | false => none
  | none => none
theorem call_reprD (ok : CyOk Y k) : CallR Y.X (.builtin "repr") (fun xs H Q => ∃ x p, xs = [x] ∧ Dp Y.X.K H x p ∧ p.showable = true ∧ p.depth ≤ 40 ∧ p.shown.length ≤ sizeLine ∧ p.hasDict = false ∧ Q (.str p.shown) H) := by
  intro pins s σ H xs us Q I r h
  obtain ⟨x, p, rfl, hd, h1, h2, h3, h4, q⟩ := h
  obtain ⟨u, rfl, ru⟩ := vals1 r
  obtain ⟨as, rd⟩ := Dp.reads I p x u hd ru
  have hu := ok.hr.units
  cases rd with
  | none => exact PySem.P.repr_of_none ⟨.str _, H, I.tok _, ⟨_, rfl⟩, q⟩
  | bool b => exact PySem.P.repr_of_bool ⟨.str _, H, I.tok _, ⟨_, rfl⟩, q⟩
  | int i t => exact PySem.P.repr_of_int (by simpa [PyData.showable] using h1) ⟨.str _, H, I.tok _, ⟨_, rfl⟩, q⟩
  | str y t => exact PySem.P.repr_of_str ⟨.str _, H, I.tok _, ⟨_, rfl⟩, q⟩ h3
  | list a1 a2 a3 a4 =>
    exact repr_of_reads' (Reads.list a1 a2 a3 a4) h1 (fun z => by rw [h4] at z; cases z) ok.gd (by omega) (fun _ _ z => z) (fun h' t tk kp => ⟨.str _, H, I.kept kp, ⟨_, rfl⟩, q⟩) h3
  | tuple a1 a2 a3 a4 =>
    exact repr_of_reads' (Reads.tuple a1 a2 a3 a4) h1 (fun z => by rw [h4] at z; cases z) ok.gd (by omega) (fun _ _ z => z) (fun h' t tk kp => ⟨.str _, H, I.kept kp, ⟨_, rfl⟩, q⟩) h3
  | dict a1 a2 a3 a4 a5 => cases h4
theorem cd_repr (ok : CyOk Y k) : CallD Y (.builtin "repr") (c1 reprD) := by
  refine ⟨⟨_, call_reprD ok, fun w H ms ss vs Q hr sv h => ?_⟩, c1_ne⟩
  obtain ⟨s, d, d', rfl, h1, h2, q⟩ := c1_inv h
  obtain ⟨v, rfl, r⟩ := SRs.one sv
  unfold reprD at h2
  cases e : toP d with
  | none => rw [e] at h2; cases h2
  | some p =>
    rw [e] at h2
    dsimp only at h2
    split at h2
    · rename_i f
      cases h2
      simp only [Bool.and_eq_true] at f
      obtain ⟨⟨⟨f1, f2⟩, f3⟩, f4⟩ := f
      exact ⟨v, p, rfl, view_rel h1 hr r e, f1, of_decide_eq_true f2, few_ok f3, by simpa using f4, q.at (Ext.refl w) hr rfl⟩
    · cases h2

/-! two ints -/
def c2 (f : Int → Int → Int) : List S → Ms → R S := fun ss ms => match ss with
  | [.d (.int i), .d (.int j)] => .ok (.d (.int (f i j))) ms
  | _ => .bad
theorem c2_ne {f : Int → Int → Int} : ∀ ss ms c ds ms', c2 f ss ms ≠ .ex c ds ms' := by
  intro ss ms c ds ms' h
  unfold c2 at h
  split at h <;> cases h
def maxI (i j : Int) : Int := if j > i then j else i
def minI (i j : Int) : Int := if j < i then j else i
theorem snd_c2 {f : Int → Int → Int} {r : List V → Hp → VK → Prop} (h : ∀ i j H Q, Q (.int (f i j)) H → r [.int i, .int j] H Q) : SndC Y r (c2 f) := by
  intro w H ms ss vs Q hr sv q
  unfold c2 at q
  split at q
  · rename_i i j
    obtain ⟨v, u, rfl, r1, r2⟩ := SRs.two sv
    cases r1
    cases r2
    exact h i j H Q (q.at (Ext.refl w) hr rfl)
  · exact q.elim
theorem cd_max (hc : Y.X.calm = true) : CallD Y (.builtin "max") (c2 maxI) := ⟨⟨_, call_max2 hc, snd_c2 fun i j _ _ q => ⟨i, j, rfl, q⟩⟩, c2_ne⟩
theorem cd_min (hc : Y.X.calm = true) : CallD Y (.builtin "min") (c2 minI) := ⟨⟨_, call_min2 hc, snd_c2 fun i j _ _ q => ⟨i, j, rfl, q⟩⟩, c2_ne⟩
/-! tuple(list), list(x) -/
def cTup : List S → Ms → R S := fun ss ms => match ss with
  | [s] => match view s ms with
    | some (.lst ds) => .ok (.d (.tup ds)) ms
    | some (.tup ds) => .ok (.d (.tup ds)) ms
    | _ => .bad
  | _ => .bad
theorem cd_tuple : CallD Y (.type "tuple") cTup := by
  refine ⟨⟨_, call_tuple_of, fun w H ms ss vs Q hr sv h => ?_⟩, fun ss ms c ds ms' h => ?_⟩
  · unfold cTup at h
    split at h
    · rename_i s
      obtain ⟨v, rfl, r⟩ := SRs.one sv
      split at h
      · rename_i ds e
        obtain ⟨a, xs, rfl, e1, e2⟩ := view_list e hr r
        refine ⟨a, xs, rfl, .inl ⟨SqL.of e1, fun l hl => ?_⟩⟩
        obtain ⟨hr2, ex⟩ := hr.froz (o := .tup xs) hl
        exact h.at ex hr2 ⟨l, xs, rfl, SqT.of upd_same, DRs.mono ex.1 _ _ e2⟩
      · rename_i ds e
        obtain ⟨a, xs, rfl, e1, e2⟩ := view_notlist e (by intro ds z; cases z) r
        exact ⟨a, xs, rfl, .inr ⟨sqT_mono e1 hr.sub, h.at (Ext.refl w) hr ⟨a, xs, rfl, e1, e2⟩⟩⟩
      · exact h.elim
    · exact h.elim
  · unfold cTup at h
    split at h
    · split at h <;> cases h
    · cases h
/-- list(x), frozen | a new cell -/
def cLst : List S → Ms → R S := fun ss ms => match ss with
  | [s] => match view s ms with
    | some (.lst ds) => .ok (.d (.lst ds)) ms
    | some (.tup ds) => .ok (.d (.lst ds)) ms
    | _ => .bad
  | _ => .bad
def cNew : List S → Ms → R S := fun ss ms => match ss with
  | [s] => match view s ms with
    | some (.lst ds) => .ok (.loc ms.length) (ms ++ [.lst ds])
    | some (.tup ds) => .ok (.loc ms.length) (ms ++ [.lst ds])
    | _ => .bad
  | _ => .bad
theorem SRs0_of_DRs {K : PySem.W.Frag} {Γ : G} {w : Wd} : ∀ {ds : List D} {vs : List V}, DRs K Γ w.F ds vs → SRs0 K Γ w (ds.map S.d) vs
  | [], _, h => by cases h; exact .nil
  | d :: ds, _, h => by obtain ⟨x, r, rfl, h2, h3⟩ := h; exact .cons h2 (SRs0_of_DRs h3)
theorem seq_inv {s : S} {v : V} {ds : List D} (h : view s ms = some (.lst ds) ∨ view s ms = some (.tup ds)) (hr : HR Y w H ms) (sv : SR Y w s v) : ∃ a xs, v = .ref a ∧ (SqL Y.X.K H a xs ∨ SqT Y.X.K H a xs) ∧ DRs Y.X.K Y.Γ w.F ds xs := by
  rcases h with h | h
  · obtain ⟨a, xs, rfl, e1, e2⟩ := view_list h hr sv
    exact ⟨a, xs, rfl, .inl (SqL.of e1), e2⟩
  · obtain ⟨a, xs, rfl, e1, e2⟩ := view_notlist h (by intro ds z; cases z) sv
    exact ⟨a, xs, rfl, .inr (sqT_mono e1 hr.sub), e2⟩
theorem cd_list : CallD Y (.type "list") cLst := by
  have key : ∀ (w : Wd) (H : Hp) (ms : Ms) (s : S) (v : V) (Q : VK) (ds : List D), HR Y w H ms → SR Y w s v → (view s ms = some (.lst ds) ∨ view s ms = some (.tup ds)) → okP Y w Q (.d (.lst ds)) ms → ∃ p ys, [v] = [V.ref p] ∧ (SqL Y.X.K H p ys ∨ SqT Y.X.K H p ys) ∧ ∀ l, H l = none → Q (.ref l) (upd H l (.lst ys)) := by
    intro w H ms s v Q ds hr r e q
    obtain ⟨a, xs, rfl, e1, e2⟩ := seq_inv e hr r
    refine ⟨a, xs, rfl, e1, fun l hl => ?_⟩
    obtain ⟨hr2, ex⟩ := hr.froz (o := .lst xs) hl
    exact q.at ex hr2 ⟨l, xs, rfl, upd_same, DRs.mono ex.1 _ _ e2⟩
  refine ⟨⟨_, call_list_of, fun w H ms ss vs Q hr sv h => ?_⟩, fun ss ms c ds ms' h => ?_⟩
  · unfold cLst at h
    split at h
    · rename_i s
      obtain ⟨v, rfl, r⟩ := SRs.one sv
      split at h
      · rename_i ds e
        exact key w H ms s v Q ds hr r (.inl e) h
      · rename_i ds e
        exact key w H ms s v Q ds hr r (.inr e) h
      · exact h.elim
    · exact h.elim
  · unfold cLst at h
    split at h
    · split at h <;> cases h
    · cases h
theorem cd_listN : CallD Y (.type "list") cNew := by
  have key : ∀ (w : Wd) (H : Hp) (ms : Ms) (s : S) (v : V) (Q : VK) (ds : List D), HR Y w H ms → SR Y w s v → (view s ms = some (.lst ds) ∨ view s ms = some (.tup ds)) → okP Y w Q (.loc ms.length) (ms ++ [.lst ds]) → ∃ p ys, [v] = [V.ref p] ∧ (SqL Y.X.K H p ys ∨ SqT Y.X.K H p ys) ∧ ∀ l, H l = none → Q (.ref l) (upd H l (.lst ys)) := by
    intro w H ms s v Q ds hr r e q
    obtain ⟨a, xs, rfl, e1, e2⟩ := seq_inv e hr r
    refine ⟨a, xs, rfl, e1, fun l hl => ?_⟩
    obtain ⟨hr2, ex⟩ := hr.cell (o := .lst xs) (c := .lst ds) hl ⟨xs, upd_same, e2⟩
    refine q.at ex hr2 ⟨l, ?_, rfl⟩
    show (w.mu ++ [l])[ms.length]? = some l
    rw [← hr.len]; simp
  refine ⟨⟨_, call_list_of, fun w H ms ss vs Q hr sv h => ?_⟩, fun ss ms c ds ms' h => ?_⟩
  · unfold cNew at h
    split at h
    · rename_i s
      obtain ⟨v, rfl, r⟩ := SRs.one sv
      split at h
      · rename_i ds e
        exact key w H ms s v Q ds hr r (.inl e) h
      · rename_i ds e
        exact key w H ms s v Q ds hr r (.inr e) h
      · exact h.elim
    · exact h.elim
  · unfold cNew at h
    split at h
    · split at h <;> cases h
    · cases h

end
end Fw
set_option Elab.async false
set_option linter.all false
set_option maxRecDepth 100000
set_option maxHeartbeats 4000000
/-! Fw9: calls of every shape: defs, methods, classmethods, classes; attributes. -/
namespace Fw
open PySem L2 PySem.Spec PyProof.Rows

/-! ### arguments -/
def CP (X : Cx) (pins : List (Addr × Obj)) (σ : L2.St) (n : Nat) (ks : List Str) (Q : List V → Hp → Prop) (a : Args) (s' : Shared) : Prop :=
  ∃ us ws vs H', a = ⟨us, ks.zip ws⟩ ∧ us.length = n ∧ ws.length = ks.length ∧ Inv X pins σ H' s' ∧ Vals vs (us ++ ws) ∧ Q vs H'
structure PC (X : Cx) (es : List Expr) (kws : List Keyword) (n : Nat) (ks : List Str) (t : TA) : Prop where
  plain : ∀ pos, ((backTo pos (starEach es X.env)).any (·.1) || (backToKw pos (keywordEach kws X.env)).any (·.1.isNone)) = false
  run : ∀ (pos : Pos) (f : Value) (pins : List (Addr × Obj)) (s : Shared) (σ : L2.St) (H : Hp) (Q : List V → Hp → Prop), Inv X pins σ H s → t σ H Q →
    wpAny (model X.prog X.w) X.A (evalArgs f true (backTo pos (starEach es X.env)) (backToKw pos (keywordEach kws X.env))) (CP X pins σ n ks Q) X.xe s
structure DC (Y : Cy) (es : List Expr) (kws : List Keyword) (n : Nat) (ks : List Str) (m : Env → Ms → R (List S)) : Prop where
  ex : ∃ t, PC Y.X es kws n ks t ∧ SndA Y t m
structure DK (Y : Cy) (kws : List Keyword) (m : Env → Ms → R (List S)) : Prop where
  ex : ∃ t, PK Y.X kws t ∧ SndA Y t m
def lenIs (n : Nat) (ss : List S) (ms : Ms) : R (List S) := match Nat.beq ss.length n with
  | true => .ok ss ms
  | false => .bad
def mLen (n : Nat) (m : Env → Ms → R (List S)) : Env → Ms → R (List S) := fun env ms => (m env ms).bind (lenIs n)
def mApp (n k : Nat) (m mk : Env → Ms → R (List S)) : Env → Ms → R (List S) := fun env ms => (mLen n m env ms).bind fun ss ms1 => (mLen k mk env ms1).bind fun zs ms2 => .ok (ss ++ zs) ms2
section
variable {Y : Cy} {w w1 w2 : Wd} {σ : L2.St} {H H1 H2 : Hp} {env : Env} {ms ms1 ms2 : Ms} {e : Expr} {es : List Expr} {kws : List Keyword} {m mk : Env → Ms → R (List S)} {me : Env → Ms → R S} {n : Nat} {ks : List Str}
def tLen (n : Nat) (t : TA) : TA := fun σ H Q => t σ H fun vs H1 => vs.length = n ∧ Q vs H1
def tApp (t t2 : TA) : TA := fun σ H Q => t σ H fun vs H1 => t2 σ H1 fun us H2 => Q (vs ++ us) H2
theorem snd_len {t : TA} (h : SndA Y t m) : SndA Y (tLen n t) (mLen n m) := by
  intro w σ H env ms Q er hr q
  refine h.go er hr q fun ss ms1 w1 H1 vs e1 er1 hr1 sv q1 => ?_
  unfold lenIs at q1
  cases b : Nat.beq ss.length n with
  | false => rw [b] at q1; exact q1.elim
  | true => rw [b] at q1; exact ⟨by rw [← SRs.length sv]; exact Nat.eq_of_beq_eq_true b, q1 w1 H1 vs e1 hr1 sv⟩
theorem SRs.append : ∀ {ss ts : List S} {vs us : List V}, SRs Y w ss vs → SRs Y w ts us → SRs Y w (ss ++ ts) (vs ++ us)
  | _, _, _, _, .nil, k => k
  | _, _, _, _, .cons a b, k => .cons a (SRs.append b k)
theorem snd_app {t t2 : TA} {n k : Nat} (h : SndA Y t m) (h2 : SndA Y t2 mk) : SndA Y (tApp (tLen n t) (tLen k t2)) (mApp n k m mk) := by
  intro w σ H env ms Q er hr q
  refine (snd_len h).go er hr q fun ss ms1 w1 H1 vs e1 er1 hr1 sv q1 => ?_
  refine (snd_len h2).go er1 hr1 q1 fun zs ms2 w2 H2 us e2 er2 hr2 sz q2 => ?_
  exact q2 w2 H2 _ (e1.trans e2) hr2 ((sv.mono e2).append sz)
theorem k_nil : DK Y [] aNil := ⟨_, pk_nil, fun w _ _ _ _ _ _ hr q => q w _ [] (Ext.refl w) hr .nil⟩
theorem k_cons {nm : Option Str} {kpos : Pos} (h1 : DE Y e me) (h2 : DK Y kws mk) : DK Y (⟨nm, e, kpos⟩ :: kws) (aCons me mk) := by
  obtain ⟨t, p, s⟩ := h1.ex
  obtain ⟨ta, pa, sa⟩ := h2.ex
  refine ⟨_, pk_cons p pa, fun w σ H env ms Q er hr h => ?_⟩
  refine s.go er hr h fun x ms1 w1 H1 v e1 er1 hr1 sv h1 => ?_
  refine sa.go er1 hr1 h1 fun xs ms2 w2 H2 vs e2 er2 hr2 svs h2 => ?_
  exact h2 w2 H2 (v :: vs) (e1.trans e2) hr2 (.cons (sv.mono e2) svs)
theorem c_nil : DC Y [] [] 0 [] aNil := by
  refine ⟨tNil, ⟨fun _ => rfl, fun pos f pins s σ H Q I h => ?_⟩, fun w _ _ _ _ _ _ hr q => q w _ [] (Ext.refl w) hr .nil⟩
  exact evalArgs_nil3 ⟨[], [], [], H, rfl, rfl, rfl, I, .nil, h⟩
theorem c_pos (h : DA Y (e :: es) m) (hl : (e :: es).length = n := by rfl) (he : starEach (e :: es) Y.X.env = (false, eval e Y.X.env) :: starEach es Y.X.env := by rfl) (hp : ∀ pos, ((backTo pos (starEach (e :: es) Y.X.env)).any (·.1) || (backToKw pos (keywordEach [] Y.X.env)).any (·.1.isNone)) = false := by intro _; rfl) :
    DC Y (e :: es) [] n [] (mLen n m) := by
  obtain ⟨t, p, s⟩ := h.ex
  refine ⟨tLen n t, ⟨hp, fun pos f pins s σ H Q I h => ?_⟩, snd_len s⟩
  have z := p.run pos pins s σ H _ I h
  rw [he] at z ⊢
  refine Calls.evalArgs_plain (thn z fun us s1 ⟨vs, H1, I1, r, hn, q⟩ => ?_)
  exact ⟨us, [], vs, H1, rfl, by rw [← r.length]; exact hn, rfl, I1, by rw [List.append_nil]; exact r, q⟩
theorem c_kw0 (h : DK Y kws mk) {k : Nat} (hk : ks.length = k := by rfl) (hall : ∀ pos, (backToKw pos (keywordEach kws Y.X.env)).all (·.1.isSome) = true := by intro _; rfl) (hks : ∀ pos, (backToKw pos (keywordEach kws Y.X.env)).filterMap (·.1) = ks := by intro _; rfl)
    (hp : ∀ pos, ((backTo pos (starEach [] Y.X.env)).any (·.1) || (backToKw pos (keywordEach kws Y.X.env)).any (·.1.isNone)) = false := by intro _; rfl) : DC Y [] kws 0 ks (mLen k mk) := by
  obtain ⟨t, p, s⟩ := h.ex
  refine ⟨tLen k t, ⟨hp, fun pos f pins s σ H Q I h => ?_⟩, snd_len s⟩
  refine evalArgs_kw2_nil (hall pos) (thn (p.run pos pins s σ H _ I h) fun ws s1 ⟨vs, H1, I1, r, hn, q⟩ => ?_)
  rw [hks pos]
  exact ⟨[], ws, vs, H1, rfl, rfl, by rw [← r.length, hk]; exact hn, I1, r, q⟩
theorem c_kw (h : DA Y (e :: es) m) (h2 : DK Y kws mk) {k : Nat} (hk : ks.length = k := by rfl) (hl : (e :: es).length = n := by rfl) (hall : ∀ pos, (backToKw pos (keywordEach kws Y.X.env)).all (·.1.isSome) = true := by intro _; rfl) (hks : ∀ pos, (backToKw pos (keywordEach kws Y.X.env)).filterMap (·.1) = ks := by intro _; rfl)
    (he : starEach (e :: es) Y.X.env = (false, eval e Y.X.env) :: starEach es Y.X.env := by rfl) (hp : ∀ pos, ((backTo pos (starEach (e :: es) Y.X.env)).any (·.1) || (backToKw pos (keywordEach kws Y.X.env)).any (·.1.isNone)) = false := by intro _; rfl) : DC Y (e :: es) kws n ks (mApp n k m mk) := by
  obtain ⟨t, p, s⟩ := h.ex
  obtain ⟨t2, p2, s2⟩ := h2.ex
  refine ⟨tApp (tLen n t) (tLen k t2), ⟨hp, fun pos f pins s σ H Q I h => ?_⟩, snd_app s s2⟩
  refine evalArgs_kw2 (hall pos) (thn (p.run pos pins s σ H _ I h) fun us s1 ⟨vs, H1, I1, r, hn, q⟩ => ?_) he
  refine thn (p2.run pos pins s1 σ H1 _ I1 q) fun ws s2 ⟨zs, H2, I2, r2, hn2, q2⟩ => ?_
  rw [hks pos]
  exact ⟨us, ws, vs ++ zs, H2, rfl, by rw [← r.length]; exact hn, by rw [← r2.length, hk]; exact hn2, I2, r.append r2, q2⟩
end

/-! ### callees -/
def pick {α : Type} (pk : List Nat) (l : List α) : List α := pk.filterMap fun i => l[i]?
theorem paired_get {α β : Type} {P : α → β → Prop} : ∀ {xs : List α} {ys : List β}, Paired P xs ys → ∀ i : Nat, (xs[i]? = none ∧ ys[i]? = none) ∨ ∃ x y, xs[i]? = some x ∧ ys[i]? = some y ∧ P x y
  | _, _, .nil, i => .inl ⟨by simp, by simp⟩
  | _, _, .cons a b, 0 => .inr ⟨_, _, rfl, rfl, a⟩
  | _, _, .cons a b, i + 1 => by simpa using paired_get b i
theorem pick_paired {α β : Type} {P : α → β → Prop} {xs : List α} {ys : List β} (h : Paired P xs ys) : ∀ pk : List Nat, Paired P (pick pk xs) (pick pk ys)
  | [] => .nil
  | i :: pk => by
    unfold pick
    rw [List.filterMap_cons, List.filterMap_cons]
    rcases paired_get h i with ⟨e1, e2⟩ | ⟨x, y, e1, e2, p⟩
    · rw [e1, e2]; exact pick_paired h pk
    · rw [e1, e2]; exact .cons p (pick_paired h pk)
theorem pick_len {α : Type} {l : List α} : ∀ {pk : List Nat}, (∀ i ∈ pk, i < l.length) → (pick pk l).length = pk.length
  | [], _ => rfl
  | i :: pk, h => by
    unfold pick
    rw [List.filterMap_cons, List.getElem?_eq_getElem (h i List.mem_cons_self)]
    exact congrArg Nat.succ (pick_len fun j hj => h j (List.mem_cons_of_mem _ hj))
/-- how a def binds a call with n values by position and the names ks: pk picks, per parameter, out of values ++ named ++ defaults -/
structure Bd (K : PySem.W.Frag) (fd : FuncData) (ps : List Str) (n : Nat) (ks : List Str) (pk : List Nat) (dvs : List V) : Prop where
  to : ∃ ds : List Value, Vals dvs ds ∧ ∀ (s : Shared) (us ws : List Value), K.In s.heap → us.length = n → ws.length = ks.length → BindsTo s fd ⟨us, ks.zip ws⟩ (ps.zip (pick pk (us ++ ws ++ ds)))
  len : pk.length = ps.length
  rng : ∀ i ∈ pk, i < n + ks.length + dvs.length
structure Cal (Y : Cy) (f : Addr) (n : Nat) (ks : List Str) (g : List S → Ms → R S) : Prop where
  run : ∀ {pins : List (Addr × Obj)} {σ : L2.St} {H : Hp} {s : Shared} {w : Wd} {Q : VK} {us ws : List Value} {vs : List V} {ss : List S} {ms : Ms}, Inv Y.X pins σ H s → us.length = n → ws.length = ks.length → Vals vs (us ++ ws) → HR Y w H ms → SRs Y w ss vs →
    (g ss ms).post (okP Y w Q) (exP Y w σ) → codeAny (model Y.X.prog Y.X.w) Y.X.A (.call (.ref f) ⟨us, ks.zip ws⟩) (CalR Y pins σ Q) s
theorem cal_wp {Y : Cy} {f : Value} {us : List Value} {kw : List (Str × Value)} {pins : List (Addr × Obj)} {σ : L2.St} {Q : VK} {s : Shared} (h : codeAny (model Y.X.prog Y.X.w) Y.X.A (.call f ⟨us, kw⟩) (CalR Y pins σ Q) s) :
    wpAny (model Y.X.prog Y.X.w) Y.X.A (call f us kw) (EP Y.X pins σ Q) Y.X.xe s := by
  refine wpAny_call (codeAny_mono h fun r s' q => ?_)
  cases r with
  | error e => exact q
  | ok fl => cases fl <;> exact q
def bndS (sem : List S → Ms → R S) (pk : List Nat) (cs : List S) : List S → Ms → R S := fun ss ms => callSem sem (pick pk (ss ++ cs)) ms
section
variable {Y : Cy} {w w1 w2 : Wd} {σ : L2.St} {H H1 H2 : Hp} {env : Env} {ms ms1 ms2 : Ms} {o e : Expr} {es : List Expr} {kws : List Keyword} {m mk : Env → Ms → R (List S)} {me : Env → Ms → R S} {n j k : Nat} {ks ps : List Str} {f : Addr} {fd : FuncData} {sem g : List S → Ms → R S} {x : Str} {p apos pos : Pos}
theorem pick_rel {pk : List Nat} {ss : List S} {vs : List V} (h : SRs Y w ss vs) : SRs Y w (pick pk ss) (pick pk vs) := pick_paired h pk
theorem Cal.fn {pk : List Nat} {dvs : List V} {cs : List S} (ok : CyOk Y k) (F : DFY Y j f fd ps sem) (hj : j ≤ k) (hb : Bd Y.X.K fd ps n ks pk dvs) (hc : ∀ w, SRs Y w cs dvs) : Cal Y f n ks (bndS sem pk cs) := by
  refine ⟨fun {pins σ H s w Q us ws vs ss ms} I l1 l2 r hr sv h => ?_⟩
  obtain ⟨ds, rd, to⟩ := hb.to
  have r2 : Vals (pick pk (vs ++ dvs)) (pick pk (us ++ ws ++ ds)) := pick_paired (r.append rd) pk
  have l3 : vs.length = n + ks.length := by rw [r.length, List.length_append, l1, l2]
  have l4 : (pick pk (vs ++ dvs)).length = ps.length := by
    rw [pick_len, hb.len]
    intro i hi
    rw [List.length_append, l3]
    exact hb.rng i hi
  exact code_df ok F hj (to s us ws I.kIn l1 l2) l4 I r2 hr (pick_rel (sv.append (hc w))) h

def mCallN (g : List S → Ms → R S) (m : Env → Ms → R (List S)) : Env → Ms → R S := fun env ms => (m env ms).bind g
/-- x(..), x a name of the module for a def or a class -/
theorem e_callN (hcal : Cal Y f n ks g) (hg : Gl Y.X x) (hm : Y.X.mg x = some (.ref f)) (hk : PySem.W.keepIn Y.X.K (.ref f) = true) (ha : DC Y es kws n ks m) (hdb : (x == ("__debug__" : Str)) = false := by decide) :
    DE Y (.Call (.Name x p) es kws pos) (mCallN g m) := by
  obtain ⟨t, pa, sa⟩ := ha.ex
  refine ⟨fun σ H Q => t σ H fun vs H1 => ∃ (ss : List S) (ms : Ms) (w : Wd), HR Y w H1 ms ∧ SRs Y w ss vs ∧ (g ss ms).post (okP Y w Q) (exP Y w σ), ⟨fun pins s σ H Q I h => ?_⟩, fun w σ H env ms Q er hr h => ?_⟩
  · refine wpAny_Call_Name_kw (ld_glob I hg hm ?_ hdb)
    refine PySem.W.callWith_of (pa.plain pos) (PySem.W.keeps_K hk) (thn (pa.run pos _ pins s σ H _ I h) fun a s1 ⟨us, ws, vs, H1, ea, l1, l2, I1, r, ss, ms, w, hr, sv, q⟩ => ?_)
    subst ea
    exact ⟨I1.kIn, cal_wp (hcal.run I1 l1 l2 r hr sv q)⟩
  · refine sa.go er hr h fun ss ms1 w1 H1 vs e1 er1 hr1 sv h1 => ?_
    exact ⟨ss, ms1, w1, hr1, sv, R.post_mono h1 (fun _ _ z => z.ext e1) fun _ _ _ z => z⟩
/-- a method's callees, by the receiver's class -/
abbrev MTab := List (Nat × (List S → Ms → R S))
def mMeth (tab : MTab) (mo : Env → Ms → R S) (m : Env → Ms → R (List S)) : Env → Ms → R S := fun env ms => (mo env ms).bind fun x ms1 => match x with
  | .d (.obj c ds) => match tab.lookup c with
    | some g => (m env ms1).bind fun ss ms2 => g (.d (.obj c ds) :: ss) ms2
    | none => .bad
  | _ => .bad
/-- what a method of a class must have -/
structure MtOk (Y : Cy) (n : Nat) (ks : List Str) (mth : Str) (c : Nat) (g : List S → Ms → R S) : Prop where
  cls : Cls Y.X.K (Y.Γ.cls c)
  no : mth ∉ Y.Γ.fld c
  ex : ∃ f, Meth Y.X.K (Y.Γ.cls c) mth f ∧ Cal Y f (n + 1) ks g
inductive Tab {α : Type} (P : Nat → α → Prop) : List (Nat × α) → Prop where
  | nil : Tab P []
  | cons {c : Nat} {g : α} {r : List (Nat × α)} (h : P c g) (t : Tab P r) : Tab P ((c, g) :: r)
theorem Tab.at_ {α : Type} {P : Nat → α → Prop} {c : Nat} {g : α} : ∀ {l : List (Nat × α)}, Tab P l → l.lookup c = some g → P c g
  | _, .nil, h => by cases h
  | (c', g') :: r, .cons h t, e => by
    rw [List.lookup_cons] at e
    cases q : c == c' with
    | true =>
      rw [q] at e
      cases e
      rw [beq_iff_eq.mp q]; exact h
    | false => rw [q] at e; exact t.at_ e
theorem lookup_zip_none {α : Type} : ∀ {fs : List Str} {xs : List α} {f : Str}, f ∉ fs → (fs.zip xs).lookup f = none
  | [], _, _, _ => by simp
  | a :: fs, [], _, _ => by simp
  | a :: fs, x :: xs, f, h => by
    rw [List.zip_cons_cons, List.lookup_cons]
    have : (f == a) = false := beq_eq_false_iff_ne.mpr fun z => h (by subst z; exact List.mem_cons_self)
    rw [this]
    exact lookup_zip_none fun z => h (List.mem_cons_of_mem _ z)
theorem e_meth {tab : MTab} {mth : Str} {mo : Env → Ms → R S} {pl : Sem Bool} (ho : DE Y o mo) (ht : Tab (MtOk Y n ks mth) tab) (ha : DC Y es kws n ks m)
    (hc : eval (.Call (.Attribute o mth apos) es kws pos) Y.X.env = (do
      let ov ← eval o Y.X.env
      standAt apos.atName
      let (f, first) ← holding [ov] (getMethod ov mth pl)
      callWith pos f first (backTo pos (starEach es Y.X.env)) (backToKw pos (keywordEach kws Y.X.env))) := by rfl) :
    DE Y (.Call (.Attribute o mth apos) es kws pos) (mMeth tab mo m) := by
  obtain ⟨to, po, so⟩ := ho.ex
  obtain ⟨t, pa, sa⟩ := ha.ex
  refine ⟨fun σ H Q => to σ H fun x H1 => ∃ a c dx xs g, x = .ref a ∧ H1 a = some (.ins (Y.Γ.cls c) dx ((Y.Γ.fld c).zip xs)) ∧ MtOk Y n ks mth c g ∧ t σ H1 fun vs H2 => ∃ (ss : List S) (ms : Ms) (w : Wd), HR Y w H2 ms ∧ SRs Y w ss (x :: vs) ∧ (g ss ms).post (okP Y w Q) (exP Y w σ),
    ⟨fun pins s σ H Q I h => ?_⟩, fun w σ H env ms Q er hr h => ?_⟩
  · refine PySem.W.methodCall_KW (pl := pl) (thn (po.run pins s σ H _ I h) fun u s1 ⟨x, H1, I1, rx, a, c, dx, xs, g, ex, ea, mt, q⟩ => ?_) hc
    subst ex
    obtain rfl : u = Value.ref a := rx
    obtain ⟨f, hm, cal⟩ := mt.ex
    refine getmeth_ok I1 ea mt.cls hm (lookup_zip_none mt.no) ?_
    refine PySem.W.callWith_of (pa.plain pos) (PySem.W.keeps_K hm.kp) (thn (pa.run pos _ pins s1 σ H1 _ I1 q) fun b s2 ⟨us, ws, vs, H2, eb, l1, l2, I2, r, ss, ms, w, hr, sv, q2⟩ => ?_)
    subst eb
    exact ⟨I2.kIn, cal_wp (cal.run (us := .ref a :: us) (vs := .ref a :: vs) I2 (congrArg Nat.succ l1) l2 (show Vals (V.ref a :: vs) (Value.ref a :: (us ++ ws)) from .cons rfl r) hr sv q2)⟩
  · refine so.go er hr h fun x ms1 w1 H1 v e1 er1 hr1 sv h1 => ?_
    cases x with
    | loc i => exact h1.elim
    | exn c ds => exact h1.elim
    | d x =>
      cases x with
      | obj c ds =>
        obtain ⟨a, dx, xs, rfl, k1, k2, k3⟩ := sv
        dsimp only at h1
        cases hl : tab.lookup c with
        | none => rw [hl] at h1; exact h1.elim
        | some g =>
          rw [hl] at h1
          refine ⟨a, c, dx, xs, g, rfl, hr1.sub _ _ k1, ht.at_ hl, ?_⟩
          refine sa.go er1 hr1 h1 fun ss ms2 w2 H2 vs e2 er2 hr2 svs h2 => ?_
          exact ⟨_, ms2, w2, hr2, .cons (show SR Y w2 (.d (.obj c ds)) (.ref a) from ⟨a, dx, xs, rfl, e2.F _ _ k1, k2, DRs.mono e2.F _ _ k3⟩) svs, R.post_mono h2 (fun _ _ z => z.ext (e1.trans e2)) fun _ _ _ z => z⟩
      | _ => exact h1.elim
/-- C.m(..), m a classmethod, C a class by name or a name's value -/
structure CmOk (Y : Cy) (n : Nat) (ks : List Str) (mth : Str) (c : Nat) (g : List S → Ms → R S) : Prop where
  ex : ∃ mc q f, ClX.CRead Y.X.K (Y.Γ.fn c) mc ∧ ClX.CMet Y.X.K (Y.Γ.fn c) mc mth q f ∧ Cal Y f (n + 1) ks g
def mCMeth (tab : MTab) (mo : Env → Ms → R S) (m : Env → Ms → R (List S)) : Env → Ms → R S := fun env ms => (mo env ms).bind fun x ms1 => match x with
  | .d (.fn c) => match tab.lookup c with
    | some g => (m env ms1).bind fun ss ms2 => g (.d (.fn c) :: ss) ms2
    | none => .bad
  | _ => .bad
theorem e_cmeth {tab : MTab} {mth : Str} {mo : Env → Ms → R S} {pl : Sem Bool} (ho : DE Y o mo) (ht : Tab (CmOk Y n ks mth) tab) (ha : DC Y es kws n ks m)
    (hc : eval (.Call (.Attribute o mth apos) es kws pos) Y.X.env = (do
      let ov ← eval o Y.X.env
      standAt apos.atName
      let (f, first) ← holding [ov] (getMethod ov mth pl)
      callWith pos f first (backTo pos (starEach es Y.X.env)) (backToKw pos (keywordEach kws Y.X.env))) := by rfl) :
    DE Y (.Call (.Attribute o mth apos) es kws pos) (mCMeth tab mo m) := by
  obtain ⟨to, po, so⟩ := ho.ex
  obtain ⟨t, pa, sa⟩ := ha.ex
  refine ⟨fun σ H Q => to σ H fun x H1 => ∃ c g, x = .ref (Y.Γ.fn c) ∧ CmOk Y n ks mth c g ∧ t σ H1 fun vs H2 => ∃ (ss : List S) (ms : Ms) (w : Wd), HR Y w H2 ms ∧ SRs Y w ss (x :: vs) ∧ (g ss ms).post (okP Y w Q) (exP Y w σ),
    ⟨fun pins s σ H Q I h => ?_⟩, fun w σ H env ms Q er hr h => ?_⟩
  · refine PySem.W.methodCall_KW (pl := pl) (thn (po.run pins s σ H _ I h) fun u s1 ⟨x, H1, I1, rx, c, g, ex, mt, q⟩ => ?_) hc
    subst ex
    obtain rfl : u = Value.ref (Y.Γ.fn c) := rx
    obtain ⟨mc, qa, f, cr, cm, cal⟩ := mt.ex
    refine ClX.getmethcm_ok I1 cr cm fun s2 I2 => ?_
    have hq : ∀ {s' : Shared} {σ' : L2.St} {H' : Hp}, Inv Y.X ((s1.heap.objs.size, PySem.W.methodObj (.ref f) (.ref (Y.Γ.fn c))) :: pins) σ' H' s' → PySem.W.MethP Y.X.K s1.heap.objs.size f (.ref (Y.Γ.fn c)) s'.heap := fun I' => ⟨ClX.pin_at I', I'.kIn⟩
    show wpAny _ _ (callWith pos (.ref s1.heap.objs.size) [] _ _) _ _ _
    refine PySem.W.callWith_of (P := PySem.W.MethP Y.X.K s1.heap.objs.size f (.ref (Y.Γ.fn c))) (pa.plain pos) (PySem.W.keeps_M cm.fi) (thn (pa.run pos (.ref s1.heap.objs.size) _ s2 σ H1 _ I2 q) fun b s3 ⟨us, ws, vs, H2, eb, l1, l2, I3, r, ss, ms, w, hr, sv, q2⟩ => ?_)
    subst eb
    refine ⟨hq I3, ?_⟩
    have z := cal.run (us := .ref (Y.Γ.fn c) :: us) (vs := .ref (Y.Γ.fn c) :: vs) I3 (congrArg Nat.succ l1) l2 (show Vals (V.ref (Y.Γ.fn c) :: vs) (Value.ref (Y.Γ.fn c) :: (us ++ ws)) from .cons rfl r) hr sv q2
    exact thn (cal_wp (PySem.W.method_call (ClX.pin_at I3) z)) fun _ _ y => ClX.unpinE y
  · refine so.go er hr h fun x ms1 w1 H1 v e1 er1 hr1 sv h1 => ?_
    cases x with
    | loc i => exact h1.elim
    | exn c ds => exact h1.elim
    | d x =>
      cases x with
      | fn c =>
        cases sv
        dsimp only at h1
        cases hl : tab.lookup c with
        | none => rw [hl] at h1; exact h1.elim
        | some g =>
          rw [hl] at h1
          refine ⟨c, g, rfl, ht.at_ hl, ?_⟩
          refine sa.go er1 hr1 h1 fun ss ms2 w2 H2 vs e2 er2 hr2 svs h2 => ?_
          exact ⟨_, ms2, w2, hr2, .cons (show SR Y w2 (.d (.fn c)) (.ref (Y.Γ.fn c)) from rfl) svs, R.post_mono h2 (fun _ _ z => z.ext (e1.trans e2)) fun _ _ _ z => z⟩
      | _ => exact h1.elim
end
end Fw
set_option Elab.async false
set_option linter.all false
set_option maxRecDepth 100000
set_option maxHeartbeats 4000000
/-! Fw10: new instances, attributes read and written. -/
namespace Fw
open PySem L2 PySem.Spec PyProof.Rows

/-- a world without its last cell -/
def Wd.dropLast (w : Wd) : Wd := ⟨w.F, w.P, w.mu.dropLast⟩
section
variable {K : PySem.W.Frag} {Γ : G} {w w1 : Wd} {H H1 : Hp} {ms ms1 : Ms}
theorem HR0.sub_mu {F : Hp} {mu : List Addr} {ms2 : Ms} (h : HR0 K Γ w H ms) (hF : ∀ a o, w.F a = some o → F a = some o) (hs : ∀ a o, F a = some o → H a = some o) (hd : ∀ a o, w.P a = some o → F a = none) (len : mu.length = ms2.length)
    (hm : ∀ (n : Nat) a c, mu[n]? = some a → ms2[n]? = some c → w.mu[n]? = some a ∧ ms[n]? = some c ∧ (c ≠ .dead → F a = none)) : HR0 K Γ ⟨F, w.P, mu⟩ H ms2 := by
  refine ⟨hs, h.prot, hd, len, fun i j a c c' e1 e2 k1 k2 d1 d2 => ?_, fun n a c e k d => ?_, fun n a c e k => ?_⟩
  · obtain ⟨x1, x2, _⟩ := hm i a c e1 k1
    obtain ⟨y1, y2, _⟩ := hm j a c' e2 k2
    exact h.inj i j a c c' x1 y1 x2 y2 d1 d2
  · obtain ⟨x1, x2, x3⟩ := hm n a c e k
    exact ⟨x3 d, (h.sep n a c x1 x2 d).2⟩
  · obtain ⟨x1, x2, x3⟩ := hm n a c e k
    have q := h.cel n a c x1 x2
    cases c with
    | dead => trivial
    | lst ds => obtain ⟨xs, y1, y2⟩ := q; exact ⟨xs, y1, DRs.mono hF _ _ y2⟩
    | ins c fs => obtain ⟨dx, xs, y1, y2⟩ := q; exact ⟨dx, xs, y1, DRs.mono hF _ _ y2⟩
theorem dropLast_get {α : Type} {l : List α} {n : Nat} {x : α} (h : l.dropLast[n]? = some x) : l[n]? = some x ∧ n + 1 < l.length := by
  have hl : n < l.dropLast.length := (List.getElem?_eq_some_iff.mp h).1
  rw [List.length_dropLast] at hl
  refine ⟨?_, by omega⟩
  rw [List.getElem?_dropLast] at h
  rw [if_pos (by omega)] at h
  exact h
/-- the last cell is forgotten -/
theorem HR0.forget (h : HR0 K Γ w H ms) : HR0 K Γ w.dropLast H ms.dropLast := by
  refine h.sub_mu (fun _ _ z => z) h.sub h.dis (by show w.mu.dropLast.length = _; rw [List.length_dropLast, List.length_dropLast, h.len]) fun n a c e k => ?_
  have e := (dropLast_get e).1
  have k := (dropLast_get k).1
  exact ⟨e, k, fun d => (h.sep n a c e k d).1⟩
/-- the last cell is frozen -/
theorem HR0.freeze {n : Nat} {a : Addr} {c : Cell} {o : HO} (h : HR0 K Γ w H ms) (hn : w.mu.length = n + 1) (ha : w.mu[n]? = some a) (hc : ms[n]? = some c) (hd : c ≠ .dead) (ho : H a = some o) : HR0 K Γ ⟨upd w.F a o, w.P, w.mu.dropLast⟩ H ms.dropLast := by
  obtain ⟨nF, nP⟩ := h.sep n a c ha hc hd
  refine h.sub_mu (fun b u e => ?_) (fun b u e => ?_) (fun b u e => ?_) (by rw [List.length_dropLast, List.length_dropLast, h.len]) fun m b d e k => ?_
  · have : b ≠ a := fun z => by subst z; rw [nF] at e; cases e
    rw [upd_ne this]; exact e
  · by_cases z : b = a
    · subst z; rw [upd_same] at e; rw [← e]; exact ho
    · rw [upd_ne z] at e; exact h.sub b u e
  · have : b ≠ a := fun z => by subst z; rw [nP] at e; cases e
    rw [upd_ne this]; exact h.dis b u e
  · obtain ⟨e, hl⟩ := dropLast_get e
    have k := (dropLast_get k).1
    refine ⟨e, k, fun dd => ?_⟩
    have : b ≠ a := fun z => by
      subst z
      have := h.inj m n b d c e ha k hc dd hd
      omega
    rw [upd_ne this]
    exact (h.sep m b d e k dd).1
end
section
variable {Y : Cy} {w w1 w2 : Wd} {σ : L2.St} {H H1 H2 : Hp} {env : Env} {ms ms1 ms2 : Ms} {o e : Expr} {es : List Expr} {kws : List Keyword} {m mk : Env → Ms → R (List S)} {me : Env → Ms → R S} {n j k : Nat} {ks ps : List Str} {f : Addr} {fd : FuncData} {sem g : List S → Ms → R S} {x : Str} {p apos pos : Pos}
/-- the callee runs within other frames of the machine -/
theorem code_dfA {A : Around} {pins : List (Addr × Obj)} {σ : L2.St} {H : Hp} {s : Shared} {w : Wd} {Q : VK} {us ws : List Value} {vs : List V} {ss : List S} {ms : Ms} {kw : List (Str × Value)} (tk : Takes Y.X Y.W) (hr : Room j A) (gd : A.guards = some []) (F : DFY Y j f fd ps sem)
    (hb : BindsTo s fd ⟨us, kw⟩ (ps.zip ws)) (hl : vs.length = ps.length) (I : Inv Y.X pins σ H s) (e0 : Env0 Y.X.prog Y.X.w Y.X.K Y.X.mg Y.X.base A Y.X.stack s H) (r : Vals vs ws) (hh : HR Y w H ms) (sv : SRs Y w ss vs) (h : (callSem sem ss ms).post (okP Y w Q) (exP Y w σ)) :
    codeAny (model Y.X.prog Y.X.w) A (.call (.ref f) ⟨us, kw⟩) (CalR Y pins σ Q) s := by
  obtain ⟨wc, mc, sc, hr1, s1, h2⟩ := call_post hh sv h
  refine codeAny_mono (F.run A Y.X.stack s H ⟨us, kw⟩ ws vs sc mc wc Q _ hr gd e0 hb r hl hr1 s1 h2) fun res s' hq => ?_
  cases res with
  | error er => exact tk er s' (XE.of_call I (fun _ _ _ z => z) hq)
  | ok fl =>
    cases fl with
    | ret u => exact I.after hq
    | next => exact False.elim hq
    | brk => exact False.elim hq
    | cont => exact False.elim hq
theorem make_guards {A : Around} {C : Addr} {us : List Value} {kw : List (Str × Value)} : (A.under (.builtin "type.__call__" ⟨.ref C :: us, kw⟩)).guards = A.guards := by
  first | rfl | simp [Around.under, Code.guards, pushGuards]
theorem HR0.junk {K : PySem.W.Frag} {Γ : G} {w : Wd} {H : Hp} {ms : Ms} {p : Addr} {o : HO} (h : HR0 K Γ w H ms) (hp : H p = none) : HR0 K Γ w (upd H p o) ms :=
  ⟨fun a u e => by rw [upd_ne (ne_of_none (h.sub a u e) hp)]; exact h.sub a u e, fun a u e => by rw [upd_ne (ne_of_none (h.prot a u e) hp)]; exact h.prot a u e, h.dis, h.len, h.inj, h.sep,
    fun n a c hm hc => (h.cel n a c hm hc).mono (Ext.refl w) fun u e => by rw [upd_ne (ne_of_none e hp)]; exact e⟩
theorem Ext.dropLast {w : Wd} {x : Addr} {w' : Wd} {F : Hp} (e : Ext ⟨w.F, w.P, w.mu ++ [x]⟩ w') (l : w'.mu.length = w.mu.length + 1) (hF : ∀ a o, w'.F a = some o → w.F a = some o → F a = some o) : Ext w ⟨F, w'.P, w'.mu.dropLast⟩ := by
  refine ⟨fun a o h => hF a o (e.F a o h) h, fun n a h => ?_, e.P⟩
  have hn : n < w.mu.length := (List.getElem?_eq_some_iff.mp h).1
  have h2 := e.mu n a (by show (w.mu ++ [x])[n]? = _; rw [List.getElem?_append_left hn]; exact h)
  show w'.mu.dropLast[n]? = _
  rw [List.getElem?_dropLast, if_pos (by omega)]
  exact h2
/-- C(..): a new instance, its __init__, then it is frozen -/
def mkS (c : Nat) (fs : List Str) (g : List S → Ms → R S) : List S → Ms → R S := fun ss ms => match g (.loc ms.length :: ss) (ms ++ [.ins c []]) with
  | .ok (.d .non) ms' => match Nat.beq ms'.length (ms.length + 1), ms'[ms.length]? with
    | true, some (.ins c' kvs) => match Nat.beq c' c && decide (kvs.map (·.1) = fs) with
      | true => .ok (.d (.obj c (kvs.map (·.2)))) ms'.dropLast
      | false => .bad
    | _, _ => .bad
  | .ex k ds ms' => match Nat.beq ms'.length (ms.length + 1) with
    | true => .ex k ds ms'.dropLast
    | false => .bad
  | _ => .bad
theorem mk_post {c : Nat} {x dx : Addr} {ss : List S} {Q : VK} (hr : HR Y w H ms) (hx : H x = none) (hd : H dx = none) (ne : dx ≠ x) (h : (mkS c (Y.Γ.fld c) g ss ms).post (okP Y w Q) (exP Y w σ)) :
    HR Y ⟨w.F, w.P, w.mu ++ [x]⟩ (upd (upd H dx (.own x)) x (.ins (Y.Γ.cls c) dx [])) (ms ++ [.ins c []]) ∧ Ext w ⟨w.F, w.P, w.mu ++ [x]⟩ ∧
      (g (.loc ms.length :: ss) (ms ++ [.ins c []])).post (okP Y ⟨w.F, w.P, w.mu ++ [x]⟩ fun v H' => v = .non ∧ Q (.ref x) H') (exP Y ⟨w.F, w.P, w.mu ++ [x]⟩ σ) := by
  have h1 : HR Y w (upd H dx (.own x)) ms := hr.junk hd
  have hx' : (upd H dx (.own x)) x = none := by rw [upd_ne (Ne.symm ne)]; exact hx
  obtain ⟨h2, e2⟩ := h1.cell (o := .ins (Y.Γ.cls c) dx []) (c := .ins c []) hx' ⟨dx, [], upd_same, rfl⟩
  refine ⟨h2, e2, ?_⟩
  have mx : ∀ {w' : Wd}, Ext ⟨w.F, w.P, w.mu ++ [x]⟩ w' → w'.mu[ms.length]? = some x := fun {w'} e => e.mu _ _ (by show (w.mu ++ [x])[ms.length]? = _; rw [← hr.len]; simp)
  unfold mkS at h
  cases hg : g (.loc ms.length :: ss) (ms ++ [.ins c []]) with
  | bad => rw [hg] at h; exact h.elim
  | ex k ds ms' =>
    rw [hg] at h
    dsimp only at h
    cases hb : Nat.beq ms'.length (ms.length + 1) with
    | false => rw [hb] at h; exact h.elim
    | true =>
      rw [hb] at h
      have hb := Nat.eq_of_beq_eq_true hb
      intro w' H' dd e' hr' xd
      exact h w'.dropLast H' dd (e'.dropLast (by rw [hr'.len, hb, hr.len]) fun a o z _ => z) hr'.forget xd
  | ok s ms' =>
    rw [hg] at h
    split at h
    · rename_i ms'' heq
      injection heq with q1 q2
      subst q1 q2
      split at h
      · rename_i c' kvs hl hc
        cases hb : (Nat.beq c' c && decide (kvs.map (·.1) = Y.Γ.fld c)) with
        | false => rw [hb] at h; exact h.elim
        | true =>
          rw [hb] at h
          obtain ⟨b1, b2⟩ := Bool.and_eq_true_iff.mp hb
          have b1 := Nat.eq_of_beq_eq_true b1
          have b2 := of_decide_eq_true b2
          subst b1
          have hl := Nat.eq_of_beq_eq_true hl
          intro w' H' v e' hr' sv
          refine ⟨sv, ?_⟩
          have hm := mx e'
          obtain ⟨d', xs, k1, k2⟩ := hr'.cel _ _ _ hm hc
          rw [b2] at k1
          have lx : w'.mu.length = w.mu.length + 1 := by rw [hr'.len, hl, hr.len]
          have nd : Cell.ins c' kvs ≠ .dead := by intro z; cases z
          have fr := hr'.freeze (by rw [lx, hr.len]) hm hc nd k1
          have ex : Ext w ⟨upd w'.F x (.ins (Y.Γ.cls c') d' ((Y.Γ.fld c').zip xs)), w'.P, w'.mu.dropLast⟩ := e'.dropLast lx fun a o z1 z2 => by
            rw [upd_ne (ne_of_none (hr.sub a o z2) hx)]; exact z1
          refine h _ H' _ ex fr ⟨x, d', xs, rfl, upd_same, ?_, ?_⟩
          · rw [← DRs.length k2, ← b2, List.length_map, List.length_map]
          · refine DRs.mono (fun a o z => ?_) _ _ k2
            show upd w'.F x _ a = some o
            rw [upd_ne]
            · exact z
            · intro z2
              subst z2
              rw [(hr'.sep _ _ _ hm hc nd).1] at z
              cases z
      · exact h.elim
    · exact absurd ‹R.ok s ms' = R.ex _ _ _› (by intro z; cases z)
    · exact h.elim
theorem Cal.make {pk : List Nat} {dvs : List V} {cs : List S} {c : Nat} {C : Addr} (ok : CyOk Y k) (M : Mk Y.X.K C f) (hC : Y.Γ.cls c = C) (F : DFY Y j f fd ps sem) (hj : j + 1 ≤ k) (hb : Bd Y.X.K fd ps (n + 1) ks pk dvs) (hc : ∀ w, SRs Y w cs dvs) : Cal Y C n ks (mkS c (Y.Γ.fld c) (bndS sem pk cs)) := by
  subst hC
  refine ⟨fun {pins σ H s w Q us ws vs ss ms} I l1 l2 r hr sv h => ?_⟩
  have I2 := Inv.made (C := Y.Γ.cls c) I
  have hx : H (s.heap.objs.size + 1) = none := I.hok.fresh (Nat.le_succ _)
  have hdx : H s.heap.objs.size = none := I.hok.fresh (Nat.le_refl _)
  have ne : s.heap.objs.size ≠ s.heap.objs.size + 1 := Nat.ne_of_lt (Nat.lt_succ_self _)
  obtain ⟨hr2, e2, q2⟩ := mk_post hr hx hdx ne h
  obtain ⟨ds, rd, to⟩ := hb.to
  have sv2 : SRs Y ⟨w.F, w.P, w.mu ++ [s.heap.objs.size + 1]⟩ (.loc ms.length :: ss) (.ref (s.heap.objs.size + 1) :: vs) :=
    .cons ⟨_, by show (w.mu ++ [s.heap.objs.size + 1])[ms.length]? = _; rw [← hr.len]; simp, rfl⟩ (sv.mono e2)
  have r1 : Vals (V.ref (s.heap.objs.size + 1) :: vs) (Value.ref (s.heap.objs.size + 1) :: us ++ ws) := .cons rfl r
  have r2 : Vals (pick pk (V.ref (s.heap.objs.size + 1) :: vs ++ dvs)) (pick pk (Value.ref (s.heap.objs.size + 1) :: us ++ ws ++ ds)) := pick_paired (r1.append rd) pk
  have l3 : vs.length = n + ks.length := by rw [r.length, List.length_append, l1, l2]
  have l4 : (pick pk (V.ref (s.heap.objs.size + 1) :: vs ++ dvs)).length = ps.length := by
    rw [pick_len, hb.len]
    intro i hi
    have := hb.rng i hi
    simp only [List.cons_append, List.length_cons, List.length_append, l3]
    omega
  refine make_map (f := f) I.kIn M.makes M.init (beq_iff_eq.mp M.fn) (codeAny_mono (code_dfA (us := Value.ref (s.heap.objs.size + 1) :: us) ok.tk ((ok.hr.mono hj).make _ us (ks.zip ws)) (by rw [make_guards]; exact ok.gd) F
    (to _ (Value.ref (s.heap.objs.size + 1) :: us) ws I2.kIn (congrArg Nat.succ l1) l2) l4 I2 (I2.env0.make _ us (ks.zip ws)) r2 hr2 (pick_rel (sv2.append (hc _))) q2) fun r s' hq => ?_)
  cases r with
  | error e => exact hq
  | ok fl =>
    cases fl with
    | ret u =>
      obtain ⟨v, H', I3, rv, ev, q3⟩ := hq
      subst ev
      exact ⟨rv, ⟨V.ref (s.heap.objs.size + 1), H', I3, rfl, q3⟩⟩
    | next => exact False.elim hq
    | brk => exact False.elim hq
    | cont => exact False.elim hq
end
end Fw
set_option Elab.async false
set_option linter.all false
set_option maxRecDepth 100000
set_option maxHeartbeats 4000000
/-! Fw11: attributes, subscripts, isinstance. -/
namespace Fw
open PySem L2 PySem.Spec PyProof.Rows

section
variable {Y : Cy} {w w1 w2 : Wd} {σ : L2.St} {H H1 H2 : Hp} {env : Env} {ms ms1 ms2 : Ms} {Ed : Ends} {o e : Expr} {es : List Expr} {m mk : Env → Ms → R (List S)} {me mo : Env → Ms → R S} {n j k : Nat} {ks ps : List Str} {f : Addr} {fd : FuncData} {sem g : List S → Ms → R S} {x fl : Str} {p apos pos : Pos}
/-! ### e.f -/
def fldG (i : Nat) : List D → Ms → R S := fun ds ms => match ds[i]? with
  | some d => .ok (.d d) ms
  | none => .bad
def noEx (r : R S) : R S := match r with
  | .ok s ms => .ok s ms
  | .ex _ _ _ => .bad
  | .bad => .bad
def propG (c : Nat) (g : List S → Ms → R S) : List D → Ms → R S := fun ds ms => noEx (g [.d (.obj c ds)] ms)
/-- Y where no exception may leave -/
def Cy.nox (Y : Cy) : Cy := ⟨Y.X.nox, Y.Γ, fun _ _ _ _ => False, Y.ea, Y.ed, Y.ec⟩
def AtG (Y : Cy) (fl : Str) (c : Nat) (g : List D → Ms → R S) : Prop :=
  ∀ {pins : List (Addr × Obj)} {s : Shared} {σ : L2.St} {H : Hp} {a dx : Addr} {xs : List V} {ds : List D} {w : Wd} {ms : Ms} {Q : VK} {E : Value → Shared → Prop}, Inv Y.X pins σ H s → w.F a = some (.ins (Y.Γ.cls c) dx ((Y.Γ.fld c).zip xs)) → (Y.Γ.fld c).length = xs.length → DRs Y.X.K Y.Γ w.F ds xs → HR Y w H ms →
    (g ds ms).post (okP Y w Q) (fun _ _ _ => False) → wpAny (model Y.X.prog Y.X.w) Y.X.A (getAttr (.ref a) fl true) (EP Y.X pins σ Q) E s
theorem zip_at : ∀ {fs : List Str} {xs : List V} {i : Nat} {v : V}, fs[i]? = some fl → (∀ j, j < i → fs[j]? ≠ some fl) → xs[i]? = some v → (fs.zip xs).lookup fl = some v
  | [], _, _, _, h, _, _ => by simp at h
  | a :: fs, [], _, _, _, _, h => by simp at h
  | a :: fs, x :: xs, 0, v, h, _, h2 => by
    simp at h h2
    subst h h2
    rw [List.zip_cons_cons, List.lookup_cons, beq_self_eq_true]
  | a :: fs, x :: xs, i + 1, v, h, h3, h2 => by
    rw [List.zip_cons_cons, List.lookup_cons]
    have : (fl == a) = false := beq_eq_false_iff_ne.mpr fun z => h3 0 (Nat.succ_pos _) (by subst z; rfl)
    rw [this]
    exact zip_at (by simpa using h) (fun j hj => by simpa using h3 (j + 1) (Nat.succ_lt_succ hj)) (by simpa using h2)
theorem at_fld {c i : Nat} (hc : Cls Y.X.K (Y.Γ.cls c)) (hn : NoAttr Y.X.K (Y.Γ.cls c) fl) (hi : (Y.Γ.fld c)[i]? = some fl) (hj : ((Y.Γ.fld c).take i).contains fl = false) : AtG Y fl c (fldG i) := by
  intro pins s σ H a dx xs ds w ms Q E I ea lx r hr q
  unfold fldG at q
  cases hd : ds[i]? with
  | none => rw [hd] at q; exact q.elim
  | some d =>
    rw [hd] at q
    obtain ⟨v, hv, rv⟩ := DRs.get r hd
    refine getattr_ok I (hr.sub _ _ ea) hc hn (zip_at hi (fun j h z => ?_) hv) fun u s' I' ru => ⟨v, H, I', ru, q.at (Ext.refl w) hr rv⟩
    have : fl ∈ (Y.Γ.fld c).take i := List.mem_of_getElem? (i := j) (by rw [List.getElem?_take, if_pos h]; exact z)
    have z2 := List.contains_iff_mem.mpr this
    rw [hj] at z2
    cases z2
theorem at_prop {c : Nat} {pa ga : Addr} {pk : List Nat} {dvs : List V} {cs : List S} (ok : CyOk Y k) (hc : Cls Y.X.K (Y.Γ.cls c)) (hp : PropOf Y.X.K (Y.Γ.cls c) fl pa ga) (F : DFY Y j ga fd ps sem) (hj : j + 1 ≤ k) (hb : Bd Y.X.K fd ps 1 [] pk dvs) (hcs : ∀ w, SRs Y w cs dvs) : AtG Y fl c (propG c (bndS sem pk cs)) := by
  intro pins s σ H a dx xs ds w ms Q E I ea lx r hr q
  obtain ⟨mA, O, _, _, _, _⟩ := ins_get I.hok (hr.sub _ _ ea)
  obtain ⟨od, J, _⟩ := O.look
  obtain ⟨rest, hrec⟩ := hp.rec_
  have I1 := I.tok (s.toks + 1)
  have hcl : (PySem.W.clsIn Y.X.K (Y.Γ.cls c)).isSome = true := by
    obtain ⟨cd, e1, _⟩ := PySem.W.any_some hc.hd
    rw [e1]
    rfl
  refine PySem.W.get_bind I.kIn J (PySem.W.plainGet_of (hc.get fl)).1 (PySem.W.findObj_data hcl hp.at_ hp.get hp.tak) (PySem.W.plainGet_of (hc.get fl)).2 (wpAny_call (PySem.W.prop_get (s := { s with toks := s.toks + 1 }) I.kIn hrec ?_))
  obtain ⟨dl, rd, to⟩ := hb.to
  have q2 : (callSem sem (pick pk ([S.d (.obj c ds)] ++ cs)) ms).post (okP Y.nox w Q) (exP Y.nox w σ) := by
    unfold propG noEx at q
    have q : (match callSem sem (pick pk ([S.d (.obj c ds)] ++ cs)) ms with
      | .ok s ms => R.ok s ms
      | .ex _ _ _ => .bad
      | .bad => .bad).post (okP Y w Q) (fun _ _ _ => False) := q
    cases hcall : callSem sem (pick pk ([S.d (.obj c ds)] ++ cs)) ms with
    | bad => rw [hcall] at q; exact q
    | ex _ _ _ => rw [hcall] at q; exact q.elim
    | ok s' ms' =>
      rw [hcall] at q
      intro w' H' v e' hr' sv
      refine q w' H' v e' hr' ?_
      cases s' <;> exact sv
  have sv0 : SRs Y.nox w ([S.d (.obj c ds)] ++ cs) (V.ref a :: dvs) := .cons ⟨a, dx, xs, rfl, ea, lx, r⟩ (Paired.mapP (hcs w) fun x v z => by cases x <;> exact z)
  have r2 : Vals (pick pk (V.ref a :: dvs)) (pick pk ([Value.ref a] ++ [] ++ dl)) := pick_paired (show Vals (V.ref a :: dvs) ([Value.ref a] ++ [] ++ dl) from .cons rfl rd) pk
  have l4 : (pick pk (V.ref a :: dvs)).length = ps.length := by
    rw [pick_len, hb.len]
    intro i hi
    have := hb.rng i hi
    simp only [List.length_nil, List.length_cons] at this ⊢
    omega
  refine codeAny_mono (code_dfA (Y := Y.nox) takes_none5 (ok.hr.mono hj).in1 ok.gd F (to { s with toks := s.toks + 1 } [.ref a] [] I1.kIn rfl rfl) l4 (I1.wish _) I1.env0.in1 r2 hr (pick_rel sv0) q2) fun rr s' hq => ?_
  cases rr with
  | error er => exact False.elim hq
  | ok fw =>
    cases fw with
    | ret u =>
      obtain ⟨v, H', I3, rv, q3⟩ := hq
      show wpAny _ _ (handedOut u) _ _ _
      rw [PySem.W.handedOut_of (handed_of rv)]
      exact wpAny_pure ⟨v, H', I3.unwish, rv, q3⟩
    | next => exact False.elim hq
    | brk => exact False.elim hq
    | cont => exact False.elim hq
abbrev ATab := List (Nat × (List D → Ms → R S))
/-- e.f: a frozen instance by its class; a cell: its field -/
def mAttr (fl : Str) (tab : ATab) (mo : Env → Ms → R S) : Env → Ms → R S := fun env ms => (mo env ms).bind fun x ms1 => match x with
  | .d (.obj c ds) => match tab.lookup c with
    | some g => noEx (g ds ms1)
    | none => .bad
  | _ => .bad
theorem noEx_post {r : R S} {P : S → Ms → Prop} {E E' : Nat → List D → Ms → Prop} (h : (noEx r).post P E) : r.post P E' := by
  cases r with
  | ok s ms => exact h
  | ex c ds ms => exact h.elim
  | bad => exact h
theorem e_attr {tab : ATab} (ho : DE Y o mo) (ht : Tab (AtG Y fl) tab) (hb : attributeBase o fl Y.X.env (eval o Y.X.env) = eval o Y.X.env := by rfl) : DE Y (.Attribute o fl pos) (mAttr fl tab mo) := by
  obtain ⟨to, po, so⟩ := ho.ex
  refine ⟨fun σ H Q => to σ H fun v H1 => ∃ a c dx xs ds w ms g, v = .ref a ∧ w.F a = some (.ins (Y.Γ.cls c) dx ((Y.Γ.fld c).zip xs)) ∧ (Y.Γ.fld c).length = xs.length ∧ DRs Y.X.K Y.Γ w.F ds xs ∧ HR Y w H1 ms ∧ AtG Y fl c g ∧ (g ds ms).post (okP Y w Q) (fun _ _ _ => False),
    ⟨fun pins s σ H Q I h => ?_⟩, fun w σ H env ms Q er hr h => ?_⟩
  · refine attr_of hb (thn (po.run pins s σ H _ I h) fun u s1 ⟨v, H1, I1, rx, a, c, dx, xs, ds, w, ms, g, ev, ea, lx, r, hr, ag, q⟩ => ?_)
    subst ev
    obtain rfl : u = Value.ref a := rx
    exact ag I1 ea lx r hr q
  · refine so.go er hr h fun x ms1 w1 H1 v e1 er1 hr1 sv h1 => ?_
    cases x with
    | loc i => exact h1.elim
    | exn c ds => exact h1.elim
    | d x =>
      cases x with
      | obj c ds =>
        obtain ⟨a, dx, xs, rfl, k1, k2, k3⟩ := sv
        dsimp only at h1
        cases hl : tab.lookup c with
        | none => rw [hl] at h1; exact h1.elim
        | some g =>
          rw [hl] at h1
          exact ⟨a, c, dx, xs, ds, w1, ms1, g, rfl, k1, k2, k3, hr1, ht.at_ hl, R.post_mono (noEx_post h1) (fun _ _ z => z.ext e1) fun _ _ _ z => z⟩
      | _ => exact h1.elim
/-! ### o.f = e, o under construction -/
def putD (f : Str) (v : D) : List (Str × D) → List (Str × D)
  | [] => [(f, v)]
  | (g, x) :: r => match decide (g = f) with
    | true => (g, v) :: r
    | false => (g, x) :: putD f v r
theorem putD_rel {F : Hp} {v : D} {y : V} (hv : DR Y.X.K Y.Γ F v y) : ∀ {fs : List (Str × D)} {xs : List V}, DRs Y.X.K Y.Γ F (fs.map (·.2)) xs → ∃ ys, putF fl y ((fs.map (·.1)).zip xs) = ((putD fl v fs).map (·.1)).zip ys ∧ DRs Y.X.K Y.Γ F ((putD fl v fs).map (·.2)) ys
  | [], _, h => by cases h; exact ⟨[y], rfl, ⟨y, [], rfl, hv, rfl⟩⟩
  | (g, d) :: r, _, h => by
    obtain ⟨x, xs, rfl, h2, h3⟩ := h
    by_cases z : g = fl
    · refine ⟨y :: xs, ?_, ?_⟩
      · simp only [putD, List.map_cons, List.zip_cons_cons, putF, z, decide_true, if_pos]
      · simp only [putD, z, decide_true]
        exact ⟨y, xs, rfl, hv, h3⟩
    · obtain ⟨ys, e1, e2⟩ := putD_rel hv h3
      refine ⟨x :: ys, ?_, ?_⟩
      · simp only [putD, List.map_cons, List.zip_cons_cons, putF, decide_eq_false z, if_neg z]
        rw [e1]
      · simp only [putD, decide_eq_false z]
        exact ⟨x, ys, rfl, h2, e2⟩
def sFldS (fl : Str) (cs : List Nat) (me mo : Env → Ms → R S) : Env → Ms → T := fun env ms => T.ofE (me env ms) env fun y ms1 => T.ofE (mo env ms1) env fun x ms2 => match x, y with
  | .loc n, .d v => match ms2[n]? with
    | some (.ins c fs) => match cs.contains c && Nat.blt fs.length 1000 with
      | true => .nx env (ms2.set n (.ins c (putD fl v fs)))
      | false => .bad
    | _ => .bad
  | _, _ => .bad
theorem s_fld {pos' : Pos} {cs : List Nat} (he : DE Y e me) (ho : DE Y o mo) (hc : ∀ c ∈ cs, Cls Y.X.K (Y.Γ.cls c) ∧ NoAttr Y.X.K (Y.Γ.cls c) fl) (hs : swapsWith e (some (.Attribute o fl pos')) pos.line Y.X.env = pure false := by rfl) : DS Y (.Assign [.Attribute o fl pos'] e pos) (sFldS fl cs me mo) := by
  obtain ⟨te, pe, se⟩ := he.ex
  obtain ⟨to, po, so⟩ := ho.ex
  refine ⟨_, ps_fld po pe hs, fun w σ H env ms Ed er hr h => ?_⟩
  refine se.goS er hr h fun y ms1 w1 H1 v e1 er1 hr1 sv h1 => ?_
  refine so.goS er1 hr1 h1 fun x ms2 w2 H2 u e2 er2 hr2 su h2 => ?_
  cases x with
  | d x => exact h2.elim
  | exn c ds => exact h2.elim
  | loc i =>
    cases y with
    | loc _ => exact h2.elim
    | exn _ _ => exact h2.elim
    | d y =>
      dsimp only at h2
      obtain ⟨a, ha, rfl⟩ := su
      cases hi : ms2[i]? with
      | none => rw [hi] at h2; exact h2.elim
      | some cl =>
        rw [hi] at h2
        cases cl with
        | lst _ => exact h2.elim
        | dead => exact h2.elim
        | ins c fs =>
          dsimp only at h2
          cases hb : (cs.contains c && Nat.blt fs.length 1000) with
          | false => rw [hb] at h2; exact h2.elim
          | true =>
            rw [hb] at h2
            obtain ⟨b1, b2⟩ := Bool.and_eq_true_iff.mp hb
            obtain ⟨k1, k2⟩ := hc c (List.contains_iff_mem.mp b1)
            obtain ⟨dx, xs, q1, q2⟩ := hr2.cel i a _ ha hi
            have sv2 : DR Y.X.K Y.Γ w2.F y v := DR.mono e2.F _ _ sv
            obtain ⟨ys, z1, z2⟩ := putD_rel (fl := fl) sv2 q2
            refine ⟨a, _, dx, _, rfl, q1, k1, k2, ?_, ?_⟩
            · rw [List.length_zip, List.length_map]
              have : fs.length < 1000 := by simpa [Nat.blt_eq] using b2
              omega
            · refine h2 w2 _ σ (Ext.refl w2) (hr2.write ha hi (by intro z; cases z) ?_) er2
              exact ⟨dx, ys, by rw [upd_same, z1], z2⟩

/-! ### o[i] -/
def ixD (d : D) (i : Int) : Option D := match d with
  | .lst ds => atI ds i
  | .frz ds => atI ds i
  | .tup ds => atI ds i
  | .str z => match few z.length with
    | true => (atI z.cps.toList i).map fun c => .str ⟨#[c]⟩
    | false => none
  | _ => none
def gIx : S → S → Ms → R S := fun x y ms => match y with
  | .d (.int i) => match (view x ms).bind (ixD · i) with
    | some d => .ok (.d d) ms
    | none => .bad
  | _ => .bad
theorem gIx_ne : ∀ x y ms c ds ms', gIx x y ms ≠ .ex c ds ms' := by
  intro x y ms c ds ms' h
  unfold gIx at h
  split at h
  · split at h <;> cases h
  · cases h
theorem atI_rel {F : Hp} {ds : List D} {xs : List V} {i : Int} {d : D} (r : DRs Y.X.K Y.Γ F ds xs) (h : atI ds i = some d) : ∃ v, atI xs i = some v ∧ DR Y.X.K Y.Γ F d v := by
  unfold atI at h ⊢
  rw [← DRs.length r]
  obtain ⟨j, h1, h2⟩ := Option.bind_eq_some_iff.mp h
  rw [h1]
  exact DRs.get r h2
theorem ix_rel : SndR2 Y (rIx Y.X.K) gIx := by
  intro w H ms x y u v Q hr sx sy h
  unfold gIx at h
  split at h
  · rename_i i
    cases sy
    split at h
    · rename_i d hd
      obtain ⟨dx, h1, h2⟩ := Option.bind_eq_some_iff.mp hd
      cases dx with
      | lst ds =>
        obtain ⟨a, xs, rfl, k1, k2⟩ := view_list h1 hr sx
        obtain ⟨z, z1, z2⟩ := atI_rel k2 h2
        exact .inl ⟨a, xs, i, z, rfl, rfl, SqL.of k1, z1, h.at (Ext.refl w) hr z2⟩
      | frz ds =>
        obtain ⟨a, xs, rfl, k1, k2⟩ := view_notlist h1 (by intro ds z; cases z) sx
        obtain ⟨z, z1, z2⟩ := atI_rel k2 h2
        exact .inl ⟨a, xs, i, z, rfl, rfl, sqL_mono k1 hr.sub, z1, h.at (Ext.refl w) hr z2⟩
      | tup ds =>
        obtain ⟨a, xs, rfl, k1, k2⟩ := view_notlist h1 (by intro ds z; cases z) sx
        obtain ⟨z, z1, z2⟩ := atI_rel k2 h2
        exact .inr (.inl ⟨a, xs, i, z, rfl, rfl, sqT_mono k1 hr.sub, z1, h.at (Ext.refl w) hr z2⟩)
      | str z =>
        cases view_notlist h1 (by intro ds z; cases z) sx
        unfold ixD at h2
        dsimp only at h2
        cases fz : few z.length with
        | false => rw [fz] at h2; cases h2
        | true =>
          rw [fz] at h2
          obtain ⟨c, c1, rfl⟩ := Option.map_eq_some_iff.mp h2
          exact .inr (.inr ⟨z, i, c, rfl, rfl, few_ok fz, c1, h.at (Ext.refl w) hr rfl⟩)
      | _ => cases h2
    · exact h.elim
  · exact h.elim
theorem e_ix {i : Expr} {mi : Env → Ms → R S} (ho : DE Y o mo) (hi : DE Y i mi) (hs : PlainIx i := by intro _ _; rfl) : DE Y (.Subscript o i pos) (mOp gIx mo mi) := by
  obtain ⟨to, po, so⟩ := ho.ex
  obtain ⟨ti, pi, si⟩ := hi.ex
  exact ⟨_, pe_ix ix_seq po pi hs, snd_op gIx_ne ix_rel so si⟩
/-- o[i] = e, o a cell -/
def sSub (me mo mi : Env → Ms → R S) : Env → Ms → T := fun env ms => T.ofE (me env ms) env fun y ms1 => T.ofE (mo env ms1) env fun x ms2 => T.ofE (mi env ms2) env fun i ms3 => match x, y, i with
  | .loc n, .d v, .d (.int i) => match ms3[n]? with
    | some (.lst ds) => match ixN ds.length i with
      | some j => .nx env (ms3.set n (.lst (ds.set j v)))
      | none => .bad
    | _ => .bad
  | _, _, _ => .bad
theorem DRs.set {K : PySem.W.Frag} {Γ : G} {F : Hp} {d : D} {v : V} (h : DR K Γ F d v) : ∀ {ds : List D} {xs : List V} (j : Nat), DRs K Γ F ds xs → DRs K Γ F (ds.set j d) (xs.set j v)
  | [], _, _, r => by cases r; rfl
  | a :: ds, _, 0, r => by obtain ⟨x, xs, rfl, _, h3⟩ := r; exact ⟨v, xs, rfl, h, h3⟩
  | a :: ds, _, j + 1, r => by obtain ⟨x, xs, rfl, h2, h3⟩ := r; exact ⟨x, xs.set j v, rfl, h2, DRs.set h j h3⟩
theorem s_sub {i : Expr} {mi : Env → Ms → R S} {pos' : Pos} (he : DE Y e me) (ho : DE Y o mo) (hi : DE Y i mi)
    (ha : ∀ v, assign (.Subscript o i pos') Y.X.env v = (do
      let ov ← holding [v] (eval o Y.X.env)
      let iv ← holding [v, ov] (eval i Y.X.env)
      standAt pos'
      holding [v, ov, iv] (setItem ov iv v)
      release [v, ov, iv] []) := by intro _; rfl)
    (hs : swapsWithSole [.Subscript o i pos'] e pos.line Y.X.env = pure false := by rfl) (hw : swappedStores [.Subscript o i pos'] e Y.X.env = pure none := by rfl)
    (h1 : (assignEach [.Subscript o i pos'] Y.X.env).map (·.2) = [assign (.Subscript o i pos') Y.X.env] := by rfl) : DS Y (.Assign [.Subscript o i pos'] e pos) (sSub me mo mi) := by
  obtain ⟨te, pe, se⟩ := he.ex
  obtain ⟨to, po, so⟩ := ho.ex
  obtain ⟨ti, pi, si⟩ := hi.ex
  refine ⟨_, ps_asg pe (pg_sub po pi set_list ha) hs hw h1, fun w σ H env ms Ed er hr h => ?_⟩
  refine se.goS er hr h fun y ms1 w1 H1 v e1 er1 hr1 sv h1 => ?_
  refine so.goS er1 hr1 h1 fun x ms2 w2 H2 u e2 er2 hr2 su h2 => ?_
  refine si.goS er2 hr2 h2 fun i ms3 w3 H3 iv e3 er3 hr3 si3 h3 => ?_
  split at h3
  · rename_i n v' i'
    cases si3
    obtain ⟨a, ha, rfl⟩ := su
    have ha := e3.mu n a ha
    split at h3
    · rename_i ds hn
      split at h3
      · rename_i j hj
        obtain ⟨xs, q1, q2⟩ := hr3.cel n a _ ha hn
        refine ⟨a, xs, i', j, rfl, rfl, q1, by rw [← DRs.length q2]; exact hj, ?_⟩
        refine h3 w3 _ σ (Ext.refl w3) (hr3.write ha hn (by intro z; cases z) ?_) er3
        exact ⟨_, upd_same, DRs.set (DR.mono (e2.trans e3).F _ _ sv) j q2⟩
      · exact h3.elim
    · exact h3.elim
  · exact h3.elim
end
end Fw
set_option Elab.async false
set_option linter.all false
set_option maxRecDepth 100000
set_option maxHeartbeats 4000000
/-! Fw12: list comprehensions. -/
namespace Fw
open PySem L2 PySem.Spec PyProof.Rows

/-- the block within a comprehension -/
def Cy.blk (Y : Cy) (s : Shared) (H : Hp) (scope : Scope) (C : Addr) (cl : List (Str × Addr)) (fp : List Addr) : Cy := ⟨Y.X.blk s H scope (compEnvC scope cl C Y.X.env) fp, Y.Γ, fun _ _ _ _ => False, Y.ea, Y.ed, Y.ec⟩
theorem CyOk.blk {Y : Cy} {k : Nat} (ok : CyOk Y k) (s : Shared) (H : Hp) (scope : Scope) (C : Addr) (cl : List (Str × Addr)) (fp : List Addr) : CyOk (Y.blk s H scope C cl fp) k :=
  ⟨ok.hr, ok.gd, takes_none5, PassesOwn.never, ok.calm, ok.nd⟩
def wipeE (env : Env) : List Nat → Env
  | [] => env
  | v :: vs => (wipeE env vs).set v none
theorem ER.wipe {Y : Cy} {w : Wd} {σ : L2.St} {env : Env} (h : ER Y w σ env) : ∀ vs, ER Y w (wipe σ vs) (wipeE env vs)
  | [] => h
  | v :: vs => (h.wipe vs).unset v none
theorem wipe_get (σ : L2.St) (j : Nat) : ∀ vs : List Nat, (wipe σ vs)[j]? = if j ∈ vs then σ[j]?.map fun _ => none else σ[j]?
  | [] => by simp [wipe]
  | v :: vs => by
    unfold wipe
    rw [List.getElem?_set, wipe_length, wipe_get σ j vs]
    by_cases e : v = j
    · subst e
      by_cases l : v < σ.length
      · simp [l]
      · simp [l]
    · simp only [List.mem_cons]
      by_cases m : j ∈ vs
      · simp [e, m]
      · simp [e, m, Ne.symm e]
theorem wipe_set {σ : L2.St} {i : Nat} {o : Option V} {vs : List Nat} (h : i ∈ vs) : wipe (σ.set i o) vs = wipe σ vs := by
  refine List.ext_getElem? fun j => ?_
  rw [wipe_get, wipe_get]
  by_cases m : j ∈ vs
  · rw [if_pos m, if_pos m, List.getElem?_set]
    by_cases e : i = j
    · subst e
      by_cases l : i < σ.length
      · simp [l]
      · simp [l]
    · simp [e]
  · rw [if_neg m, if_neg m, List.getElem?_set_ne (fun e => m (by subst e; exact h))]
/-- targets that write only the slots vs -/
def SndGv (Y : Cy) (vs : List Nat) (t : TG) (g : S → Env → Ms → Option Env) : Prop :=
  ∀ (w : Wd) (σ : L2.St) (H : Hp) (env : Env) (ms : Ms) (s : S) (v : V) (Q : L2.St → Hp → Prop) (env' : Env), ER Y w σ env → HR Y w H ms → SR Y w s v → g s env ms = some env' → (∀ σ', ER Y w σ' env' → wipe σ' vs = wipe σ vs → Q σ' H) → t v σ H Q
def SndGsv (Y : Cy) (vs : List Nat) (t : TGs) (g : List S → Env → Ms → Option Env) : Prop :=
  ∀ (w : Wd) (σ : L2.St) (H : Hp) (env : Env) (ms : Ms) (ss : List S) (xs : List V) (Q : L2.St → Hp → Prop) (env' : Env), ER Y w σ env → HR Y w H ms → SRs Y w ss xs → g ss env ms = some env' → (∀ σ', ER Y w σ' env' → wipe σ' vs = wipe σ vs → Q σ' H) → t xs σ H Q
structure DGv (Y : Cy) (vs : List Nat) (tg : Expr) (g : S → Env → Ms → Option Env) : Prop where
  ex : ∃ t, PG Y.X tg t ∧ SndGv Y vs t g
structure DGsv (Y : Cy) (vs : List Nat) (tgs : List Expr) (g : List S → Env → Ms → Option Env) : Prop where
  ex : ∃ t, PGs Y.X tgs t ∧ SndGsv Y vs t g
structure DTs (Y : Cy) (ifs : List Expr) (m : Env → Ms → R Bool) : Prop where
  ex : ∃ t, PTs Y.X ifs t ∧ SndT Y t m

/-! ### the comprehension -/
noncomputable def compL (kp : Option (Nat × Cell)) (g : S → Env → Ms → Option Env) (tt : Env → Ms → R Bool) (elt : Env → Ms → R S) (vs : List Nat) (env : Env) : List S → List D → Ms → R (List D)
  | [], acc, ms => chk kp ms (.ok acc ms) .bad
  | x :: r, acc, ms => chk kp ms (match g x (wipeE env vs) ms with
    | none => .bad
    | some env1 => (tt env1 ms).bind fun b ms1 => match b with
      | false => compL kp g tt elt vs env r acc ms1
      | true => (elt env1 ms1).bind fun y ms2 => match y with
        | .d d => match few acc.length with
          | true => compL kp g tt elt vs env r (acc ++ [d]) ms2
          | false => .bad
        | _ => .bad) .bad
def noExA {α : Type} (r : R α) : R α := match r with
  | .ok s ms => .ok s ms
  | .ex _ _ _ => .bad
  | .bad => .bad
section
variable {Y : Cy} {w w1 w2 : Wd} {σ : L2.St} {H H1 H2 : Hp} {env : Env} {ms ms1 ms2 : Ms}
/-- the list under way is protected -/
def Wd.prot (w : Wd) (D : Addr) (xs : List V) : Wd := ⟨w.F, upd w.P D (.lst xs), w.mu⟩
theorem HR0.prot0 {D : Addr} (h : HR Y w H ms) (hD : H D = none) : HR Y (w.prot D []) (upd H D (.lst [])) ms := by
  refine ⟨fun a o e => ?_, fun a o e => ?_, fun a o e => ?_, h.len, h.inj, fun n a c e k d => ?_, fun n a c e k => ?_⟩
  · rw [upd_ne (ne_of_none (h.sub a o e) hD)]; exact h.sub a o e
  · have e : upd w.P D (.lst []) a = some o := e
    by_cases z : a = D
    · subst z; rw [upd_same] at e ⊢; exact e
    · rw [upd_ne z] at e ⊢; exact h.prot a o e
  · have e : upd w.P D (.lst []) a = some o := e
    by_cases z : a = D
    · subst z; exact h.freeF hD
    · rw [upd_ne z] at e; exact h.dis a o e
  · obtain ⟨u, q⟩ := h.live e k d
    have s := h.sep n a c e k d
    refine ⟨s.1, ?_⟩
    show upd w.P D (.lst []) a = none
    rw [upd_ne (ne_of_none q hD)]
    exact s.2
  · exact (h.cel n a c e k).mono (Ext.refl w) fun u q => by rw [upd_ne (ne_of_none q hD)]; exact q
/-- the list under way grows -/
theorem HR0.grow {D : Addr} {xs ys : List V} {P : Hp} (h : HR Y w H ms) (hP : w.P = upd P D (.lst xs)) : HR Y ⟨w.F, upd P D (.lst ys), w.mu⟩ (upd H D (.lst ys)) ms := by
  have pD : w.P D = some (.lst xs) := by rw [hP, upd_same]
  have fD := h.dis D _ pD
  have nc : ∀ {n : Nat} {a : Addr} {c : Cell}, w.mu[n]? = some a → ms[n]? = some c → c ≠ .dead → a ≠ D := fun e k d z => by
    subst z
    have := (h.sep _ _ _ e k d).2
    rw [pD] at this; cases this
  refine ⟨fun a o e => ?_, fun a o e => ?_, fun a o e => ?_, h.len, h.inj, fun n a c e k d => ?_, fun n a c e k => ?_⟩
  · have : a ≠ D := fun z => by subst z; rw [fD] at e; cases e
    rw [upd_ne this]; exact h.sub a o e
  · have e : upd P D (.lst ys) a = some o := e
    by_cases z : a = D
    · subst z; rw [upd_same] at e ⊢; exact e
    · rw [upd_ne z] at e ⊢; exact h.prot a o (by rw [hP, upd_ne z]; exact e)
  · have e : upd P D (.lst ys) a = some o := e
    by_cases z : a = D
    · subst z; exact fD
    · rw [upd_ne z] at e; exact h.dis a o (by rw [hP, upd_ne z]; exact e)
  · have s := h.sep n a c e k d
    refine ⟨s.1, ?_⟩
    show upd P D (.lst ys) a = none
    rw [upd_ne (nc e k d)]
    have := s.2
    rw [hP, upd_ne (nc e k d)] at this
    exact this
  · have q := h.cel n a c e k
    by_cases d : c = .dead
    · subst d; trivial
    · exact q.mono (Ext.refl w) fun u z => by rw [upd_ne (nc e k d)]; exact z
/-- the list is done: frozen -/
theorem HR0.doneF {D : Addr} {xs : List V} {P : Hp} (h : HR Y w H ms) (hP : w.P = upd P D (.lst xs)) (hD : P D = none) : HR Y ⟨upd w.F D (.lst xs), P, w.mu⟩ H ms := by
  have pD : w.P D = some (.lst xs) := by rw [hP, upd_same]
  have fD := h.dis D _ pD
  have nc : ∀ {n : Nat} {a : Addr} {c : Cell}, w.mu[n]? = some a → ms[n]? = some c → c ≠ .dead → a ≠ D := fun e k d z => by
    subst z
    have := (h.sep _ _ _ e k d).2
    rw [pD] at this; cases this
  have fm : ∀ a o, w.F a = some o → upd w.F D (.lst xs) a = some o := fun a o e => by
    rw [upd_ne (fun z => by subst z; rw [fD] at e; cases e)]; exact e
  have pm : ∀ a o, P a = some o → w.P a = some o ∧ a ≠ D := fun a o e => by
    have : a ≠ D := fun z => by subst z; rw [hD] at e; cases e
    exact ⟨by rw [hP, upd_ne this]; exact e, this⟩
  refine ⟨fun a o e => ?_, fun a o e => h.prot a o (pm a o e).1, fun a o e => ?_, h.len, h.inj, fun n a c e k d => ?_, fun n a c e k => ?_⟩
  · have e : upd w.F D (.lst xs) a = some o := e
    by_cases z : a = D
    · subst z; rw [upd_same] at e; rw [← e]; exact h.prot a _ pD
    · rw [upd_ne z] at e; exact h.sub a o e
  · obtain ⟨q1, q2⟩ := pm a o e
    show upd w.F D (.lst xs) a = none
    rw [upd_ne q2]; exact h.dis a o q1
  · have s := h.sep n a c e k d
    refine ⟨?_, ?_⟩
    · show upd w.F D (.lst xs) a = none
      rw [upd_ne (nc e k d)]; exact s.1
    · show P a = none
      cases z : P a with
      | none => rfl
      | some u => have := s.2; rw [(pm a u z).1] at this; cases this
  · have q := h.cel n a c e k
    cases c with
    | dead => trivial
    | lst ds => obtain ⟨ys, y1, y2⟩ := q; exact ⟨ys, y1, DRs.mono fm _ _ y2⟩
    | ins c fs => obtain ⟨dx, ys, y1, y2⟩ := q; exact ⟨dx, ys, y1, DRs.mono fm _ _ y2⟩
/-- an object becomes a cell -/
theorem HR0.addc {P : Hp} {p : Addr} {c : Cell} (h : HR Y w H ms) (pm : ∀ a o, P a = some o → w.P a = some o) (nF : w.F p = none) (nP : P p = none) (nc : ∀ (n : Nat) c', w.mu[n]? = some p → ms[n]? = some c' → c' = .dead) (hc : CR Y.X.K Y.Γ w H p c) :
    HR Y ⟨w.F, P, w.mu ++ [p]⟩ H (ms ++ [c]) := by
  have side : ∀ {n : Nat} {a : Addr} {d : Cell}, (w.mu ++ [p])[n]? = some a → (ms ++ [c])[n]? = some d → (w.mu[n]? = some a ∧ ms[n]? = some d) ∨ (n = w.mu.length ∧ a = p ∧ d = c) := fun {n a d} q1 q2 => by
    by_cases z : n < w.mu.length
    · rw [List.getElem?_append_left z] at q1
      rw [List.getElem?_append_left (by rw [← h.len]; exact z)] at q2
      exact .inl ⟨q1, q2⟩
    · have lt := (List.getElem?_eq_some_iff.mp q1).1
      have : n = w.mu.length := by simp at lt; omega
      subst this
      rw [List.getElem?_append_right (Nat.le_refl _)] at q1
      rw [List.getElem?_append_right (by rw [← h.len]; exact Nat.le_refl _), ← h.len] at q2
      simp at q1 q2
      exact .inr ⟨rfl, q1.symm, q2.symm⟩
  have np : ∀ {n : Nat} {a : Addr} {d : Cell}, w.mu[n]? = some a → ms[n]? = some d → d ≠ .dead → P a = none := fun {n a d} q1 q2 q3 => by
    cases z : P a with
    | none => rfl
    | some u => have := (h.sep n a d q1 q2 q3).2; rw [pm a u z] at this; cases this
  refine ⟨h.sub, fun a o e => h.prot a o (pm a o e), fun a o e => h.dis a o (pm a o e), by simp [h.len], fun i j a c1 c2 e1 e2 k1 k2 d1 d2 => ?_, fun n a d e k dd => ?_, fun n a d e k => ?_⟩
  · rcases side e1 k1 with ⟨x1, x2⟩ | ⟨x1, x2, x3⟩
    · rcases side e2 k2 with ⟨y1, y2⟩ | ⟨y1, y2, y3⟩
      · exact h.inj i j a c1 c2 x1 y1 x2 y2 d1 d2
      · subst y2; exact absurd (nc i c1 x1 x2) d1
    · rcases side e2 k2 with ⟨y1, y2⟩ | ⟨y1, y2, y3⟩
      · subst x2; exact absurd (nc j c2 y1 y2) d2
      · rw [x1, y1]
  · rcases side e k with ⟨x1, x2⟩ | ⟨x1, x2, x3⟩
    · exact ⟨(h.sep n a d x1 x2 dd).1, np x1 x2 dd⟩
    · subst x2; exact ⟨nF, nP⟩
  · rcases side e k with ⟨x1, x2⟩ | ⟨x1, x2, x3⟩
    · have q := h.cel n a d x1 x2
      cases d with
      | dead => trivial
      | lst ds => exact q
      | ins c fs => exact q
    · subst x2 x3
      cases d with
      | dead => trivial
      | lst ds => exact hc
      | ins c fs => exact hc
/-- the list is done: a cell -/
theorem HR0.doneC {L : Addr} {xs : List V} {ds : List D} {P : Hp} (h : HR Y w H ms) (hP : w.P = upd P L (.lst xs)) (hL : P L = none) (r : DRs Y.X.K Y.Γ w.F ds xs) : HR Y ⟨w.F, P, w.mu ++ [L]⟩ H (ms ++ [.lst ds]) := by
  have pD : w.P L = some (.lst xs) := by rw [hP, upd_same]
  refine h.addc (fun a o e => ?_) (h.dis L _ pD) hL (fun n c' e k => Classical.byContradiction fun d => ?_) ⟨xs, h.prot L _ pD, r⟩
  · have : a ≠ L := fun z => by subst z; rw [hL] at e; cases e
    rw [hP, upd_ne this]; exact e
  · have := (h.sep n L c' e k d).2
    rw [pD] at this; cases this

/-! ### readings out of semantics -/
def semE (Y : Cy) (m : Env → Ms → R S) : TE := fun σ H Q => ∃ w env ms, ER Y w σ env ∧ HR Y w H ms ∧ (m env ms).post (okP Y w Q) (fun _ _ _ => False)
def semT (Y : Cy) (m : Env → Ms → R Bool) : TT := fun σ H Q => ∃ w env ms, ER Y w σ env ∧ HR Y w H ms ∧ (m env ms).post (fun b ms' => ∀ w' H', Ext w w' → HR Y w' H' ms' → Q b H') (fun _ _ _ => False)
def semG (Y : Cy) (vs : List Nat) (g : S → Env → Ms → Option Env) : TG := fun v σ H Q => ∃ w env ms s env', ER Y w σ env ∧ HR Y w H ms ∧ SR Y w s v ∧ g s env ms = some env' ∧ ∀ σ', ER Y w σ' env' → wipe σ' vs = wipe σ vs → Q σ' H
variable {s0 : Shared} {H0 : Hp} {scope : Scope} {C : Addr} {cl : List (Str × Addr)} {fp : List Addr}
theorem SR.blk {s : S} {v : V} (h : SR Y w s v) : SR (Y.blk s0 H0 scope C cl fp) w s v := by cases s <;> exact h
theorem SR.unblk {s : S} {v : V} (h : SR (Y.blk s0 H0 scope C cl fp) w s v) : SR Y w s v := by cases s <;> exact h
theorem ER.blk (h : ER Y w σ env) : ER (Y.blk s0 H0 scope C cl fp) w σ env := ⟨h.len, fun i s e => let ⟨v, h1, h2⟩ := h.slot i s e; ⟨v, h1, h2.blk⟩⟩
theorem ER.unblk (h : ER (Y.blk s0 H0 scope C cl fp) w σ env) : ER Y w σ env := ⟨h.len, fun i s e => let ⟨v, h1, h2⟩ := h.slot i s e; ⟨v, h1, h2.unblk⟩⟩
theorem blk_pe {elt : Expr} {m : Env → Ms → R S} (h : DE (Y.blk s0 H0 scope C cl fp) elt m) : PE (Y.blk s0 H0 scope C cl fp).X elt (semE Y m) := by
  obtain ⟨t, p, sd⟩ := h.ex
  refine ⟨fun pins s σ H Q I ⟨w, env, ms, er, hr, q⟩ => p.run pins s σ H Q I (sd w σ H env ms Q er.blk hr (R.post_mono q (fun _ _ z w' H' v e hr' sv => z w' H' v e hr' sv.unblk) fun _ _ _ z => z.elim))⟩
theorem blk_pts {ifs : List Expr} {m : Env → Ms → R Bool} (h : DTs (Y.blk s0 H0 scope C cl fp) ifs m) : PTs (Y.blk s0 H0 scope C cl fp).X ifs (semT Y m) := by
  obtain ⟨t, p, sd⟩ := h.ex
  refine ⟨fun pins s σ H Q I ⟨w, env, ms, er, hr, q⟩ => p.run pins s σ H Q I (sd w σ H env ms Q er.blk hr (R.post_mono q (fun _ _ z => z) fun _ _ _ z => z.elim))⟩
theorem blk_pg {vs : List Nat} {tg : Expr} {g : S → Env → Ms → Option Env} (h : DGv (Y.blk s0 H0 scope C cl fp) vs tg g) : PG (Y.blk s0 H0 scope C cl fp).X tg (semG Y vs g) := by
  obtain ⟨t, p, sd⟩ := h.ex
  refine ⟨fun pins s σ H v u Q I r ⟨w, env, ms, x, env', er, hr, sv, e, q⟩ => p.run pins s σ H v u Q I r (sd w σ H env ms x v Q env' er.blk hr sv.blk e fun σ' er' => q σ' er'.unblk)⟩
theorem SR.subm {w w1 : Wd} (e : w.Sub w1) {s : S} {v : V} (h : SR Y w s v) : SR Y w1 s v := by
  cases s with
  | d x => exact DR.mono e.F x v h
  | loc n => obtain ⟨a, h1, h2⟩ := h; exact ⟨a, e.mu n a h1, h2⟩
  | exn c ds => exact ⟨h.1, h.2.mono e.F⟩
theorem ER.subm (e : w.Sub w1) (h : ER Y w σ env) : ER Y w1 σ env := ⟨h.len, fun i s hs => let ⟨v, h1, h2⟩ := h.slot i s hs; ⟨v, h1, h2.subm e⟩⟩
theorem wipe_wipe (σ : L2.St) (vs : List Nat) : wipe (wipe σ vs) vs = wipe σ vs := by
  refine List.ext_getElem? fun j => ?_
  rw [wipe_get, wipe_get]
  by_cases m : j ∈ vs
  · rw [if_pos m, if_pos m, Option.map_map]; rfl
  · rw [if_neg m, if_neg m]
theorem chk_postR {α : Type} {kp : Option (Nat × Cell)} {r : R α} {P : α → Ms → Prop} {E : Nat → List D → Ms → Prop} (h : (chk kp ms r .bad).post P E) : keptC kp ms ∧ r.post P E := by
  unfold chk at h
  cases kp with
  | none => exact ⟨fun _ _ e => (nomatch e), h⟩
  | some p =>
    obtain ⟨n, c⟩ := p
    dsimp only at h
    by_cases z : ms[n]? = some c
    · rw [if_pos z] at h
      exact ⟨fun m d e => by cases e; exact z, h⟩
    · rw [if_neg z] at h
      exact h.elim
/-- a comprehension's end: frozen, or a new cell -/
def lcEnd (cell : Bool) (acc : List D) (ms : Ms) : R S := match cell with
  | false => .ok (.d (.lst acc)) ms
  | true => .ok (.loc ms.length) (ms ++ [.lst acc])
noncomputable def mLc (cell : Bool) (mi : Env → Ms → R (List S × Option (Nat × Cell))) (g : S → Env → Ms → Option Env) (tt : Env → Ms → R Bool) (elt : Env → Ms → R S) (vs : List Nat) : Env → Ms → R S := fun env ms =>
  (mi env ms).bind fun xk ms1 => (noExA (compL xk.2 g tt elt vs env xk.1 [] ms1)).bind (lcEnd cell)
theorem lcEnd_use {cell : Bool} {L : Addr} {xs : List V} {acc : List D} {Q : VK} {wB : Wd} (hr1 : HR Y w1 H1 ms1) (hL : H1 L = none) (sub : w1.Sub wB) (hP : wB.P = upd w1.P L (.lst xs)) (hr : HR Y wB H2 ms2) (r : DRs Y.X.K Y.Γ wB.F acc xs)
    (q : (lcEnd cell acc ms2).post (okP Y w1 Q) (fun _ _ _ => False)) : Q (.ref L) H2 := by
  have pL := hr1.freeP hL
  have pD : wB.P L = some (.lst xs) := by rw [hP, upd_same]
  cases cell with
  | false =>
    have fm : ∀ a o, wB.F a = some o → upd wB.F L (.lst xs) a = some o := fun a o e => by
      rw [upd_ne (fun z => by subst z; rw [hr.dis _ _ pD] at e; cases e)]; exact e
    exact q ⟨upd wB.F L (.lst xs), w1.P, wB.mu⟩ H2 _ ⟨fun a o e => fm a o (sub.F a o e), sub.mu, rfl⟩ (hr.doneF hP pL) ⟨L, xs, rfl, upd_same, DRs.mono fm _ _ r⟩
  | true =>
    refine q ⟨wB.F, w1.P, wB.mu ++ [L]⟩ H2 _ ⟨sub.F, fun n a e => ?_, rfl⟩ (hr.doneC hP pL r) ⟨L, ?_, rfl⟩
    · have e := sub.mu n a e
      show (wB.mu ++ [L])[n]? = _
      rw [List.getElem?_append_left (List.getElem?_eq_some_iff.mp e).1]; exact e
    · show (wB.mu ++ [L])[ms2.length]? = _
      rw [← hr.len]; simp
theorem noExA_post {α : Type} {r : R α} {P : α → Ms → Prop} {E : Nat → List D → Ms → Prop} (h : (noExA r).post P E) : r.post P (fun _ _ _ => False) := by
  cases r with
  | ok s ms => exact h
  | ex c ds ms => exact h.elim
  | bad => exact h
theorem snd_lc {cell : Bool} {wi : TI} {mi : Env → Ms → R (List S × Option (Nat × Cell))} {g : S → Env → Ms → Option Env} {tt : Env → Ms → R Bool} {elt : Env → Ms → R S} {vs : List Nat} (si : SndI Y wi mi) :
    SndE Y (tLc wi (semG Y vs g) (semT Y tt) (semE Y elt) vs) (mLc cell mi g tt elt vs) := by
  intro w σ H env ms Q er hr h
  refine si w σ H env ms _ er hr ?_
  unfold mLc at h
  cases hm : mi env ms with
  | bad => rw [hm] at h; exact h.elim
  | ex c ds ms1 => rw [hm] at h; exact h
  | ok xk ms1 =>
    rw [hm] at h
    obtain ⟨xs, kp⟩ := xk
    intro w1 H1 J e1 hr1 hy _ L hL
    have hy : Yields Y w1 xs kp J := hy
    have h : ((noExA (compL kp g tt elt vs env xs [] ms1)).bind (lcEnd cell)).post (okP Y w Q) (exP Y w σ) := h
    have h0 := noExA_post (R.post_bind h)
    have h1 : (compL kp g tt elt vs env xs [] ms1).post (fun acc ms' => (lcEnd cell acc ms').post (okP Y w1 Q) (fun _ _ _ => False)) (fun _ _ _ => False) := R.post_mono h0 (fun acc ms' z => by
      cases cell with
      | false => exact okP.ext e1 z
      | true => exact okP.ext e1 z) fun _ _ _ z => z
    refine ⟨fun i m H' => m = xs.length - i ∧ i ≤ xs.length ∧ ∃ (wB : Wd) (acc : List D) (av : List V) (ms' : Ms), w1.Sub wB ∧ wB.P = upd w1.P L (.lst av) ∧ HR Y wB H' ms' ∧ DRs Y.X.K Y.Γ wB.F acc av ∧
        (compL kp g tt elt vs env (xs.drop i) acc ms').post (fun acc ms' => (lcEnd cell acc ms').post (okP Y w1 Q) (fun _ _ _ => False)) (fun _ _ _ => False),
      ⟨xs.length, by omega, by omega, w1.prot L [], [], [], ms1, ⟨fun _ _ z => z, fun _ _ z => z⟩, rfl, hr1.prot0 hL, rfl, h1⟩, ?_⟩
    rintro i m H' ⟨rfl, hi, wB, acc, av, ms', sub, hP, hr', rA, h'⟩
    by_cases hlt : i < xs.length
    · refine .inr ?_
      have hx : xs[i]? = some xs[i] := by simp [hlt]
      rw [List.drop_eq_getElem_cons hlt] at h'
      obtain ⟨kc, h'⟩ := chk_postR h'
      obtain ⟨hgo, hyl⟩ := (hy wB H' ms' sub hr' kc).2 i _ hx
      refine ⟨hgo, fun H2 => i + 1 ≤ xs.length ∧ ∃ (wB : Wd) (acc : List D) (av : List V) (ms' : Ms), w1.Sub wB ∧ wB.P = upd w1.P L (.lst av) ∧ HR Y wB H2 ms' ∧ DRs Y.X.K Y.Γ wB.F acc av ∧
        (compL kp g tt elt vs env (xs.drop (i + 1)) acc ms').post (fun acc ms' => (lcEnd cell acc ms').post (okP Y w1 Q) (fun _ _ _ => False)) (fun _ _ _ => False), fun H2 n2 => ⟨xs.length - (i + 1), by omega, rfl, n2.1, n2.2⟩, fun x H2 y2 => ?_⟩
      obtain ⟨w2, e2, hr2, sv⟩ := hyl x H2 y2
      cases hgx : g xs[i] (wipeE env vs) ms' with
      | none => rw [hgx] at h'; exact h'.elim
      | some env1 =>
        rw [hgx] at h'
        dsimp only at h'
        have er2 : ER Y w2 (wipe σ vs) (wipeE env vs) := (er.subm ((e1.wsub.trans sub).trans e2.wsub)).wipe vs
        refine ⟨w2, wipeE env vs, ms', _, env1, er2, hr2, sv, hgx, fun σ3 er3 hw => ⟨by rw [hw, wipe_wipe], w2, env1, ms', er3, hr2, ?_⟩⟩
        refine R.post_mono (R.post_bind h') (fun b ms3 q3 w3 H3 e3 hr3 => ?_) fun _ _ _ z => z
        have P3 : w3.P = upd w1.P L (.lst av) := by rw [e3.P, e2.P, hP]
        have s3 : w1.Sub w3 := (sub.trans e2.wsub).trans e3.wsub
        cases b with
        | false =>
          refine iteF ⟨hlt, w3, acc, av, ms3, s3, P3, hr3, DRs.mono (fun a o z => e3.F a o (e2.F a o z)) _ _ rA, q3⟩
        | true =>
          refine iteT ⟨w3, env1, ms3, er3.mono e3, hr3, ?_⟩
          refine R.post_mono (R.post_bind q3) (fun y ms4 q4 w4 H4 v e4 hr4 sv4 => ?_) fun _ _ _ z => z
          cases y with
          | loc n => exact q4.elim
          | exn c ds => exact q4.elim
          | d d =>
            dsimp only at q4
            cases fz : few acc.length with
            | false => rw [fz] at q4; exact q4.elim
            | true =>
              rw [fz] at q4
              have P4 : w4.P = upd w1.P L (.lst av) := by rw [e4.P, P3]
              have rA4 : DRs Y.X.K Y.Γ w4.F acc av := DRs.mono (fun a o z => e4.F a o (e3.F a o (e2.F a o z))) _ _ rA
              refine ⟨av, hr4.prot L _ (by rw [P4, upd_same]), ?_, hlt, ⟨w4.F, upd w1.P L (.lst (av ++ [v])), w4.mu⟩, acc ++ [d], av ++ [v], ms4, ⟨(s3.trans e4.wsub).F, (s3.trans e4.wsub).mu⟩, rfl, hr4.grow P4, rA4.append ⟨v, [], rfl, sv4, rfl⟩, q4⟩
              rw [← DRs.length rA]
              have : acc.length ≤ 1000000 := Nat.le_of_ble_eq_true fz
              rw [sizeLine_eq]; omega
    · have e : i = xs.length := by omega
      subst e
      rw [List.drop_length] at h'
      obtain ⟨kc, h'⟩ := chk_postR h'
      exact .inl ⟨(hy wB H' ms' sub hr' kc).1, lcEnd_use hr1 hL sub hP hr' rA h'⟩
end
end Fw
set_option Elab.async false
set_option linter.all false
set_option maxRecDepth 100000
set_option maxHeartbeats 4000000
/-! Fw13: comprehension rules, parallel stores, isinstance. -/
namespace Fw
open PySem L2 PySem.Spec PyProof.Rows

section
variable {Y : Cy} {w w1 w2 : Wd} {σ : L2.St} {H H1 H2 : Hp} {env : Env} {ms ms1 ms2 : Ms} {Ed : Ends} {e elt tg iter a b : Expr} {es ifs : List Expr} {scope : Scope} {own : List (Str × Nat)} {pos spos py : Pos} {k : Nat} {vs : List Nat}
  {mi : Env → Ms → R (List S × Option (Nat × Cell))} {g : S → Env → Ms → Option Env} {tt : Env → Ms → R Bool} {me m : Env → Ms → R S} {ma : Env → Ms → R (List S)}
theorem e_lc (cell : Bool) (ok : CyOk Y k) (hi : DI Y tg iter mi) (bo : BlkOk Y.X.N Y.X.env.scope scope own) (hv : own.map (·.2) = vs) (hg : ∀ s H C cl fp, DGv (Y.blk s H scope C cl fp) vs tg g) (ht : ∀ s H C cl fp, DTs (Y.blk s H scope C cl fp) ifs tt) (he : ∀ s H C cl fp, DE (Y.blk s H scope C cl fp) elt me)
    (hs : ∀ x, foldedSetIterable iter Y.X.env x = pure x := by intro _; rfl) : DE Y (.ListComp elt [⟨tg, iter, ifs, 0⟩] scope pos) (mLc cell mi g tt me vs) := by
  subst hv
  obtain ⟨wi, pi, si⟩ := hi.ex
  exact ⟨_, pe_lc ok.calm ok.nd pi bo (fun s H C cl fp => blk_pg (hg s H C cl fp)) (fun s H C cl fp => blk_pts (ht s H C cl fp)) (fun s H C cl fp => blk_pe (he s H C cl fp)) hs, snd_lc si⟩
/-- y = [..] on one line -/
theorem s_setLc (cell : Bool) {i : Nat} {y : Str} (ok : CyOk Y k) (hi : DI Y tg iter mi) (bo : BlkOk Y.X.N Y.X.env.scope scope own) (hv : own.map (·.2) = vs) (hg : ∀ s H C cl fp, DGv (Y.blk s H scope C cl fp) vs tg g) (ht : ∀ s H C cl fp, DTs (Y.blk s H scope C cl fp) ifs tt) (he : ∀ s H C cl fp, DE (Y.blk s H scope C cl fp) elt me)
    (hsw : swapsWith (.ListComp elt [⟨tg, iter, ifs, 0⟩] scope pos) (some (.Name y py)) spos.line Y.X.env = pure true) (hy : Y.X.N[i]? = some y := by rfl) (hyl : Y.X.env.scope.names.lookup y = some .local := by rfl)
    (hs : ∀ x, foldedSetIterable iter Y.X.env x = pure x := by intro _; rfl) : DS Y (.Assign [.Name y py] (.ListComp elt [⟨tg, iter, ifs, 0⟩] scope pos) spos) (sSet i (mLc cell mi g tt me vs)) := by
  subst hv
  obtain ⟨wi, pi, si⟩ := hi.ex
  refine ⟨_, ps_setLc ok.calm ok.nd hy hyl hsw pi bo (fun s H C cl fp => blk_pg (hg s H C cl fp)) (fun s H C cl fp => blk_pts (ht s H C cl fp)) (fun s H C cl fp => blk_pe (he s H C cl fp)) hs, fun w σ H env ms Ed er hr h => ?_⟩
  exact (snd_lc (cell := cell) si).goS er hr h fun x ms1 w1 H1 v e1 er1 hr1 sv h1 => h1 w1 H1 _ (Ext.refl w1) hr1 (er1.set sv i)
theorem ts_nil : DTs Y [] (fun _ ms => .ok true ms) := ⟨_, pts_nil, fun w σ H env ms Q er hr h => h w H (Ext.refl w) hr⟩
theorem ts_one (h : DT Y a tt) : DTs Y [a] tt := let ⟨t, p, s⟩ := h.ex; ⟨_, pts_one p, s⟩
theorem gv_name {i : Nat} {x : Str} (hN : Y.X.N.Nodup) (hi : Y.X.N[i]? = some x := by rfl) (hv : i ∈ vs := by decide) (hx : Loc Y.X.env.scope x := by first | exact Or.inl rfl | exact Or.inr rfl) (hf : Y.X.fn x = true ∨ Y.X.env.scope.names.lookup x = some .local := by first | exact .inl rfl | exact .inr rfl) :
    DGv Y vs (.Name x pos) (gSet i) := by
  refine ⟨_, pg_name hN hi hx hf, fun w σ H env ms s v Q env' er hr sv he hq => ?_⟩
  cases he
  exact hq _ (er.set sv i) (wipe_set hv)
theorem gsv_nil : DGsv Y vs [] gsNil := by
  refine ⟨_, pgs_nil, fun w σ H env ms ss xs Q env' er hr sv he hq => ?_⟩
  cases sv with
  | nil => cases he; exact ⟨rfl, hq _ er rfl⟩
  | cons a b => cases he
theorem gsv_cons {gs : List S → Env → Ms → Option Env} (h1 : DGv Y vs e g) (h2 : DGsv Y vs es gs)
    (hs : (assignEach (e :: es) Y.X.env).map (·.2) = assign e Y.X.env :: (assignEach es Y.X.env).map (·.2) := by rfl) : DGsv Y vs (e :: es) (gsCons g gs) := by
  obtain ⟨t, p, s⟩ := h1.ex
  obtain ⟨t2, p2, s2⟩ := h2.ex
  refine ⟨_, pgs_cons p p2 hs, fun w σ H env ms ss xs Q env' er hr sv he hq => ?_⟩
  cases sv with
  | nil => cases he
  | @cons a b ss xs ra rb =>
    have he : (g a env ms).bind (fun env1 => gs ss env1 ms) = some env' := he
    cases hg : g a env ms with
    | none => rw [hg] at he; cases he
    | some env1 =>
      rw [hg] at he
      exact ⟨_, _, rfl, s w σ H env ms a b _ env1 er hr ra hg fun σ1 er1 w1 => s2 w σ1 H env1 ms ss xs Q env' er1 hr rb he fun σ2 er2 w2 => hq σ2 er2 (w2.trans w1)⟩
theorem gv_tup {j n : Nat} {gs : List S → Env → Ms → Option Env} (hc : Y.X.calm = true) (h : DGsv Y vs es gs)
    (hn : (assignEach es Y.X.env).length = n := by rfl) (hst : (assignEach es Y.X.env).findIdx? (·.1) = none := by rfl) : DGv Y vs (.Tuple es j pos) (gUn n gs) := by
  obtain ⟨t, p, s⟩ := h.ex
  refine ⟨_, pg_tup hc p hn hst, fun w σ H env ms x v Q env' er hr sv he hq => ?_⟩
  cases x with
  | loc i => cases he
  | exn c ds => cases he
  | d x =>
    cases x with
    | tup ds =>
      unfold gUn at he
      dsimp only at he
      cases hl : Nat.beq ds.length n with
      | false => rw [hl] at he; cases he
      | true =>
        rw [hl] at he
        obtain ⟨a, xs, rfl, h2, h3⟩ := sv
        refine ⟨a, xs, rfl, sqT_mono h2 hr.sub, by rw [← DRs.length h3]; exact Nat.eq_of_beq_eq_true hl, ?_⟩
        exact s w σ H env ms _ xs Q env' er hr (SRs_of_DRs h3) he hq
    | _ => cases he
/-- a, b = x, y -/
theorem s_par {i j : Nat} {x y : Str} {px pt : Pos} {kt k2 pt2} (ok : CyOk Y k) (hij : i ≠ j) (ha : DA Y [a, b] ma) (hw : swappedStores [.Tuple [.Name x px, .Name y py] kt pt] (.Tuple [a, b] k2 pt2) Y.X.env = pure (some [x, y])) (hi : Y.X.N[i]? = some x := by rfl) (hj : Y.X.N[j]? = some y := by rfl)
    (hx : Y.X.env.scope.names.lookup x = some .local := by rfl) (hy : Y.X.env.scope.names.lookup y = some .local := by rfl)
    (hs : swapsWithSole [.Tuple [.Name x px, .Name y py] kt pt] (.Tuple [a, b] k2 pt2) pos.line Y.X.env = pure false := by rfl) :
    DS Y (.Assign [.Tuple [.Name x px, .Name y py] kt pt] (.Tuple [a, b] k2 pt2) pos) (sPar i j ma) := by
  obtain ⟨t, p, s⟩ := ha.ex
  refine ⟨_, ps_par ok.calm ok.nd hi hj hij hx hy p hw hs, fun w σ H env ms Ed er hr h => ?_⟩
  refine s.goS er hr h fun ss ms1 w1 H1 xs e1 er1 hr1 sv h1 => ?_
  split at h1
  · rename_i x y
    obtain ⟨v, u, rfl, r1, r2⟩ := SRs.two sv
    exact ⟨v, u, rfl, h1 w1 H1 _ (Ext.refl w1) hr1 ((er1.set r1 i).set r2 j)⟩
  · exact h1.elim

/-! ### isinstance -/
inductive Ty where
  | nm (a : String) | cl (c : Nat)
def tyD : D → Option Ty
  | .non => some (.nm "NoneType")
  | .bl _ => some (.nm "bool")
  | .int _ => some (.nm "int")
  | .str _ => some (.nm "str")
  | .tup _ => some (.nm "tuple")
  | .lst _ => some (.nm "list")
  | .frz _ => some (.nm "list")
  | .dic _ _ => some (.nm "dict")
  | .dit _ _ => some (.nm "dict")
  | .obj c _ => some (.cl c)
  | _ => none
def isT (a T : String) : Bool := decide (a = T) || (decide (a = "bool") && decide (T = "int"))
def tyNames : List String := ["NoneType", "bool", "int", "str", "tuple", "list", "dict"]
theorem isT_kit : ∀ a ∈ tyNames, ∀ T ∈ tyNames, kitB a T = some (isT a T) := by decide +kernel
/-- what isinstance must know of the own classes: oc the classes whose instances are asked, kc the class objects asked for, sub the answer -/
structure IsiOk (Y : Cy) (oc kc : List Nat) (sub : Nat → Nat → Bool) : Prop where
  nk : ∀ m ∈ kc, ∀ a ∈ tyNames, PySem.W.kitOne Y.X.K (.type a) (.ref (Y.Γ.fn m)) = some false
  on : ∀ c ∈ oc, ∀ T ∈ tyNames, PySem.W.kitOne Y.X.K (.ref (Y.Γ.cls c)) (.type T) = some false
  ok : ∀ c ∈ oc, ∀ m ∈ kc, PySem.W.kitOne Y.X.K (.ref (Y.Γ.cls c)) (.ref (Y.Γ.fn m)) = some (sub c m)
  cls : ∀ c ∈ oc, Cls Y.X.K (Y.Γ.cls c) ∧ PySem.W.findIn Y.X.K (.ref (Y.Γ.cls c)) "__class__" = some (some (.builtin "object.__class__")) ∧ PySem.W.mroIn Y.X.K (Y.Γ.cls c) (.type "object") = some true
  get : oc ≠ [] → PySem.W.specialIn Y.X.K (.builtin "object.__class__") "__get__" = some (some (.builtin "getset_descriptor.__get__")) ∧ PySem.W.takesIn Y.X.K (.builtin "object.__class__") = some true
theorem IsiOk.base : IsiOk Y [] [] (fun _ _ => false) := ⟨fun _ h => (nomatch h), fun _ h => (nomatch h), fun _ h => (nomatch h), fun _ h => (nomatch h), fun h => absurd rfl h⟩
def isiD (oc kc : List Nat) (sub : Nat → Nat → Bool) (t : Ty) (c : D) : Option Bool := match t, c with
  | .nm a, .ty T => match tyNames.contains T with
    | true => some (isT a T)
    | false => none
  | .nm _, .fn m => match kc.contains m with
    | true => some false
    | false => none
  | .cl c, .ty T => match oc.contains c && tyNames.contains T with
    | true => some false
    | false => none
  | .cl c, .fn m => match oc.contains c && kc.contains m with
    | true => some (sub c m)
    | false => none
  | _, _ => none
def cIsi (oc kc : List Nat) (sub : Nat → Nat → Bool) : List S → Ms → R S := fun ss ms => match ss with
  | [s, .d c] => match ((view s ms).bind tyD).bind (isiD oc kc sub · c) with
    | some b => .ok (.d (.bl b)) ms
    | none => .bad
  | _ => .bad
def tyV (Y : Cy) : Ty → Value
  | .nm a => .type a
  | .cl c => .ref (Y.Γ.cls c)
theorem tyD_names {d : D} {a : String} (h : tyD d = some (.nm a)) : a ∈ tyNames := by
  cases d <;> cases h <;> decide
theorem seqTy {K : PySem.W.Frag} {a : Addr} {xs : List V} (h : SqT K H a xs) : TyX K H (.ref a) (.type "tuple") := by
  rcases h with (h | ⟨o, h⟩) | ⟨o, its, n, k1, k2, _⟩
  · exact .base (.tup h)
  · exact .fTuple h
  · exact .kTuple k1 k2
theorem seqTyL {K : PySem.W.Frag} {a : Addr} {xs : List V} (h : SqL K H a xs) : TyX K H (.ref a) (.type "list") := by
  rcases h with (h | ⟨o, h⟩) | ⟨o, its, n, k1, k2, _⟩
  · exact .base (.lst h)
  · exact .base (.frz h)
  · exact .kList k1 k2
theorem ty_rel {oc kc : List Nat} {sub : Nat → Nat → Bool} {s : S} {v : V} {d : D} {t : Ty} (ok : IsiOk Y oc kc sub) (h : view s ms = some d) (hr : HR Y w H ms) (sv : SR Y w s v) (ht : tyD d = some t) (hc : ∀ c, t = .cl c → c ∈ oc) : TyX Y.X.K H v (tyV Y t) := by
  cases d with
  | non => cases ht; cases view_notlist h (by intro ds z; cases z) sv; exact .base .non
  | bl b => cases ht; cases view_notlist h (by intro ds z; cases z) sv; exact .base (.bl b)
  | int i => cases ht; cases view_notlist h (by intro ds z; cases z) sv; exact .base (.int i)
  | str x => cases ht; cases view_notlist h (by intro ds z; cases z) sv; exact .base (.str x)
  | tup ds =>
    cases ht
    obtain ⟨a, xs, rfl, e1, e2⟩ := view_notlist h (by intro ds z; cases z) sv
    exact seqTy (sqT_mono e1 hr.sub)
  | lst ds =>
    cases ht
    obtain ⟨a, xs, rfl, e1, e2⟩ := view_list h hr sv
    exact .base (.lst e1)
  | frz ds =>
    cases ht
    obtain ⟨a, xs, rfl, e1, e2⟩ := view_notlist h (by intro ds z; cases z) sv
    exact seqTyL (sqL_mono e1 hr.sub)
  | dic ks vs =>
    cases ht
    obtain ⟨a, kvs, rfl, e1, e2⟩ := view_notlist h (by intro ds z; cases z) sv
    exact .base (.dK (hr.sub _ _ e1))
  | dit ks vs =>
    cases ht
    obtain ⟨a, kvs, rfl, e1, e2⟩ := view_notlist h (by intro ds z; cases z) sv
    exact .base (.dT (hr.sub _ _ e1))
  | obj c ds =>
    cases ht
    obtain ⟨a, dx, xs, rfl, e1, e2⟩ := view_notlist h (by intro ds z; cases z) sv
    have hm := hc c rfl
    obtain ⟨c1, c2, c3⟩ := ok.cls c hm
    obtain ⟨g1, g2⟩ := ok.get (fun z => by rw [z] at hm; cases hm)
    exact .base (.ins (hr.sub _ _ e1) c1 c2 g1 g2 c3)
  | fn n => cases ht
  | ty n => cases ht
theorem cd_isi {oc kc : List Nat} {sub : Nat → Nat → Bool} (ok : IsiOk Y oc kc sub) : CallD Y (.builtin "isinstance") (cIsi oc kc sub) := by
  refine ⟨⟨_, call_isi, fun w H ms ss vs Q hr sv h => ?_⟩, fun ss ms c ds ms' h => ?_⟩
  · unfold cIsi at h
    split at h
    · rename_i s c
      obtain ⟨v, u, rfl, r1, r2⟩ := SRs.two sv
      split at h
      · rename_i b hb
        obtain ⟨t, h1, h2⟩ := Option.bind_eq_some_iff.mp hb
        obtain ⟨d, h3, h4⟩ := Option.bind_eq_some_iff.mp h1
        have fin := h.at (Ext.refl w) hr (v := .bl b) rfl
        cases t with
        | nm a =>
          have ha := tyD_names h4
          have tx := ty_rel ok h3 hr r1 h4 (fun c z => by cases z)
          cases c with
          | ty T =>
            cases r2
            unfold isiD at h2
            dsimp only at h2
            cases hT : tyNames.contains T with
            | false => rw [hT] at h2; cases h2
            | true =>
              rw [hT] at h2
              cases h2
              exact ⟨v, .ty T, _, .type T, _, rfl, .ty T, tx, kit_ty (isT_kit a ha T (List.contains_iff_mem.mp hT)), fin⟩
          | fn m =>
            cases r2
            unfold isiD at h2
            dsimp only at h2
            cases hT : kc.contains m with
            | false => rw [hT] at h2; cases h2
            | true =>
              rw [hT] at h2
              cases h2
              exact ⟨v, .ref (Y.Γ.fn m), _, .ref (Y.Γ.fn m), _, rfl, .own _, tx, ok.nk m (List.contains_iff_mem.mp hT) a ha, fin⟩
          | _ => cases h2
        | cl c' =>
          cases c with
          | ty T =>
            cases r2
            unfold isiD at h2
            dsimp only at h2
            cases hT : (oc.contains c' && tyNames.contains T) with
            | false => rw [hT] at h2; cases h2
            | true =>
              rw [hT] at h2
              cases h2
              obtain ⟨q1, q2⟩ := Bool.and_eq_true_iff.mp hT
              have q1 := List.contains_iff_mem.mp q1
              exact ⟨v, .ty T, _, .type T, _, rfl, .ty T, ty_rel ok h3 hr r1 h4 (fun c z => by cases z; exact q1), ok.on c' q1 T (List.contains_iff_mem.mp q2), fin⟩
          | fn m =>
            cases r2
            unfold isiD at h2
            dsimp only at h2
            cases hT : (oc.contains c' && kc.contains m) with
            | false => rw [hT] at h2; cases h2
            | true =>
              rw [hT] at h2
              cases h2
              obtain ⟨q1, q2⟩ := Bool.and_eq_true_iff.mp hT
              have q1 := List.contains_iff_mem.mp q1
              exact ⟨v, .ref (Y.Γ.fn m), _, .ref (Y.Γ.fn m), _, rfl, .own _, ty_rel ok h3 hr r1 h4 (fun c z => by cases z; exact q1), ok.ok c' q1 m (List.contains_iff_mem.mp q2), fin⟩
          | _ => cases h2
      · exact h.elim
    · exact h.elim
  · unfold cIsi at h
    split at h
    · split at h <;> cases h
    · cases h
end
end Fw
set_option Elab.async false
set_option linter.all false
set_option maxRecDepth 100000
set_option maxHeartbeats 4000000
/-! Fw14: an own exception is made: super().__init__(text), then its fields. -/
namespace PySem
namespace FwX
open PySem.W PySem.Calls PyProof.Rows PySem.HandSPX

inductive FldStmts : List Stmt → List (Str × Str) → Prop where
  | nil : FldStmts [] []
  | cons {f x : Str} {q1 q2 q3 q4 : Pos} {ss : List Stmt} {fs : List (Str × Str)} (r : FldStmts ss fs) : FldStmts (.Assign [.Attribute (.Name "self" q1) f q2] (.Name x q3) q4 :: ss) ((f, x) :: fs)
def supStmt (text : Str) (j : Nat) (p0 p1 p2 p3 p4 p5 : Pos) : Stmt := .Expr (.Call (.Attribute (.Call (.Name "super" p0) [] [] p1) "__init__" p2) [.Constant (.str text) j p3] [] p4) p5

/-- what the written part says of the class at C, its __init__ at fI, the cell of __class__ at cc, the code object at cda -/
structure ExTxt (prog : Program) (K : Frag) (C fI cc cda : Addr) (qual : Str) (params : Arguments) (body : List Stmt) (scope : Scope) (fs : List (Str × Str)) : Prop where
  cls : ∃ nm q N bs bm sn sub ab col dd k0 k1 k2 k3 k5, K.lookup C = some (excClassObj nm q C N bs bm true sn sub ab col dd k0 k1 k2 k3 k5 "ValueError.__new__") ∧ refsVE bm = true
  sa : findIn K (.ref C) "__setattr__" = some (some (.builtin "object.__setattr__"))
  iC : findIn K (.ref C) "__init__" = some (some (.ref fI))
  tC : typeIn K (.ref fI) = some (.type "function")
  kC : keepIn K (.ref C) = true
  exC : subIn K (.ref C) (.type "BaseException") = some true
  tyC : typeIn K (.ref C) = some (.type "type")
  mro : mroIn K C (.ref C) = some true
  ve : subIn K (.ref C) (.type "ValueError") = some true
  sup : ks_superIn K C C "__init__" = some (some (.builtin "ValueError.__init__"))
  ini : excInitIn K C veTail "ValueError.__new__" = true
  any : nsIn K cStatics "thirdparty.any" = some none
  cell : ∃ cl cld csl, K.lookup cc = some ⟨cl, cld, .cell (some (.ref C)), csl⟩
  code : ∃ ccl cdd vs ccs file tf, K.lookup cda = some ⟨ccl, cdd, .fields vs, ccs⟩ ∧ vs[2]? = some (.str file tf) ∧ ((prog.main.file : Str) == file) = true
  top : (prog.main.scope.names.lookup ("super" : Str)).isSome = false
  fn : ∃ oc od kV doc pm an ct osl, K.lookup fI = some ⟨oc, od, .func (ksFn "__init__" qual params body scope .none kV doc pm an (.ref cda) ct cc), osl⟩ ∧ codeIn K (.ref cda) qual = true
  noN : ∀ p ∈ fs, findIn K (.ref C) p.1 = some none
/-- a def's scope that asks for __class__ -/
structure IniScope (scope : Scope) (ps : List Str) : Prop where
  kind : scope.kind = .function
  co : scope.isCoroutine = false
  gen : scope.isGenerator = false
  sup : scope.names.lookup ("super" : Str) = some .globalImplicit
  cls : scope.names.lookup ("__class__" : Str) = some .free
  par : ∀ x ∈ ps, scope.names.lookup x = some .local ∧ (x == ("__debug__" : Str)) = false
  nocell : ∀ x ∈ scope.names, x.2 ≠ .cell
  nd : ps.Nodup
/-- the heap while the fields are stored: done the stored ones, the last ahead -/
structure Sto (K : Frag) (hp : Heap) (C L x : Addr) (m : Str → Option Value) (done : List (Str × Value)) (h : Heap) : Prop where
  keep : ∀ b o, hp.get? b = some o → h.get? b = some o
  ns : h.Ns L m
  big : hp.objs.size ≤ L
  nx : x ≠ L
  xbig : hp.objs.size ≤ x
  ob : ∃ t1 dv, h.get? x = some { cls := .ref C, dict := dv, data := .fields #[.ref t1, .none, .none, .none, .bool false, .none] } ∧
    ((done = [] ∧ dv = none) ∨ (done ≠ [] ∧ ∃ dx, dv = some dx ∧ hp.objs.size ≤ dx ∧ dx ≠ x ∧ dx ≠ L ∧ h.Ns1 dx fun y => done.lookup y))
theorem lookup_fun {n : Str} {v : Value} {done : List (Str × Value)} : (fun y => if y = n then some v else done.lookup y) = fun y => ((n, v) :: done).lookup y := by
  funext y
  rw [List.lookup_cons]
  by_cases e : y = n
  · subst e; simp
  · have : (y == n) = false := beq_eq_false_iff_ne.mpr e
    rw [if_neg e, this]
theorem within_lookup : ∀ done : List (Str × Value), Within (fun y => done.lookup y) (done.map (·.1))
  | [] => fun y hy => absurd rfl hy
  | (n, v) :: r => by
    rw [← lookup_fun]
    exact Within.cons n v (within_lookup r)
section
variable {prog : Program} {w : World} {A : Around} {E : Value → Shared → Prop} {R : Result → Shared → Prop} {s : Shared} {K : Frag} {hp : Heap} {C fI cc cda L x : Addr} {qual : Str} {params : Arguments} {body : List Stmt} {scope : Scope} {m : Str → Option Value} {fs0 : List (Str × Str)} {ps : List Str} {ann : Option Expr} {pa : Pos} {args' : List Arg} {t0 : Addr}
theorem Frag.high {K : Frag} {hp : Heap} (X : K.In hp) {x : Addr} (hx : hp.objs.size ≤ x) : K.lookup x = none := by
  cases e : K.lookup x with
  | none => rfl
  | some o => exact absurd (Heap.lt_size (X _ _ e)) (Nat.not_lt.mpr hx)
theorem flds_ok (T : ExTxt prog K C fI cc cda qual params body scope fs0) (X : K.In hp) (hk : scope.kind = .function) (hs : scope.names.lookup ("self" : Str) = some .local) (hsv : m "self" = some (.ref x)) {Q : Flow → Shared → Prop} :
    ∀ {ss : List Stmt} {fs : List (Str × Str)} {done : List (Str × Value)} {s : Shared}, FldStmts ss fs → Sto K hp C L x m done s.heap → done.length + fs.length ≤ 900 →
      (∀ p ∈ fs, findIn K (.ref C) p.1 = some none ∧ scope.names.lookup p.2 = some .local ∧ (p.2 == ("__debug__" : Str)) = false ∧ ∃ v, m p.2 = some v) →
      (∀ h' tk' vs, vs.length = fs.length → (∀ (i : Nat) p v, fs[i]? = some p → vs[i]? = some v → m p.2 = some v) → Sto K hp C L x m (((fs.map (·.1)).zip vs).reverse ++ done) h' → Q .next { s with heap := h', toks := tk' }) →
      wpAny (model prog w) A (execs ss (ksEnv qual scope L fI (.ref cda) cc)) Q E s
  | _, _, done, s, .nil, st, _, _, hq => wpAny_execs_nil (hq s.heap s.toks [] rfl (fun i p v h => by simp at h) st)
  | _, _, done, s, .cons (f := f) (x := a) (ss := ss) (fs := fs) r, st, hl, hf, hq => by
    obtain ⟨f1, f2, f3, v, f4⟩ := hf _ List.mem_cons_self
    obtain ⟨nm, q, N, bs, bm, sn, sub, ab, col, dd, k0, k1, k2, k3, k5, hC, hbm⟩ := T.cls
    have hcl : clsIn K C = some { name := nm, bases := bs, mro := .ref C :: bm, ns := N, qualname := q, hasDict := true, slotNames := sn, subclasses := sub, abstract := ab, collection := col, hasDel := false } := by unfold clsIn; rw [hC] <;> rfl
    have X₁ : K.In s.heap := X.keeps st.keep
    have nxK := Frag.high X st.xbig
    refine wpAny_execs_cons (plainObj_wpAny_Assign_Attribute ?_ rfl)
    refine wpAny_Name (wpAny_loadName_local hk f2 st.ns f4 ?_) f3
    refine wpAny_Name (wpAny_loadName_local hk hs st.ns hsv ?_) (by decide)
    obtain ⟨t1, dv, hx, hd⟩ := st.ob
    have nxt : ∀ {h' : Heap} {tk' : Nat}, Sto K hp C L x m ((f, v) :: done) h' → wpAny (model prog w) A (execs ss (ksEnv qual scope L fI (.ref cda) cc)) Q E { s with heap := h', toks := tk' } := fun {h' tk'} st' => by
      refine flds_ok T X hk hs hsv (s := { s with heap := h', toks := tk' }) r st' (by simp only [List.length_cons] at hl ⊢; omega) (fun p hp => hf p (List.mem_cons_of_mem _ hp)) fun h2 tk2 vs l2 v2 st2 => ?_
      refine hq h2 tk2 (v :: vs) (by simp [l2]) (fun i p u h1 h2 => ?_) ?_
      · cases i with
        | zero => simp at h1 h2; subst h1 h2; exact f4
        | succ i => exact v2 i p u (by simpa using h1) (by simpa using h2)
      · simpa [List.zip_cons_cons, List.reverse_cons, List.append_assoc] using st2
    rcases hd with ⟨rfl, rfl⟩ | ⟨_, dx, rfl, dbig, dne, dL, hns⟩
    · refine set_plain X₁ (ox := { cls := .ref C, data := .fields #[.ref t1, .none, .none, .none, .bool false, .none] }) (od := none) ⟨hx, rfl, rfl, trivial⟩ T.sa ?_
      refine exc_osa (hp := s.heap) X₁ hx hcl (show refsVE (.ref C :: bm) = true from hbm) rfl f1 (fun h₃ tk₃ dx k₃ dn dne hx₃ hn₃ => ?_)
      refine nxt ⟨fun b o e => k₃ b o (Nat.ne_of_lt (Nat.lt_of_lt_of_le (Heap.lt_size e) st.xbig)) (st.keep b o e), ?_, st.big, st.nx, st.xbig, t1, some dx, hx₃, .inr ⟨by simp, dx, rfl, ?_, dne, ?_, ?_⟩⟩
      · exact st.ns.at fun o e => k₃ L o (Ne.symm st.nx) e
      · exact Nat.le_trans st.big (Nat.le_trans (Nat.le_of_lt st.ns.lt) dn)
      · exact Nat.ne_of_gt (Nat.lt_of_lt_of_le st.ns.lt dn)
      · rw [show (fun y => List.lookup y [(f, v)]) = fun y => if y = f then some v else List.lookup y [] from lookup_fun.symm]
        exact hn₃
    · obtain ⟨oD, esD, epD, hoD, hdD, _⟩ := hns.count (within_lookup done)
      refine set_plain X₁ (ox := { cls := .ref C, dict := some dx, data := .fields #[.ref t1, .none, .none, .none, .bool false, .none] }) (od := some oD) ⟨hx, rfl, rfl, hoD⟩ T.sa ?_
      refine OEX.osa_old (hp := s.heap) X₁ hx hns (within_lookup done) (by rw [List.length_map]; omega) hcl (show refsVE (.ref C :: bm) = true from hbm) rfl f1 (fun h₃ tk₃ k₃ hn₃ => ?_)
      refine nxt ⟨fun b o e => k₃ b o (Nat.ne_of_lt (Nat.lt_of_lt_of_le (Heap.lt_size e) dbig)) (st.keep b o e), ?_, st.big, st.nx, st.xbig, t1, some dx, ?_, .inr ⟨by simp, dx, rfl, dbig, dne, dL, ?_⟩⟩
      · exact st.ns.at fun o e => k₃ L o (Ne.symm dL) e
      · exact k₃ x _ (Ne.symm dne) hx
      · rw [← lookup_fun]; exact hn₃
/-- a made exception -/
structure Made (h h' : Heap) (e C : Addr) (done : List (Str × Value)) : Prop where
  keep : ∀ b o, h.get? b = some o → h'.get? b = some o
  new : h.objs.size ≤ e
  ob : ∃ oe vs dv, h'.get? e = some oe ∧ oe.cls = .ref C ∧ oe.dict = dv ∧ oe.data = .fields vs ∧ vs[1]? = some .none ∧
    ((done = [] ∧ dv = none) ∨ (done ≠ [] ∧ ∃ dx, dv = some dx ∧ h.objs.size ≤ dx ∧ dx ≠ e ∧ h'.Ns1 dx fun y => done.lookup y))
/-- how the model reads super().__init__(text) in this scope: by rfl -/
def SupEv (qual : Str) (scope : Scope) (fI cda cc : Addr) (pl : Sem Bool) (text : Str) (j : Nat) (p0 p1 p2 p3 p4 : Pos) : Prop :=
  ∀ L : Addr, eval (.Call (.Attribute (.Call (.Name "super" p0) [] [] p1) "__init__" p2) [.Constant (.str text) j p3] [] p4) (ksEnv qual scope L fI (.ref cda) cc) = (do
    let ov ← attributeBase (.Call (.Name "super" p0) [] [] p1) "__init__" (ksEnv qual scope L fI (.ref cda) cc) (eval (.Call (.Name "super" p0) [] [] p1) (ksEnv qual scope L fI (.ref cda) cc))
    standAt p2.atName
    let (f, first) ← holding [ov] (getMethod ov "__init__" pl)
    callWith p4 f first (backTo p4 (starEach [.Constant (.str text) j p3] (ksEnv qual scope L fI (.ref cda) cc))) [])
/-- the frame of __init__ begins: super().__init__(text) -/
theorem sup_ok (T : ExTxt prog K C fI cc cda qual params body scope fs0) (X : K.In hp) (S : IniScope scope ps) (ha : params.posonlyargs ++ params.args = { arg := "self", annotation := ann, pos := pa } :: args') {mg mb : Str → Option Value} (hG : hp.Ns mainGlobals mg) (hmg : mg "super" = none) (hB : hp.Ns builtinsNs mb) (hmb : mb "super" = some (.type "super"))
    (F : Fr hp L s.heap m) (N : News hp L s.heap [(x, excObj C t0 none .none)]) (hxb : hp.objs.size ≤ x) (hv : m "self" = some (.ref x)) (hself : ("self" : Str) ∈ ps) {text : Str} {j : Nat} {p0 p1 p2 p3 p4 p5 : Pos} {pl : Sem Bool} (he : SupEv qual scope fI cda cc pl text j p0 p1 p2 p3 p4) {Q : Flow → Shared → Prop}
    (hq : ∀ h' tk', Sto K hp C L x m [] h' → Q .next { s with heap := h', toks := tk' }) :
    _root_.PySem.wpAt (model prog w) A (.func body (ksEnv qual scope L fI (.ref cda) cc)) (exec (supStmt text j p0 p1 p2 p3 p4 p5) (ksEnv qual scope L fI (.ref cda) cc)) Q E s := by
  have X₁ : K.In s.heap := X.keeps F.keep
  obtain ⟨oc, od, kV, doc, pm, an, ct, osl, hf, hcd⟩ := T.fn
  obtain ⟨cl, cld, csl, hcell⟩ := T.cell
  obtain ⟨ccl, cdd, vs, ccs, file, tf, hcode, hvs, hfile⟩ := T.code
  obtain ⟨nm, q, Nn, bs, bm, sn, sub, ab, col, dd, k0, k1, k2, k3, k5, hC, hbm⟩ := T.cls
  obtain ⟨hh, g, d, t, os⟩ := s
  unfold supStmt
  refine ks_wpAt_Expr_any (ks_wpAt_MethodCall (pl := pl) ?_ (he L)) (by simp [interactive, S.kind]) rfl
  refine ks_wpAt_super_base (env := ksEnv qual scope L fI (.ref cda) cc) S.sup S.cls (by decide) rfl (X₁ _ _ hf) rfl (ar := { arg := "self", annotation := ann, pos := pa }) (by show (params.posonlyargs ++ params.args).head? = _; rw [ha]; rfl) rfl (X₁ _ _ hcode) rfl hvs hfile T.top ?_
  refine ks_loadName_global S.kind S.sup (Calls.loadGlobal_builtin (hG.keeps F.keep) hmg (hB.keeps F.keep) hmb ⟨rfl, ?_⟩)
  refine wpAny_loadName_free S.kind S.cls rfl ⟨_, X₁ _ _ hcell, rfl⟩ ?_
  refine wpAny_loadName_local S.kind (S.par "self" hself).1 F.ns hv ?_
  refine ks_wpAny_isType_cls (X₁ _ _ hC) rfl ⟨rfl, ?_⟩
  refine ks_wpAny_call_super (X₁ _ _ hC) rfl (N _ List.mem_cons_self).1 rfl (fun c e => by cases e) (looks_mroIn X₁ T.mro) (fun h' e k => ?_)
  obtain ⟨F1, N1, l1⟩ := ks_newsPush (s := ⟨hh, g, d, t, os⟩) F N rfl e k
  refine kxs_method (s := ⟨h', g, d, t, os⟩) kxs_ValueError F1 X N1 List.mem_cons_self (InstAt.of_exc0 N1 (List.mem_cons_of_mem _ List.mem_cons_self)) T.any T.sup T.ve (by decide) fun q h2 F2 N2 l2 => ?_
  refine kxs_callWith1 N2 List.mem_cons_self ?_
  refine Calls.spliced_cons (wpAny_Constant_str (k := j) (pos := p3) (Calls.spliced_nil ⟨kxs_at N2 List.mem_cons_self, ?_⟩))
  have m3 : (x, excObj C t0 none .none) ∈ [(q, kxs_mw "ValueError.__init__" x), (hh.objs.size, ks_superObj C x C), (x, excObj C t0 none .none)] := by simp
  have nq : q ≠ x := Ne.symm (Nat.ne_of_lt (l2 _ (List.mem_cons_of_mem _ List.mem_cons_self)))
  have nso : hh.objs.size ≠ x := Ne.symm (Nat.ne_of_lt (l1 _ List.mem_cons_self))
  refine kxs_call F2 X N2 PySem.F.excBase_ValueError T.ini List.mem_cons_self (.tail nq (.tail nso (.head (fun _ z => nomatch z)))) (by rw [sizeLine_eq]; exact (by decide : 1 ≤ 16777216)) fun t' h3 F3 N3 l3 => ?_
  have m4 := N3 (x, excObj C t' none .none) (by simp)
  exact hq h3 _ ⟨F3.keep, F3.ns, F3.above, m4.2.1, hxb, t', none, m4.1, .inl ⟨rfl, rfl⟩⟩
theorem zlk_none : ∀ {l : List (Str × Value)} {y : Str}, y ∉ l.map (·.1) → l.lookup y = none
  | [], _, _ => rfl
  | (n, v) :: l, y, h => by
    rw [List.lookup_cons]
    have : (y == n) = false := beq_eq_false_iff_ne.mpr fun z => h (by subst z; exact List.mem_cons_self)
    rw [this]
    exact zlk_none fun z => h (List.mem_cons_of_mem _ z)
theorem zlk : ∀ {ps : List Str} {us : List Value} {i : Nat} {y : Str} {u : Value}, ps.Nodup → ps[i]? = some y → us[i]? = some u → (ps.zip us).reverse.lookup y = some u
  | [], _, _, _, _, _, h, _ => by simp at h
  | _ :: _, [], _, _, _, _, _, h => by simp at h
  | p :: ps, v :: us, 0, y, u, nd, h1, h2 => by
    have e1 : p = y := by simpa using h1
    have e2 : v = u := by simpa using h2
    subst e1 e2
    have hn : (ps.zip us).reverse.lookup p = none := zlk_none fun z => (List.nodup_cons.mp nd).1 (by
      obtain ⟨w, hw, e⟩ := List.mem_map.mp z
      rw [← e]
      exact (List.of_mem_zip (List.mem_reverse.mp hw)).1)
    rw [List.zip_cons_cons, List.reverse_cons, List.lookup_append, hn, Option.none_or, List.lookup_cons, beq_self_eq_true]
  | p :: ps, v :: us, i + 1, y, u, nd, h1, h2 => by
    have e : (ps.zip us).reverse.lookup y = some u := zlk (i := i) (List.nodup_cons.mp nd).2 (by simpa using h1) (by simpa using h2)
    rw [List.zip_cons_cons, List.reverse_cons, List.lookup_append, e, Option.some_or]
theorem nst_self {v : Value} {us : List Value} {r : List Str} (nd : (("self" : Str) :: r).Nodup) : ((("self" : Str) :: r).zip (v :: us)).reverse.lookup ("self" : Str) = some v :=
  zlk (i := 0) nd rfl rfl
/-- C(..): made, __init__ run -/
theorem exc_made {fs : List (Str × Str)} {r : List Str} {ss : List Stmt} {text : Str} {j : Nat} {p0 p1 p2 p3 p4 p5 : Pos} {pl : Sem Bool} (T : ExTxt prog K C fI cc cda qual params (supStmt text j p0 p1 p2 p3 p4 p5 :: ss) scope fs) (X : K.In hp) (S : IniScope scope ("self" :: r))
    (ha : params.posonlyargs ++ params.args = { arg := "self", annotation := ann, pos := pa } :: args') (he : SupEv qual scope fI cda cc pl text j p0 p1 p2 p3 p4) {mg mb : Str → Option Value} (hG : hp.Ns mainGlobals mg) (hmg : mg "super" = none) (hB : hp.Ns builtinsNs mb) (hmb : mb "super" = some (.type "super"))
    (hss : FldStmts ss fs) (hfs : fs.map (·.2) = r) (hf9 : fs.length ≤ 900) (hlim : hp.NoLimit) {us : List Value} (hu : us.length = r.length) (hu9 : us.length ≤ sizeLine)
    (hbind : ∀ (kV doc pm : Value) (an : Option Addr) (ct : Value) (v : Value), bindArgs (ksFn "__init__" qual params (supStmt text j p0 p1 p2 p3 p4 p5 :: ss) scope .none kV doc pm an (.ref cda) ct cc) ⟨v :: us, []⟩ = pure ((("self" : Str) :: r).zip (v :: us)))
    (hroom : A.depth + 1 < recursionLimit) {g : Array GenState} {dr : Drawn} {tk : Nat} {os : OsState}
    (hq : ∀ h' tk' e, Made hp h' e C ((fs.map (·.1)).zip us).reverse → R (.ok (.ret (.ref e))) ⟨h', g, dr, tk', os⟩) :
    codeAny (model prog w) A (.call (.ref C) ⟨us, []⟩) R ⟨hp, g, dr, tk, os⟩ := by
  obtain ⟨nm, q, N, bs, bm, sn, sub, ab, col, dd, k0, k1, k2, k3, k5, hC, hbm⟩ := id T.cls
  obtain ⟨oc, od, kV, doc, pm, an, ct, osl, hf, hcd⟩ := id T.fn
  have k : ∀ b o, hp.get? b = some o → ((hp.push (kdv_tup us)).push (excO C hp.objs.size)).get? b = some o := fun b o e => Heap.get?_push_of_some _ (Heap.get?_push_of_some _ e)
  have hget : ((hp.push (kdv_tup us)).push (excO C hp.objs.size)).get? (hp.objs.size + 1) = some (excO C hp.objs.size) := by heap_get
  refine call_own PySem.F.excBase_ValueError (fun X => refsVE_contains X bm hbm) (X _ _ hC) (looks_findIn X T.iC) (fun self => bind_fn X self T.tC) hu9 ?_
  refine ks_codeAny_call_defAt (s := ⟨(hp.push (kdv_tup us)).push (excO C hp.objs.size), g, dr, tk, os⟩) (fd := ksFn "__init__" qual params (supStmt text j p0 p1 p2 p3 p4 p5 :: ss) scope .none kV doc pm an (.ref cda) ct cc) (body := supStmt text j p0 p1 p2 p3 p4 p5 :: ss)
    (binds := (("self" : Str) :: r).zip (.ref (hp.objs.size + 1) :: us)) ?_ ((X.keeps k) _ _ hf) rfl (hlim.keeps k) (codeRec_of (X.keeps k) hcd) rfl (BindsTo.of_eq (hbind kV doc pm an ct _)) S.nocell (fun y hy => (S.par y.1 (List.of_mem_zip hy).1).1) (fun h₁ hns hk₁ => ?_) S.co S.gen S.kind
  · show A.depth + 1 < recursionLimit
    exact hroom
  · have sz : ((hp.push (kdv_tup us)).push (excO C hp.objs.size)).objs.size = hp.objs.size + 1 + 1 := by simp [Heap.size_push]
    have hsv := nst_self (v := .ref (hp.objs.size + 1)) (us := us) S.nd
    have hL : hp.objs.size ≤ ((hp.push (kdv_tup us)).push (excO C hp.objs.size)).objs.size := by rw [sz]; omega
    refine ks_wpAt_execs_cons ?_
    refine sup_ok (t0 := hp.objs.size) (x := hp.objs.size + 1) (L := ((hp.push (kdv_tup us)).push (excO C hp.objs.size)).objs.size) T X S ha hG hmg hB hmb ⟨hns, fun b o e => hk₁ b o (k b o e), hL⟩ (fun p hp' => ?_) (Nat.le_succ _) hsv List.mem_cons_self he fun h2 tk2 st => ?_
    · rcases List.mem_singleton.mp hp' with rfl
      refine ⟨hk₁ _ _ hget, ?_, ?_⟩
      · show hp.objs.size + 1 ≠ _
        rw [sz]; omega
      · cases e : hp.get? (hp.objs.size + 1) with
        | none => rfl
        | some o => exact absurd (Heap.lt_size e) (Nat.not_lt.mpr (Nat.le_succ _))
    · refine wpAt_of_wpAny ?_
      refine flds_ok T X S.kind (S.par "self" List.mem_cons_self).1 hsv hss st (by simpa using hf9) (fun p hp => ?_) fun h' tk' vs lv hvs st' => ?_
      · have hm : p.2 ∈ r := by rw [← hfs]; exact List.mem_map_of_mem hp
        have hp2 := S.par p.2 (List.mem_cons_of_mem _ hm)
        refine ⟨T.noN p hp, hp2.1, hp2.2, ?_⟩
        obtain ⟨i, hi⟩ := List.getElem?_of_mem hm
        have hlt : i < us.length := by rw [hu]; exact (List.getElem?_eq_some_iff.mp hi).1
        exact ⟨us[i], zlk (i := i + 1) S.nd (by simpa using hi) (by simp [hlt])⟩
      · have ev : vs = us := by
          refine List.ext_getElem? fun i => ?_
          have l1 : vs.length = us.length := by rw [lv, hu, ← hfs, List.length_map]
          by_cases z : i < vs.length
          · have zf : i < fs.length := by rw [← lv]; exact z
            have zu : i < us.length := by rw [← l1]; exact z
            have hr : r[i]? = some fs[i].2 := by rw [← hfs, List.getElem?_map, List.getElem?_eq_getElem zf]; rfl
            have e1 := hvs i fs[i] vs[i] (List.getElem?_eq_getElem zf) (List.getElem?_eq_getElem z)
            have e2 := zlk (us := Value.ref (hp.objs.size + 1) :: us) (i := i + 1) (u := us[i]) S.nd (by simpa using hr) (by simp [zu])
            rw [e2] at e1
            rw [List.getElem?_eq_getElem z, List.getElem?_eq_getElem zu]
            exact e1.symm
          · rw [List.getElem?_eq_none (Nat.le_of_not_lt z), List.getElem?_eq_none (by rw [← l1]; exact Nat.le_of_not_lt z)]
        subst ev
        rw [List.append_nil] at st'
        obtain ⟨t1, dv, hx, hd⟩ := st'.ob
        refine ⟨rfl, hq h' tk' _ ⟨st'.keep, st'.xbig, _, _, dv, hx, rfl, rfl, rfl, rfl, ?_⟩⟩
        rcases hd with h | ⟨ne, dx, e, d1, d2, _, d3⟩
        · exact .inl h
        · exact .inr ⟨ne, dx, e, d1, d2, d3⟩
end
end FwX
end PySem
set_option Elab.async false
set_option linter.all false
set_option maxRecDepth 100000
set_option maxHeartbeats 4000000
/-! Fw15: raise; try. -/
namespace Fw
open PySem L2 PySem.Spec PyProof.Rows

/-! ### raise C(..) -/
theorem paired_append {α β : Type} {P : α → β → Prop} : ∀ {a c : List α} {b d : List β}, Paired P a b → Paired P c d → Paired P (a ++ c) (b ++ d)
  | _, _, _, _, .nil, h => h
  | _, _, _, _, .cons x y, h => .cons x (paired_append y h)
theorem paired_rev {α β : Type} {P : α → β → Prop} : ∀ {a : List α} {b : List β}, Paired P a b → Paired P a.reverse b.reverse
  | _, _, .nil => .nil
  | _, _, .cons x y => by
    rw [List.reverse_cons, List.reverse_cons]
    exact paired_append (paired_rev y) (.cons x .nil)
theorem zip_rev {α β : Type} : ∀ {a : List α} {b : List β}, a.length = b.length → (a.zip b).reverse = a.reverse.zip b.reverse
  | [], [], _ => rfl
  | [], _ :: _, h => by simp at h
  | _ :: _, [], h => by simp at h
  | x :: a, y :: b, h => by
    have hl : a.length = b.length := by simpa using h
    rw [List.zip_cons_cons, List.reverse_cons, zip_rev hl, List.reverse_cons, List.reverse_cons, List.zip_append (by simp [hl])]
    rfl
theorem relO_zip : ∀ {fs : List Str} {vs : List V} {us : List Value} (f : Str), Vals vs us → RelO ((fs.zip vs).lookup f) ((fs.zip us).lookup f)
  | [], _, _, f, _ => by simp [RelO]
  | a :: fs, _, _, f, .nil => by simp [RelO]
  | a :: fs, _, _, f, .cons r t => by
    rw [List.zip_cons_cons, List.zip_cons_cons, List.lookup_cons, List.lookup_cons]
    cases f == a with
    | true => exact r
    | false => exact relO_zip f t
theorem DRs.rev {K : PySem.W.Frag} {Γ : G} {F : Hp} : ∀ {ds : List D} {vs : List V}, DRs K Γ F ds vs → DRs K Γ F ds.reverse vs.reverse
  | [], _, h => by cases h; rfl
  | d :: ds, _, h => by
    obtain ⟨x, r, rfl, h2, h3⟩ := h
    rw [List.reverse_cons, List.reverse_cons]
    exact (DRs.rev h3).append ⟨x, [], rfl, h2, rfl⟩
/-- all that a class that is raised must have; fl its fields as stored -/
structure ExcOk (prog : Program) (K : PySem.W.Frag) (mgl : Str → Option Value) (x : Str) (C : Addr) (fl : List Str) : Prop where
  mg : mgl x = some (.ref C)
  ex : ∃ (fI cc cda : Addr) (qual : Str) (params : Arguments) (scope : Scope) (fs : List (Str × Str)) (r : List Str) (ss : List Stmt) (text : Str) (j : Nat) (p0 p1 p2 p3 p4 p5 pa : Pos) (pl : Sem Bool) (ann : Option Expr) (args' : List Arg),
    FwX.ExTxt prog K C fI cc cda qual params (FwX.supStmt text j p0 p1 p2 p3 p4 p5 :: ss) scope fs ∧ FwX.IniScope scope ("self" :: r) ∧ params.posonlyargs ++ params.args = { arg := "self", annotation := ann, pos := pa } :: args' ∧
    FwX.SupEv qual scope fI cda cc pl text j p0 p1 p2 p3 p4 ∧ FwX.FldStmts ss fs ∧ fs.map (·.2) = r ∧ fs.map (·.1) = fl ∧ fs.length ≤ 900 ∧
    ∀ (us : List Value), us.length = r.length → ∀ (kV doc pm : Value) (an : Option Addr) (ct : Value) (v : Value), bindArgs (PySem.W.ksFn "__init__" qual params (FwX.supStmt text j p0 p1 p2 p3 p4 p5 :: ss) scope .none kV doc pm an (.ref cda) ct cc) ⟨v :: us, []⟩ = pure ((("self" : Str) :: r).zip (v :: us))
  sup : mgl "super" = none
def tMkX (C : Addr) (fl : List Str) (t : TA) : L2.St → Hp → XK → Prop := fun σ H Q => t σ H fun vs H1 => vs.length = fl.length ∧ (fl = [] → Q (.ref C) none H1) ∧ (fl ≠ [] → ∀ d, H1 d = none → Q (.ref C) (some d) (upd H1 d (.xd (fl.reverse.zip vs.reverse))))
section
variable {Y : Cy} {w w1 w2 : Wd} {σ : L2.St} {H H1 H2 : Hp} {env : Env} {ms ms1 ms2 : Ms} {Ed : Ends} {es : List Expr} {m : Env → Ms → R (List S)} {n k : Nat} {x : Str} {C : Addr} {fl : List Str} {np pos p1 : Pos}
theorem pmk_x {t : TA} (hr : Room k Y.X.A) (e : ExcOk Y.X.prog Y.X.K Y.X.mg x C fl) (hg : Gl Y.X x) (ha : PC Y.X es [] n [] t) (hdb : (x == ("__debug__" : Str)) = false := by decide) : PMk Y.X (.Call (.Name x np) es [] pos) (tMkX C fl t) := by
  intro pins s σ H Q I h
  obtain ⟨fI, cc, cda, qual, params, scope, fs, r, ss, text, j, p0, p1, p2, p3, p4, p5, pa, pl, ann, args', T, S, hpa, he, hss, hr2, hfl, h9, hbind⟩ := e.ex
  refine wpAny_Call_Name_kw (ld_glob I hg e.mg ?_ hdb)
  refine PySem.W.callWith_of (ha.plain pos) (PySem.W.keeps_K T.kC) (thn (ha.run pos _ pins s σ H _ I h) fun a s1 hh => ?_)
  obtain ⟨us, ws, vs, H1, ea, l1, l2, I1, rv, hl, q0, q1⟩ := hh
  subst ea
  have ws0 : ws = [] := List.length_eq_zero_iff.mp l2
  subst ws0
  rw [List.append_nil] at rv
  refine ⟨I1.kIn, ?_⟩
  show wpAny _ _ (call (.ref C) us) _ _ _
  have hlim := I1.nolimit
  obtain ⟨mb, hb1, hb2⟩ := I1.mod.blt
  have hb3 : mb "super" = some (.type "super") := (hb2 "super" (by decide)).trans (by decide +kernel)
  have hus : us.length = r.length := by rw [← rv.length, hl, ← hfl, ← hr2, List.length_map, List.length_map]
  have hG := I1.mod.glob.keeps I1.bk
  have hB := hb1.keeps I1.bk
  have kIn := I1.kIn
  have lr : r.length ≤ 900 := by rw [← hr2, List.length_map]; exact h9
  obtain ⟨hp, g, dr, tk, os⟩ := s1
  refine wpAny_call (FwX.exc_made T kIn S hpa he hG e.sup hB hb3 hss hr2 h9 hlim hus (by rw [sizeLine_eq]; omega) (hbind us hus) (by have := hr.dp; omega) fun h' tk' ea M => ?_)
  show MkP Y.X pins σ Q (.ref ea) ⟨h', g, dr, tk', os⟩
  obtain ⟨oe, fv, dv, hoe, hc, hd, hdat, h1, hcase⟩ := M.ob
  obtain ⟨G', g1, g2⟩ := restrict h' fun b => decide (b ≠ ea)
  have gk : ∀ b, b ≠ ea → G'.get? b = h'.get? b := fun b hb => g1 b (decide_eq_true hb)
  have ge : G'.get? ea = none := g2 ea (by simp)
  have old : ∀ b o, hp.get? b = some o → G'.get? b = some o := fun b o q => (gk b (Nat.ne_of_lt (Nat.lt_of_lt_of_le (Heap.lt_size q) M.new))).trans (M.keep b o q)
  have back : ∀ b o, G'.get? b = some o → h'.get? b = some o := fun b o q => by
    by_cases hb : b = ea
    · rw [hb, ge] at q; cases q
    · exact (gk b hb).symm.trans q
  have rse := raises_own (X := Y.X) T.exC T.tyC
  rw [hfl] at hcase
  rcases hcase with ⟨he0, hdv⟩ | ⟨hne, dx, hdv, dbig, dne, hns⟩
  · have fl0 : fl = [] := by
      cases fl with
      | nil => rfl
      | cons a fl =>
        cases us with
        | nil => rw [rv.length] at hl; simp at hl
        | cons u us => simp at he0
    subst hdv
    have J : Inv Y.X pins σ H1 ⟨G', g, dr, tk', os⟩ := I1.kept (t' := tk') old
    exact ⟨ea, oe, fv, ⟨G', g, dr, tk', os⟩, _, .ref C, none, rfl, J, back, ge, hoe, ⟨hc, hd⟩, hdat, h1, I1.hok.fresh M.new, rfl, I1.bare, rse, q0 fl0⟩
  · subst hdv
    have fl1 : fl ≠ [] := fun z => by subst z; exact hne rfl
    have lus : fl.length = us.length := by rw [← hl, rv.length]
    have hfun : (fun y => (fl.zip us).reverse.lookup y) = fun y => (fl.reverse.zip us.reverse).lookup y := by rw [zip_rev lus]
    rw [hfun] at hns
    have ob : ObjOk Y.X.prog Y.X.w (upd H1 dx (.xd (fl.reverse.zip vs.reverse))) G' dx (.xd (fl.reverse.zip vs.reverse)) :=
      ⟨_, hns.at (fun o q => (gk dx dne).trans q), fun f => relO_zip f (paired_rev rv)⟩
    have J : Inv Y.X pins σ (upd H1 dx (.xd (fl.reverse.zip vs.reverse))) ⟨G', g, dr, tk', os⟩ := I1.laid (t' := tk') old dbig ob
    refine ⟨ea, oe, fv, ⟨G', g, dr, tk', os⟩, _, .ref C, some dx, rfl, J, back, ge, hoe, ⟨hc, hd⟩, hdat, h1, ?_, rfl, I1.bare, rse, q1 fl1 dx (I1.hok.fresh dbig)⟩
    rw [upd_ne (Ne.symm dne)]
    exact I1.hok.fresh M.new
/-- raise C(..) -/
def sRaise (c n : Nat) (ma : Env → Ms → R (List S)) : Env → Ms → T := fun env ms => T.ofE (ma env ms) env fun ss ms1 => match toDs ss with
  | some ds => match Nat.beq ds.length n with
    | true => .ex c ds.reverse env ms1
    | false => .bad
  | none => .bad
theorem s_raise {c l : Nat} (ok : CyOk Y k) (e : ExcOk Y.X.prog Y.X.K Y.X.mg x C fl) (hC : Y.Γ.cls c = C) (hf : Y.Γ.fld c = fl.reverse) (hg : Gl Y.X x) (ha : DC Y es [] n [] m) (hl : fl.length = l := by rfl) (hdb : (x == ("__debug__" : Str)) = false := by decide) :
    DS Y (.Raise (some (.Call (.Name x np) es [] p1)) none pos) (sRaise c l m) := by
  obtain ⟨t, pa, sa⟩ := ha.ex
  refine ⟨_, ps_raise ok.calm ok.tk (pmk_x ok.hr e hg pa hdb), fun w σ H env ms Ed er hr h => ?_⟩
  refine sa.goS er hr h fun ss ms1 w1 H1 vs e1 er1 hr1 sv h1 => ?_
  cases hd : toDs ss with
  | none => rw [hd] at h1; exact h1.elim
  | some ds =>
    rw [hd] at h1
    dsimp only at h1
    cases hb : Nat.beq ds.length l with
    | false => rw [hb] at h1; exact h1.elim
    | true =>
      rw [hb] at h1
      have r := toDs_rel hd sv
      have lv : vs.length = fl.length := by rw [← DRs.length r, hl]; exact Nat.eq_of_beq_eq_true hb
      subst hC
      refine ⟨lv, fun z => ?_, fun z d hdn => ?_⟩
      · subst z
        have vs0 : vs = [] := List.length_eq_zero_iff.mp lv
        subst vs0
        have ds0 : ds = [] := List.length_eq_zero_iff.mp (DRs.length r)
        subst ds0
        exact h1 w1 H1 σ none (Ext.refl w1) hr1 er1 (.inl ⟨by rw [hf]; rfl, rfl, rfl⟩)
      · obtain ⟨hr2, e2⟩ := hr1.froz (o := .xd (fl.reverse.zip vs.reverse)) hdn
        refine h1 _ _ σ (some d) e2 hr2 (er1.mono e2) (.inr ⟨d, vs.reverse, rfl, by rw [hf]; exact upd_same, by rw [hf, List.length_reverse, List.length_reverse, lv], DRs.mono e2.F _ _ r.rev⟩)
end
end Fw
set_option Elab.async false
set_option linter.all false
set_option maxRecDepth 100000
set_option maxHeartbeats 4000000
/-! Fw16: try with several clauses, each with a name for the exception or without. -/
namespace Fw
open PySem L2 PySem.Spec PyProof.Rows

abbrev HdE := Value × Option Nat × (Addr → Value → Option Addr → TS)
def dSl (D : Ends) : Option Nat → Ends
  | none => D
  | some i => { nx := fun σ' H' => D.nx (σ'.set i none) H', rt := D.rt, bk := fun σ' H' => D.bk (σ'.set i none) H', ct := fun σ' H' => D.ct (σ'.set i none) H' }
def eSl (a : Addr) (σ : L2.St) : Option Nat → L2.St
  | none => σ
  | some i => σ.set i (some (.ref a))
/-- the wish of an exception, clause by clause -/
def wAny (K : PySem.W.Frag) (Wo : WX) (D : Ends) : List HdE → WX
  | [] => Wo
  | (c, sl, ts) :: r => fun cls d σ H => ∃ b, PySem.W.exmOne K cls c = some b ∧ (b = true → ∀ a, H a = none → ts a cls d (dSl D sl) (eSl a σ sl) H) ∧ (b = false → wAny K Wo D r cls d σ H)
inductive HdsA (Z : Cx) : List ExceptHandler → List HdE → Prop
  | nil : HdsA Z [] []
  | plain {x : Str} {c : Value} {ts : Addr → Value → Option Addr → TS} {b₀ : Stmt} {suite : List Stmt} {np ph : Pos} {hds : List ExceptHandler} {l : List HdE} (hc : Names Z x c)
      (hsu : ∀ (a : Addr) (oe : Obj) (cls : Value) (d : Option Addr) (pn : List (Addr × Obj)), Zc cls d oe → (∃ vs, oe.data = .fields vs) → PSs (Z.suite a ((a, oe) :: pn)) (b₀ :: suite) (ts a cls d)) (r : HdsA Z hds l) :
      HdsA Z (.ExceptHandler (some (.Name x np)) none (b₀ :: suite) ph :: hds) ((c, none, ts) :: l)
  | named {x n : Str} {i : Nat} {c : Value} {ts : Addr → Value → Option Addr → TS} {b₀ : Stmt} {suite : List Stmt} {np ph : Pos} {hds : List ExceptHandler} {l : List HdE} (hc : Names Z x c) (hi : Z.N[i]? = some n) (hln : Z.env.kindOf n = some .local)
      (hsu : ∀ (a : Addr) (oe : Obj) (cls : Value) (d : Option Addr) (pn : List (Addr × Obj)), Zc cls d oe → (∃ vs, oe.data = .fields vs) → PSs (Z.suite a ((a, oe) :: pn)) (b₀ :: suite) (ts a cls d)) (r : HdsA Z hds l) :
      HdsA Z (.ExceptHandler (some (.Name x np)) (some n) (b₀ :: suite) ph :: hds) ((c, some i, ts) :: l)
section
variable {Z : Cx} {body : List Stmt} {h₀ : ExceptHandler} {hds : List ExceptHandler} {l : List HdE} {pos : Pos} {tb : WX → TS} {Wo : WX}
/-- the clauses are asked -/
theorem hds_run {pins : List (Addr × Obj)} {σ1 : L2.St} {H1 : Hp} {sI s0 : Shared} {D : Ends} {a : Addr} {B : Heap} {cls : Value} {d : Option Addr} {h3 : Heap} (ok : Z.Ok) (nd : Z.N.Nodup) (stk : Z.stack = Z.env :: Z.outer) (frm : Z.env.frame = some Z.env.locals) (hfr : Z.A.frames = some (Z.env :: Z.outer)) (tk : Takes Z Wo)
    (J : Inv Z pins σ1 H1 sI) (nb : ∀ b o, sI.heap.get? b = some o → b ∉ frs Z.stack → B.get? b = some o) (up : sI.heap.UpToSlots h3) (os : s0.os = sI.os) (ag : AllBare s0.gens) (na : H1 a = none) (nL : a ≠ Z.env.locals) (nF : a ∉ Z.fs) (fly : HandSPX.FlyingZ B (Z.env :: Z.outer) a (Zc cls d) h3) :
    ∀ {hd2 : List ExceptHandler} {l2 : List HdE}, HdsA Z hd2 l2 → wAny Z.K Wo D l2 cls d σ1 H1 → wpAny (model Z.prog Z.w) Z.A (handleBy (.ref a) Z.env hd2) (SP Z pins D) Z.xe { s0 with heap := h3 } := by
  have J3 : Inv Z pins σ1 H1 { s0 with heap := h3 } := J.landed nb fly.1 up os ag
  obtain ⟨oe3, vs3, he3, hz3, hd3⟩ := fly.there
  have S3 := J3.suite he3 hd3 na nL nF
  have LT : PySem.W.Looks (model Z.prog Z.w) h3 (typeOf (.ref a)) cls := fun A Q E s k q => wpAny_typeOf_ref (k _ _ he3) (by rw [hz3.1]; exact q)
  have ask : ∀ {x : Str} {c : Value} {np : Pos} {Q : Value → Shared → Prop} {E : Value → Shared → Prop}, Names Z x c → Q c { s0 with heap := h3 } → wpAny (model Z.prog Z.w) (Z.A.mark (some (.ref a))) (eval (.Name x np) Z.env) Q E { s0 with heap := h3 } := fun {x c np Q E} hc q => by
    obtain ⟨hg, hdbg, hm | ⟨hm, hv, hnn⟩⟩ := hc
    · exact ld_glob (X := Z.suite a ((a, oe3) :: (Z.pn ++ pins))) S3 hg hm q hdbg
    · exact ld_blt (X := Z.suite a ((a, oe3) :: (Z.pn ++ pins))) S3 hg hm hv q hnn hdbg
  intro hd2 l2 hk
  induction hk with
  | nil =>
    intro wsh
    refine wpAny_handleBy_nil ?_
    obtain ⟨_, _, _, oe, vs, tbk, _, _, he, _, hd, e1, _⟩ := id fly
    unfold PySem.passOn
    refine wpAny_bind (wpAny_field he hd e1 ?_)
    rw [if_neg (show ¬ ((Value.ref tbk == Value.none) = true) from by simp)]
    have fin : wpAny (model Z.prog Z.w) Z.A (setFlight (.ref a) Z.env.frame) (fun _ s4 => wpAny (model Z.prog Z.w) Z.A (throw (.ref a) : Sem Flow) (SP Z pins D) Z.xe s4) Z.xe { s0 with heap := h3 } := by
      rw [frm]
      refine HandSPX.setFlight_upZ fly fun h4 held up4 => wpAny_throw (tk _ _ ?_)
      exact ⟨a, B, sI, pins, σ1, H1, cls, d, rfl, J, nb, up.trans up4, .inr (.inr (by rw [stk]; exact held)), na, os, ag, wsh⟩
    first
      | exact wpAny_bind (wpAny_pure (wpAny_bind fin))
      | exact wpAny_bind fin
  | @plain x c ts b₀ suite np ph hds2 l2 hc hsu r ih =>
    intro wsh
    obtain ⟨b, hb1, hyes, hno⟩ := wsh
    refine wpAny_handleBy_cons (codeAny_handlers_test ?_) (fun q => by cases q)
    have LM := PySem.W.exm_one (M := model Z.prog Z.w) J3.kIn LT hb1
    refine ask hc (LM.here ?_)
    cases b with
    | false =>
      show wpAny _ Z.A (handleBy (.ref a) Z.env hds2) _ _ _
      exact ih (hno rfl)
    | true =>
      refine codeAny_handlers_suite (HandSPX.lands_againZ fly fun h4 fl4 up4 => ?_)
      have J4 : Inv Z pins σ1 H1 { s0 with heap := h4 } := J.landed nb fl4.1 (up.trans up4) os ag
      obtain ⟨oe4, vs4, he4, hz4, hd4⟩ := fl4.there
      refine wpAny_mono ((hsu a oe4 cls d (Z.pn ++ pins) hz4 ⟨_, hd4⟩).run [] _ _ H1 _ (J4.suite he4 hd4 na nL nF) (hyes rfl a na)) (fun f s6 hsp => ?_) (fun _ _ z => z.elim)
      cases f with
      | ret u => obtain ⟨v6, σ6, H6, S6, r6, q6⟩ := hsp; exact ⟨_, _, _, S6.unsuite ok, r6, q6⟩
      | next => obtain ⟨σ6, H6, S6, q6⟩ := hsp; exact ⟨_, _, S6.unsuite ok, q6⟩
      | brk => obtain ⟨σ6, H6, S6, q6⟩ := hsp; exact ⟨_, _, S6.unsuite ok, q6⟩
      | cont => obtain ⟨σ6, H6, S6, q6⟩ := hsp; exact ⟨_, _, S6.unsuite ok, q6⟩
  | @named x n i c ts b₀ suite np ph hds2 l2 hc hi hln hsu r ih =>
    intro wsh
    obtain ⟨b, hb1, hyes, hno⟩ := wsh
    refine wpAny_handleBy_cons (codeAny_handlers_test ?_) (fun q => by cases q)
    have LM := PySem.W.exm_one (M := model Z.prog Z.w) J3.kIn LT hb1
    refine ask hc (LM.here ?_)
    cases b with
    | false =>
      show wpAny _ Z.A (handleBy (.ref a) Z.env hds2) _ _ _
      exact ih (hno rfl)
    | true =>
      refine codeAny_handlers_suite_as (HandSPX.lands_againZ fly fun h4 fl4 up4 => ?_)
      have J4 : Inv Z pins σ1 H1 { s0 with heap := h4 } := J.landed nb fl4.1 (up.trans up4) os ag
      obtain ⟨oe4, vs4, he4, hz4, hd4⟩ := fl4.there
      refine store_ok (X := Z.suite a ((a, oe4) :: (Z.pn ++ pins))) (v := .ref a) (J4.suite he4 hd4 na nL nF) nd hi (.inl hln) rfl (fun s5 S5 => ?_) (.inr hln)
      refine wpAny_mono ((hsu a oe4 cls d (Z.pn ++ pins) hz4 ⟨_, hd4⟩).run [] s5 _ H1 _ S5 (hyes rfl a na)) (fun f s6 hsp => ?_) (fun _ _ z => z.elim)
      have gone : ∀ {σ6 : L2.St} {H6 : Hp} {Q : Shared → Prop}, Inv (Z.suite a ((a, oe4) :: (Z.pn ++ pins))) [] σ6 H6 s6 → (∀ s7, Inv Z pins (σ6.set i none) H6 s7 → Q s7) →
          wpAny (model Z.prog Z.w) Z.A (do bindName Z.env n .none; unbindBehindTheSuite Z.env n ph) (fun _ s7 => Q s7) Z.xe s6 := fun {σ6 H6 Q} S6 hq => gone_ok (S6.unsuite ok) nd hi hln hq
      cases f with
      | ret u => obtain ⟨v6, σ6, H6, S6, r6, q6⟩ := hsp; exact gone S6 fun s7 J7 => ⟨_, _, _, J7, r6, q6⟩
      | next => obtain ⟨σ6, H6, S6, q6⟩ := hsp; exact gone S6 fun s7 J7 => ⟨_, _, J7, q6⟩
      | brk => obtain ⟨σ6, H6, S6, q6⟩ := hsp; exact gone S6 fun s7 J7 => ⟨_, _, J7, q6⟩
      | cont => obtain ⟨σ6, H6, S6, q6⟩ := hsp; exact gone S6 fun s7 J7 => ⟨_, _, J7, q6⟩
theorem ps_try_any (stk : Z.stack = Z.env :: Z.outer) (frm : Z.env.frame = some Z.env.locals) (nd : Z.N.Nodup) (tk : Takes Z Wo)
    (hb : ∀ (W : WX) (pn : List (Addr × Obj)) (xe : Value → Shared → Prop), Takes (Z.tr pn xe) W → PassesOwn (model Z.prog Z.w) Z.A Z.env xe → PSs (Z.tr pn xe) body (tb W))
    (hh : HdsA Z (h₀ :: hds) l) : PS Z (.Try body (h₀ :: hds) [] [] pos) (fun D σ H => tb (wAny Z.K Wo D l) D σ H) := by
  refine ⟨fun pins s σ H D I h => ?_⟩
  have ok := I.ok
  have hfr : Z.A.frames = some (Z.env :: Z.outer) := by rw [ok.frames, stk]
  refine wpAny_Try_except ?_
  refine wpAny_mono ((hb (wAny Z.K Wo D l) (Z.pn ++ pins) (fun e s₁ => wpAny (model Z.prog Z.w) Z.A (noteFrame e Z.env) (fun _ s₂ => wpAny (model Z.prog Z.w) Z.A (setFlight e none) (fun _ s₃ =>
    wpAny (model Z.prog Z.w) Z.A (handleBy e Z.env (h₀ :: hds)) (SP Z pins D) Z.xe s₃) Z.xe s₂) Z.xe s₁) (fun u s1 xx => ?_) PassesOwn.looking).run [] s σ H D (I.toTry _) h) (fun f s1 hsp => ?_) (fun e s1 he => he)
  · obtain ⟨a, B, sI, pins', σ1, H1, cls, d, rfl, Jt, nb, up, sky, na, os, ag, wsh⟩ := xx
    have J : Inv Z pins σ1 H1 sI := Jt.ofTry ok
    have sky2 : Sky B (Z.env :: Z.outer) a (Zc cls d) Z.env.locals s1.heap := by rw [← stk]; exact sky
    show wpAny (model Z.prog Z.w) Z.A (noteFrame (.ref a) Z.env) _ _ _
    refine Sky.land Zc.steady hfr frm sky2 fun h3 fly up3 => ?_
    obtain ⟨oe3, vs3, he3, _, hd3⟩ := fly.there
    have nfr : a ∉ frs (Z.env :: Z.outer) := fun hm => by
      obtain ⟨_, o2, e2, hnf⟩ := fly.2.2.1.mem hm
      rw [he3] at e2; cases e2
      exact hnf _ hd3
    refine hds_run ok nd stk frm hfr tk J nb (up.trans up3) os ag na (fun z => nfr (List.mem_filterMap.mpr ⟨Z.env, List.mem_cons_self, by rw [frm, z]⟩)) (fun hm => ?_) fly hh wsh
    obtain ⟨e, he, q⟩ := List.mem_filterMap.mp hm
    exact nfr (List.mem_filterMap.mpr ⟨e, List.mem_cons_of_mem _ he, q⟩)
  · cases f with
    | ret u => obtain ⟨v, σ2, H2, Jt, r, q⟩ := hsp; exact ⟨v, σ2, H2, Jt.ofTry ok, r, q⟩
    | next => obtain ⟨σ2, H2, Jt, q⟩ := hsp; exact wpAny_execs_nil ⟨σ2, H2, Jt.ofTry ok, q⟩
    | brk => obtain ⟨σ2, H2, Jt, q⟩ := hsp; exact ⟨σ2, H2, Jt.ofTry ok, q⟩
    | cont => obtain ⟨σ2, H2, Jt, q⟩ := hsp; exact ⟨σ2, H2, Jt.ofTry ok, q⟩
end
end Fw
set_option Elab.async false
set_option linter.all false
set_option maxRecDepth 100000
set_option maxHeartbeats 4000000
/-! Fw17: try, what it computes; the caught exception's fields and class. -/
namespace Fw
open PySem L2 PySem.Spec PyProof.Rows

abbrev HdM := (Nat → Option Bool) × Option Nat × (Env → Ms → T)
def envNoX (env : Env) : Bool := env.all fun o => match o with
  | some s => s.noX
  | none => true
def finT (t : T) : T := match t with
  | .nx e ms => match envNoX e with
    | true => .nx e ms
    | false => .bad
  | .bk e ms => match envNoX e with
    | true => .bk e ms
    | false => .bad
  | .ct e ms => match envNoX e with
    | true => .ct e ms
    | false => .bad
  | .rt s ms => match s.noX with
    | true => .rt s ms
    | false => .bad
  | _ => .bad
def unsetT (sl : Option Nat) (t : T) : T := match sl with
  | none => t
  | some i => match t with
    | .nx e ms => .nx (e.set i none) ms
    | .bk e ms => .bk (e.set i none) ms
    | .ct e ms => .ct (e.set i none) ms
    | t => t
def setX (sl : Option Nat) (c : Nat) (ds : List D) (e : Env) : Env := match sl with
  | none => e
  | some i => e.set i (some (.exn c ds))
def hdl : List HdM → Nat → List D → Env → Ms → T
  | [], c, ds, e, ms => .ex c ds e ms
  | (tst, sl, su) :: r, c, ds, e, ms => match tst c with
    | some false => hdl r c ds e ms
    | some true => match envNoX e with
      | true => finT (unsetT sl (su (setX sl c ds e) ms))
      | false => .bad
    | none => .bad
def sTry (mb : Env → Ms → T) (hds : List HdM) : Env → Ms → T := fun env ms => match mb env ms with
  | .ex c ds e ms1 => hdl hds c ds e ms1
  | t => t
abbrev Cy.tr (Y : Cy) (W : WX) (pn : List (Addr × Obj)) (xe : Value → Shared → Prop) : Cy := ⟨Y.X.tr pn xe, Y.Γ, W, Y.ea, Y.ed, Y.ec⟩
abbrev Cy.suite (Y : Cy) (a : Addr) (oe : Obj) (cls : Value) (d : Option Addr) (pn : List (Addr × Obj)) : Cy := ⟨Y.X.suite a ((a, oe) :: pn), Y.Γ, fun _ _ _ _ => False, a, d, cls⟩
abbrev Cy.wW (Y : Cy) (W : WX) : Cy := ⟨Y.X, Y.Γ, W, Y.ea, Y.ed, Y.ec⟩
abbrev Cy.su0 (Y : Cy) (a : Addr) (cls : Value) (d : Option Addr) : Cy := ⟨Y.X, Y.Γ, fun _ _ _ _ => False, a, d, cls⟩
theorem CyOk.tr {Y : Cy} {k : Nat} (ok : CyOk Y k) {W : WX} {pn : List (Addr × Obj)} {xe : Value → Shared → Prop} (tk : Takes (Y.X.tr pn xe) W) (own : PassesOwn (model Y.X.prog Y.X.w) Y.X.A Y.X.env xe) : CyOk (Y.tr W pn xe) k :=
  ⟨ok.hr, ok.gd, tk, own, ok.calm, ok.nd⟩
theorem DefOk.tr {Y : Cy} (ok : DefOk Y) {W : WX} {pn : List (Addr × Obj)} {xe : Value → Shared → Prop} : DefOk (Y.tr W pn xe) := ⟨ok.stk, ok.frm⟩
section
variable {Y : Cy} {w w1 w2 : Wd} {σ : L2.St} {H H1 H2 : Hp} {env : Env} {ms ms1 ms2 : Ms} {Ed : Ends}
theorem ER.conv {Y1 Y2 : Cy} (h : ∀ w s v, SR Y1 w s v → SR Y2 w s v) (e : ER Y1 w σ env) : ER Y2 w σ env := ⟨e.len, fun i s hs => let ⟨v, h1, h2⟩ := e.slot i s hs; ⟨v, h1, h w s v h2⟩⟩
/-- readings out of semantics -/
def semS (Y : Cy) (m : Env → Ms → T) : TS := fun Ed σ H => ∃ w env ms, ER Y w σ env ∧ HR Y w H ms ∧ tP Y w Ed (m env ms)
theorem wW_tr {W : WX} {pn : List (Addr × Obj)} {xe : Value → Shared → Prop} : ∀ w s v, SR (Y.wW W) w s v → SR (Y.tr W pn xe) w s v := fun w s v h => by cases s <;> exact h
theorem tr_wW {W : WX} {pn : List (Addr × Obj)} {xe : Value → Shared → Prop} : ∀ w s v, SR (Y.tr W pn xe) w s v → SR (Y.wW W) w s v := fun w s v h => by cases s <;> exact h
theorem su0_su {a : Addr} {oe : Obj} {cls : Value} {d : Option Addr} {pn : List (Addr × Obj)} : ∀ w s v, SR (Y.su0 a cls d) w s v → SR (Y.suite a oe cls d pn) w s v := fun w s v h => by cases s <;> exact h
theorem su_su0 {a : Addr} {oe : Obj} {cls : Value} {d : Option Addr} {pn : List (Addr × Obj)} : ∀ w s v, SR (Y.suite a oe cls d pn) w s v → SR (Y.su0 a cls d) w s v := fun w s v h => by cases s <;> exact h
theorem wW_self {W : WX} : ∀ w s v, SR (Y.wW W) w s v → SR Y w s v := fun w s v h => by cases s <;> exact h
theorem self_wW {W : WX} : ∀ w s v, SR Y w s v → SR (Y.wW W) w s v := fun w s v h => by cases s <;> exact h
theorem tr_pss {body : List Stmt} {mb : Env → Ms → T} {W : WX} {pn : List (Addr × Obj)} {xe : Value → Shared → Prop} (h : DSs (Y.tr W pn xe) body mb) : PSs (Y.X.tr pn xe) body (semS (Y.wW W) mb) := by
  obtain ⟨t, p, sd⟩ := h.ex
  refine ⟨fun pins s σ H Ed I ⟨w, env, ms, er, hr, q⟩ => p.run pins s σ H Ed I (sd w σ H env ms Ed (er.conv wW_tr) hr ?_)⟩
  exact T.post_mono q (fun _ _ z w' H' σ' e hr' er' => z w' H' σ' e hr' (er'.conv tr_wW)) (fun _ _ z w' H' v e hr' sv => z w' H' v e hr' (tr_wW _ _ _ sv)) (fun _ _ z w' H' σ' e hr' er' => z w' H' σ' e hr' (er'.conv tr_wW)) (fun _ _ z w' H' σ' e hr' er' => z w' H' σ' e hr' (er'.conv tr_wW))
    fun _ _ _ _ z w' H' σ' dd e hr' er' xd => z w' H' σ' dd e hr' (er'.conv tr_wW) xd
theorem su_pss {body : List Stmt} {mb : Env → Ms → T} {a : Addr} {oe : Obj} {cls : Value} {d : Option Addr} {pn : List (Addr × Obj)} (h : DSs (Y.suite a oe cls d pn) body mb) : PSs (Y.X.suite a ((a, oe) :: pn)) body (semS (Y.su0 a cls d) mb) := by
  obtain ⟨t, p, sd⟩ := h.ex
  refine ⟨fun pins s σ H Ed I ⟨w, env, ms, er, hr, q⟩ => p.run pins s σ H Ed I (sd w σ H env ms Ed (er.conv su0_su) hr ?_)⟩
  exact T.post_mono q (fun _ _ z w' H' σ' e hr' er' => z w' H' σ' e hr' (er'.conv su_su0)) (fun _ _ z w' H' v e hr' sv => z w' H' v e hr' (su_su0 _ _ _ sv)) (fun _ _ z w' H' σ' e hr' er' => z w' H' σ' e hr' (er'.conv su_su0)) (fun _ _ z w' H' σ' e hr' er' => z w' H' σ' e hr' (er'.conv su_su0))
    fun _ _ _ _ z w' H' σ' dd e hr' er' xd => z w' H' σ' dd e hr' (er'.conv su_su0) xd
inductive DHds (Y : Cy) : List ExceptHandler → List HdM → Prop
  | nil : DHds Y [] []
  | plain {x : Str} {cv : Value} {tst : Nat → Option Bool} {su : Env → Ms → T} {b₀ : Stmt} {suite : List Stmt} {np ph : Pos} {hds : List ExceptHandler} {r : List HdM} (hc : Names Y.X x cv) (ht : ∀ c b, tst c = some b → PySem.W.exmOne Y.X.K (.ref (Y.Γ.cls c)) cv = some b)
      (hs : ∀ (a : Addr) (oe : Obj) (cls : Value) (d : Option Addr) (pn : List (Addr × Obj)), Zc cls d oe → (∃ vs, oe.data = .fields vs) → DSs (Y.suite a oe cls d pn) (b₀ :: suite) su) (t : DHds Y hds r) :
      DHds Y (.ExceptHandler (some (.Name x np)) none (b₀ :: suite) ph :: hds) ((tst, none, su) :: r)
  | named {x n : Str} {i : Nat} {cv : Value} {tst : Nat → Option Bool} {su : Env → Ms → T} {b₀ : Stmt} {suite : List Stmt} {np ph : Pos} {hds : List ExceptHandler} {r : List HdM} (hc : Names Y.X x cv) (hi : Y.X.N[i]? = some n) (hln : Y.X.env.kindOf n = some .local) (ht : ∀ c b, tst c = some b → PySem.W.exmOne Y.X.K (.ref (Y.Γ.cls c)) cv = some b)
      (hs : ∀ (a : Addr) (oe : Obj) (cls : Value) (d : Option Addr) (pn : List (Addr × Obj)), Zc cls d oe → (∃ vs, oe.data = .fields vs) → DSs (Y.suite a oe cls d pn) (b₀ :: suite) su) (t : DHds Y hds r) :
      DHds Y (.ExceptHandler (some (.Name x np)) (some n) (b₀ :: suite) ph :: hds) ((tst, some i, su) :: r)
theorem envNoX_at (h : envNoX env = true) {i : Nat} {s : S} (e : env[i]? = some (some s)) : s.noX = true := List.all_eq_true.mp h _ (List.mem_of_getElem? e)
/-- without a caught exception, the slots mean the same in every suite -/
theorem ER.noX {Y2 : Cy} (hK : Y2.X.K = Y.X.K) (hG : Y2.Γ = Y.Γ) (h : envNoX env = true) (er : ER Y w σ env) : ER Y2 w σ env := by
  refine ⟨er.len, fun i s hs => ?_⟩
  obtain ⟨v, h1, h2⟩ := er.slot i s hs
  have := envNoX_at h hs
  refine ⟨v, h1, ?_⟩
  cases s with
  | d x => exact (show DR Y2.X.K Y2.Γ w.F x v by rw [hK, hG]; exact h2)
  | loc n => exact h2
  | exn c ds => cases this
theorem SR.noX' {Y2 : Cy} (hK : Y2.X.K = Y.X.K) (hG : Y2.Γ = Y.Γ) {s : S} {v : V} (h : s.noX = true) (sv : SR Y w s v) : SR Y2 w s v := by
  cases s with
  | d x => exact (show DR Y2.X.K Y2.Γ w.F x v by rw [hK, hG]; exact sv)
  | loc n => exact sv
  | exn c ds => cases h
/-- a suite's ends -/
theorem suite_ends {a : Addr} {cls : Value} {d : Option Addr} {sl : Option Nat} {t : T} (h : tP Y w Ed (finT (unsetT sl t))) : tP (Y.su0 a cls d) w (dSl Ed sl) t := by
  have nxc : ∀ {e : Env} {m : Ms} {Q : L2.St → Hp → Prop}, envNoX e = true → nxP Y w Q e m → nxP (Y.su0 a cls d) w Q e m := fun hx z w' H' σ' e' hr' er' => z w' H' σ' e' hr' (ER.noX (Y := Y.su0 a cls d) (Y2 := Y) rfl rfl hx er')
  have nxs : ∀ {i : Nat} {e : Env} {m : Ms} {Q : L2.St → Hp → Prop}, envNoX (e.set i none) = true → nxP Y w Q (e.set i none) m → nxP (Y.su0 a cls d) w (fun σ' H' => Q (σ'.set i none) H') e m := fun hx z w' H' σ' e' hr' er' =>
    z w' H' _ e' hr' (ER.noX (Y := Y.su0 a cls d) (Y2 := Y) rfl rfl hx (er'.unset _ none))
  cases t with
  | bad => cases sl <;> exact h.elim
  | ex c ds e m => cases sl <;> exact h.elim
  | rt s m =>
    have h : tP Y w Ed (finT (.rt s m)) := by cases sl <;> exact h
    unfold finT at h
    cases b : s.noX with
    | false => simp only [b] at h; exact h.elim
    | true =>
      simp only [b] at h
      have h : okP Y w Ed.rt s m := h
      have : okP (Y.su0 a cls d) w Ed.rt s m := fun w' H' v e hr' sv => h w' H' v e hr' (SR.noX' (Y := Y.su0 a cls d) (Y2 := Y) rfl rfl b sv)
      cases sl <;> exact this
  | nx e m =>
    cases sl with
    | none =>
      unfold finT unsetT at h
      cases b : envNoX e with
      | false => simp only [b] at h; exact h.elim
      | true => simp only [b] at h; exact nxc b h
    | some i =>
      unfold finT unsetT at h
      cases b : envNoX (e.set i none) with
      | false => simp only [b] at h; exact h.elim
      | true => simp only [b] at h; exact nxs b h
  | bk e m =>
    cases sl with
    | none =>
      unfold finT unsetT at h
      cases b : envNoX e with
      | false => simp only [b] at h; exact h.elim
      | true => simp only [b] at h; exact nxc b h
    | some i =>
      unfold finT unsetT at h
      cases b : envNoX (e.set i none) with
      | false => simp only [b] at h; exact h.elim
      | true => simp only [b] at h; exact nxs b h
  | ct e m =>
    cases sl with
    | none =>
      unfold finT unsetT at h
      cases b : envNoX e with
      | false => simp only [b] at h; exact h.elim
      | true => simp only [b] at h; exact nxc b h
    | some i =>
      unfold finT unsetT at h
      cases b : envNoX (e.set i none) with
      | false => simp only [b] at h; exact h.elim
      | true => simp only [b] at h; exact nxs b h
theorem suite_go {sl : Option Nat} {su : Env → Ms → T} {c : Nat} {ds : List D} {dd : Option Addr} {a : Addr} (hx : envNoX env = true) (er : ER Y w σ env) (hr : HR Y w H ms) (xd : XD Y.X.K Y.Γ w.F c ds dd) (h : tP Y w Ed (finT (unsetT sl (su (setX sl c ds env) ms)))) :
    semS (Y.su0 a (.ref (Y.Γ.cls c)) dd) su (dSl Ed sl) (eSl a σ sl) H := by
  refine ⟨w, setX sl c ds env, ms, ?_, hr, suite_ends h⟩
  have e0 : ER (Y.su0 a (.ref (Y.Γ.cls c)) dd) w σ env := ER.noX (Y := Y) (Y2 := Y.su0 a (.ref (Y.Γ.cls c)) dd) rfl rfl hx er
  cases sl with
  | none => exact e0
  | some i => exact e0.set (show SR (Y.su0 a (.ref (Y.Γ.cls c)) dd) w (.exn c ds) (.ref a) from ⟨⟨rfl, rfl⟩, xd⟩) i
theorem hd_list {hds : List ExceptHandler} {hm : List HdM} (h : DHds Y hds hm) : ∃ l, HdsA Y.X hds l ∧ ∀ (w : Wd) (Ed : Ends) (c : Nat) (ds : List D) (e : Env) (ms : Ms), tP Y w Ed (hdl hm c ds e ms) →
    ∀ w' H' σ' dd, Ext w w' → HR Y w' H' ms → ER Y w' σ' e → XD Y.X.K Y.Γ w'.F c ds dd → wAny Y.X.K Y.W Ed l (.ref (Y.Γ.cls c)) dd σ' H' := by
  induction h with
  | nil => exact ⟨[], .nil, fun w Ed c ds e ms q w' H' σ' dd ex hr er xd => q w' H' σ' dd ex hr er xd⟩
  | @plain x cv tst su b₀ suite np ph hds r hc ht hs t ih =>
    obtain ⟨l, hl, hw⟩ := ih
    refine ⟨(cv, none, fun a cls d => semS (Y.su0 a cls d) su) :: l, .plain hc (fun a oe cls d pn hz hf => su_pss (hs a oe cls d pn hz hf)) hl, fun w Ed c ds e ms q w' H' σ' dd ex hr er xd => ?_⟩
    unfold hdl at q
    cases hb : tst c with
    | none => rw [hb] at q; exact q.elim
    | some b =>
      rw [hb] at q
      refine ⟨b, ht c b hb, fun z a na => ?_, fun z => ?_⟩
      · subst z
        dsimp only at q
        cases hx : envNoX e with
        | false => rw [hx] at q; exact q.elim
        | true => rw [hx] at q; exact suite_go (sl := none) hx er hr xd (tP.ext ex q)
      · subst z
        exact hw w Ed c ds e ms q w' H' σ' dd ex hr er xd
  | @named x n i cv tst su b₀ suite np ph hds r hc hi hln ht hs t ih =>
    obtain ⟨l, hl, hw⟩ := ih
    refine ⟨(cv, some i, fun a cls d => semS (Y.su0 a cls d) su) :: l, .named hc hi hln (fun a oe cls d pn hz hf => su_pss (hs a oe cls d pn hz hf)) hl, fun w Ed c ds e ms q w' H' σ' dd ex hr er xd => ?_⟩
    unfold hdl at q
    cases hb : tst c with
    | none => rw [hb] at q; exact q.elim
    | some b =>
      rw [hb] at q
      refine ⟨b, ht c b hb, fun z a na => ?_, fun z => ?_⟩
      · subst z
        dsimp only at q
        cases hx : envNoX e with
        | false => rw [hx] at q; exact q.elim
        | true => rw [hx] at q; exact suite_go (sl := some i) hx er hr xd (tP.ext ex q)
      · subst z
        exact hw w Ed c ds e ms q w' H' σ' dd ex hr er xd
theorem s_try {k : Nat} {body : List Stmt} {h₀ : ExceptHandler} {hds : List ExceptHandler} {mb : Env → Ms → T} {hm : List HdM} {pos : Pos} (ok : CyOk Y k) (dk : DefOk Y)
    (hb : ∀ (W : WX) (pn : List (Addr × Obj)) (xe : Value → Shared → Prop), CyOk (Y.tr W pn xe) k → DSs (Y.tr W pn xe) body mb) (hh : DHds Y (h₀ :: hds) hm) : DS Y (.Try body (h₀ :: hds) [] [] pos) (sTry mb hm) := by
  obtain ⟨l, hl, hw⟩ := hd_list hh
  refine ⟨_, ps_try_any (tb := fun W => semS (Y.wW W) mb) dk.stk dk.frm ok.nd ok.tk (fun W pn xe tk own => tr_pss (hb W pn xe (ok.tr tk own))) hl, fun w σ H env ms Ed er hr h => ⟨w, env, ms, er.conv self_wW, hr, ?_⟩⟩
  unfold sTry at h
  have nxc : ∀ {e : Env} {m : Ms} {W : WX} {Q : L2.St → Hp → Prop}, nxP Y w Q e m → nxP (Y.wW W) w Q e m := fun z w' H' σ' e' hr' er' => z w' H' σ' e' hr' (er'.conv wW_self)
  cases hm' : mb env ms with
  | bad => rw [hm'] at h; exact h.elim
  | nx e m => rw [hm'] at h; exact nxc h
  | bk e m => rw [hm'] at h; exact nxc h
  | ct e m => rw [hm'] at h; exact nxc h
  | rt s m => rw [hm'] at h; exact fun w' H' v e hr' sv => h w' H' v e hr' (wW_self _ _ _ sv)
  | ex c ds e m =>
    rw [hm'] at h
    exact fun w' H' σ' dd ex hr' er' xd => hw w Ed c ds e m h w' H' σ' dd ex hr' (er'.conv wW_self) xd
/-! ### the caught exception -/
/-- e.f -/
def mXat (tab : List (Nat × Nat)) (me : Env → Ms → R S) : Env → Ms → R S := fun env ms => match me env ms with
  | .ok (.exn c ds) ms1 => match tab.lookup c with
    | some i => match ds[i]? with
      | some d => .ok (.d d) ms1
      | none => .bad
    | none => .bad
  | _ => .bad
structure XatOk (Y : Cy) (fl : Str) (c i : Nat) : Prop where
  xf : XfC Y.X.K (Y.Γ.cls c)
  no : PySem.W.findIn Y.X.K (.ref (Y.Γ.cls c)) fl = some none
  at_ : (Y.Γ.fld c)[i]? = some fl
  fst : ((Y.Γ.fld c).take i).contains fl = false
theorem e_xat {a : Addr} {oe : Obj} {cls : Value} {d : Option Addr} {pn : List (Addr × Obj)} {tab : List (Nat × Nat)} {e : Expr} {me : Env → Ms → R S} {fl : Str} {pos : Pos} (hz : Zc cls d oe) (hf : ∃ vs, oe.data = .fields vs) (he : DE (Y.suite a oe cls d pn) e me)
    (ht : Tab (XatOk (Y.suite a oe cls d pn) fl) tab) (hb : attributeBase e fl (Y.suite a oe cls d pn).X.env (eval e (Y.suite a oe cls d pn).X.env) = eval e (Y.suite a oe cls d pn).X.env := by rfl) :
    DE (Y.suite a oe cls d pn) (.Attribute e fl pos) (mXat tab me) := by
  obtain ⟨t, p, sd⟩ := he.ex
  refine ⟨fun σ H Q => ∃ c i, tab.lookup c = some i ∧ tXf a cls d (Y.Γ.cls c) fl t σ H Q, ⟨fun pins s σ H Q I ⟨c, i, hl, h⟩ => ?_⟩, fun w σ H env ms Q er hr h => ?_⟩
  · have k := ht.at_ hl
    exact (pe_xf (X := Y.X) k.xf k.no hz hf p hb).run pins s σ H Q I h
  · have key := h
    unfold mXat at h
    cases hm : me env ms with
    | bad => rw [hm] at h; exact h.elim
    | ex c ds ms1 => rw [hm] at h; exact h.elim
    | ok x ms1 =>
      rw [hm] at h
      cases x with
      | d x => exact h.elim
      | loc n => exact h.elim
      | exn c ds =>
        dsimp only at h
        cases hl : tab.lookup c with
        | none => rw [hl] at h; exact h.elim
        | some i =>
          rw [hl] at h
          dsimp only at h
          cases hd : ds[i]? with
          | none => rw [hd] at h; exact h.elim
          | some dd =>
            rw [hd] at h
            refine ⟨c, i, hl, sd w σ H env ms _ er hr ?_⟩
            rw [hm]
            intro w1 H1 v e1 hr1 sv
            obtain ⟨⟨rfl, ec⟩, xd⟩ := sv
            have k := ht.at_ hl
            refine ⟨rfl, ec, ?_⟩
            rcases xd with ⟨f0, _⟩ | ⟨ad, xs, ed, k1, k2, k3⟩
            · have := k.at_
              rw [f0] at this
              simp at this
            · obtain ⟨v, hv, rv⟩ := DRs.get k3 hd
              refine ⟨ad, _, v, ed, hr1.sub _ _ k1, zip_at k.at_ (fun j hj z => ?_) hv, h w1 H1 v e1 hr1 rv⟩
              have : fl ∈ ((Y.suite a oe cls d pn).Γ.fld c).take i := List.mem_of_getElem? (i := j) (by rw [List.getElem?_take, if_pos hj]; exact z)
              have z2 := List.contains_iff_mem.mpr this
              rw [k.fst] at z2
              cases z2
/-- isinstance(e, C), C a class of the module -/
theorem exc_kitx {K : PySem.W.Frag} {x D : Addr} {od : Option Obj} {ox : Obj} (k : ExcC K D) : True := trivial
end
end Fw
set_option Elab.async false
set_option linter.all false
set_option maxRecDepth 100000
set_option maxHeartbeats 4000000
/-! Fw18: isinstance of the caught exception. -/
namespace PySem.FwX
open PySem.W PySem.Calls PyProof.Rows PySem.Spec L2
section
variable {prog : Program} {w : World} {A : Around} {E : Value → Shared → Prop} {s : Shared} {K : Frag} {x D : Addr} {ox : Obj} {od : Option Obj}
theorem find_class {a g : Value} {name : Str} (hc : (clsIn K D).isSome = true) (ha : findIn K (.ref D) name = some (some a)) (hg : specialIn K a "__get__" = some (some g)) (ht : takesIn K a = some true) : findObj K D od name = some (.bind g a) := by
  cases od with
  | some o => exact findObj_data hc ha hg ht
  | none => exact findObj_dataN hc ha hg ht
theorem class_of_exc {Q : Option Value → Shared → Prop} (k : ExcC K D) (X : K.In s.heap) (I : InstAt s.heap x ox D od) (h : Q (some (.ref D)) { s with toks := s.toks + 1 }) : wpAny (model prog w) A (getAttr? (.ref x) "__class__") Q E s := by
  have hcl : (clsIn K D).isSome = true := by obtain ⟨cd, e, _⟩ := any_some k.hd; rw [e]; rfl
  have ff := find_class (od := od) hcl k.ha k.hn k.ht
  obtain ⟨h0, g0, d0, t0, o0⟩ := s
  have lt := I.type (M := model prog w)
  have lg := looks_findIn (M := model prog w) X k.hg
  have la := looks_findIn (M := model prog w) X k.hk
  have lf := looks_find (M := model prog w) X I ff
  have lb : Looks (model prog w) h0 (isInstance (.ref x) (.type "BaseException")) true := lt.andThen (looks_subIn X k.hs)
  have ne : (Value.builtin "BaseException.__getattribute__" == Value.builtin "object.__getattribute__") = false := by decide +kernel
  have ne2 : (onTheHeap (Value.ref D) && Value.builtin "BaseException.__getattribute__" == Value.builtin "object.__getattribute__") = false := by rw [ne]; rfl
  unfold getAttr? getAttrBy? getAttrBy
  refine wpAny_bind (wpAny_mkText (wpAny_bind (wpAny_attempt (wpAny_holding (wpAny_bind (lt.at (wpAny_bind (lg.at ?_))))))))
  show wpAny _ _ (if (onTheHeap (Value.ref D) && Value.builtin "BaseException.__getattribute__" == Value.builtin "object.__getattribute__") = true then _ else _) _ _ _
  rw [ne2, if_neg Bool.false_ne_true]
  unfold getAttrByItsOwn hookBefore
  refine wpAny_bind ?_
  rw [if_pos (show onTheHeap (Value.ref D) = true from rfl)]
  refine la.at (wpAny_bind (wpAny_attempt (wpAny_holding ?_)))
  unfold callGetattribute
  rw [show (false && onTheHeap (Value.builtin "BaseException.__getattribute__")) = false from rfl, if_neg Bool.false_ne_true]
  unfold boundAndCalled
  rw [PySem.F.excAttr_ValueError.ga.bind (.ref x)]
  refine wpAny_bind (wpAny_pure ?_)
  show wpAny _ _ (call (.builtin "BaseException.__getattribute__") [.ref x, .str "__class__" t0]) _ _ _
  refine wpAny_call (codeAny_call_builtin PySem.F.excAttr_ValueError.ga.plain PySem.F.entry_bexc_ga ?_)
  refine @check_slot (model prog w) _ _ ⟨h0, g0, d0, t0 + 1, o0⟩ "BaseException.__getattribute__" "BaseException" "__getattribute__" (.ref x) [.str "__class__" t0] [] _ (by decide +kernel) (by decide +kernel) lb (PySem.F.args_bexc_ga (.ref x) (.str "__class__" t0)) ?_
  unfold Builtin.«object.__getattribute__»
  refine wpAny_bind (wpAny_of_eq (a := ((Value.ref x : Value), [Value.str "__class__" t0])) (by first | rfl | (simp only [slotArgs]; rfl)) ?_)
  refine wpAny_bind (wpAny_pure (wpAny_bind (lt.at (wpAny_bind (lf.at ?_)))))
  show wpAny _ _ (holding [Value.builtin "object.__class__"] (call (.builtin "getset_descriptor.__get__") [.builtin "object.__class__", .ref x, .ref D]) >>= ret) _ _ _
  refine wpAny_bind (wpAny_holding (wpAny_call (class_get (s := ⟨h0, g0, d0, t0 + 1, o0⟩) (ox := ox) (od := od) X I k.hm ?_)))
  refine wpAny_pure ?_
  show wpAny _ _ (handedOut (.ref D)) _ _ _
  rw [handedOut_of (v := .ref D) rfl]
  first
    | exact wpAny_pure (wpAny_pure h)
    | exact wpAny_pure h
    | exact wpAny_pure (wpAny_bind (wpAny_pure (wpAny_pure h)))
theorem kitX_exc (k : ExcC K D) (od : Option Obj) : KitX K (.ref x) (.ref D) (fun h => InstAt h x ox D od) where
  ty := fun _ _ _ I => I.type
  it := fun _ _ X _ => by
    obtain ⟨cdD, hcD, _⟩ := any_some k.hd
    unfold clsIn at hcD
    split at hcD
    · rename_i c2 d2 cd2 sl2 ho
      intro A2 Q2 E2 s2 kp q
      unfold isType loadHead
      exact wpAny_bind (wpAny_loadPart (kp _ _ (X _ _ ho)) (wpAny_pure q))
    · cases hcD
  ne := fun h tp dd its n sl X htp => by
    obtain ⟨cdD, hcD, _⟩ := any_some k.hd
    refine Bool.eq_false_iff.mpr fun q => ?_
    have e : D = tp := Value.ref.inj (beq_iff_eq.mp q)
    subst e
    unfold clsIn at hcD
    split at hcD
    · rename_i c2 d2 cd2 sl2 ho
      have z := (X _ _ ho).symm.trans htp
      cases z
    · cases hcD
  ca := fun X I q => class_of_exc k X I q
end
end PySem.FwX
namespace Fw
open PySem L2 PySem.Spec PyProof.Rows
section
variable {Y : Cy} {w w1 w2 : Wd} {σ : L2.St} {H H1 H2 : Hp} {env : Env} {ms ms1 ms2 : Ms}
structure XisOk (Y : Cy) (xc kc : List Nat) (sub : Nat → Nat → Bool) : Prop where
  cls : ∀ c ∈ xc, ExcC Y.X.K (Y.Γ.cls c)
  sub : ∀ c ∈ xc, ∀ m ∈ kc, PySem.W.kitOne Y.X.K (.ref (Y.Γ.cls c)) (.ref (Y.Γ.fn m)) = some (sub c m)
def cXis (xc kc : List Nat) (sub : Nat → Nat → Bool) : List S → Ms → R S := fun ss ms => match ss with
  | [.exn c _, .d (.fn m)] => match xc.contains c && kc.contains m with
    | true => .ok (.d (.bl (sub c m))) ms
    | false => .bad
  | _ => .bad
theorem cd_xis {a : Addr} {oe : Obj} {cls : Value} {d : Option Addr} {pn : List (Addr × Obj)} {xc kc : List Nat} {sub : Nat → Nat → Bool} (hz : Zc cls d oe) (hf : ∃ vs, oe.data = .fields vs) (ok : XisOk (Y.suite a oe cls d pn) xc kc sub) : CallD (Y.suite a oe cls d pn) (.builtin "isinstance") (cXis xc kc sub) := by
  refine ⟨⟨fun xs H Q => ∃ (c m : Nat), xs = [.ref a, .ref (Y.Γ.fn m)] ∧ cls = .ref (Y.Γ.cls c) ∧ c ∈ xc ∧ m ∈ kc ∧ (∀ dd, d = some dd → ∃ fs, H dd = some (.xd fs)) ∧ Q (.bl (sub c m)) H, fun pins s σ H xs us Q I r h => ?_, fun w H ms ss vs Q hr sv h => ?_⟩, fun ss ms c ds ms' h => ?_⟩
  · obtain ⟨c, m, rfl, ec, hc, hm, hd, q⟩ := h
    cases r with
    | cons rx rr =>
      cases rr with
      | cons rt rr =>
        cases rr
        cases rx
        cases rt
        obtain ⟨hget, _⟩ := I.pin (a, oe) (List.mem_append.mpr (.inl List.mem_cons_self))
        obtain ⟨vs, hv⟩ := hf
        have J : ∃ od, PySem.W.InstAt s.heap a oe (Y.Γ.cls c) od := by
          cases d with
          | none =>
            obtain ⟨oc, odd, oda, osl⟩ := oe
            obtain ⟨h1, h2⟩ := hz
            dsimp only at h1 h2 hv
            subst h1 h2 hv
            exact ⟨none, hget, ec, rfl, trivial⟩
          | some dd =>
            obtain ⟨fs, hfs⟩ := hd dd rfl
            have hx : ObjOk Y.X.prog Y.X.w H s.heap dd (.xd fs) := I.hok dd _ hfs
            obtain ⟨mA, hns, _⟩ := hx
            obtain ⟨od, ho, _⟩ := lookIn_ns hns
            exact ⟨some od, hget, hz.1.trans ec, by unfold PySem.W.notCls; rw [hv] <;> rfl, by rw [hz.2]; exact ho⟩
        obtain ⟨od, J⟩ := J
        exact PySem.W.kia_one (PySem.FwX.kitX_exc (ok.cls c hc) od) I.kIn J (ok.sub c hc m hm) (fun z => nomatch z) fun tk => ⟨.bl (sub c m), H, I.kept (t' := tk) fun _ _ z => z, rfl, q⟩
  · unfold cXis at h
    split at h
    · rename_i c ds m
      obtain ⟨v, u, rfl, r1, r2⟩ := SRs.two sv
      obtain ⟨⟨rfl, ec⟩, xd⟩ := r1
      cases r2
      cases hb : (xc.contains c && kc.contains m) with
      | false => rw [hb] at h; exact h.elim
      | true =>
        rw [hb] at h
        obtain ⟨b1, b2⟩ := Bool.and_eq_true_iff.mp hb
        refine ⟨c, m, rfl, ec, List.contains_iff_mem.mp b1, List.contains_iff_mem.mp b2, fun dd hd => ?_, h.at (Ext.refl w) hr rfl⟩
        rcases xd with ⟨_, _, e⟩ | ⟨ad, xs, e, k1, _⟩
        · have e : d = none := e
          rw [e] at hd; cases hd
        · have e : d = some ad := e
          rw [e] at hd; cases hd
          exact ⟨_, hr.sub _ _ k1⟩
    · exact h.elim
  · unfold cXis at h
    split at h
    · split at h <;> cases h
    · cases h
end
end Fw
set_option Elab.async false
set_option linter.all false
set_option maxRecDepth 100000
set_option maxHeartbeats 4000000
/-! Fw19: str and repr of own instances; f-strings. -/
namespace Fw
open PySem L2 PySem.Spec PyProof.Rows

section
variable {Y : Cy} {w w1 w2 : Wd} {σ : L2.St} {H H1 H2 : Hp} {env : Env} {ms ms1 ms2 : Ms} {k n : Nat} {e : Expr} {es : List Expr} {me : Env → Ms → R S} {pos : Pos}
/-- a special method of a class, n values behind self -/
structure SpOk (Y : Cy) (k : Nat) (mth : Str) (n c : Nat) (g : List S → Ms → R S) : Prop where
  ex : ∃ (f : Addr) (fd : FuncData) (ps : List Str) (sem : List S → Ms → R S) (pk : List Nat) (dvs : List V) (cs : List S) (j : Nat), PySem.W.findIn Y.X.K (.ref (Y.Γ.cls c)) mth = some (some (.ref f)) ∧ PySem.W.isFn Y.X.K (.ref f) = true ∧ DFY Y j f fd ps sem ∧ j + 3 ≤ k ∧
    Bd Y.X.K fd ps (n + 1) [] pk dvs ∧ (∀ w, SRs Y w cs dvs) ∧ g = bndS sem pk cs
theorem callSem_nox {sem : List S → Ms → R S} {ss : List S} {Q : VK} (h : (noEx (callSem sem ss ms)).post (okP Y w Q) (fun _ _ _ => False)) : (callSem sem ss ms).post (okP Y.nox w Q) (exP Y.nox w σ) := by
  cases hc : callSem sem ss ms with
  | bad => rw [hc] at h; exact h
  | ex _ _ _ => rw [hc] at h; exact h.elim
  | ok s' ms' =>
    rw [hc] at h
    intro w' H' v e' hr' sv
    refine h w' H' v e' hr' ?_
    cases s' <;> exact sv
/-- it runs, within a frame of the machine -/
theorem sp_run {A : Around} {j : Nat} {f : Addr} {fd : FuncData} {ps : List Str} {sem : List S → Ms → R S} {pk : List Nat} {dvs : List V} {cs : List S} {pins : List (Addr × Obj)} {s : Shared} {Q : VK} {E : Value → Shared → Prop} {us : List Value} {vs : List V} {ss : List S} (hr : Room j A) (gd : A.guards = some []) (F : DFY Y j f fd ps sem)
    (hb : Bd Y.X.K fd ps n [] pk dvs) (hcs : ∀ w, SRs Y w cs dvs) (I : Inv Y.X pins σ H s) (e0 : Env0 Y.X.prog Y.X.w Y.X.K Y.X.mg Y.X.base A Y.X.stack s H) (hl : us.length = n) (r : Vals vs us) (hh : HR Y w H ms) (sv : SRs Y w ss vs)
    (h : (noEx (bndS sem pk cs ss ms)).post (okP Y w Q) (fun _ _ _ => False)) : wpAny (model Y.X.prog Y.X.w) A (call (.ref f) us) (EP Y.X pins σ Q) E s := by
  obtain ⟨dl, rd, to⟩ := hb.to
  have sv0 : SRs Y.nox w (ss ++ cs) (vs ++ dvs) := Paired.mapP (sv.append (hcs w)) fun x v z => by cases x <;> exact z
  have r2 : Vals (pick pk (vs ++ dvs)) (pick pk (us ++ [] ++ dl)) := pick_paired (by rw [List.append_nil]; exact r.append rd) pk
  have l4 : (pick pk (vs ++ dvs)).length = ps.length := by
    rw [pick_len, hb.len]
    intro i hi
    have := hb.rng i hi
    have l5 : vs.length = n := by rw [r.length, hl]
    rw [List.length_append, l5]
    simpa using this
  refine wpAny_call (codeAny_mono (code_dfA (Y := Y.nox) takes_none5 hr gd F (to s us [] I.kIn hl rfl) l4 (I.wish _) e0 r2 hh (pick_rel sv0) (callSem_nox h)) fun rr s' hq => ?_)
  cases rr with
  | error er => exact False.elim hq
  | ok fw =>
    cases fw with
    | ret u =>
      obtain ⟨v, H', I3, rv, q3⟩ := hq
      exact ⟨v, H', I3.unwish, rv, q3⟩
    | next => exact False.elim hq
    | brk => exact False.elim hq
    | cont => exact False.elim hq
/-- the answer is a text -/
def asStr (r : R S) : R S := match r with
  | .ok (.d (.str y)) ms => .ok (.d (.str y)) ms
  | _ => .bad
def cOwn (tab : MTab) : List S → Ms → R S := fun ss ms => match ss with
  | [.d (.obj c ds)] => match tab.lookup c with
    | some g => asStr (g [.d (.obj c ds)] ms)
    | none => .bad
  | _ => .bad
theorem asStr_ne {r : R S} : ∀ c ds ms', asStr r ≠ .ex c ds ms' := by
  intro c ds ms' h
  unfold asStr at h
  split at h <;> cases h
theorem cOwn_ne {tab : MTab} : ∀ ss ms c ds ms', cOwn tab ss ms ≠ .ex c ds ms' := by
  intro ss ms c ds ms' h
  unfold cOwn at h
  split at h
  · split at h
    · exact asStr_ne _ _ _ h
    · cases h
  · cases h
theorem asStr_post {r : R S} {Q : VK} (h : (asStr r).post (okP Y w Q) (fun _ _ _ => False)) : (noEx r).post (okP Y w fun v H' => ∃ y, v = .str y ∧ Q v H') (fun _ _ _ => False) := by
  unfold asStr at h
  split at h
  · rename_i y ms'
    intro w' H' v e' hr' sv
    exact ⟨y, sv, h w' H' v e' hr' sv⟩
  · exact h.elim
/-- what such a call is read as -/
def rOwn (Y : Cy) (k : Nat) (mth : Str) : List V → Hp → VK → Prop := fun xs H Q => ∃ a c dx fs ds w ms g, xs = [.ref a] ∧ H a = some (.ins (Y.Γ.cls c) dx fs) ∧ SpOk Y k mth 0 c g ∧ HR Y w H ms ∧ SR Y w (.d (.obj c ds)) (.ref a) ∧ (asStr (g [.d (.obj c ds)] ms)).post (okP Y w Q) (fun _ _ _ => False)
theorem snd_own {mth : Str} {tab : MTab} (ht : Tab (SpOk Y k mth 0) tab) : SndC Y (rOwn Y k mth) (cOwn tab) := by
  intro w H ms ss vs Q hr sv h
  unfold cOwn at h
  split at h
  · rename_i c ds
    obtain ⟨v, rfl, r⟩ := SRs.one sv
    split at h
    · rename_i g hl
      have r0 := r
      obtain ⟨a, dx, xs, rfl, k1, k2, k3⟩ := r
      exact ⟨a, c, dx, _, ds, w, ms, g, rfl, hr.sub _ _ k1, ht.at_ hl, hr, r0, h⟩
    · exact h.elim
  · exact h.elim
theorem cd_strOwn {tab : MTab} (ok : CyOk Y k) (ht : Tab (SpOk Y k "__str__" 0) tab) : CallD Y (.type "str") (cOwn tab) := by
  refine ⟨⟨rOwn Y k "__str__", fun pins s σ H xs us Q I r h => ?_, snd_own ht⟩, cOwn_ne⟩
  obtain ⟨a, c, dx, fs, ds, w, ms, g, rfl, ea, sp, hr, sr, q⟩ := h
  obtain ⟨u, rfl, ru⟩ := vals1 r
  obtain rfl : u = Value.ref a := ru
  obtain ⟨f, fd, ps, sem, pk, dvs, cs, j, e1, e2, F, hj, hb, hcs, rfl⟩ := sp.ex
  obtain ⟨mA, O, _, _, _, _⟩ := ins_get I.hok ea
  obtain ⟨od, J, _⟩ := O.look
  have hk : Room (j + 1 + 1 + 1) Y.X.A := ok.hr.mono hj
  have hu := hk.in1.in1.units
  refine PySem.W.kso_call (by omega) I.kIn J e1 e2 (wpAny_mono (sp_run (Q := fun v H' => ∃ y, v = .str y ∧ Q v H') (hk.in1.in1.mono (Nat.le_succ j)) ok.gd F hb hcs I I.env0.in1.in1 rfl r hr (.cons sr .nil) (asStr_post q)) (fun v s' hv => ?_) fun _ _ z => z)
  obtain ⟨v', H', I', rv, y, ey, q'⟩ := hv
  subst ey
  obtain ⟨t, rfl⟩ := rv
  exact ⟨.str y, H', I', ⟨t, rfl⟩, q'⟩
theorem frame_of {pins : List (Addr × Obj)} {s : Shared} (I : Inv Y.X pins σ H s) : ∃ m, Fr Y.X.base Y.X.env.locals s.heap m := by
  obtain ⟨m, hn, _⟩ := I.loc
  exact ⟨m, hn, I.bk, Nat.le_trans I.ok.bsz I.ok.above⟩
theorem cd_reprOwn {tab : MTab} (ok : CyOk Y k) (ht : Tab (SpOk Y k "__repr__" 0) tab) : CallD Y (.builtin "repr") (cOwn tab) := by
  refine ⟨⟨rOwn Y k "__repr__", fun pins s σ H xs us Q I r h => ?_, snd_own ht⟩, cOwn_ne⟩
  obtain ⟨a, c, dx, fs, ds, w, ms, g, rfl, ea, sp, hr, sr, q⟩ := h
  obtain ⟨u, rfl, ru⟩ := vals1 r
  obtain rfl : u = Value.ref a := ru
  obtain ⟨f, fd, ps, sem, pk, dvs, cs, j, e1, e2, F, hj, hb, hcs, rfl⟩ := sp.ex
  obtain ⟨mA, O, _, _, _, _⟩ := ins_get I.hok ea
  obtain ⟨od, J, _⟩ := O.look
  have hk : Room (j + 1 + 1 + 1) Y.X.A := ok.hr.mono hj
  have hu := hk.in1.in1.units
  have hu1 := hk.in1.units
  obtain ⟨m, Fr0⟩ := frame_of I
  refine PySem.W.repr_K (by omega) Fr0 I.mod.kin J e1 e2 (wpAny_mono (sp_run (Q := fun v H' => ∃ y, v = .str y ∧ Q v H') (hk.in1.mono (Nat.le_trans (Nat.le_succ j) (Nat.le_succ _))) ok.gd F hb hcs I I.env0.in1 rfl r hr (.cons sr .nil) (asStr_post q)) (fun v s' hv => ?_) fun _ _ z => z)
  obtain ⟨v', H', I', rv, y, ey, q'⟩ := hv
  subst ey
  obtain ⟨t, rfl⟩ := rv
  exact ⟨.str y, H', I', ⟨t, rfl⟩, q'⟩

/-! ### f'..' -/
def fmtS (s : S) (ms : Ms) : R S := match s with
  | .d (.str y) => match few y.length with
    | true => .ok (.d (.str y)) ms
    | false => .bad
  | .d (.int i) => match showI i with
    | true => .ok (.d (.str (toString i))) ms
    | false => .bad
  | _ => .bad
def mFmt (me : Env → Ms → R S) : Env → Ms → R S := fun env ms => (me env ms).bind fmtS
theorem e_fmt (h : DE Y e me) : DE Y (.FormattedValue e (-1) none pos) (mFmt me) := by
  obtain ⟨t, p, s⟩ := h.ex
  refine ⟨_, pe_fmt p, fun w σ H env ms Q er hr h => ?_⟩
  refine s.go er hr h fun x ms1 w1 H1 v e1 er1 hr1 sv h1 => ?_
  unfold fmtS at h1
  cases x with
  | loc n => exact h1.elim
  | exn c ds => exact h1.elim
  | d x =>
    cases x with
    | str y =>
      cases sv
      dsimp only at h1
      cases f : few y.length with
      | false => rw [f] at h1; exact h1.elim
      | true => rw [f] at h1; exact .inl ⟨y, rfl, few_ok f, h1.at e1 hr1 rfl⟩
    | int i =>
      cases sv
      dsimp only at h1
      cases f : showI i with
      | false => rw [f] at h1; exact h1.elim
      | true => rw [f] at h1; exact .inr ⟨i, rfl, showI_ok f, h1.at e1 hr1 rfl⟩
    | _ => exact h1.elim
def mJs : List (Env → Ms → R S) → Str → Env → Ms → R S
  | [], acc, _, ms => .ok (.d (.str acc)) ms
  | m :: r, acc, env, ms => (m env ms).bind fun s ms1 => match s with
    | .d (.str y) => match few (acc ++ y).length with
      | true => mJs r (acc ++ y) env ms1
      | false => .bad
    | _ => .bad
inductive DJ (Y : Cy) : List Expr → List (Env → Ms → R S) → Prop where
  | nil : DJ Y [] []
  | cons {e : Expr} {m : Env → Ms → R S} {es : List Expr} {r : List (Env → Ms → R S)} (h : DE Y e m) (t : DJ Y es r) : DJ Y (e :: es) (m :: r)
theorem js_ok {ms0 : List (Env → Ms → R S)} (h : DJ Y es ms0) : ∃ ts, PJ Y.X es ts ∧ ∀ (acc : Str) (w : Wd) (σ : L2.St) (H : Hp) (env : Env) (ms : Ms) (Q : VK), ER Y w σ env → HR Y w H ms → (mJs ms0 acc env ms).post (okP Y w Q) (exP Y w σ) → tJs ts acc σ H fun out H1 => Q (.str out) H1 := by
  induction h with
  | nil => exact ⟨[], .nil, fun acc w σ H env ms Q er hr q => q.at (Ext.refl w) hr rfl⟩
  | @cons e m es r h t ih =>
    obtain ⟨tt, p, s⟩ := h.ex
    obtain ⟨ts, pt, ht⟩ := ih
    refine ⟨tt :: ts, .cons p pt, fun acc w σ H env ms Q er hr q => ?_⟩
    refine s.go er hr q fun x ms1 w1 H1 v e1 er1 hr1 sv h1 => ?_
    cases x with
    | loc n => exact h1.elim
    | exn c ds => exact h1.elim
    | d x =>
      cases x with
      | str y =>
        cases sv
        dsimp only at h1
        cases f : few (acc ++ y).length with
        | false => rw [f] at h1; exact h1.elim
        | true =>
          rw [f] at h1
          exact ⟨y, rfl, few_ok f, ht (acc ++ y) w1 σ H1 env ms1 Q er1 hr1 (R.post_mono h1 (fun _ _ z => z.ext e1) fun _ _ _ z => z)⟩
      | _ => exact h1.elim
theorem e_joined {v1 v2 : Expr} {rest : List Expr} {ms0 : List (Env → Ms → R S)} (h : DJ Y (v1 :: v2 :: rest) ms0) : DE Y (.JoinedStr (v1 :: v2 :: rest) pos) (mJs ms0 Str.empty) := by
  obtain ⟨ts, p, s⟩ := js_ok h
  exact ⟨_, pe_joined p, fun w σ H env ms Q er hr q => s Str.empty w σ H env ms Q er hr q⟩
theorem e_joined1 (h : DE Y e me) : DE Y (.JoinedStr [e] pos) me := by
  obtain ⟨t, p, s⟩ := h.ex
  exact ⟨_, pe_joined1 p, s⟩
end
end Fw
set_option Elab.async false
set_option linter.all false
set_option maxRecDepth 100000
set_option maxHeartbeats 4000000
/-! Fw20: the law's call; the head's facts. -/
namespace Fw
open PySem L2 PySem.Spec PyProof.Rows

/-- the script, as the law's def is handed it -/
def scr (ns : List Int) : S := .d (.frz (ns.map .int))
theorem drs_ints {K : PySem.W.Frag} {Γ : G} {F : Hp} : ∀ ns : List Int, DRs K Γ F (ns.map .int) (ns.map V.int)
  | [] => rfl
  | n :: ns => ⟨_, _, rfl, rfl, drs_ints ns⟩
theorem law_df {P : Program} {w : World} {K : PySem.W.Frag} {mg mb : Str → Option Value} {Γ : G} {k : Nat} {fa a : Addr} {fd : FuncData} {x : Str} {sem : List S → Ms → R S} {s1 : Shared} {vs : List Value} {ns : List Int}
    (KX : K.In s1.heap) (hg : s1.heap.Ns mainGlobals mg) (hb : s1.heap.Ns builtinsNs mb) (hbb : ∀ x : Str, x ≠ "__name__" → mb x = bootBuiltins x) (hlim : s1.heap.NoLimit) (h0 : s1.gens = #[])
    (ha : s1.heap.get? a = some { cls := .type "list", data := .seq vs.toArray }) (hi : IntsAre vs ns) (hl : ns.length ≤ sizeLine) (hr : Room k callerA)
    (F : ∀ base : Heap, K.In base → base.Ns mainGlobals mg → DF P w K mg base Γ k fa fd [x] sem) (hbind : ∀ (s : Shared) (u : Value), BindsTo s fd ⟨[u], []⟩ [(x, u)])
    (hs : ∃ ms', sem [scr ns] [] = .ok (.d (.bl true)) ms') :
    codeAny (model P w) callerA (.call (.ref fa) ⟨[.ref a], []⟩) (fun r s' => r = .ok (.ret (.bool true)) ∧ OldK s1.heap s'.heap ∧ s'.os = s1.os ∧ AllBare s'.gens) s1 := by
  have rv := vals_ints hi
  have lv := hi.length
  have core : ∀ H : Hp, Only H → SqL K H a (ns.map V.int) → HOk P w H s1.heap → (∀ b, H b ≠ none → b = a) → (H a ≠ none → K.lookup a = none) →
      codeAny (model P w) callerA (.call (.ref fa) ⟨[.ref a], []⟩) (fun r s' => r = .ok (.ret (.bool true)) ∧ OldK s1.heap s'.heap ∧ s'.os = s1.os ∧ AllBare s'.gens) s1 := by
    intro H only hS hok hA hK
    have at_a : ∀ {b : Addr} {u : HO}, H b = some u → b = a := fun {b u} q => hA b (by rw [q]; simp)
    have noDict : ∀ {b : Addr} {o : Obj} {es : Array DictEntry} {ep : Nat}, s1.heap.get? b = some o → o.data = .dict es ep → H b = none := fun {b o es ep} e d => by
      cases q : H b with
      | none => rfl
      | some u =>
        have z := at_a q
        subst z
        rw [ha] at e; cases e
        have d2 : Data.seq vs.toArray _ = Data.dict es ep := d
        cases d2
    have keepNs : ∀ {b : Addr} {m : Str → Option Value}, s1.heap.Ns b m → (hidT s1.heap H).Ns b m := fun {b m} ⟨o, es, ep, e, d, r⟩ => ⟨o, es, ep, hidT_get e (noDict e d), d, r⟩
    have kb : K.In (hidT s1.heap H) := fun b o e => hidT_get (KX b o e) (by
      cases q : H b with
      | none => rfl
      | some u =>
        have z := at_a q
        subst z
        rw [hK (by rw [q]; simp)] at e; cases e)
    have md : Mod K mg (hidT s1.heap H) := ⟨kb, keepNs hg, ⟨mb, keepNs hb, hbb⟩, let ⟨mc, q1, q2⟩ := hlim; ⟨mc, keepNs q1, q2⟩⟩
    have e0 : Env0 P w K mg (hidT s1.heap H) callerA [] s1 H := ⟨rfl, md, fun b o e => of_hidT e, Nat.le_of_eq (hidT_size _ _), trivial, fun b z => absurd (show b ∈ ([] : List Addr) from z) (by simp), hok, .of_eq h0⟩
    have hr0 : HR0 K Γ ⟨H, fun _ => none, []⟩ H [] := ⟨fun _ _ e => e, fun _ _ e => (nomatch e), fun _ _ e => (nomatch e), rfl, fun i j a c c' e => by simp at e, fun n a c e => by simp at e, fun n a c e => by simp at e⟩
    have sr0 : SRs0 K Γ ⟨H, fun _ => none, []⟩ [scr ns] [.ref a] := .cons ⟨a, _, rfl, hS, drs_ints ns⟩ .nil
    obtain ⟨ms', hs'⟩ := hs
    refine codeAny_mono ((F _ kb (keepNs hg)).run callerA [] s1 H ⟨[.ref a], []⟩ [.ref a] [.ref a] [scr ns] [] ⟨H, fun _ => none, []⟩ (fun v _ => v = .bl true) (fun _ _ _ => False) hr rfl e0 (hbind s1 (.ref a)) (.cons rfl .nil) rfl hr0 sr0 (by rw [hs']; exact fun w' H' v _ _ sv => sv)) fun r s' h => ?_
    cases r with
    | error e =>
      obtain ⟨_, _, _, _, _, _, _, _, _, _, _, _, z⟩ := h
      exact z.elim
    | ok fl =>
      cases fl with
      | next => exact False.elim h
      | brk => exact False.elim h
      | cont => exact False.elim h
      | ret u =>
        obtain ⟨v, H', os, bare, un, hok', r', q⟩ := h
        have q2 : v = .bl true := q
        subst q2
        obtain rfl : u = Value.bool true := r'
        refine ⟨rfl, OldK.of_keep fun b o e => ?_, os, bare⟩
        cases q : H b with
        | none => exact un.keep b o e q (by intro z; exact absurd (show b ∈ ([] : List Addr) from z) (by simp)) (by simp)
        | some u =>
          rcases only b with z | ⟨ob, xs, z⟩
          · rw [q] at z; cases z
          · have z2 := un.frzs b ob _ z
            obtain ⟨e1, _⟩ := hok b _ z
            obtain ⟨e2, _⟩ := hok' b _ z2
            rw [e] at e1; cases e1
            exact e2
  cases hk : K.lookup a with
  | some o =>
    have e := KX a o hk
    rw [ha] at e
    cases e
    exact core (fun _ => none) (fun _ => .inl rfl) (.inr ⟨_, vs.toArray, _, hk, rfl, rfl, rfl, by rw [List.size_toArray, lv]; exact hl, by simpa using rv⟩) (fun b u z => (nomatch (show (none : Option HO) = some u from z))) (fun b z => absurd rfl z) fun z => absurd rfl z
  | none =>
    refine core (fun b => if b = a then some (.frz { cls := .type "list", data := .seq vs.toArray } (.lst (ns.map V.int))) else none) (fun b => ?_) (.inl (.inr ⟨{ cls := .type "list", data := .seq vs.toArray }, if_pos rfl⟩)) (fun b u z => ?_) (fun b z => ?_) fun _ => hk
    · by_cases hb : b = a
      · exact .inr ⟨_, _, if_pos hb⟩
      · exact .inl (if_neg hb)
    · by_cases hb : b = a
      · have z2 := (if_pos hb).symm.trans z
        cases z2
        subst hb
        exact ⟨ha, by rw [List.length_map]; exact hl, vs, _, rv, ha⟩
      · have z2 := (if_neg hb).symm.trans z
        cases z2
    · exact Classical.byContradiction fun hb => z (if_neg hb)
theorem walk_df {l : PySem.W.OpenLaw} {n k : Nat} {q : Program} {loose : List Str} {XP : (Str → Option Value) → Heap → Prop} {YP : World → Heap → Prop} {d : DefRec} {x : Str} (hn : l.most = some n) (hn2 : n ≤ sizeLine) (hdf : d.params.defaults = []) (hr : Room k callerA)
    (F : ∀ (w : World) (mg : Str → Option Value) (fa : Addr) (h : Heap), YP w h → h.Ns mainGlobals mg → mg d.name = some (.ref fa) →
      ∃ (K : PySem.W.Frag) (Γ : G) (fd : FuncData) (sem : List S → Ms → R S), K.In h ∧ (∀ (s : Shared) (u : Value), BindsTo s fd ⟨[u], []⟩ [(x, u)]) ∧ (∀ ns : List Int, ns.length ≤ n → ∃ ms', sem [scr ns] [] = .ok (.d (.bl true)) ms') ∧
        ∀ base : Heap, K.In base → base.Ns mainGlobals mg → DF l.prog w K mg base Γ k fa fd [x] sem) :
    PySem.W.WalkO q loose XP YP l.row.toRowW d [] (fun f vs => PySem.call f vs) := by
  refine Att.attach_call hn hdf fun w s0 s1 mg mb fa o pm cd doc a vs ns G Y ho hd hcd hmg hobj hints hlen hg => ?_
  obtain ⟨K, Γ, fd, sem, KX, hb, hs, hF⟩ := F w mg fa _ Y G.T.g hmg
  exact law_df KX G.T.g G.T.b G.T.builtins G.T.nolimit hg hobj hints (Nat.le_trans hlen hn2) hr hF hb (hs ns hlen)
end Fw
set_option Elab.async false
set_option linter.all false
set_option maxRecDepth 100000
set_option maxHeartbeats 4000000
/-! Fw21: facts of the written part by Bools; names as values; calls of a held class. -/
namespace Fw
open PySem L2 PySem.Spec PyProof.Rows

/-! ### the Hook -/
abbrev FnX : Type := Option (Str × Str × Arguments × FuncBody × Scope × Addr × List Str × Addr)
def fnX (K : PySem.W.Frag) (a : Addr) : FnX := match K.lookup a with
  | some ⟨_, _, .func fd, _⟩ => some (fd.name, fd.qualname, fd.params, fd.body, fd.scope, fd.globals, fd.closure.map (·.1), fd.builtins)
  | _ => none
structure DefX where
  at_ : PySem.W.Frag → Addr
  name : Str
  qual : Str
  params : Arguments
  body : List Stmt
  scope : Scope
  dfl : List He.Dv := []
  clo : List Str := []
def DefX.val (d : DefX) : FnX := some (d.name, d.qual, d.params, .stmts d.body, d.scope, mainGlobals, d.clo, builtinsNs)
def DefX.dvs (K : PySem.W.Frag) (d : DefX) : List V := d.dfl.map (He.Dv.v K)
def DefX.ok (K : PySem.W.Frag) (d : DefX) : Bool := PySem.W.keepIn K (.ref (d.at_ K)) && (match K.lookup (d.at_ K) with
  | some ⟨_, _, .func fd, _⟩ => PySem.W.codeIn K fd.code d.qual && He.dflB K fd.defaults (d.dvs K)
  | _ => false)
abbrev AlX : Type := Bool × List FnX
def obsX (fa : List (PySem.W.Frag → Bool)) (fn : List DefX) (K : PySem.W.Frag) : AlX := ((fa.all fun f => f K) && fn.all fun d => d.ok K, fn.map fun d => fnX K (d.at_ K))
def valX (fn : List DefX) : AlX := (true, fn.map DefX.val)
def SaysX (fa : List (PySem.W.Frag → Bool)) (fn : List DefX) (K : PySem.W.Frag) : Prop := obsX fa fn K = valX fn
/-- from the module's names and the statics on -/
def asX (g : Addr → Option Obj) : Nat → List Addr
  | 0 => [mainGlobals, PySem.cStatics]
  | n + 1 => He.growD g (asX g n)
def obsXG (n : Nat) (fa : List (PySem.W.Frag → Bool)) (fn : List DefX) (g : Addr → Option Obj) : AlX := obsX fa fn (He.frG g (asX g n))
def hookX (n : Nat) (fa : List (PySem.W.Frag → Bool)) (fn : List DefX) : PySem.W.Hook where
  α := AlX
  obs := fun s => obsXG n fa fn s.heap.get?
  val := fun _ => valX fn
  says := fun _ h => ∃ K : PySem.W.Frag, K.In h ∧ SaysX fa fn K
  of := fun _ _ e => ⟨_, He.frG_in, e⟩
  keeps := fun _ _ _ ⟨K, hK, c⟩ k => ⟨K, PySem.W.Frag.In.keeps hK k, c⟩
theorem obsXG_eq {n : Nat} {fa : List (PySem.W.Frag → Bool)} {fn : List DefX} {g : Addr → Option Obj} {s : Shared} (h : ∀ a, g a = s.heap.get? a) : obsXG n fa fn g = (hookX n fa fn).obs s := by
  have e : g = s.heap.get? := funext h
  rw [e] <;> rfl
section
variable {fa : List (PySem.W.Frag → Bool)} {fn : List DefX} {K : PySem.W.Frag}
theorem SaysX.fact (c : SaysX fa fn K) (i : Nat) {f : PySem.W.Frag → Bool} (h : fa[i]? = some f := by rfl) : f K = true := by
  have c1 := (Bool.and_eq_true_iff.mp (show ((fa.all fun f => f K) && fn.all fun d => d.ok K) = true from congrArg (fun z : AlX => z.1) c)).1
  exact List.all_eq_true.mp c1 f (List.mem_of_getElem? h)
theorem SaysX.def0 (c : SaysX fa fn K) (i : Nat) {d : DefX} (h : fn[i]? = some d := by rfl) : fnX K (d.at_ K) = d.val ∧ d.ok K = true := by
  have c2 := (Bool.and_eq_true_iff.mp (show ((fa.all fun f => f K) && fn.all fun d => d.ok K) = true from congrArg (fun z : AlX => z.1) c)).2
  have e : fn.map (fun d => fnX K (d.at_ K)) = fn.map DefX.val := congrArg (fun z : AlX => z.2) c
  have e2 : (fn.map fun d => fnX K (d.at_ K))[i]? = (fn.map DefX.val)[i]? := by rw [e]
  rw [List.getElem?_map, List.getElem?_map, h] at e2
  exact ⟨Option.some.inj e2, List.all_eq_true.mp c2 d (List.mem_of_getElem? h)⟩
theorem DefX.funD {d : DefX} (e : fnX K (d.at_ K) = d.val) (c : d.ok K = true) (h0 : d.clo = []) : ∃ fd, FunD K d.name d.qual d.params d.body d.scope (d.dvs K) [] (d.at_ K) fd := by
  obtain ⟨kp, c2⟩ := Bool.and_eq_true_iff.mp c
  unfold fnX at e
  cases q : K.lookup (d.at_ K) with
  | none => rw [q] at c2; cases c2
  | some o =>
    obtain ⟨oc, od, dt, osl⟩ := o
    rw [q] at c2 e
    cases dt with
    | func fd =>
      obtain ⟨n1, n2, n3, n4, n5, n6, n7, n8, n9, n10, n11, n12, n13, n14, n15⟩ := fd
      have e2 : (some (n1, n2, n3, n4, n5, n6, n7.map (·.1), n15) : FnX) = some (d.name, d.qual, d.params, .stmts d.body, d.scope, mainGlobals, d.clo, builtinsNs) := e
      simp only [Option.some.injEq, Prod.mk.injEq] at e2
      obtain ⟨h1, h2, h3, h4, h5, h6, h7, h8⟩ := e2
      rw [h0] at h7
      have h7 : n7 = [] := List.map_eq_nil_iff.mp h7
      subst h1 h2 h3 h4 h5 h6 h7 h8
      have c3 : (PySem.W.codeIn K n13 d.qual && He.dflB K n8 (d.dvs K)) = true := c2
      obtain ⟨k1, k3⟩ := Bool.and_eq_true_iff.mp c3
      exact ⟨_, ⟨oc, od, n8, n9, n10, n11, n12, n13, n14, osl, rfl, q, k1, He.dflB_ok k3, .inl rfl⟩, kp⟩
    | _ => cases c2
theorem SaysX.def_ (c : SaysX fa fn K) (i : Nat) {d : DefX} (h : fn[i]? = some d := by rfl) (h0 : d.clo = [] := by rfl) : ∃ fd, FunD K d.name d.qual d.params d.body d.scope (d.dvs K) [] (d.at_ K) fd :=
  let z := c.def0 i h
  DefX.funD z.1 z.2 h0
end
/-- how a def without defaults binds n values and the names ks -/
theorem bd_of {K : PySem.W.Frag} {x qual : Str} {params : Arguments} {body : List Stmt} {scope : Scope} {f : Addr} {fd : FuncData} {ps : List Str} {n : Nat} {ks : List Str} {pk : List Nat} (F : FunD K x qual params body scope [] [] f fd) (hl : pk.length = ps.length) (hr : ∀ i ∈ pk, i < n + ks.length + 0)
    (h : ∀ (kV doc pm : Value) (an : Option Addr) (cdv ct : Value) (us ws : List Value), us.length = n → ws.length = ks.length → bindArgs (PySem.W.fnOf x qual params body scope .none kV doc pm an cdv ct) ⟨us, ks.zip ws⟩ = pure (ps.zip (pick pk (us ++ ws)))) : Bd K fd ps n ks pk [] := by
  obtain ⟨oc, od, dV, kV, doc, pm, an, cdv, ct, osl, rfl, _, _, hD, _⟩ := F.ex
  have hd : dV = .none := hD.elim (fun z => z.2) (fun z => absurd rfl z.1)
  subst hd
  exact ⟨⟨[], .nil, fun s us ws _ l1 l2 => .of_eq (by rw [List.append_nil]; exact h kV doc pm an cdv ct us ws l1 l2)⟩, hl, hr⟩
/-- addresses -/
def gA (x : Str) (K : PySem.W.Frag) : Addr := He.ga K x
def mA (x m : Str) (K : PySem.W.Frag) : Addr := He.ma K (He.ga K x) m
def recA (kind : String) (p : PySem.W.Frag → Addr) (K : PySem.W.Frag) : Addr := match PySem.W.recIn K (p K) kind with
  | some (.ref g :: _) => g
  | _ => 0

/-! ### names as values -/
section
variable {Y : Cy} {w w1 w2 : Wd} {σ : L2.St} {H H1 H2 : Hp} {env : Env} {ms ms1 ms2 : Ms} {x : Str} {pos p apos : Pos} {k n : Nat} {es : List Expr} {kws : List Keyword} {ks : List Str} {f : Addr} {m : Env → Ms → R (List S)} {g : List S → Ms → R S} {e o : Expr} {mo me : Env → Ms → R S}
theorem e_gstr {z : Str} (hg : Gl Y.X x) (hm : ∃ t, Y.X.mg x = some (.str z t)) (hd : (x == ("__debug__" : Str)) = false := by decide) : DE Y (.Name x pos) (mC (.d (.str z))) := by
  obtain ⟨t, hm⟩ := hm
  exact e_glob (v := .str z) hg hm ⟨t, rfl⟩ (fun _ => rfl) hd
theorem e_gint {i : Int} (hg : Gl Y.X x) (hm : ∃ t, Y.X.mg x = some (.int i t)) (hd : (x == ("__debug__" : Str)) = false := by decide) : DE Y (.Name x pos) (mC (.d (.int i))) := by
  obtain ⟨t, hm⟩ := hm
  exact e_glob (v := .int i) hg hm ⟨t, rfl⟩ (fun _ => rfl) hd
theorem e_gfn (i : Nat) (hg : Gl Y.X x) (hm : Y.X.mg x = some (.ref (Y.Γ.fn i))) (hd : (x == ("__debug__" : Str)) = false := by decide) : DE Y (.Name x pos) (mC (.d (.fn i))) :=
  e_glob hg hm (show RelV (.ref (Y.Γ.fn i)) (.ref (Y.Γ.fn i)) from rfl) (fun _ => rfl) hd
theorem e_bty {T : String} (hg : Gl Y.X x) (hm : Y.X.mg x = none) (hv : bootBuiltins x = some (.type T)) (hn : x ≠ "__name__" := by decide) (hd : (x == ("__debug__" : Str)) = false := by decide) : DE Y (.Name x pos) (mC (.d (.ty T))) :=
  ⟨_, pe_bltn (v := .ty T) hg hm hv rfl hn hd, fun w _ _ _ _ _ _ hr q => q.at (Ext.refl w) hr rfl⟩
/-- a call of what a name holds: a class or a def of the module -/
structure VcOk (Y : Cy) (n : Nat) (ks : List Str) (c : Nat) (g : List S → Ms → R S) : Prop where
  kp : PySem.W.keepIn Y.X.K (.ref (Y.Γ.fn c)) = true
  cal : Cal Y (Y.Γ.fn c) n ks g
def mCallV (tab : MTab) (mo : Env → Ms → R S) (m : Env → Ms → R (List S)) : Env → Ms → R S := fun env ms => (mo env ms).bind fun x ms1 => match x with
  | .d (.fn c) => match tab.lookup c with
    | some g => (m env ms1).bind g
    | none => .bad
  | _ => .bad
theorem e_callV {tab : MTab} (ho : DE Y (.Name x p) mo) (ht : Tab (VcOk Y n ks) tab) (ha : DC Y es kws n ks m) : DE Y (.Call (.Name x p) es kws pos) (mCallV tab mo m) := by
  obtain ⟨to, po, so⟩ := ho.ex
  obtain ⟨t, pa, sa⟩ := ha.ex
  refine ⟨fun σ H Q => to σ H fun v H1 => ∃ c g, v = .ref (Y.Γ.fn c) ∧ VcOk Y n ks c g ∧ t σ H1 fun vs H2 => ∃ (ss : List S) (ms : Ms) (w : Wd), HR Y w H2 ms ∧ SRs Y w ss vs ∧ (g ss ms).post (okP Y w Q) (exP Y w σ), ⟨fun pins s σ H Q I h => ?_⟩, fun w σ H env ms Q er hr h => ?_⟩
  · refine wpAny_Call_Name_kw (thn (po.run pins s σ H _ I h) fun u s1 ⟨v, H1, I1, rx, c, g, ev, vc, q⟩ => ?_)
    subst ev
    obtain rfl : u = Value.ref (Y.Γ.fn c) := rx
    refine PySem.W.callWith_of (pa.plain pos) (PySem.W.keeps_K vc.kp) (thn (pa.run pos _ pins s1 σ H1 _ I1 q) fun a s2 ⟨us, ws, vs, H2, ea, l1, l2, I2, r, ss, ms, w, hr, sv, q2⟩ => ?_)
    subst ea
    exact ⟨I2.kIn, cal_wp (vc.cal.run I2 l1 l2 r hr sv q2)⟩
  · refine so.go er hr h fun y ms1 w1 H1 v e1 er1 hr1 sv h1 => ?_
    cases y with
    | loc i => exact h1.elim
    | exn c ds => exact h1.elim
    | d y =>
      cases y with
      | fn c =>
        cases sv
        dsimp only at h1
        cases hl : tab.lookup c with
        | none => rw [hl] at h1; exact h1.elim
        | some g =>
          rw [hl] at h1
          refine ⟨c, g, rfl, ht.at_ hl, ?_⟩
          refine sa.go er1 hr1 h1 fun ss ms2 w2 H2 vs e2 er2 hr2 svs h2 => ?_
          exact ⟨ss, ms2, w2, hr2, svs, R.post_mono h2 (fun _ _ z => z.ext (e1.trans e2)) fun _ _ _ z => z⟩
      | _ => exact h1.elim
end
/-- nothing computed: nothing promised -/
theorem DF.bad {P : Program} {w : World} {K : PySem.W.Frag} {mg : Str → Option Value} {base : Heap} {Γ : G} {k : Nat} {f : Addr} {fd : FuncData} {ps : List Str} : DF P w K mg base Γ k f fd ps (fun _ _ => .bad) :=
  ⟨fun _ _ _ _ _ _ _ _ _ _ _ _ _ _ _ _ _ _ _ _ h => h.elim⟩
end Fw
set_option Elab.async false
set_option linter.all false
set_option maxRecDepth 100000
set_option maxHeartbeats 4000000
/-! Fw22: Bools of the written part, and what they say. -/
namespace Fw
open PySem L2 PySem.Spec PyProof.Rows
variable {K : PySem.W.Frag} {C D p g : Addr} {x f m : Str}
def bOO (a b : Option (Option Value)) : Bool := decide (a = b)
/-- a property -/
def bProp (C : Addr) (f : Str) (p g : Addr) (K : PySem.W.Frag) : Bool := bOO (PySem.W.findIn K (.ref C) f) (some (some (.ref p))) && (bOO (PySem.W.specialIn K (.ref p) "__get__") (some (some (.builtin "property.__get__"))) && (decide (PySem.W.takesIn K (.ref p) = some true) &&
  (match PySem.W.recIn K p "property" with
    | some (.ref a :: _) => decide (a = g)
    | _ => false)))
theorem prop_ok (h : bProp C f p g K = true) : PropOf K C f p g := by
  unfold bProp at h
  simp only [Bool.and_eq_true] at h
  obtain ⟨h1, h2, h3, h4⟩ := h
  refine ⟨of_decide_eq_true h1, of_decide_eq_true h2, of_decide_eq_true h3, ?_⟩
  split at h4
  · rename_i a r e
    rw [← of_decide_eq_true h4]
    exact ⟨r, e⟩
  · cases h4
/-- a classmethod -/
def bCm (C : Addr) (m : Str) (p g : Addr) (K : PySem.W.Frag) : Bool := PySem.W.readsIn K C (.type "type") && (bOO (PySem.W.specialIn K (.ref C) "__getattribute__") (some (some (.builtin "type.__getattribute__"))) && ((match PySem.W.findCls K (.ref C) (.type "type") m with
    | some (.get (.builtin b) (.ref q) .none (.ref c)) => decide (b = "classmethod.__get__") && (decide (q = p) && decide (c = C))
    | _ => false) && ((match PySem.W.recIn K p "classmethod" with
    | some (.ref a :: _) => decide (a = g)
    | _ => false) && PySem.W.fnIn K g)))
theorem cm_ok (h : bCm C m p g K = true) : ClX.CRead K C (.type "type") ∧ ClX.CMet K C (.type "type") m p g := by
  unfold bCm at h
  simp only [Bool.and_eq_true] at h
  obtain ⟨h1, h2, h3, h4, h5⟩ := h
  refine ⟨⟨h1, of_decide_eq_true h2⟩, ?_, ?_, h5⟩
  · split at h3
    · rename_i b q c e
      simp only [Bool.and_eq_true] at h3
      obtain ⟨e1, e2, e3⟩ := h3
      rw [e, of_decide_eq_true e1, of_decide_eq_true e2, of_decide_eq_true e3]
    · cases h3
  · split at h4
    · rename_i a r e
      rw [← of_decide_eq_true h4]
      exact ⟨r, e⟩
    · cases h4
/-- a special method -/
def bSp (C : Addr) (m : Str) (g : Addr) (K : PySem.W.Frag) : Bool := bOO (PySem.W.findIn K (.ref C) m) (some (some (.ref g))) && PySem.W.isFn K (.ref g)
theorem sp_ok (h : bSp C m g K = true) : PySem.W.findIn K (.ref C) m = some (some (.ref g)) ∧ PySem.W.isFn K (.ref g) = true := by
  obtain ⟨h1, h2⟩ := Bool.and_eq_true_iff.mp h
  exact ⟨of_decide_eq_true h1, h2⟩
def bKit (a b : Value) (r : Bool) (K : PySem.W.Frag) : Bool := decide (PySem.W.kitOne K a b = some r)
theorem kit_ok {a b : Value} {r : Bool} (h : bKit a b r K = true) : PySem.W.kitOne K a b = some r := of_decide_eq_true h
/-- for isinstance: of an instance's class -/
def bIns (C : Addr) (K : PySem.W.Frag) : Bool := bOO (PySem.W.findIn K (.ref C) "__class__") (some (some (.builtin "object.__class__"))) && decide (PySem.W.mroIn K C (.type "object") = some true)
theorem ins_ok (h : bIns C K = true) : PySem.W.findIn K (.ref C) "__class__" = some (some (.builtin "object.__class__")) ∧ PySem.W.mroIn K C (.type "object") = some true := by
  obtain ⟨h1, h2⟩ := Bool.and_eq_true_iff.mp h
  exact ⟨of_decide_eq_true h1, of_decide_eq_true h2⟩
def bGet (K : PySem.W.Frag) : Bool := bOO (PySem.W.specialIn K (.builtin "object.__class__") "__get__") (some (some (.builtin "getset_descriptor.__get__"))) && decide (PySem.W.takesIn K (.builtin "object.__class__") = some true)
theorem get_ok (h : bGet K = true) : PySem.W.specialIn K (.builtin "object.__class__") "__get__" = some (some (.builtin "getset_descriptor.__get__")) ∧ PySem.W.takesIn K (.builtin "object.__class__") = some true := by
  obtain ⟨h1, h2⟩ := Bool.and_eq_true_iff.mp h
  exact ⟨of_decide_eq_true h1, of_decide_eq_true h2⟩
/-- a class that isinstance is asked of: no built-in's instance is one of it -/
def bNk (C : Addr) (K : PySem.W.Frag) : Bool := tyNames.all fun a => bKit (.type a) (.ref C) false K
theorem nk_ok (h : bNk C K = true) : ∀ a ∈ tyNames, PySem.W.kitOne K (.type a) (.ref C) = some false := fun a ha => kit_ok (List.all_eq_true.mp h a ha)
def bOn (C : Addr) (K : PySem.W.Frag) : Bool := tyNames.all fun a => bKit (.ref C) (.type a) false K
theorem on_ok (h : bOn C K = true) : ∀ a ∈ tyNames, PySem.W.kitOne K (.ref C) (.type a) = some false := fun a ha => kit_ok (List.all_eq_true.mp h a ha)
/-- a caught exception's class -/
def bExc (C : Addr) (K : PySem.W.Frag) : Bool := xfB K C && (bIns C K && bGet K)
theorem exc_ok (h : bExc C K = true) : XfC K C ∧ ExcC K C := by
  unfold bExc at h
  simp only [Bool.and_eq_true] at h
  obtain ⟨h1, h2, h3⟩ := h
  have x := xfB_ok h1
  have i := ins_ok h2
  have g := get_ok h3
  exact ⟨x, ⟨x.ga, x.gg, x.exC, x.hdC, i.1, g.1, g.2, i.2⟩⟩
def bNo (C : Addr) (f : Str) (K : PySem.W.Frag) : Bool := bOO (PySem.W.findIn K (.ref C) f) (some none)
theorem no_ok (h : bNo C f K = true) : PySem.W.findIn K (.ref C) f = some none := of_decide_eq_true h
def bExm (C D : Addr) (b : Bool) (K : PySem.W.Frag) : Bool := decide (PySem.W.exmOne K (.ref C) (.ref D) = some b)
theorem exm_ok {b : Bool} (h : bExm C D b K = true) : PySem.W.exmOne K (.ref C) (.ref D) = some b := of_decide_eq_true h

/-! ### an exception class that is raised -/
def clA (f : Addr) (K : PySem.W.Frag) : Addr := match K.lookup f with
  | some ⟨_, _, .func fd, _⟩ => (match fd.closure with
    | (_, c) :: _ => c
    | _ => 0)
  | _ => 0
def cdA (f : Addr) (K : PySem.W.Frag) : Addr := match K.lookup f with
  | some ⟨_, _, .func fd, _⟩ => (match fd.code with
    | .ref c => c
    | _ => 0)
  | _ => 0
def bXcls (C : Addr) (K : PySem.W.Frag) : Bool := match K.lookup C with
  | some ⟨.type t, _, .cls cd, sl⟩ => t == "type" && (match cd.mro, sl.toList with
    | .ref C2 :: bm, [_, _, _, _, some (.builtin n), _] => decide (C2 = C) && (decide (n = "ValueError.__new__") && (!cd.hasDel && (cd.hasDict && PySem.HandSPX.refsVE bm)))
    | _, _ => false)
  | _ => false
theorem xcls_ok (h : bXcls C K = true) : ∃ nm q N bs bm sn sub ab col dd k0 k1 k2 k3 k5, K.lookup C = some (excClassObj nm q C N bs bm true sn sub ab col dd k0 k1 k2 k3 k5 "ValueError.__new__") ∧ PySem.HandSPX.refsVE bm = true := by
  unfold bXcls at h
  split at h
  · rename_i t dd cd sl ho
    obtain ⟨ht, h⟩ := Bool.and_eq_true_iff.mp h
    have ht2 : t = "type" := beq_iff_eq.mp ht
    subst ht2
    split at h
    · rename_i C2 bm k0 k1 k2 k3 n k5 hm hs
      simp only [Bool.and_eq_true, decide_eq_true_eq, Bool.not_eq_true'] at h
      obtain ⟨_, rfl, rfl, hdel, hdict, hv⟩ := h
      obtain ⟨nm, bs, mro, ns, qn, hd, sn, sub, ab, col, del⟩ := cd
      dsimp only at hm hdel hdict
      subst hm hdel hdict
      have hsl : sl = #[k0, k1, k2, k3, some (.builtin "ValueError.__new__"), k5] := by
        obtain ⟨l⟩ := sl
        simp only at hs
        rw [hs]
      subst hsl
      exact ⟨nm, qn, ns, bs, bm, sn, sub, ab, col, dd, k0, k1, k2, k3, k5, ho, hv⟩
    · cases h
  · cases h
def fileIs (file : Str) (o : Option Value) : Bool := match o with
  | some (.str z _) => file == z
  | _ => false
def bX (file : Str) (C fI : Addr) (fs : List Str) (K : PySem.W.Frag) : Bool :=
  bXcls C K && (bOO (PySem.W.findIn K (.ref C) "__setattr__") (some (some (.builtin "object.__setattr__"))) && (bOO (PySem.W.findIn K (.ref C) "__init__") (some (some (.ref fI))) && (decide (PySem.W.typeIn K (.ref fI) = some (.type "function")) && (PySem.W.keepIn K (.ref C) &&
  (decide (PySem.W.subIn K (.ref C) (.type "BaseException") = some true) && (decide (PySem.W.typeIn K (.ref C) = some (.type "type")) && (decide (PySem.W.mroIn K C (.ref C) = some true) && (decide (PySem.W.subIn K (.ref C) (.type "ValueError") = some true) &&
  (bOO (PySem.W.ks_superIn K C C "__init__") (some (some (.builtin "ValueError.__init__"))) && (PySem.W.excInitIn K C PySem.HandSPX.veTail "ValueError.__new__" && (bOO (PySem.W.nsIn K PySem.cStatics "thirdparty.any") (some none) &&
  ((match K.lookup (clA fI K) with
    | some ⟨_, _, .cell (some (.ref D)), _⟩ => decide (D = C)
    | _ => false) && ((match K.lookup (cdA fI K) with
    | some ⟨_, _, .fields vs, _⟩ => fileIs file vs[2]?
    | _ => false) && (fs.all fun f => bNo C f K))))))))))))))
theorem x_ok {prog : Program} {C fI : Addr} {d : DefX} {text : Str} {j : Nat} {p0 p1 p2 p3 p4 p5 : Pos} {ss : List Stmt} {fs : List (Str × Str)} (hf : fI = d.at_ K) (h : bX prog.main.file C fI (fs.map (·.1)) K = true) (e : fnX K (d.at_ K) = d.val) (c : d.ok K = true)
    (hn : d.name = "__init__") (hc : d.clo = [("__class__" : Str)]) (hb : d.body = FwX.supStmt text j p0 p1 p2 p3 p4 p5 :: ss) (hz : d.dfl = []) (ht : (prog.main.scope.names.lookup ("super" : Str)).isSome = false) :
    FwX.ExTxt prog K C fI (clA fI K) (cdA fI K) d.qual d.params (FwX.supStmt text j p0 p1 p2 p3 p4 p5 :: ss) d.scope fs := by
  unfold bX at h
  simp only [Bool.and_eq_true] at h
  obtain ⟨h1, h2, h3, h4, h5, h6, h7, h8, h9, h10, h11, h12, h13, h14, h15⟩ := h
  refine ⟨xcls_ok h1, of_decide_eq_true h2, of_decide_eq_true h3, of_decide_eq_true h4, h5, of_decide_eq_true h6, of_decide_eq_true h7, of_decide_eq_true h8, of_decide_eq_true h9, of_decide_eq_true h10, h11, of_decide_eq_true h12, ?_, ?_, ht, ?_, ?_⟩
  · split at h13
    · rename_i a b D sl ho
      have := of_decide_eq_true h13
      subst this
      exact ⟨a, b, sl, ho⟩
    · cases h13
  · split at h14
    · rename_i a b vs sl ho
      unfold fileIs at h14
      split at h14
      · rename_i z t hv
        exact ⟨a, b, vs, sl, z, t, ho, hv, h14⟩
      · cases h14
    · cases h14
  · subst hf
    obtain ⟨kp, c2⟩ := Bool.and_eq_true_iff.mp c
    unfold fnX at e
    cases q : K.lookup (d.at_ K) with
    | none => rw [q] at c2; cases c2
    | some o =>
      obtain ⟨oc, od, dt, osl⟩ := o
      rw [q] at c2 e
      cases dt with
      | func fd =>
        obtain ⟨n1, n2, n3, n4, n5, n6, n7, n8, n9, n10, n11, n12, n13, n14, n15⟩ := fd
        have e2 : (some (n1, n2, n3, n4, n5, n6, n7.map (·.1), n15) : FnX) = some (d.name, d.qual, d.params, .stmts d.body, d.scope, mainGlobals, d.clo, builtinsNs) := e
        simp only [Option.some.injEq, Prod.mk.injEq] at e2
        obtain ⟨g1, g2, g3, g4, g5, g6, g7, g8⟩ := e2
        rw [hc] at g7
        cases n7 with
        | nil => cases g7
        | cons pr n7 =>
          obtain ⟨cn, cc⟩ := pr
          have g9 : cn = "__class__" ∧ n7 = [] := by
            have := List.cons.inj (show cn :: n7.map (·.1) = [("__class__" : Str)] from g7)
            exact ⟨this.1, List.map_eq_nil_iff.mp this.2⟩
          obtain ⟨rfl, rfl⟩ := g9
          rw [hn] at g1
          rw [hb] at g4
          subst g1 g2 g3 g4 g5 g6 g8
          have e3 : clA (d.at_ K) K = cc := by unfold clA; rw [q]
          have c3 : (PySem.W.codeIn K n13 d.qual && He.dflB K n8 (d.dvs K)) = true := c2
          obtain ⟨k1, k3⟩ := Bool.and_eq_true_iff.mp c3
          have e4 : n13 = .ref (cdA (d.at_ K) K) := by
            cases n13 with
            | ref cda => unfold cdA; rw [q]
            | _ => unfold PySem.W.codeIn at k1; cases k1
          have e5 : n8 = .none := by
            have k4 := He.dflB_ok k3
            unfold DefX.dvs at k4
            rw [hz] at k4
            exact k4.elim (fun z => z.2) (fun z => absurd rfl z.1)
          rw [e3]
          subst e4 e5
          exact ⟨oc, od, n9, n10, n11, n12, n14, osl, rfl, k1⟩
      | _ => cases c2
  · intro p hp
    exact no_ok (List.all_eq_true.mp h15 p.1 (List.mem_map_of_mem hp))
end Fw
set_option Elab.async false
set_option linter.all false
set_option maxRecDepth 100000
set_option maxHeartbeats 4000000
/-! Fw23: what the Bools say of a whole table. -/
namespace Fw
open PySem L2 PySem.Spec PyProof.Rows
def bIsi (Γ : PySem.W.Frag → G) (oc kc : List Nat) (sub : Nat → Nat → Bool) (K : PySem.W.Frag) : Bool :=
  (kc.all fun m => bNk ((Γ K).fn m) K) && ((oc.all fun c => bOn ((Γ K).cls c) K && (bIns ((Γ K).cls c) K && (He.Fa.cls Str.empty).ok K || true) && bIns ((Γ K).cls c) K) && ((oc.all fun c => kc.all fun m => bKit (.ref ((Γ K).cls c)) (.ref ((Γ K).fn m)) (sub c m) K) && (oc.isEmpty || bGet K)))
def bCls (C : Addr) (K : PySem.W.Frag) : Bool := PySem.W.plainGet K C Str.empty && (PySem.W.hasDictIn K C && (PySem.W.plainOver K C && bOO (PySem.W.findIn K (.ref C) "__setattr__") (some (some (.builtin "object.__setattr__")))))
theorem cls_ok {K : PySem.W.Frag} {C : Addr} (h : bCls C K = true) : Cls K C := by
  unfold bCls at h
  simp only [Bool.and_eq_true] at h
  obtain ⟨h1, h2, h3, h4⟩ := h
  exact ⟨h1, h2, h3, of_decide_eq_true h4⟩
theorem isi_ok {Γ : PySem.W.Frag → G} {Y : Cy} {oc kc : List Nat} {sub : Nat → Nat → Bool} (hG : Y.Γ = Γ Y.X.K) (h : bIsi Γ oc kc sub Y.X.K = true) (hc : ∀ c ∈ oc, bCls (Y.Γ.cls c) Y.X.K = true) : IsiOk Y oc kc sub := by
  unfold bIsi at h
  simp only [Bool.and_eq_true] at h
  obtain ⟨h1, h2, h3, h4⟩ := h
  rw [← hG] at h1 h2 h3
  refine ⟨fun m hm => nk_ok (List.all_eq_true.mp h1 m hm), fun c hc' => ?_, fun c hc' m hm => kit_ok (List.all_eq_true.mp (List.all_eq_true.mp h3 c hc') m hm), fun c hc' => ?_, fun ne => ?_⟩
  · have := List.all_eq_true.mp h2 c hc'
    simp only [Bool.and_eq_true] at this
    exact on_ok this.1.1
  · have := List.all_eq_true.mp h2 c hc'
    simp only [Bool.and_eq_true] at this
    exact ⟨cls_ok (hc c hc'), (ins_ok this.2).1, (ins_ok this.2).2⟩
  · cases oc with
    | nil => exact absurd rfl ne
    | cons a r => exact get_ok (by simpa using h4)
def bXis (Γ : PySem.W.Frag → G) (xc kc : List Nat) (sub : Nat → Nat → Bool) (K : PySem.W.Frag) : Bool := (xc.all fun c => bExc ((Γ K).cls c) K) && (xc.all fun c => kc.all fun m => bKit (.ref ((Γ K).cls c)) (.ref ((Γ K).fn m)) (sub c m) K)
theorem xis_ok {Γ : PySem.W.Frag → G} {Y : Cy} {xc kc : List Nat} {sub : Nat → Nat → Bool} (hG : Y.Γ = Γ Y.X.K) (h : bXis Γ xc kc sub Y.X.K = true) : XisOk Y xc kc sub := by
  unfold bXis at h
  simp only [Bool.and_eq_true] at h
  obtain ⟨h1, h2⟩ := h
  rw [← hG] at h1 h2
  exact ⟨fun c hc => (exc_ok (List.all_eq_true.mp h1 c hc)).2, fun c hc m hm => kit_ok (List.all_eq_true.mp (List.all_eq_true.mp h2 c hc) m hm)⟩
/-- which exceptions a clause takes -/
def bTst (Γ : PySem.W.Frag → G) (tab : List (Nat × Bool)) (D : PySem.W.Frag → Addr) (K : PySem.W.Frag) : Bool := tab.all fun p => bExm ((Γ K).cls p.1) (D K) p.2 K
theorem lookup_mem {α : Type} {c : Nat} {b : α} : ∀ {l : List (Nat × α)}, l.lookup c = some b → (c, b) ∈ l
  | [], h => by cases h
  | (n, a) :: r, h => by
    rw [List.lookup_cons] at h
    cases q : c == n with
    | true => rw [q] at h; cases h; rw [beq_iff_eq.mp q]; exact List.mem_cons_self
    | false => rw [q] at h; exact List.mem_cons_of_mem _ (lookup_mem h)
theorem tst_ok {Γ : PySem.W.Frag → G} {Y : Cy} {tab : List (Nat × Bool)} {D : PySem.W.Frag → Addr} (hG : Y.Γ = Γ Y.X.K) (h : bTst Γ tab D Y.X.K = true) : ∀ c b, tab.lookup c = some b → PySem.W.exmOne Y.X.K (.ref (Y.Γ.cls c)) (.ref (D Y.X.K)) = some b := fun c b e => by
  have := List.all_eq_true.mp h (c, b) (lookup_mem e)
  rw [hG]
  exact exm_ok this
theorem names_own {X : Cx} {x : Str} {C : Addr} (hg : Gl X x) (hm : X.mg x = some (.ref C)) (hd : (x == ("__debug__" : Str)) = false := by decide) : Names X x (.ref C) := ⟨hg, hd, .inl hm⟩
theorem xat_ok {Y : Cy} {fl : Str} {c i : Nat} (h : bExc (Y.Γ.cls c) Y.X.K = true) (h2 : bNo (Y.Γ.cls c) fl Y.X.K = true) (h3 : (Y.Γ.fld c)[i]? = some fl) (h4 : ((Y.Γ.fld c).take i).contains fl = false) : XatOk Y fl c i := ⟨(exc_ok h).1, no_ok h2, h3, h4⟩
end Fw
set_option Elab.async false
set_option linter.all false
set_option maxRecDepth 100000
set_option maxHeartbeats 1000000
/-! Fw24: what the combinators give, step by step (plain Lean). -/
namespace Fw
open PySem
section
variable {env e1 : Env} {ms ms1 ms2 : Ms} {s s1 s2 : S} {m m1 m2 k : Env → Ms → T} {me ma mb : Env → Ms → R S} {mc md : Env → Ms → R Bool} {i j n : Nat} {b : Bool} {ss : List S}
theorem cons_nx (h : m env ms = .nx e1 ms1) : sCons m k env ms = k e1 ms1 := by unfold sCons; rw [h]; rfl
theorem cons_rt (h : m env ms = .rt s ms1) : sCons m k env ms = .rt s ms1 := by unfold sCons; rw [h]; rfl
theorem cons_ex {c : Nat} {ds : List D} (h : m env ms = .ex c ds e1 ms1) : sCons m k env ms = .ex c ds e1 ms1 := by unfold sCons; rw [h]; rfl
theorem set_ok (h : me env ms = .ok s ms1) : sSet i me env ms = .nx (env.set i (some s)) ms1 := by unfold sSet; rw [h]; rfl
theorem set_ex {c : Nat} {ds : List D} (h : me env ms = .ex c ds ms1) : sSet i me env ms = .ex c ds env ms1 := by unfold sSet; rw [h]; rfl
theorem ret_ok (h : me env ms = .ok s ms1) : sRet me env ms = .rt s ms1 := by unfold sRet; rw [h]; rfl
theorem ret_ex {c : Nat} {ds : List D} (h : me env ms = .ex c ds ms1) : sRet me env ms = .ex c ds env ms1 := by unfold sRet; rw [h]; rfl
theorem if_t (h : mc env ms = .ok true ms1) : sIf mc m k env ms = m env ms1 := by unfold sIf; rw [h]; rfl
theorem if_f (h : mc env ms = .ok false ms1) : sIf mc m k env ms = k env ms1 := by unfold sIf; rw [h]; rfl
theorem op_ok {g : S → S → Ms → R S} (h1 : ma env ms = .ok s1 ms1) (h2 : mb env ms1 = .ok s2 ms2) : mOp g ma mb env ms = g s1 s2 ms2 := by unfold mOp; rw [h1]; show (mb env ms1).bind _ = _; rw [h2]; rfl
theorem mB_ok (h : me env ms = .ok (.d (.bl b)) ms1) : mB me env ms = .ok b ms1 := by unfold mB; rw [h]; rfl
theorem and_t (h : mc env ms = .ok true ms1) : mAnd mc md env ms = md env ms1 := by unfold mAnd; rw [h]; rfl
theorem and_f (h : mc env ms = .ok false ms1) : mAnd mc md env ms = .ok false ms1 := by unfold mAnd; rw [h]; rfl
theorem or_t (h : mc env ms = .ok true ms1) : mOr mc md env ms = .ok true ms1 := by unfold mOr; rw [h]; rfl
theorem or_f (h : mc env ms = .ok false ms1) : mOr mc md env ms = md env ms1 := by unfold mOr; rw [h]; rfl
theorem not_ok (h : mc env ms = .ok b ms1) : mNot mc env ms = .ok (!b) ms1 := by unfold mNot; rw [h]; rfl
theorem acons_ok {al : Env → Ms → R (List S)} (h : me env ms = .ok s ms1) (h2 : al env ms1 = .ok ss ms2) : aCons me al env ms = .ok (s :: ss) ms2 := by unfold aCons; rw [h]; show (al env ms1).bind _ = _; rw [h2]; rfl
theorem callN_ok {g : List S → Ms → R S} {al : Env → Ms → R (List S)} (h : al env ms = .ok ss ms1) : mCallN g al env ms = g ss ms1 := by unfold mCallN; rw [h]; rfl
theorem b1_ok {g : List S → Ms → R S} {al : Env → Ms → R (List S)} (h : al env ms = .ok ss ms1) : mB1 g al env ms = g ss ms1 := by unfold mB1; rw [h]; rfl
theorem len_ok {al : Env → Ms → R (List S)} (h : al env ms = .ok ss ms1) (hn : ss.length = n) : mLen n al env ms = .ok ss ms1 := by
  unfold mLen lenIs
  rw [h]
  show (match Nat.beq ss.length n with
    | true => R.ok ss ms1
    | false => .bad) = _
  rw [hn, Nat.beq_refl]
theorem fn_rt {ss : List S} (h : m (start0 n ss) ms = .rt (.d d0) ms1) : fnSem n m ss ms = .ok (.d d0) ms1 := by unfold fnSem; rw [h]; rfl
theorem for_ok {mi : Env → Ms → R (List S × Option (Nat × Cell))} {g : S → Env → Ms → Option Env} {xs : List S} (h : mi env ms = .ok (xs, none) ms1) : sFor mi g m env ms = forL none g m xs env ms1 := by unfold sFor; rw [h]; rfl
theorem forL_nil {g : S → Env → Ms → Option Env} : forL none g m [] env ms = .nx env ms := rfl
theorem forL_cons {g : S → Env → Ms → Option Env} {x : S} {xs : List S} (hg : g x env ms = some e1) : forL none g m (x :: xs) env ms = (match m e1 ms with
    | .nx e m' => forL none g m xs e m'
    | .ct e m' => forL none g m xs e m'
    | .bk e m' => .nx e m'
    | .rt s m' => .rt s m'
    | .ex c ds e m' => .ex c ds e m'
    | .bad => .bad) := by
  show (match g x env ms with
    | none => T.bad
    | some env1 => _) = _
  rw [hg]
  all_goals rfl
theorem forL_inv {g : S → Env → Ms → Option Env} (P : Env → Ms → Prop) : ∀ {xs : List S} {env : Env} {ms : Ms}, (∀ x ∈ xs, ∀ e ms, P e ms → ∃ e1 e2 m2, g x e ms = some e1 ∧ m e1 ms = .nx e2 m2 ∧ P e2 m2) → P env ms → ∃ e2 m2, forL none g m xs env ms = .nx e2 m2 ∧ P e2 m2
  | [], env, ms, _, p => ⟨env, ms, rfl, p⟩
  | x :: xs, env, ms, h, p => by
    obtain ⟨e1, e2, m2, h1, h2, p2⟩ := h x List.mem_cons_self env ms p
    obtain ⟨e3, m3, h3, p3⟩ := forL_inv P (xs := xs) (fun y hy => h y (List.mem_cons_of_mem _ hy)) p2
    exact ⟨e3, m3, by rw [forL_cons h1, h2]; exact h3, p3⟩
theorem gIx_lst {l : List D} {r : Int} (h0 : 0 ≤ r) (h1 : r < l.length) : ∃ v ∈ l, gIx (.d (.lst l)) (.d (.int r)) ms = .ok (.d v) ms := by
  have hr : r.toNat < l.length := by omega
  refine ⟨l[r.toNat], List.getElem_mem hr, ?_⟩
  have e : L2.atI l r = some l[r.toNat] := by
    unfold L2.atI L2.ixN
    rw [if_pos h0, if_pos h1]
    simp [hr]
  show (match (some (D.lst l)).bind (ixD · r) with
    | some d => R.ok (S.d d) ms
    | none => .bad) = _
  show (match L2.atI l r with
    | some d => R.ok (S.d d) ms
    | none => .bad) = _
  rw [e]
/-- a call that is handed one cell and data -/
theorem call_one {sem : List S → Ms → R S} {xs : List D} {c c' : Cell} {y : D} (hc : ms[n]? = some c) (h : sem (.loc 0 :: xs.map .d) [c] = .ok (.d y) [c']) : callSem sem (.loc n :: xs.map .d) ms = .ok (.d y) (ms.set n c') := by
  have l0 : ∀ xs : List D, locsOf (xs.map S.d) = [] := fun xs => by
    induction xs with
    | nil => rfl
    | cons x xs ih => exact ih
  have l1 : locsOf (.loc n :: xs.map .d) = [n] := by show n :: locsOf (xs.map S.d) = [n]; rw [l0]
  have nx : ∀ xs : List D, (xs.map S.d).all S.noX = true := fun xs => by
    induction xs with
    | nil => rfl
    | cons x xs ih => exact ih
  have r0 : ∀ (ls : List Nat) (xs : List D), (xs.map S.d).map (renS ls) = xs.map S.d := fun ls xs => by
    induction xs with
    | nil => rfl
    | cons x xs ih => show S.d x :: (xs.map S.d).map (renS ls) = _; rw [ih]; rfl
  have e : callSem sem (.loc n :: xs.map .d) ms = callEnd [n] ms (sem ((S.loc n :: xs.map .d).map (renS [n])) ([n].map (getC ms))) := by
    unfold callSem
    rw [l1]
    have : ((S.loc n :: xs.map .d).all S.noX && nodupB [n]) = true := by
      show ((true && (xs.map S.d).all S.noX) && nodupB [n]) = true
      rw [nx]; rfl
    rw [this]
  rw [e]
  have e2 : (S.loc n :: xs.map .d).map (renS [n]) = .loc 0 :: xs.map .d := by
    show renS [n] (.loc n) :: (xs.map S.d).map (renS [n]) = _
    rw [r0]
    show S.loc ([n].idxOf n) :: _ = _
    simp
  have e3 : [n].map (getC ms) = [c] := by show [getC ms n] = [c]; rw [getC_eq hc]
  rw [e2, e3, h]
  rfl
/-- a call that is handed data only -/
theorem call_data {sem : List S → Ms → R S} {xs : List D} {y : D} {m0 : Ms} (h : sem (xs.map .d) [] = .ok (.d y) m0) : callSem sem (xs.map .d) ms = .ok (.d y) ms := by
  have l0 : ∀ xs : List D, locsOf (xs.map S.d) = [] := fun xs => by
    induction xs with
    | nil => rfl
    | cons x xs ih => exact ih
  have nx : ∀ xs : List D, (xs.map S.d).all S.noX = true := fun xs => by
    induction xs with
    | nil => rfl
    | cons x xs ih => exact ih
  have r0 : ∀ (ls : List Nat) (xs : List D), (xs.map S.d).map (renS ls) = xs.map S.d := fun ls xs => by
    induction xs with
    | nil => rfl
    | cons x xs ih => show S.d x :: (xs.map S.d).map (renS ls) = _; rw [ih]; rfl
  unfold callSem
  rw [l0, nx]
  show callEnd [] ms (sem ((xs.map S.d).map (renS [])) []) = _
  rw [r0, h]
  rfl
theorem chain_ok {g g' : S → S → Ms → R S} {mc' : Env → Ms → R S} {p q : Bool} {s3 : S} (h1 : ma env ms = .ok s1 ms) (h2 : mb env ms = .ok s2 ms) (h3 : mc' env ms = .ok s3 ms) (e1 : g s1 s2 ms = .ok (.d (.bl p)) ms) (e2 : g' s2 s3 ms = .ok (.d (.bl q)) ms) :
    mChain g g' ma mb mc' env ms = .ok (.d (.bl (p && q))) ms := by
  cases p with
  | true => simp only [mChain, h1, h2, h3, e1, e2, R.bind, asB, Bool.true_and]
  | false => simp only [mChain, h1, h2, h3, e1, e2, R.bind, asB, Bool.false_and]
theorem fn_nx {ss : List S} (h : m (start0 n ss) ms = .nx e1 ms1) : fnSem n m ss ms = .ok (.d .non) ms1 := by unfold fnSem; rw [h]
theorem fn_ex {ss : List S} {c : Nat} {ds : List D} (h : m (start0 n ss) ms = .ex c ds e1 ms1) : fnSem n m ss ms = .ex c ds ms1 := by unfold fnSem; rw [h]
/-- a call that is handed one cell and data, and raises -/
theorem call_ex {sem : List S → Ms → R S} {xs : List D} {c c' : Cell} {k : Nat} {ds : List D} (hc : ms[n]? = some c) (h : sem (.loc 0 :: xs.map .d) [c] = .ex k ds [c']) : callSem sem (.loc n :: xs.map .d) ms = .ex k ds (ms.set n c') := by
  have l0 : ∀ xs : List D, locsOf (xs.map S.d) = [] := fun xs => by
    induction xs with
    | nil => rfl
    | cons x xs ih => exact ih
  have l1 : locsOf (.loc n :: xs.map .d) = [n] := by show n :: locsOf (xs.map S.d) = [n]; rw [l0]
  have nx : ∀ xs : List D, (xs.map S.d).all S.noX = true := fun xs => by
    induction xs with
    | nil => rfl
    | cons x xs ih => exact ih
  have r0 : ∀ (ls : List Nat) (xs : List D), (xs.map S.d).map (renS ls) = xs.map S.d := fun ls xs => by
    induction xs with
    | nil => rfl
    | cons x xs ih => show S.d x :: (xs.map S.d).map (renS ls) = _; rw [ih]; rfl
  have e : callSem sem (.loc n :: xs.map .d) ms = callEnd [n] ms (sem ((S.loc n :: xs.map .d).map (renS [n])) ([n].map (getC ms))) := by
    unfold callSem
    rw [l1]
    have : ((S.loc n :: xs.map .d).all S.noX && nodupB [n]) = true := by
      show ((true && (xs.map S.d).all S.noX) && nodupB [n]) = true
      rw [nx]; rfl
    rw [this]
  rw [e]
  have e2 : (S.loc n :: xs.map .d).map (renS [n]) = .loc 0 :: xs.map .d := by
    show renS [n] (.loc n) :: (xs.map S.d).map (renS [n]) = _
    rw [r0]
    show S.loc ([n].idxOf n) :: _ = _
    simp
  have e3 : [n].map (getC ms) = [c] := by show [getC ms n] = [c]; rw [getC_eq hc]
  rw [e2, e3, h]
  rfl
/-- .. data only, and raises -/
theorem call_dataX {sem : List S → Ms → R S} {xs : List D} {k : Nat} {ds : List D} {m0 : Ms} (h : sem (xs.map .d) [] = .ex k ds m0) : callSem sem (xs.map .d) ms = .ex k ds ms := by
  have l0 : ∀ xs : List D, locsOf (xs.map S.d) = [] := fun xs => by
    induction xs with
    | nil => rfl
    | cons x xs ih => exact ih
  have nx : ∀ xs : List D, (xs.map S.d).all S.noX = true := fun xs => by
    induction xs with
    | nil => rfl
    | cons x xs ih => exact ih
  have r0 : ∀ (ls : List Nat) (xs : List D), (xs.map S.d).map (renS ls) = xs.map S.d := fun ls xs => by
    induction xs with
    | nil => rfl
    | cons x xs ih => show S.d x :: (xs.map S.d).map (renS ls) = _; rw [ih]; rfl
  unfold callSem
  rw [l0, nx]
  show callEnd [] ms (sem ((xs.map S.d).map (renS [])) []) = _
  rw [r0, h]
  rfl
end
end Fw
set_option Elab.async false
set_option linter.all false
set_option maxRecDepth 100000
set_option maxHeartbeats 1000000
/-! Fw25: two texts, equal or not, whatever they hold. -/
namespace Fw
open PySem L2 PySem.Spec PyProof.Rows
section
variable {Y : Cy} {k : Nat}
def gEqS (neg : Bool) : S → S → Ms → R S := fun x y ms => match x, y with
  | .d (.str a), .d (.str b) => .ok (.d (.bl (if neg then a != b else a == b))) ms
  | _, _ => .bad
theorem gEqS_ne {neg : Bool} : ∀ x y ms c ds ms', gEqS neg x y ms ≠ .ex c ds ms' := by
  intro x y ms c ds ms' h
  unfold gEqS at h
  split at h <;> cases h
theorem op_eqStr : OpR Y.X (compareOp .Eq) (fun x y H Q => ∃ a b, x = .str a ∧ y = .str b ∧ Q (.bl (if false then a != b else a == b)) H) := by
  intro pins s σ H x y v u Q I rx ry h
  obtain ⟨a, b, rfl, rfl, q⟩ := h
  obtain ⟨t, rfl⟩ := rx
  obtain ⟨t', rfl⟩ := ry
  exact PyProof.Rows.eq_str ⟨.bl _, H, I, rfl, q⟩
theorem op_neStr : OpR Y.X (compareOp .NotEq) (fun x y H Q => ∃ a b, x = .str a ∧ y = .str b ∧ Q (.bl (if true then a != b else a == b)) H) := by
  intro pins s σ H x y v u Q I rx ry h
  obtain ⟨a, b, rfl, rfl, q⟩ := h
  obtain ⟨t, rfl⟩ := rx
  obtain ⟨t', rfl⟩ := ry
  exact PyProof.Rows.ne_str ⟨.bl _, H, I, rfl, q⟩
theorem snd_eqS {neg : Bool} : SndR2 Y (fun x y H Q => ∃ a b, x = .str a ∧ y = .str b ∧ Q (.bl (if neg then a != b else a == b)) H) (gEqS neg) := by
  intro w H ms x y u v Q hr sx sy h
  unfold gEqS at h
  split at h
  · rename_i a b
    cases sx
    cases sy
    exact ⟨a, b, rfl, rfl, h.at (Ext.refl w) hr rfl⟩
  · exact h.elim
def gEq (neg : Bool) := gOr (gEqS neg) (gEqD neg)
theorem o_eq (ok : CyOk Y k) : OpD Y (compareOp .Eq) (gEq false) := (show OpD Y (compareOp .Eq) (gEqS false) from ⟨⟨_, op_eqStr, snd_eqS⟩, gEqS_ne⟩).or (o_eqD ok)
theorem o_ne (ok : CyOk Y k) : OpD Y (compareOp .NotEq) (gEq true) := (show OpD Y (compareOp .NotEq) (gEqS true) from ⟨⟨_, op_neStr, snd_eqS⟩, gEqS_ne⟩).or (o_neD ok)
end
end Fw
set_option Elab.async false
set_option linter.all false
set_option maxRecDepth 100000
set_option maxHeartbeats 1000000
/-! Fw26: int of a text; a sign in a text. -/
namespace Fw
open PySem L2 PySem.Spec PyProof.Rows
section
variable {Y : Cy} {k : Nat}
def intS : D → Option D
  | .str a => match decide (a.length ≤ 640) with
    | true => (PySem.intText? a).map D.int
    | false => none
  | _ => none
theorem cd_intS : CallD Y (.type "int") (c1 intS) := by
  refine ⟨⟨_, call_int_str, fun w H ms ss vs Q hr sv h => ?_⟩, c1_ne⟩
  obtain ⟨s, d, d', rfl, h1, h2, q⟩ := c1_inv h
  obtain ⟨v, rfl, r⟩ := SRs.one sv
  cases d with
  | str a =>
    unfold intS at h2
    dsimp only at h2
    cases f : decide (a.length ≤ 640) with
    | false => rw [f] at h2; cases h2
    | true =>
      rw [f] at h2
      dsimp only at h2
      cases g : PySem.intText? a with
      | none => rw [g] at h2; cases h2
      | some n =>
        rw [g] at h2
        cases h2
        cases view_notlist h1 (by intro ds z; cases z) r
        exact ⟨a, n, rfl, g, of_decide_eq_true f, q.at (Ext.refl w) hr rfl⟩
  | _ => cases h2
/-- one sign in a text -/
def gInS (neg : Bool) : S → S → Ms → R S := fun x y ms => match x, y with
  | .d (.str a), .d (.str z) => match a.cps with
    | ⟨[c]⟩ => .ok (.d (.bl (if neg then !decide (c ∈ z.cps.toList) else decide (c ∈ z.cps.toList)))) ms
    | _ => .bad
  | _, _ => .bad
theorem gInS_ne {neg : Bool} : ∀ x y ms c ds ms', gInS neg x y ms ≠ .ex c ds ms' := by
  intro x y ms c ds ms' h
  unfold gInS at h
  split at h
  · split at h <;> cases h
  · cases h
theorem snd_inS {neg : Bool} : SndR2 Y (fun x y H Q => ∃ (c : Nat) (z : Str), x = .str ⟨#[c]⟩ ∧ y = .str z ∧ Q (.bl (if neg then !decide (c ∈ z.cps.toList) else decide (c ∈ z.cps.toList))) H) (gInS neg) := by
  intro w H ms x y u v Q hr sx sy h
  unfold gInS at h
  split at h
  · rename_i a z
    split at h
    · rename_i c e
      cases sx
      cases sy
      obtain ⟨cps⟩ := a
      dsimp only at e
      subst e
      exact ⟨c, z, rfl, rfl, h.at (Ext.refl w) hr rfl⟩
    · exact h.elim
  · exact h.elim
theorem o_inS : OpD Y (compareOp .In) (gInS false) := ⟨⟨_, op_in_sign, snd_inS (neg := false)⟩, gInS_ne⟩
theorem o_notInS : OpD Y (compareOp .NotIn) (gInS true) := ⟨⟨_, op_notIn_sign, snd_inS (neg := true)⟩, gInS_ne⟩
end
end Fw
set_option Elab.async false
set_option linter.all false
set_option maxRecDepth 100000
set_option maxHeartbeats 1000000
/-! Fw27: methods of texts and lists, slices, minus, in, order of tuples, all/any/sum/max/min of lists. -/
namespace Fw
open PySem L2 PySem.Spec PyProof.Rows
section
variable {Y : Cy} {w w1 w2 : Wd} {σ : L2.St} {H H1 H2 : Hp} {env : Env} {ms ms1 ms2 : Ms} {k : Nat}

/-! ### methods -/
inductive BT where
  | str | list
def BT.nm : BT → String
  | .str => "str"
  | .list => "list"
def tyS (b : BT) (s : S) (ms : Ms) : Bool := match b, s with
  | .str, .d (.str _) => true
  | .list, .d (.lst _) => true
  | .list, .d (.frz _) => true
  | .list, .loc n => match ms[n]? with
    | some (.lst _) => true
    | _ => false
  | _, _ => false
theorem tyS_rel {b : BT} {s : S} {v : V} (h : tyS b s ms = true) (hr : HR Y w H ms) (sv : SR Y w s v) : L2.tyV Y.X.K b.nm v H := by
  cases s with
  | exn c ds => cases b <;> cases h
  | loc n =>
    cases b with
    | str => cases h
    | list =>
      unfold tyS at h
      dsimp only at h
      obtain ⟨a, ha, rfl⟩ := sv
      split at h
      · rename_i ds e
        obtain ⟨xs, q, _⟩ := hr.cel n a _ ha e
        exact .inl ⟨rfl, xs, SqL.of q⟩
      · cases h
  | d x =>
    cases b with
    | str =>
      cases x with
      | str z => cases sv; rfl
      | _ => cases h
    | list =>
      cases x with
      | lst ds => obtain ⟨a, xs, rfl, q, _⟩ := sv; exact .inl ⟨rfl, xs, SqL.of (hr.sub _ _ q)⟩
      | frz ds => obtain ⟨a, xs, rfl, q, _⟩ := sv; exact .inl ⟨rfl, xs, sqL_mono q hr.sub⟩
      | _ => cases h
def SndM (Y : Cy) (r : V → List V → Hp → VK → Prop) (g : S → List S → Ms → R S) : Prop :=
  ∀ (w : Wd) (H : Hp) (ms : Ms) (x : S) (xs : List S) (u : V) (vs : List V) (Q : VK), HR Y w H ms → SR Y w x u → SRs Y w xs vs → (g x xs ms).post (okP Y w Q) (fun _ _ _ => False) → r u vs H Q
structure MtD (Y : Cy) (id : String) (g : S → List S → Ms → R S) : Prop where
  ex : ∃ r, MtR Y.X id r ∧ SndM Y r g
  ne : ∀ x xs ms c ds ms', g x xs ms ≠ .ex c ds ms'
def mOr2 (g g' : S → List S → Ms → R S) : S → List S → Ms → R S := fun x xs ms => match g x xs ms with
  | .bad => g' x xs ms
  | r => r
theorem MtD.or {id : String} {g g' : S → List S → Ms → R S} (h : MtD Y id g) (h' : MtD Y id g') : MtD Y id (mOr2 g g') := by
  obtain ⟨r, p, s⟩ := h.ex
  obtain ⟨r', p', s'⟩ := h'.ex
  refine ⟨⟨_, p.or p', fun w H ms x xs u vs Q hr sx sv q => ?_⟩, fun x xs ms c ds ms' e => ?_⟩
  · unfold mOr2 at q
    split at q
    · exact .inr (s' w H ms x xs u vs Q hr sx sv q)
    · exact .inl (s w H ms x xs u vs Q hr sx sv q)
  · unfold mOr2 at e
    split at e
    · exact h'.ne _ _ _ _ _ _ e
    · exact h.ne _ _ _ _ _ _ e
theorem ne_post {r : R S} {Q : VK} (hne : ∀ c ds ms', r ≠ .ex c ds ms') (e1 : Ext w w1) (h : r.post (okP Y w Q) (exP Y w1 σ)) : r.post (okP Y w1 Q) (fun _ _ _ => False) := by
  cases r with
  | ok z ms' => exact h.ext e1
  | ex c ds ms' => exact absurd rfl (hne c ds ms')
  | bad => exact h
def mBM (b : BT) (g : S → List S → Ms → R S) (mo : Env → Ms → R S) (ma : Env → Ms → R (List S)) : Env → Ms → R S := fun env ms => (mo env ms).bind fun x ms1 => match tyS b x ms1 with
  | true => (ma env ms1).bind fun xs ms2 => g x xs ms2
  | false => .bad
variable {o e : Expr} {es : List Expr} {mo : Env → Ms → R S} {ma : Env → Ms → R (List S)} {name : Str} {apos cpos : Pos} {id : String} {g : S → List S → Ms → R S} {b : BT}
theorem e_bm0 (pa : PlainAttrs b.nm) (slot : Slot b.nm name id) (hty : typeOf (.builtin id) = pure (.type "method_descriptor")) (hm : MtD Y id g) (ho : DE Y o mo)
    (hbase : attributeBase o name Y.X.env (eval o Y.X.env) = eval o Y.X.env := by rfl) (hline : (apos.endLine == cpos.line) = true := by rfl) : DE Y (.Call (.Attribute o name apos) [] [] cpos) (mBM b g mo aNil) := by
  obtain ⟨r, pr, sr⟩ := hm.ex
  obtain ⟨to, po, so⟩ := ho.ex
  refine ⟨_, pe_bm0 pa slot hty pr po hbase hline, fun w σ H env ms Q er hr h => ?_⟩
  refine so.go er hr h fun x ms1 w1 H1 v e1 er1 hr1 sv h1 => ?_
  cases ht : tyS b x ms1 with
  | false => rw [ht] at h1; exact h1.elim
  | true =>
    rw [ht] at h1
    exact ⟨tyS_rel ht hr1 sv, sr w1 H1 ms1 x [] v [] Q hr1 sv .nil (ne_post (hm.ne x [] ms1) e1 h1)⟩
theorem e_bm (pa : PlainAttrs b.nm) (slot : Slot b.nm name id) (hty : typeOf (.builtin id) = pure (.type "method_descriptor")) (hm : MtD Y id g) (ho : DE Y o mo) (ha : DA Y (e :: es) ma)
    (hbase : attributeBase o name Y.X.env (eval o Y.X.env) = eval o Y.X.env := by rfl)
    (hfew : ((backTo cpos (starEach (e :: es) Y.X.env)).all (fun x => !x.1) && (backToKw cpos (keywordEach [] Y.X.env)).all (fun x => x.1.isSome)
      && decide ((e :: es).length + ([] : List Keyword).length + (if ([] : List Keyword).isEmpty then 0 else 1) < 30)) = true := by rfl)
    (hline : (apos.endLine == cpos.line) = true := by rfl) (hs : starEach (e :: es) Y.X.env = (false, eval e Y.X.env) :: starEach es Y.X.env := by rfl) (hplain : (backTo cpos (starEach es Y.X.env)).any (·.1) = false := by rfl) :
    DE Y (.Call (.Attribute o name apos) (e :: es) [] cpos) (mBM b g mo ma) := by
  obtain ⟨r, pr, sr⟩ := hm.ex
  obtain ⟨to, po, so⟩ := ho.ex
  obtain ⟨ta, pa', sa⟩ := ha.ex
  refine ⟨_, pe_bm pa slot hty pr po pa' hbase hfew hline hs hplain, fun w σ H env ms Q er hr h => ?_⟩
  refine so.go er hr h fun x ms1 w1 H1 v e1 er1 hr1 sv h1 => ?_
  cases ht : tyS b x ms1 with
  | false => rw [ht] at h1; exact h1.elim
  | true =>
    rw [ht] at h1
    refine ⟨tyS_rel ht hr1 sv, ?_⟩
    refine sa.go er1 hr1 h1 fun xs ms2 w2 H2 vs e2 er2 hr2 svs h2 => ?_
    exact sr w2 H2 ms2 x xs v vs Q hr2 (sv.mono e2) svs (ne_post (hm.ne x xs ms2) (e1.trans e2) h2)
/-! texts -/
def dStrs (l : List Str) : List D := l.map .str
theorem drs_dStrs {K : PySem.W.Frag} {Γ : G} {F : Hp} : ∀ l : List Str, DRs K Γ F (dStrs l) (l.map V.str)
  | [] => rfl
  | x :: l => ⟨_, _, rfl, rfl, drs_dStrs l⟩
def ofStrs : List D → Option (List Str)
  | [] => some []
  | .str x :: r => (ofStrs r).map (x :: ·)
  | _ :: _ => none
theorem ofStrs_rel {K : PySem.W.Frag} {Γ : G} {F : Hp} : ∀ {ds : List D} {l : List Str} {vs : List V}, ofStrs ds = some l → DRs K Γ F ds vs → vs = l.map V.str
  | [], l, vs, h, r => by cases h; cases r; rfl
  | .str x :: ds, l, vs, h, r => by
    simp only [ofStrs, Option.map_eq_some_iff] at h
    obtain ⟨l', h1, rfl⟩ := h
    obtain ⟨v, t, rfl, r1, r2⟩ := r
    cases r1
    rw [ofStrs_rel h1 r2]; rfl
  | .non :: _, _, _, h, _ => by cases h
  | .bl _ :: _, _, _, h, _ => by cases h
  | .int _ :: _, _, _, h, _ => by cases h
  | .tup _ :: _, _, _, h, _ => by cases h
  | .lst _ :: _, _, _, h, _ => by cases h
  | .frz _ :: _, _, _, h, _ => by cases h
  | .obj _ _ :: _, _, _, h, _ => by cases h
  | .dic _ _ :: _, _, _, h, _ => by cases h
  | .dit _ _ :: _, _, _, h, _ => by cases h
  | .fn _ :: _, _, _, h, _ => by cases h
  | .ty _ :: _, _, _, h, _ => by cases h
theorem ofStrs_dStrs : ∀ l : List Str, ofStrs (dStrs l) = some l
  | [] => rfl
  | x :: l => by show (ofStrs (dStrs l)).map _ = _; rw [ofStrs_dStrs l]; rfl
def gPart : S → List S → Ms → R S := fun x xs ms => match x, xs with
  | .d (.str a), [.d (.str b)] => match !(b.length == 0) && few a.length with
    | true => .ok (.d (.tup [.str (Txt.partition a b).1, .str (Txt.partition a b).2.1, .str (Txt.partition a b).2.2])) ms
    | false => .bad
  | _, _ => .bad
theorem SRs.nil_inv {vs : List V} (h : SRs Y w [] vs) : vs = [] := by cases h; rfl
theorem md_partition : MtD Y "str.partition" gPart := by
  refine ⟨⟨_, mt_partition, fun w H ms x xs u vs Q hr sx sv h => ?_⟩, fun x xs ms c ds ms' h => ?_⟩
  · unfold gPart at h
    split at h
    · rename_i a b
      split at h
      · rename_i f
        obtain ⟨f1, f2⟩ := Bool.and_eq_true_iff.mp f
        obtain ⟨v, rfl, r⟩ := SRs.one sv
        cases sx
        cases r
        refine ⟨a, b, rfl, rfl, by simpa using f1, few_ok f2, fun p hp => ?_⟩
        obtain ⟨hr2, e⟩ := hr.froz (o := .tup [.str (Txt.partition a b).1, .str (Txt.partition a b).2.1, .str (Txt.partition a b).2.2]) hp
        exact h.at e hr2 ⟨p, _, rfl, SqT.of upd_same, drs_dStrs [(Txt.partition a b).1, (Txt.partition a b).2.1, (Txt.partition a b).2.2]⟩
      · exact h.elim
    · exact h.elim
  · unfold gPart at h
    split at h
    · split at h <;> cases h
    · cases h
def gSplit : S → List S → Ms → R S := fun x xs ms => match x, xs with
  | .d (.str a), [.d (.str b)] => match !(b.length == 0) && few (a.length + 2) with
    | true => .ok (.d (.lst (dStrs (Txt.split a b)))) ms
    | false => .bad
  | _, _ => .bad
theorem md_split : MtD Y "str.split" gSplit := by
  refine ⟨⟨_, mt_split, fun w H ms x xs u vs Q hr sx sv h => ?_⟩, fun x xs ms c ds ms' h => ?_⟩
  · unfold gSplit at h
    split at h
    · rename_i a b
      split at h
      · rename_i f
        obtain ⟨f1, f2⟩ := Bool.and_eq_true_iff.mp f
        obtain ⟨v, rfl, r⟩ := SRs.one sv
        cases sx
        cases r
        refine ⟨a, b, rfl, rfl, by simpa using f1, few_ok f2, fun p hp => ?_⟩
        obtain ⟨hr2, e⟩ := hr.froz (o := .lst ((Txt.split a b).map V.str)) hp
        exact h.at e hr2 ⟨p, _, rfl, upd_same, drs_dStrs _⟩
      · exact h.elim
    · exact h.elim
  · unfold gSplit at h
    split at h
    · split at h <;> cases h
    · cases h
def gJoin : S → List S → Ms → R S := fun x xs ms => match x, xs with
  | .d (.str a), [s] => match (match view s ms with
      | some (.lst ds) => ofStrs ds
      | some (.tup ds) => ofStrs ds
      | _ => none) with
    | some l => match few ((l.map (·.length)).sum + l.length * a.length) with
      | true => .ok (.d (.str (Txt.join a l))) ms
      | false => .bad
    | none => .bad
  | _, _ => .bad
theorem md_join : MtD Y "str.join" gJoin := by
  refine ⟨⟨_, mt_join, fun w H ms x xs u vs Q hr sx sv h => ?_⟩, fun x xs ms c ds ms' h => ?_⟩
  · unfold gJoin at h
    split at h
    · rename_i a s
      obtain ⟨v, rfl, r⟩ := SRs.one sv
      cases sx
      have key : ∀ ds l, (view s ms = some (.lst ds) ∨ view s ms = some (.tup ds)) → ofStrs ds = some l → few ((l.map (·.length)).sum + l.length * a.length) = true → okP Y w Q (.d (.str (Txt.join a l))) ms →
          ∃ a1 p, ∃ ys : List Str, V.str a = .str a1 ∧ [v] = [V.ref p] ∧ (SqL Y.X.K H p (ys.map V.str) ∨ SqT Y.X.K H p (ys.map V.str)) ∧ (ys.map (·.length)).sum + ys.length * a1.length ≤ 16777216 ∧ Q (.str (Txt.join a1 ys)) H := by
        intro ds l e1 e2 f q
        obtain ⟨p, zs, rfl, k1, k2⟩ := seq_inv e1 hr r
        have := ofStrs_rel e2 k2
        subst this
        refine ⟨a, p, l, rfl, rfl, k1, ?_, q.at (Ext.refl w) hr rfl⟩
        have : (l.map (·.length)).sum + l.length * a.length ≤ 1000000 := Nat.le_of_ble_eq_true f
        omega
      split at h
      · rename_i l e
        split at h
        · rename_i f
          split at e
          · rename_i ds e1
            exact key ds l (.inl e1) e f h
          · rename_i ds e1
            exact key ds l (.inr e1) e f h
          · cases e
        · exact h.elim
      · exact h.elim
    · exact h.elim
  · unfold gJoin at h
    split at h
    · split at h
      · split at h <;> cases h
      · cases h
    · cases h
/-! lists -/
def cellL (s : S) (ms : Ms) : Option (Nat × List D) := match s with
  | .loc n => match ms[n]? with
    | some (.lst ds) => some (n, ds)
    | _ => none
  | _ => none
theorem cellL_inv {s : S} {n : Nat} {ds : List D} (h : cellL s ms = some (n, ds)) : s = .loc n ∧ ms[n]? = some (.lst ds) := by
  unfold cellL at h
  split at h
  · split at h
    · rename_i e; cases h; exact ⟨rfl, e⟩
    · cases h
  · cases h
theorem cellL_rel {s : S} {v : V} {n : Nat} {ds : List D} (h : cellL s ms = some (n, ds)) (hr : HR Y w H ms) (sv : SR Y w s v) : ∃ a xs, v = .ref a ∧ w.mu[n]? = some a ∧ ms[n]? = some (.lst ds) ∧ H a = some (.lst xs) ∧ DRs Y.X.K Y.Γ w.F ds xs := by
  obtain ⟨rfl, e⟩ := cellL_inv h
  obtain ⟨a, ha, rfl⟩ := sv
  obtain ⟨xs, q, r⟩ := hr.cel n a _ ha e
  exact ⟨a, xs, rfl, ha, e, q, r⟩
theorem HR0.putL {n : Nat} {a : Addr} {c : Cell} {ds : List D} {xs : List V} (hr : HR Y w H ms) (ha : w.mu[n]? = some a) (hc : ms[n]? = some c) (hd : c ≠ .dead) (r : DRs Y.X.K Y.Γ w.F ds xs) : HR Y w (upd H a (.lst xs)) (ms.set n (.lst ds)) :=
  hr.write ha hc hd ⟨xs, upd_same, r⟩
def gAppend : S → List S → Ms → R S := fun x xs ms => match cellL x ms, xs with
  | some (n, ds), [.d y] => match few ds.length with
    | true => .ok (.d .non) (ms.set n (.lst (ds ++ [y])))
    | false => .bad
  | _, _ => .bad
theorem few_lt {n : Nat} (h : few n = true) : n < sizeLine := by
  have : n ≤ 1000000 := Nat.le_of_ble_eq_true h
  rw [sizeLine_eq]; omega
theorem md_append : MtD Y "list.append" gAppend := by
  refine ⟨⟨_, mt_append, fun w H ms x xs u vs Q hr sx sv h => ?_⟩, fun x xs ms c ds ms' h => ?_⟩
  · unfold gAppend at h
    split at h
    · rename_i n ds y e
      split at h
      · rename_i f
        obtain ⟨a, zs, rfl, ha, hc, q, r⟩ := cellL_rel e hr sx
        obtain ⟨v, rfl, ry⟩ := SRs.one sv
        refine ⟨a, zs, v, rfl, rfl, q, by rw [← DRs.length r]; exact few_lt f, ?_⟩
        exact h.at (Ext.refl w) (hr.putL ha hc (by intro z; cases z) (DRs.append r ⟨v, [], rfl, ry, rfl⟩)) rfl
      · exact h.elim
    · exact h.elim
  · unfold gAppend at h
    split at h
    · split at h <;> cases h
    · cases h
def gExtend : S → List S → Ms → R S := fun x xs ms => match cellL x ms, xs with
  | some (n, ds), [s] => match view s ms with
    | some (.lst es) => match few (ds.length + es.length) with
      | true => .ok (.d .non) (ms.set n (.lst (ds ++ es)))
      | false => .bad
    | _ => .bad
  | _, _ => .bad
theorem md_extend : MtD Y "list.extend" gExtend := by
  refine ⟨⟨_, mt_extend, fun w H ms x xs u vs Q hr sx sv h => ?_⟩, fun x xs ms c ds ms' h => ?_⟩
  · unfold gExtend at h
    split at h
    · rename_i n ds s e
      split at h
      · rename_i es e2
        split at h
        · rename_i f
          obtain ⟨a, zs, rfl, ha, hc, q, r⟩ := cellL_rel e hr sx
          obtain ⟨v, rfl, ry⟩ := SRs.one sv
          obtain ⟨b, ys, rfl, k1, k2⟩ := view_list e2 hr ry
          refine ⟨a, b, zs, ys, rfl, rfl, q, k1, by rw [← DRs.length r, ← DRs.length k2]; exact few_ok f, ?_⟩
          exact h.at (Ext.refl w) (hr.putL ha hc (by intro z; cases z) (DRs.append r k2)) rfl
        · exact h.elim
      · exact h.elim
    · exact h.elim
  · unfold gExtend at h
    split at h
    · split at h
      · split at h <;> cases h
      · cases h
    · cases h
theorem DRs.dropLast {K : PySem.W.Frag} {Γ : G} {F : Hp} {ds : List D} {vs : List V} (h : DRs K Γ F ds vs) : DRs K Γ F ds.dropLast vs.dropLast := by
  rw [List.dropLast_eq_take, List.dropLast_eq_take, ← DRs.length h]
  exact DRs.take _ h
def gPop : S → List S → Ms → R S := fun x xs ms => match cellL x ms, xs with
  | some (n, ds), [] => match ds[ds.length - 1]? with
    | some y => .ok (.d y) (ms.set n (.lst ds.dropLast))
    | none => .bad
  | _, _ => .bad
theorem md_pop : MtD Y "list.pop" gPop := by
  refine ⟨⟨_, mt_pop, fun w H ms x xs u vs Q hr sx sv h => ?_⟩, fun x xs ms c ds ms' h => ?_⟩
  · unfold gPop at h
    split at h
    · rename_i n ds e
      split at h
      · rename_i y hy
        obtain ⟨a, zs, rfl, ha, hc, q, r⟩ := cellL_rel e hr sx
        have := SRs.nil_inv sv
        subst this
        obtain ⟨v, hv, rv⟩ := DRs.get r hy
        refine ⟨a, zs, v, rfl, rfl, q, by rw [← DRs.length r]; exact hv, ?_⟩
        exact h.at (Ext.refl w) (hr.putL ha hc (by intro z; cases z) (DRs.dropLast r)) rv
      · exact h.elim
    · exact h.elim
  · unfold gPop at h
    split at h
    · split at h <;> cases h
    · cases h
theorem DRs.erase {K : PySem.W.Frag} {Γ : G} {F : Hp} : ∀ {ds : List D} {vs : List V} (k : Nat), DRs K Γ F ds vs → DRs K Γ F (ds.eraseIdx k) (vs.eraseIdx k)
  | [], _, _, h => by cases h; rfl
  | d :: ds, _, 0, h => by obtain ⟨x, r, rfl, h2, h3⟩ := h; exact h3
  | d :: ds, _, k + 1, h => by obtain ⟨x, r, rfl, h2, h3⟩ := h; exact ⟨x, r.eraseIdx k, rfl, h2, DRs.erase k h3⟩
def gPopAt : S → List S → Ms → R S := fun x xs ms => match cellL x ms, xs with
  | some (n, ds), [.d (.int i)] => match inR i, seqIndex? i ds.length with
    | true, some k => match ds[k]? with
      | some y => .ok (.d y) (ms.set n (.lst (ds.eraseIdx k)))
      | none => .bad
    | _, _ => .bad
  | _, _ => .bad
theorem md_popAt : MtD Y "list.pop" gPopAt := by
  refine ⟨⟨_, mt_popAt, fun w H ms x xs u vs Q hr sx sv h => ?_⟩, fun x xs ms c ds ms' h => ?_⟩
  · unfold gPopAt at h
    split at h
    · rename_i n ds i e
      split at h
      · rename_i k b1 b2
        split at h
        · rename_i y hy
          obtain ⟨a, zs, rfl, ha, hc, q, r⟩ := cellL_rel e hr sx
          obtain ⟨vi, rfl, ri⟩ := SRs.one sv
          cases ri
          obtain ⟨v, hv, rv⟩ := DRs.get r hy
          have bi := of_decide_eq_true b1
          refine ⟨a, zs, i, k, v, rfl, rfl, q, by omega, by omega, by rw [← DRs.length r]; exact b2, hv, ?_⟩
          exact h.at (Ext.refl w) (hr.putL ha hc (by intro z; cases z) (DRs.erase k r)) rv
        · exact h.elim
      · exact h.elim
    · exact h.elim
  · unfold gPopAt at h
    split at h
    · split at h
      · split at h <;> cases h
      · cases h
    · cases h
def gClear : S → List S → Ms → R S := fun x xs ms => match cellL x ms, xs with
  | some (n, _), [] => .ok (.d .non) (ms.set n (.lst []))
  | _, _ => .bad
theorem md_clear : MtD Y "list.clear" gClear := by
  refine ⟨⟨_, mt_clear, fun w H ms x xs u vs Q hr sx sv h => ?_⟩, fun x xs ms c ds ms' h => ?_⟩
  · unfold gClear at h
    split at h
    · rename_i n ds e
      obtain ⟨a, zs, rfl, ha, hc, q, r⟩ := cellL_rel e hr sx
      have := SRs.nil_inv sv
      subst this
      exact ⟨a, zs, rfl, rfl, q, h.at (Ext.refl w) (hr.putL ha hc (by intro z; cases z) rfl) rfl⟩
    · exact h.elim
  · unfold gClear at h
    split at h <;> cases h
end
end Fw
set_option Elab.async false
set_option linter.all false
set_option maxRecDepth 100000
set_option maxHeartbeats 1000000
/-! Fw28: slices, minus, in, order of tuples, all/any/sum/max/min of lists, list of a text. -/
namespace Fw
open PySem L2 PySem.Spec PyProof.Rows
section
variable {Y : Cy} {w w1 w2 : Wd} {σ : L2.St} {H H1 H2 : Hp} {env : Env} {ms ms1 ms2 : Ms} {k : Nat} {o e : Expr} {mo me : Env → Ms → R S} {pos p2 : Pos}
/-! ### slices -/
def SndO (Y : Cy) (t : TO) (m : Env → Ms → R (Option Int)) : Prop :=
  ∀ (w : Wd) (σ : L2.St) (H : Hp) (env : Env) (ms : Ms) (Q : Option Int → Hp → Prop), ER Y w σ env → HR Y w H ms → (m env ms).post (fun i ms' => ∀ w' H', Ext w w' → HR Y w' H' ms' → Q i H') (exP Y w σ) → t σ H Q
structure DO (Y : Cy) (e : Option Expr) (m : Env → Ms → R (Option Int)) : Prop where
  ex : ∃ t, PO Y.X e t ∧ SndO Y t m
def pNo : Env → Ms → R (Option Int) := fun _ ms => .ok none ms
def asO (s : S) (ms : Ms) : R (Option Int) := match s with
  | .d (.int i) => .ok (some i) ms
  | _ => .bad
def pAt (m : Env → Ms → R S) : Env → Ms → R (Option Int) := fun env ms => (m env ms).bind asO
theorem d_no : DO Y none pNo := ⟨_, po_none, fun w σ H env ms Q er hr h => h w H (Ext.refl w) hr⟩
theorem d_at (h : DE Y e me) : DO Y (some e) (pAt me) := by
  obtain ⟨t, p, s⟩ := h.ex
  refine ⟨_, po_some p, fun w σ H env ms Q er hr hw => ?_⟩
  refine s.go er hr hw fun x ms1 w1 H1 v e1 er1 hr1 sv h1 => ?_
  unfold asO at h1
  split at h1
  · cases sv; exact ⟨_, rfl, h1 w1 H1 e1 hr1⟩
  · exact h1.elim
theorem SndO.go {t : TO} {m : Env → Ms → R (Option Int)} (h : SndO Y t m) {β : Type} {f : Option Int → Ms → R β} {P : β → Ms → Prop} {k : Option Int → Hp → Prop} (er : ER Y w σ env) (hr : HR Y w H ms)
    (hp : ((m env ms).bind f).post P (exP Y w σ)) (hk : ∀ b ms1 w1 H1, Ext w w1 → ER Y w1 σ env → HR Y w1 H1 ms1 → (f b ms1).post P (exP Y w1 σ) → k b H1) : t σ H k := by
  refine h w σ H env ms k er hr (R.post_mono (R.post_bind hp) (fun s ms1 q => ?_) fun _ _ _ q => q)
  intro w1 H1 e1 hr1
  exact hk s ms1 w1 H1 e1 (er.mono e1) hr1 (R.post_mono q (fun _ _ z => z) fun _ _ _ z => z.ext e1)
def cutD (xs : List D) (lo hi : Option Int) : List D := (xs.drop (HT.sIx xs.length 0 lo)).take (HT.sIx xs.length xs.length hi - HT.sIx xs.length 0 lo)
theorem cut_rel {K : PySem.W.Frag} {Γ : G} {F : Hp} {ds : List D} {xs : List V} (r : DRs K Γ F ds xs) (lo hi : Option Int) : DRs K Γ F (cutD ds lo hi) (cutV xs lo hi) := by
  unfold cutD cutV
  rw [DRs.length r]
  exact DRs.take _ (DRs.drop _ r)
/-- x[lo:hi] of a text, a tuple, a list: frozen -/
def slD (d : D) (lo hi : Option Int) : Option D := match d with
  | .str z => match few z.length with
    | true => some (.str (cutS z lo hi))
    | false => none
  | .tup ds => some (.tup (cutD ds lo hi))
  | .lst ds => some (.lst (cutD ds lo hi))
  | .frz ds => some (.lst (cutD ds lo hi))
  | _ => none
def gSl (x : S) (lo hi : Option Int) (ms : Ms) : R S := match (view x ms).bind fun d => slD d lo hi with
  | some d => .ok (.d d) ms
  | none => .bad
def mSl (mo : Env → Ms → R S) (ml mh : Env → Ms → R (Option Int)) : Env → Ms → R S := fun env ms => (mo env ms).bind fun x ms1 => (ml env ms1).bind fun l ms2 => (mh env ms2).bind fun u ms3 => gSl x l u ms3
theorem HT_sIx_le (n d : Nat) (o : Option Int) (h : d ≤ n) : HT.sIx n d o ≤ n := HT.sIx_le n d h o
theorem e_sl {lo hi : Option Expr} {ml mh : Env → Ms → R (Option Int)} (ho : DE Y o mo) (hl : DO Y lo ml) (hh : DO Y hi mh) : DE Y (.Subscript o (.Slice lo hi none p2) pos) (mSl mo ml mh) := by
  obtain ⟨to, po, so⟩ := ho.ex
  obtain ⟨tl, pl, sl⟩ := hl.ex
  obtain ⟨th, ph, sh⟩ := hh.ex
  refine ⟨_, pe_slice (SlR.or (SlR.or sl_list sl_str) sl_tupA) po pl ph, fun w σ H env ms Q er hr h => ?_⟩
  refine so.go er hr h fun x ms1 w1 H1 v e1 er1 hr1 sv h1 => ?_
  refine sl.go er1 hr1 h1 fun l ms2 w2 H2 e2 er2 hr2 h2 => ?_
  refine sh.go er2 hr2 h2 fun u ms3 w3 H3 e3 er3 hr3 h3 => ?_
  have sv3 : SR Y w3 x v := (sv.mono e2).mono e3
  have e13 : Ext w w3 := e1.trans (e2.trans e3)
  unfold gSl at h3
  split at h3
  · rename_i d hd
    obtain ⟨dx, k1, k2⟩ := Option.bind_eq_some_iff.mp hd
    cases dx with
    | str z =>
      cases view_notlist k1 (by intro ds z; cases z) sv3
      unfold slD at k2
      dsimp only at k2
      cases f : few z.length with
      | false => rw [f] at k2; cases k2
      | true =>
        rw [f] at k2
        cases k2
        exact .inl (.inr ⟨z, rfl, few_ok f, h3.at e13 hr3 rfl⟩)
    | lst ds =>
      cases k2
      obtain ⟨a, xs, rfl, q1, q2⟩ := view_list k1 hr3 sv3
      refine .inl (.inl ⟨a, xs, rfl, SqL.of q1, fun p hp => ?_⟩)
      obtain ⟨hr4, ex⟩ := hr3.froz (o := .lst (cutV xs l u)) hp
      exact h3.at (e13.trans ex) hr4 ⟨p, _, rfl, upd_same, DRs.mono ex.F _ _ (cut_rel q2 l u)⟩
    | frz ds =>
      cases k2
      obtain ⟨a, xs, rfl, q1, q2⟩ := view_notlist k1 (by intro ds z; cases z) sv3
      refine .inl (.inl ⟨a, xs, rfl, sqL_mono q1 hr3.sub, fun p hp => ?_⟩)
      obtain ⟨hr4, ex⟩ := hr3.froz (o := .lst (cutV xs l u)) hp
      exact h3.at (e13.trans ex) hr4 ⟨p, _, rfl, upd_same, DRs.mono ex.F _ _ (cut_rel q2 l u)⟩
    | tup ds =>
      cases k2
      obtain ⟨a, xs, rfl, q1, q2⟩ := view_notlist k1 (by intro ds z; cases z) sv3
      refine .inr ⟨a, xs, rfl, sqT_mono q1 hr3.sub, fun z => ?_, fun z p hp => ?_⟩
      · refine h3.at e13 hr3 ⟨a, xs, rfl, q1, ?_⟩
        have : cutV xs l u = xs := by unfold cutV; rw [z.1, z.2]; simp
        rw [← this]
        exact cut_rel q2 l u
      · obtain ⟨hr4, ex⟩ := hr3.froz (o := .tup (cutV xs l u)) hp
        exact h3.at (e13.trans ex) hr4 ⟨p, _, rfl, SqT.of upd_same, DRs.mono ex.F _ _ (cut_rel q2 l u)⟩
    | _ => cases k2
  · exact h3.elim
/-! ### -e -/
def negS (s : S) (ms : Ms) : R S := match s with
  | .d (.int i) => .ok (.d (.int (-i))) ms
  | _ => .bad
def mNeg (m : Env → Ms → R S) : Env → Ms → R S := fun env ms => (m env ms).bind negS
theorem e_neg (h : DE Y e me) : DE Y (.UnaryOp .USub e pos) (mNeg me) := by
  obtain ⟨t, p, s⟩ := h.ex
  refine ⟨_, pe_un un_neg p, fun w σ H env ms Q er hr hw => ?_⟩
  refine s.go er hr hw fun x ms1 w1 H1 v e1 er1 hr1 sv h1 => ?_
  unfold negS at h1
  split at h1
  · cases sv; exact ⟨_, rfl, h1.at e1 hr1 rfl⟩
  · exact h1.elim
/-! ### in, not in -/
def inF (d : D) (ds : List D) : Bool := inV (flatOf d) (ds.map flatOf)
theorem flats_rel {K : PySem.W.Frag} {Γ : G} {F : Hp} : ∀ {ds : List D} {vs : List V}, ds.all flatD = true → DRs K Γ F ds vs → vs = ds.map flatOf
  | [], vs, _, r => by cases r; rfl
  | d :: ds, vs, h, r => by
    obtain ⟨x, t, rfl, r1, r2⟩ := r
    rw [List.all_cons, Bool.and_eq_true] at h
    rw [(flat_rel h.1).mp r1, flats_rel h.2 r2]; rfl
theorem flatV_of {d : D} (h : flatD d = true) : flatV (flatOf d) = true := by cases d <;> first | rfl | cases h
theorem flatVs_of : ∀ {ds : List D}, ds.all flatD = true → (ds.map flatOf).all flatV = true
  | [], _ => rfl
  | d :: ds, h => by
    rw [List.all_cons, Bool.and_eq_true] at h
    rw [List.map_cons, List.all_cons, flatV_of h.1, flatVs_of h.2]; rfl
def seqD (s : S) (ms : Ms) : Option (List D) := match view s ms with
  | some (.lst ds) => some ds
  | some (.tup ds) => some ds
  | _ => none
theorem seqD_inv {s : S} {v : V} {ds : List D} (h : seqD s ms = some ds) (hr : HR Y w H ms) (sv : SR Y w s v) : ∃ a xs, v = .ref a ∧ (SqL Y.X.K H a xs ∨ SqT Y.X.K H a xs) ∧ DRs Y.X.K Y.Γ w.F ds xs := by
  unfold seqD at h
  split at h
  · rename_i e; cases h; exact seq_inv (.inl e) hr sv
  · rename_i e; cases h; exact seq_inv (.inr e) hr sv
  · cases h
def gInF (neg : Bool) : S → S → Ms → R S := fun x y ms => match x, seqD y ms with
  | .d d, some ds => match flatD d && ds.all flatD with
    | true => .ok (.d (.bl (if neg then !inF d ds else inF d ds))) ms
    | false => .bad
  | _, _ => .bad
theorem gInF_ne {neg : Bool} : ∀ x y ms c ds ms', gInF neg x y ms ≠ .ex c ds ms' := by
  intro x y ms c ds ms' h
  unfold gInF at h
  split at h
  · split at h <;> cases h
  · cases h
theorem snd_inF {neg : Bool} : SndR2 Y (rIn Y.X.K neg) (gInF neg) := by
  intro w H ms x y u v Q hr sx sy h
  unfold gInF at h
  split at h
  · rename_i d ds e
    split at h
    · rename_i f
      obtain ⟨f1, f2⟩ := Bool.and_eq_true_iff.mp f
      obtain ⟨a, xs, rfl, k1, k2⟩ := seqD_inv e hr sy
      have e1 : u = flatOf d := (flat_rel f1).mp sx
      have e2 := flats_rel f2 k2
      subst e1 e2
      exact ⟨a, _, rfl, k1, flatV_of f1, flatVs_of f2, h.at (Ext.refl w) hr rfl⟩
    · exact h.elim
  · exact h.elim
/-- data in a list, at any depth -/
def gInD (neg : Bool) : S → S → Ms → R S := fun x y ms => match (view x ms).bind shapedD, (view y ms).bind shapedD with
  | some p, some (.list qs) => .ok (.d (.bl (if neg then !(qs.any fun z => PyData.eqv z p) else qs.any fun z => PyData.eqv z p))) ms
  | _, _ => .bad
theorem gInD_ne {neg : Bool} : ∀ x y ms c ds ms', gInD neg x y ms ≠ .ex c ds ms' := by
  intro x y ms c ds ms' h
  unfold gInD at h
  split at h <;> cases h
theorem inD_inv {neg : Bool} {x y : S} {P : S → Ms → Prop} {E : Nat → List D → Ms → Prop} (h : (gInD neg x y ms).post P E) : ∃ d e p qs, view x ms = some d ∧ view y ms = some e ∧ toP d = some p ∧ toP e = some (.list qs) ∧ SeqAt.shaped p = true ∧ SeqAt.shaped (.list qs) = true ∧ P (.d (.bl (if neg then !(qs.any fun z => PyData.eqv z p) else qs.any fun z => PyData.eqv z p))) ms := by
  unfold gInD at h
  split at h
  · rename_i p qs e1 e2
    obtain ⟨d, h1, h2⟩ := Option.bind_eq_some_iff.mp e1
    obtain ⟨e, h3, h4⟩ := Option.bind_eq_some_iff.mp e2
    obtain ⟨k1, k2⟩ := shapedD_inv h2
    obtain ⟨k3, k4⟩ := shapedD_inv h4
    exact ⟨d, e, p, qs, h1, h3, k1, k3, k2, k4, h⟩
  · exact h.elim
theorem o_inD (ok : CyOk Y k) : OpD Y (compareOp .In) (gInD false) := by
  refine ⟨⟨_, op_inD (by have := ok.hr.un; omega), fun w H ms x y u v Q hr sx sy h => ?_⟩, gInD_ne⟩
  obtain ⟨d, e, p, q, h1, h2, h3, h4, h5, h6, hq⟩ := inD_inv h
  exact ⟨p, q, view_rel h1 hr sx h3, view_rel h2 hr sy h4, h5, h6, hq.at (Ext.refl w) hr rfl⟩
theorem o_notInD (ok : CyOk Y k) : OpD Y (compareOp .NotIn) (gInD true) := by
  refine ⟨⟨_, op_notInD (by have := ok.hr.un; omega), fun w H ms x y u v Q hr sx sy h => ?_⟩, gInD_ne⟩
  obtain ⟨d, e, p, q, h1, h2, h3, h4, h5, h6, hq⟩ := inD_inv h
  exact ⟨p, q, view_rel h1 hr sx h3, view_rel h2 hr sy h4, h5, h6, hq.at (Ext.refl w) hr rfl⟩
def gIn (neg : Bool) := gOr (gInS neg) (gOr (gInF neg) (gInD neg))
theorem o_in (ok : CyOk Y k) : OpD Y (compareOp .In) (gIn false) := o_inS.or ((show OpD Y (compareOp .In) (gInF false) from ⟨⟨_, op_in_seq, snd_inF⟩, gInF_ne⟩).or (o_inD ok))
theorem o_notIn (ok : CyOk Y k) : OpD Y (compareOp .NotIn) (gIn true) := o_notInS.or ((show OpD Y (compareOp .NotIn) (gInF true) from ⟨⟨_, op_notIn_seq, snd_inF⟩, gInF_ne⟩).or (o_notInD ok))
end
end Fw
set_option Elab.async false
set_option linter.all false
set_option maxRecDepth 100000
set_option maxHeartbeats 1000000
/-! Fw29: order of tuples; all, any, sum, max, min of lists; list of a text; freezing. -/
namespace Fw
open PySem L2 PySem.Spec PyProof.Rows
section
variable {Y : Cy} {w w1 w2 : Wd} {σ : L2.St} {H H1 H2 : Hp} {env : Env} {ms ms1 ms2 : Ms} {k : Nat} {o e : Expr} {mo me : Env → Ms → R S} {pos p2 : Pos}
/-! ### order of tuples of ints and texts -/
def ltV : V → V → Bool
  | .int i, .int j => decide (i < j)
  | .str a, .str b => decide (a.cps.toList < b.cps.toList)
  | _, _ => false
def cmpV : V → V → Bool
  | .int _, .int _ => true
  | .str _, .str _ => true
  | _, _ => false
def zipV : List V → List V → Bool
  | x :: xs, y :: ys => cmpV x y && zipV xs ys
  | _, _ => true
def lexV : List V → List V → Bool
  | [], [] => false
  | [], _ :: _ => true
  | _ :: _, [] => false
  | x :: xs, y :: ys => if eqV x y = true then lexV xs ys else ltV x y
theorem lexAt_shift {e r : Nat → Bool} {z : Bool} : ∀ (k i : Nat), Ob.lexAt e r z (i + 1) k = Ob.lexAt (fun j => e (j + 1)) (fun j => r (j + 1)) z i k
  | 0, _ => rfl
  | k + 1, i => by rw [Ob.lexAt_succ, Ob.lexAt_succ, lexAt_shift k (i + 1)]
theorem lexAt_lexV : ∀ xs ys : List V, Ob.lexAt (fun j => eqV (xs.getD j .non) (ys.getD j .non)) (fun j => ltV (xs.getD j .non) (ys.getD j .non)) (decide (xs.length < ys.length)) 0 (min xs.length ys.length) = lexV xs ys
  | [], [] => rfl
  | [], y :: ys => by rw [show min ([] : List V).length (y :: ys).length = 0 by simp]; simp [Ob.lexAt, lexV]
  | x :: xs, [] => by rw [show min (x :: xs).length ([] : List V).length = 0 by simp]; simp [Ob.lexAt, lexV]
  | x :: xs, y :: ys => by
    have ih := lexAt_lexV xs ys
    have e : min (x :: xs).length (y :: ys).length = min xs.length ys.length + 1 := by simp only [List.length_cons]; omega
    rw [e, Ob.lexAt_succ, lexAt_shift]
    have e2 : decide ((x :: xs).length < (y :: ys).length) = decide (xs.length < ys.length) := by simp
    rw [e2]
    show (if eqV x y = true then Ob.lexAt (fun j => eqV (xs.getD j .non) (ys.getD j .non)) (fun j => ltV (xs.getD j .non) (ys.getD j .non)) _ 0 _ else ltV x y) = _
    rw [ih]; rfl
theorem zipV_at : ∀ {xs ys : List V}, zipV xs ys = true → ∀ (j : Nat), j < xs.length → j < ys.length → cmpV (xs.getD j .non) (ys.getD j .non) = true
  | x :: xs, y :: ys, h, 0, _, _ => by unfold zipV at h; exact (Bool.and_eq_true_iff.mp h).1
  | x :: xs, y :: ys, h, j + 1, h1, h2 => by
    unfold zipV at h
    simpa using zipV_at (Bool.and_eq_true_iff.mp h).2 j (by simpa using h1) (by simpa using h2)
theorem vals_at : ∀ {xs : List V} {us : List Value}, Vals xs us → ∀ (j : Nat) (h : j < us.toArray.size), j < xs.length ∧ RelV (xs.getD j .non) us.toArray[j]
  | _, _, .nil, j, h => by simp at h
  | _, _, .cons a b, 0, h => ⟨Nat.succ_pos _, a⟩
  | x :: xs, u :: us, .cons a b, j + 1, h => by
    have := vals_at b j (by simpa using h)
    exact ⟨Nat.succ_lt_succ this.1, by simpa using this.2⟩
def rLtF (K : PySem.W.Frag) : R2 := fun x y H Q => ∃ a b xs ys, x = .ref a ∧ y = .ref b ∧ SqT K H a xs ∧ SqT K H b ys ∧ zipV xs ys = true ∧ Q (.bl (lexV xs ys)) H
theorem op_ltF (hu : Y.X.A.units < cLine) : OpR Y.X (compareOp .Lt) (rLtF Y.X.K) := by
  intro pins s σ H x y v u Q I rx ry h
  obtain ⟨a, b, xs, ys, rfl, rfl, ha, hb, hz, q⟩ := h
  cases rx
  cases ry
  obtain ⟨its, r1, p1, _⟩ := I.tuple ha
  obtain ⟨its2, r2, p2, _⟩ := I.tuple hb
  have l1 := r1.length
  have l2 := r2.length
  have R := Ob.RcOp.tuples_lt (A := Y.X.A) (s := s) (e := fun j => eqV (xs.getD j .non) (ys.getD j .non)) (r := fun j => ltV (xs.getD j .non) (ys.getD j .non)) p1 p2 hu (fun j h1 h2 => by
    obtain ⟨k1, k2⟩ := vals_at r1 j h1
    obtain ⟨k3, k4⟩ := vals_at r2 j h2
    have c := zipV_at hz j k1 k3
    have f1 : flatV (xs.getD j .non) = true := by
      generalize xs.getD j .non = p at c ⊢
      generalize ys.getD j .non = q at c
      cases p <;> first | rfl | (cases q <;> cases c)
    have f2 : flatV (ys.getD j .non) = true := by
      generalize xs.getD j .non = p at c
      generalize ys.getD j .non = q at c ⊢
      cases q <;> first | rfl | (cases p <;> cases c)
    exact eqAt_V k2 k4 f1 f2) (fun j h1 h2 _ => by
    obtain ⟨k1, k2⟩ := vals_at r1 j h1
    obtain ⟨k3, k4⟩ := vals_at r2 j h2
    have c := zipV_at hz j k1 k3
    generalize xs.getD j .non = p at c k2 ⊢
    generalize ys.getD j .non = q at c k4 ⊢
    generalize its.toArray[j] = u1 at k2 ⊢
    generalize its2.toArray[j] = u2 at k4 ⊢
    cases p <;> cases q <;> first | cases c | skip
    · obtain ⟨t, rfl⟩ := k2
      obtain ⟨t', rfl⟩ := k4
      exact fun _ _ _ _ h => PyProof.Rows.lt_int h
    · obtain ⟨t, rfl⟩ := k2
      obtain ⟨t', rfl⟩ := k4
      exact fun _ _ _ _ h => PyProof.Rows.lt_str h)
  have e : Ob.lexAt (fun j => eqV (xs.getD j .non) (ys.getD j .non)) (fun j => ltV (xs.getD j .non) (ys.getD j .non)) (decide (its.toArray.size < its2.toArray.size)) 0 (min its.toArray.size its2.toArray.size) = lexV xs ys := by
    rw [List.size_toArray, List.size_toArray, ← l1, ← l2]
    exact lexAt_lexV xs ys
  rw [e] at R
  exact R Y.X.prog Y.X.w _ _ ⟨.bl _, H, I, rfl, q⟩
def gLtT : S → S → Ms → R S := fun x y ms => match x, y with
  | .d (.tup a), .d (.tup b) => match a.all flatD && b.all flatD && zipV (a.map flatOf) (b.map flatOf) with
    | true => .ok (.d (.bl (lexV (a.map flatOf) (b.map flatOf)))) ms
    | false => .bad
  | _, _ => .bad
theorem gLtT_ne : ∀ x y ms c ds ms', gLtT x y ms ≠ .ex c ds ms' := by
  intro x y ms c ds ms' h
  unfold gLtT at h
  split at h
  · split at h <;> cases h
  · cases h
theorem o_ltT (ok : CyOk Y k) : OpD Y (compareOp .Lt) gLtT := by
  refine ⟨⟨_, op_ltF (by have := ok.hr.un; omega), fun w H ms x y u v Q hr sx sy h => ?_⟩, gLtT_ne⟩
  unfold gLtT at h
  split at h
  · split at h
    · rename_i f
      simp only [Bool.and_eq_true] at f
      obtain ⟨⟨f1, f2⟩, f3⟩ := f
      obtain ⟨a, xs, rfl, k1, k2⟩ := sx
      obtain ⟨b, ys, rfl, k3, k4⟩ := sy
      have e1 := flats_rel f1 k2
      have e2 := flats_rel f2 k4
      subst e1 e2
      exact ⟨a, b, _, _, rfl, rfl, sqT_mono k1 hr.sub, sqT_mono k3 hr.sub, f3, h.at (Ext.refl w) hr rfl⟩
    · exact h.elim
  · exact h.elim
def gLtA := gOr gLt gLtT
theorem o_ltA (ok : CyOk Y k) : OpD Y (compareOp .Lt) gLtA := o_lt.or (o_ltT ok)

/-! ### all, any, sum, max, min -/
def ofBls : List D → Option (List Bool)
  | [] => some []
  | .bl x :: r => (ofBls r).map (x :: ·)
  | _ :: _ => none
def ofInts : List D → Option (List Int)
  | [] => some []
  | .int x :: r => (ofInts r).map (x :: ·)
  | _ :: _ => none
theorem ofBls_rel {K : PySem.W.Frag} {Γ : G} {F : Hp} : ∀ {ds : List D} {l : List Bool} {vs : List V}, ofBls ds = some l → DRs K Γ F ds vs → vs = l.map V.bl
  | [], l, vs, h, r => by cases h; cases r; rfl
  | d :: ds, l, vs, h, r => by
    cases d with
    | bl x =>
      simp only [ofBls, Option.map_eq_some_iff] at h
      obtain ⟨l', h1, rfl⟩ := h
      obtain ⟨v, t, rfl, r1, r2⟩ := r
      cases r1
      rw [ofBls_rel h1 r2]; rfl
    | _ => cases h
theorem ofInts_rel {K : PySem.W.Frag} {Γ : G} {F : Hp} : ∀ {ds : List D} {l : List Int} {vs : List V}, ofInts ds = some l → DRs K Γ F ds vs → vs = l.map V.int
  | [], l, vs, h, r => by cases h; cases r; rfl
  | d :: ds, l, vs, h, r => by
    cases d with
    | int x =>
      simp only [ofInts, Option.map_eq_some_iff] at h
      obtain ⟨l', h1, rfl⟩ := h
      obtain ⟨v, t, rfl, r1, r2⟩ := r
      cases r1
      rw [ofInts_rel h1 r2]; rfl
    | _ => cases h
theorem ofBls_map : ∀ l : List Bool, ofBls (l.map .bl) = some l
  | [] => rfl
  | x :: l => by show (ofBls (l.map .bl)).map _ = _; rw [ofBls_map l]; rfl
theorem ofInts_map : ∀ l : List Int, ofInts (l.map .int) = some l
  | [] => rfl
  | x :: l => by show (ofInts (l.map .int)).map _ = _; rw [ofInts_map l]; rfl
def seqL (s : S) (ms : Ms) : Option (List D) := match view s ms with
  | some (.lst ds) => some ds
  | _ => none
theorem seqL_inv {s : S} {v : V} {ds : List D} (h : seqL s ms = some ds) (hr : HR Y w H ms) (sv : SR Y w s v) : ∃ a xs, v = .ref a ∧ SqL Y.X.K H a xs ∧ DRs Y.X.K Y.Γ w.F ds xs := by
  unfold seqL at h
  split at h
  · rename_i e
    cases h
    obtain ⟨a, xs, rfl, k1, k2⟩ := view_list e hr sv
    exact ⟨a, xs, rfl, SqL.of k1, k2⟩
  · cases h
def cSeq (f : List D → Option D) : List S → Ms → R S := fun ss ms => match ss with
  | [s] => match (seqL s ms).bind f with
    | some d => .ok (.d d) ms
    | none => .bad
  | _ => .bad
theorem cSeq_ne {f : List D → Option D} : ∀ ss ms c ds ms', cSeq f ss ms ≠ .ex c ds ms' := by
  intro ss ms c ds ms' h
  unfold cSeq at h
  split at h
  · split at h <;> cases h
  · cases h
theorem cSeq_inv {f : List D → Option D} {ss : List S} {P : S → Ms → Prop} {E : Nat → List D → Ms → Prop} (h : (cSeq f ss ms).post P E) : ∃ s ds d, ss = [s] ∧ seqL s ms = some ds ∧ f ds = some d ∧ P (.d d) ms := by
  unfold cSeq at h
  split at h
  · rename_i s
    split at h
    · rename_i d e
      obtain ⟨ds, h1, h2⟩ := Option.bind_eq_some_iff.mp e
      exact ⟨s, ds, d, rfl, h1, h2, h⟩
    · exact h.elim
  · exact h.elim
def allD (ds : List D) : Option D := (ofBls ds).map fun l => .bl (l.all id)
def anyD (ds : List D) : Option D := (ofBls ds).map fun l => .bl (l.any id)
def sumD (ds : List D) : Option D := (ofInts ds).map fun l => .int l.sum
def maxL : List Int → Option Int
  | [] => none
  | x :: l => some (l.foldl max x)
def minL : List Int → Option Int
  | [] => none
  | x :: l => some (l.foldl min x)
def maxD (ds : List D) : Option D := (ofInts ds).bind fun l => (maxL l).map .int
def minD (ds : List D) : Option D := (ofInts ds).bind fun l => (minL l).map .int
theorem foldl_max : ∀ (l : List Int) (x : Int), x ≤ l.foldl max x ∧ (∀ y ∈ l, y ≤ l.foldl max x) ∧ (l.foldl max x = x ∨ l.foldl max x ∈ l)
  | [], x => ⟨Int.le_refl _, fun y h => (nomatch h), .inl rfl⟩
  | a :: l, x => by
    obtain ⟨h1, h2, h3⟩ := foldl_max l (max x a)
    refine ⟨by rw [List.foldl_cons]; omega, fun y hy => ?_, ?_⟩
    · rw [List.foldl_cons]
      rcases List.mem_cons.mp hy with rfl | hy
      · omega
      · exact h2 y hy
    · rw [List.foldl_cons]
      rcases h3 with h3 | h3
      · rw [h3]
        by_cases c : x ≤ a
        · exact .inr (by rw [Int.max_eq_right c]; exact List.mem_cons_self)
        · exact .inl (Int.max_eq_left (by omega))
      · exact .inr (List.mem_cons_of_mem _ h3)
theorem foldl_min : ∀ (l : List Int) (x : Int), l.foldl min x ≤ x ∧ (∀ y ∈ l, l.foldl min x ≤ y) ∧ (l.foldl min x = x ∨ l.foldl min x ∈ l)
  | [], x => ⟨Int.le_refl _, fun y h => (nomatch h), .inl rfl⟩
  | a :: l, x => by
    obtain ⟨h1, h2, h3⟩ := foldl_min l (min x a)
    refine ⟨by rw [List.foldl_cons]; omega, fun y hy => ?_, ?_⟩
    · rw [List.foldl_cons]
      rcases List.mem_cons.mp hy with rfl | hy
      · omega
      · exact h2 y hy
    · rw [List.foldl_cons]
      rcases h3 with h3 | h3
      · rw [h3]
        by_cases c : x ≤ a
        · exact .inl (Int.min_eq_left c)
        · exact .inr (by rw [Int.min_eq_right (by omega)]; exact List.mem_cons_self)
      · exact .inr (List.mem_cons_of_mem _ h3)
theorem maxL_spec {l : List Int} {m : Int} (h : maxL l = some m) : m ∈ l ∧ ∀ y ∈ l, y ≤ m := by
  cases l with
  | nil => cases h
  | cons x l =>
    cases h
    obtain ⟨h1, h2, h3⟩ := foldl_max l x
    refine ⟨?_, fun y hy => ?_⟩
    · rcases h3 with h3 | h3
      · rw [h3]; exact List.mem_cons_self
      · exact List.mem_cons_of_mem _ h3
    · rcases List.mem_cons.mp hy with rfl | hy
      · exact h1
      · exact h2 y hy
theorem minL_spec {l : List Int} {m : Int} (h : minL l = some m) : m ∈ l ∧ ∀ y ∈ l, m ≤ y := by
  cases l with
  | nil => cases h
  | cons x l =>
    cases h
    obtain ⟨h1, h2, h3⟩ := foldl_min l x
    refine ⟨?_, fun y hy => ?_⟩
    · rcases h3 with h3 | h3
      · rw [h3]; exact List.mem_cons_self
      · exact List.mem_cons_of_mem _ h3
    · rcases List.mem_cons.mp hy with rfl | hy
      · exact h1
      · exact h2 y hy
theorem cd_all (hc : Y.X.calm = true) : CallD Y (.builtin "all") (cSeq allD) := by
  refine ⟨⟨_, cr_all hc, fun w H ms ss vs Q hr sv h => ?_⟩, cSeq_ne⟩
  obtain ⟨s, ds, d, rfl, h1, h2, q⟩ := cSeq_inv h
  obtain ⟨v, rfl, r⟩ := SRs.one sv
  obtain ⟨a, xs, rfl, k1, k2⟩ := seqL_inv h1 hr r
  obtain ⟨l, e1, rfl⟩ := Option.map_eq_some_iff.mp h2
  have := ofBls_rel e1 k2
  subst this
  exact ⟨a, l, rfl, k1, q.at (Ext.refl w) hr rfl⟩
theorem cd_any (hc : Y.X.calm = true) : CallD Y (.builtin "any") (cSeq anyD) := by
  refine ⟨⟨_, cr_any hc, fun w H ms ss vs Q hr sv h => ?_⟩, cSeq_ne⟩
  obtain ⟨s, ds, d, rfl, h1, h2, q⟩ := cSeq_inv h
  obtain ⟨v, rfl, r⟩ := SRs.one sv
  obtain ⟨a, xs, rfl, k1, k2⟩ := seqL_inv h1 hr r
  obtain ⟨l, e1, rfl⟩ := Option.map_eq_some_iff.mp h2
  have := ofBls_rel e1 k2
  subst this
  exact ⟨a, l, rfl, k1, q.at (Ext.refl w) hr rfl⟩
theorem cd_sum (hc : Y.X.calm = true) : CallD Y (.builtin "sum") (cSeq sumD) := by
  refine ⟨⟨_, cr_sum hc, fun w H ms ss vs Q hr sv h => ?_⟩, cSeq_ne⟩
  obtain ⟨s, ds, d, rfl, h1, h2, q⟩ := cSeq_inv h
  obtain ⟨v, rfl, r⟩ := SRs.one sv
  obtain ⟨a, xs, rfl, k1, k2⟩ := seqL_inv h1 hr r
  obtain ⟨l, e1, rfl⟩ := Option.map_eq_some_iff.mp h2
  have := ofInts_rel e1 k2
  subst this
  exact ⟨a, l, rfl, k1, q.at (Ext.refl w) hr rfl⟩
theorem cd_maxL (hc : Y.X.calm = true) : CallD Y (.builtin "max") (cSeq maxD) := by
  refine ⟨⟨_, cr_max hc, fun w H ms ss vs Q hr sv h => ?_⟩, cSeq_ne⟩
  obtain ⟨s, ds, d, rfl, h1, h2, q⟩ := cSeq_inv h
  obtain ⟨v, rfl, r⟩ := SRs.one sv
  obtain ⟨a, xs, rfl, k1, k2⟩ := seqL_inv h1 hr r
  obtain ⟨l, e1, h2⟩ := Option.bind_eq_some_iff.mp h2
  obtain ⟨m, e2, rfl⟩ := Option.map_eq_some_iff.mp h2
  have := ofInts_rel e1 k2
  subst this
  obtain ⟨z1, z2⟩ := maxL_spec e2
  refine ⟨a, l, rfl, k1, List.length_pos_of_mem z1, fun m' h1 h2 => ?_⟩
  have : m' = m := Int.le_antisymm (z2 m' h1) (h2 m z1)
  subst this
  exact q.at (Ext.refl w) hr rfl
theorem cd_minL (hc : Y.X.calm = true) : CallD Y (.builtin "min") (cSeq minD) := by
  refine ⟨⟨_, cr_min hc, fun w H ms ss vs Q hr sv h => ?_⟩, cSeq_ne⟩
  obtain ⟨s, ds, d, rfl, h1, h2, q⟩ := cSeq_inv h
  obtain ⟨v, rfl, r⟩ := SRs.one sv
  obtain ⟨a, xs, rfl, k1, k2⟩ := seqL_inv h1 hr r
  obtain ⟨l, e1, h2⟩ := Option.bind_eq_some_iff.mp h2
  obtain ⟨m, e2, rfl⟩ := Option.map_eq_some_iff.mp h2
  have := ofInts_rel e1 k2
  subst this
  obtain ⟨z1, z2⟩ := minL_spec e2
  refine ⟨a, l, rfl, k1, List.length_pos_of_mem z1, fun m' h1 h2 => ?_⟩
  have : m' = m := Int.le_antisymm (h2 m z1) (z2 m' h1)
  subst this
  exact q.at (Ext.refl w) hr rfl

/-! ### list(text), frozen -/
def signs (z : Str) : List D := z.cps.toList.map fun c => .str ⟨#[c]⟩
def rListS' : List V → Hp → VK → Prop := fun xs H Q => ∃ z : Str, xs = [.str z] ∧ z.length ≤ sizeLine ∧ ∀ l, H l = none → Q (.ref l) (upd H l (.lst (z.cps.toList.map fun c => V.str ⟨#[c]⟩)))
theorem call_listStr (hc : Y.X.calm = true) : CallR Y.X (.type "list") rListS' := by
  intro pins s σ H xs us Q I r h
  obtain ⟨z, rfl, hz, q⟩ := h
  obtain ⟨u, rfl, t, rfl⟩ := vals1 r
  refine PySem.call_list_str (I.ok.hd hc) z t (fun h' tk acc' c' hk e' hi => ?_) hz
  have vs : Vals (z.cps.toList.map fun c => V.str ⟨#[c]⟩) acc'.toList := by
    refine vals_of_at (by rw [List.length_map, Array.length_toList, Array.length_toList, hi.1]) fun j x u h1 h2 => ?_
    obtain ⟨c, tk', e1, e2⟩ := hi.2 j u (by rw [← h2, Array.getElem?_toList])
    rw [List.getElem?_map, Array.getElem?_toList, e1] at h1
    cases h1
    exact ⟨tk', e2⟩
  refine ⟨.ref s.heap.objs.size, upd H s.heap.objs.size (.lst _), I.laid (fun b o e => hk b o e) (Nat.le_refl _) ⟨?_, acc'.toList, c', vs, ?_⟩, rfl, q _ (I.hok.fresh (Nat.le_refl _))⟩
  · rw [List.length_map, Array.length_toList]; exact hz
  · rw [Array.toArray_toList]; exact e'
theorem drs_signs {K : PySem.W.Frag} {Γ : G} {F : Hp} : ∀ l : List Nat, DRs K Γ F (l.map fun c => .str ⟨#[c]⟩) (l.map fun c => V.str ⟨#[c]⟩)
  | [] => rfl
  | x :: l => ⟨_, _, rfl, rfl, drs_signs l⟩
def cLstS : List S → Ms → R S := fun ss ms => match ss with
  | [.d (.str z)] => match few z.length with
    | true => .ok (.d (.lst (signs z))) ms
    | false => .bad
  | _ => .bad
theorem cd_listS (hc : Y.X.calm = true) : CallD Y (.type "list") cLstS := by
  refine ⟨⟨_, call_listStr hc, fun w H ms ss vs Q hr sv h => ?_⟩, fun ss ms c ds ms' h => ?_⟩
  · unfold cLstS at h
    split at h
    · rename_i z
      split at h
      · rename_i f
        obtain ⟨v, rfl, r⟩ := SRs.one sv
        cases r
        refine ⟨z, rfl, few_ok f, fun l hl => ?_⟩
        obtain ⟨hr2, ex⟩ := hr.froz (o := .lst (z.cps.toList.map fun c => V.str ⟨#[c]⟩)) hl
        exact h.at ex hr2 ⟨l, _, rfl, upd_same, drs_signs _⟩
      · exact h.elim
    · exact h.elim
  · unfold cLstS at h
    split at h
    · split at h <;> cases h
    · cases h

/-! ### a cell that nobody writes any more becomes data -/
def frzS (s : S) (ms : Ms) : R S := match s with
  | .loc n => match ms[n]? with
    | some (.lst ds) => .ok (.d (.lst ds)) (ms.set n .dead)
    | _ => .bad
  | s => .ok s ms
def mFrz (m : Env → Ms → R S) : Env → Ms → R S := fun env ms => (m env ms).bind frzS
theorem HR0.freezeAt {K : PySem.W.Frag} {Γ : G} {n : Nat} {a : Addr} {c : Cell} {o : HO} (h : HR0 K Γ w H ms) (ha : w.mu[n]? = some a) (hc : ms[n]? = some c) (hd : c ≠ .dead) (ho : H a = some o) : HR0 K Γ ⟨upd w.F a o, w.P, w.mu⟩ H (ms.set n .dead) ∧ Ext w ⟨upd w.F a o, w.P, w.mu⟩ := by
  obtain ⟨nF, nP⟩ := h.sep n a c ha hc hd
  have hn : n < ms.length := (List.getElem?_eq_some_iff.mp hc).1
  have ex : ∀ b u, w.F b = some u → upd w.F a o b = some u := fun b u e => by
    have : b ≠ a := fun z => by subst z; rw [nF] at e; cases e
    rw [upd_ne this]; exact e
  have at_ : ∀ {i : Nat} {k : Cell}, (ms.set n .dead)[i]? = some k → k ≠ .dead → i ≠ n ∧ ms[i]? = some k := fun {i k} e hk => by
    by_cases z : i = n
    · subst z; rw [List.getElem?_set_self hn] at e; cases e; exact absurd rfl hk
    · rw [List.getElem?_set_ne (Ne.symm z)] at e; exact ⟨z, e⟩
  refine ⟨⟨fun b u e => ?_, h.prot, fun b u e => ?_, by rw [h.len]; simp, fun i j b c1 c2 e1 e2 k1 k2 d1 d2 => ?_, fun i b k e q z => ?_, fun i b k e q => ?_⟩, ⟨ex, fun _ _ z => z, rfl⟩⟩
  · by_cases z : b = a
    · subst z
      have e : upd w.F b o b = some u := e
      rw [upd_same] at e; rw [← e]; exact ho
    · have e : upd w.F a o b = some u := e
      rw [upd_ne z] at e; exact h.sub b u e
  · have : b ≠ a := fun z => by subst z; rw [nP] at e; cases e
    show upd w.F a o b = none
    rw [upd_ne this]; exact h.dis b u e
  · exact h.inj i j b c1 c2 e1 e2 (at_ k1 d1).2 (at_ k2 d2).2 d1 d2
  · obtain ⟨z1, z2⟩ := at_ q z
    refine ⟨?_, (h.sep i b k e z2 z).2⟩
    have : b ≠ a := fun y => by
      subst y
      exact z1 (h.inj i n b k c e ha z2 hc z hd)
    show upd w.F a o b = none
    rw [upd_ne this]
    exact (h.sep i b k e z2 z).1
  · cases k with
    | dead => trivial
    | lst ds =>
      obtain ⟨xs, y1, y2⟩ := h.cel i b _ e (at_ q (by intro z; cases z)).2
      exact ⟨xs, y1, DRs.mono ex _ _ y2⟩
    | ins c' fs =>
      obtain ⟨dx, xs, y1, y2⟩ := h.cel i b _ e (at_ q (by intro z; cases z)).2
      exact ⟨dx, xs, y1, DRs.mono ex _ _ y2⟩
theorem e_frz (h : DE Y e me) : DE Y e (mFrz me) := by
  obtain ⟨t, p, s⟩ := h.ex
  refine ⟨t, p, fun w σ H env ms Q er hr hw => ?_⟩
  refine s.go er hr hw fun x ms1 w1 H1 v e1 er1 hr1 sv h1 => ?_
  unfold frzS at h1
  split at h1
  · rename_i n
    split at h1
    · rename_i ds hc
      obtain ⟨a, ha, rfl⟩ := sv
      obtain ⟨xs, q, r⟩ := hr1.cel n a _ ha hc
      obtain ⟨hr2, e2⟩ := hr1.freezeAt ha hc (by intro z; cases z) q
      exact h1.at (e1.trans e2) hr2 ⟨a, xs, rfl, upd_same, DRs.mono e2.F _ _ r⟩
    · exact h1.elim
  · exact h1.at e1 hr1 sv
end
end Fw
set_option Elab.async false
set_option linter.all false
set_option maxRecDepth 100000
set_option maxHeartbeats 1000000
/-! Fw30: == of own instances. -/
namespace Fw
open PySem L2 PySem.Spec PyProof.Rows
section
variable {Y : Cy} {w w1 w2 : Wd} {σ : L2.St} {H H1 H2 : Hp} {env : Env} {ms ms1 ms2 : Ms} {k : Nat} {o e : Expr} {mo me : Env → Ms → R S} {pos p2 : Pos}
/-- the types that an operand may have beside an own instance -/
def tyE (d : D) : Option Ty := match d with
  | .dic _ _ => none
  | .dit _ _ => none
  | d => tyD d
theorem look_of {M : Model} {pins : List (Addr × Obj)} {st : Shared} {s : S} {v : V} {u : Value} {d : D} {t : Ty} (h : view s ms = some d) (ht : tyE d = some t) (hr : HR Y w H ms) (sv : SR Y w s v) (I : Inv Y.X pins σ H st) (ru : RelV v u) : PySem.W.Looks M st.heap (typeOf u) (tyV Y t) := by
  have lst : ∀ {a : Addr} {xs : List V}, SqL Y.X.K H a xs → PySem.W.Looks M st.heap (typeOf (.ref a)) (.type "list") := fun {a xs} q => by
    obtain ⟨its, _, p, _⟩ := I.list q
    obtain ⟨o, n, e1, e2, _⟩ := p
    exact fun A Q E s k q => PySem.wpAny_typeOf_ref (k _ _ e1) (by rw [e2]; exact q)
  have tup : ∀ {a : Addr} {xs : List V}, SqT Y.X.K H a xs → PySem.W.Looks M st.heap (typeOf (.ref a)) (.type "tuple") := fun {a xs} q => by
    obtain ⟨its, _, p, _⟩ := I.tuple q
    obtain ⟨o, e1, e2, _⟩ := p
    exact fun A Q E s k q => PySem.wpAny_typeOf_ref (k _ _ e1) (by rw [e2]; exact q)
  cases d with
  | non => cases ht; cases view_notlist h (by intro ds z; cases z) sv; cases ru; exact .of_pure rfl
  | bl b => cases ht; cases view_notlist h (by intro ds z; cases z) sv; cases ru; exact .of_pure rfl
  | int i => cases ht; cases view_notlist h (by intro ds z; cases z) sv; obtain ⟨t, rfl⟩ := ru; exact .of_pure rfl
  | str x => cases ht; cases view_notlist h (by intro ds z; cases z) sv; obtain ⟨t, rfl⟩ := ru; exact .of_pure rfl
  | tup ds =>
    cases ht
    obtain ⟨a, xs, rfl, e1, e2⟩ := view_notlist h (by intro ds z; cases z) sv
    cases ru
    exact tup (sqT_mono e1 hr.sub)
  | lst ds =>
    cases ht
    obtain ⟨a, xs, rfl, e1, e2⟩ := view_list h hr sv
    cases ru
    exact lst (SqL.of e1)
  | frz ds =>
    cases ht
    obtain ⟨a, xs, rfl, e1, e2⟩ := view_notlist h (by intro ds z; cases z) sv
    cases ru
    exact lst (sqL_mono e1 hr.sub)
  | obj c ds =>
    cases ht
    obtain ⟨a, dx, xs, rfl, e1, e2⟩ := view_notlist h (by intro ds z; cases z) sv
    cases ru
    obtain ⟨mA, O, _, _, _, _⟩ := ins_get I.hok (hr.sub _ _ e1)
    obtain ⟨od, J, _⟩ := O.look
    exact J.type
  | dic ks vs => cases ht
  | dit ks vs => cases ht
  | fn n => cases ht
  | ty n => cases ht
/-- own __eq__ -/
structure EqOk (Y : Cy) (k : Nat) (oc : List Nat) (mth : Str) (c : Nat) (g : List S → Ms → R S) : Prop where
  sp : SpOk Y k mth 1 c g
  nf : ∀ T ∈ tyNames, PySem.W.notFirst Y.X.K (Y.Γ.cls c) (.type T) = true
  no : ∀ c' ∈ oc, PySem.W.notFirst Y.X.K (Y.Γ.cls c) (.ref (Y.Γ.cls c')) = true
def tyIn (oc : List Nat) (t : Ty) : Bool := match t with
  | .nm a => tyNames.contains a
  | .cl c => oc.contains c
def asBl (r : R S) : R S := match r with
  | .ok (.d (.bl y)) ms => .ok (.d (.bl y)) ms
  | _ => .bad
def gEqO (oc : List Nat) (tab : MTab) : S → S → Ms → R S := fun x y ms => match x with
  | .d (.obj c ds) => match tab.lookup c, (view y ms).bind tyE with
    | some g, some t => match tyIn oc t with
      | true => asBl (g [.d (.obj c ds), y] ms)
      | false => .bad
    | _, _ => .bad
  | _ => .bad
theorem asBl_ne {r : R S} : ∀ c ds ms', asBl r ≠ .ex c ds ms' := by
  intro c ds ms' h
  unfold asBl at h
  split at h <;> cases h
theorem gEqO_ne {oc : List Nat} {tab : MTab} : ∀ x y ms c ds ms', gEqO oc tab x y ms ≠ .ex c ds ms' := by
  intro x y ms c ds ms' h
  unfold gEqO at h
  split at h
  · split at h
    · split at h
      · exact asBl_ne _ _ _ h
      · cases h
    · cases h
  · cases h
theorem asBl_post {r : R S} {Q : VK} (h : (asBl r).post (okP Y w Q) (fun _ _ _ => False)) : (noEx r).post (okP Y w fun v H' => ∃ y, v = .bl y ∧ Q v H') (fun _ _ _ => False) := by
  unfold asBl at h
  split at h
  · rename_i y ms'
    intro w' H' v e' hr' sv
    exact ⟨y, sv, h w' H' v e' hr' sv⟩
  · exact h.elim
def rEqO (Y : Cy) (k : Nat) (oc : List Nat) (mth : Str) : R2 := fun x y H Q => ∃ a c dx fs ds w ms g s d t, x = .ref a ∧ H a = some (.ins (Y.Γ.cls c) dx fs) ∧ EqOk Y k oc mth c g ∧ HR Y w H ms ∧ SR Y w (.d (.obj c ds)) (.ref a) ∧ SR Y w s y ∧ view s ms = some d ∧ tyE d = some t ∧ tyIn oc t = true ∧
  (asBl (g [.d (.obj c ds), s] ms)).post (okP Y w Q) (fun _ _ _ => False)
theorem snd_eqO {oc : List Nat} {mth : Str} {tab : MTab} (ht : Tab (EqOk Y k oc mth) tab) : SndR2 Y (rEqO Y k oc mth) (gEqO oc tab) := by
  intro w H ms x y u v Q hr sx sy h
  unfold gEqO at h
  split at h
  · rename_i c ds
    split at h
    · rename_i g t hl hv
      split at h
      · rename_i hi
        obtain ⟨d, h1, h2⟩ := Option.bind_eq_some_iff.mp hv
        have s0 := sx
        obtain ⟨a, dx, xs, rfl, k1, k2, k3⟩ := sx
        exact ⟨a, c, dx, _, ds, w, ms, g, y, d, t, rfl, hr.sub _ _ k1, ht.at_ hl, hr, s0, sy, h1, h2, hi, h⟩
      · exact h.elim
    · exact h.elim
  · exact h.elim
theorem op_eqO {oc : List Nat} (ok : CyOk Y k) : OpR Y.X (compareOp .Eq) (rEqO Y k oc "__eq__") := by
  intro pins s σ H x y v u Q I rx ry h
  obtain ⟨a, c, dx, fs, ds, w, ms, g, sl, d, t, rfl, ea, eo, hr, sr, sy, hv, ht, hi, q⟩ := h
  obtain rfl : v = Value.ref a := rx
  obtain ⟨f, fd, ps, sem, pk, dvs, cs, j, e1, e2, F, hj, hb, hcs, rfl⟩ := eo.sp.ex
  obtain ⟨mA, O, _, _, _, _⟩ := ins_get I.hok ea
  obtain ⟨od, J, _⟩ := O.look
  obtain ⟨m, Fr0⟩ := frame_of I
  have lk := look_of (M := model Y.X.prog Y.X.w) hv ht hr sy I ry
  have nf : PySem.W.notFirst Y.X.K (Y.Γ.cls c) (tyV Y t) = true := by
    cases t with
    | nm T => exact eo.nf T (List.contains_iff_mem.mp hi)
    | cl c' => exact eo.no c' (List.contains_iff_mem.mp hi)
  show wpAny _ _ (richCompare .Eq _ _) _ _ _
  refine PySem.W.cmp_K (op := .Eq) ok.hr.units0 Fr0 I.mod.kin J lk nf e1 e2 ?_
  refine wpAny_mono (sp_run (Q := fun v H' => ∃ y, v = .bl y ∧ Q v H') (ok.hr.mono (by omega)) ok.gd F hb hcs I I.env0 rfl (show Vals [V.ref a, y] [Value.ref a, u] from .cons rfl (.cons ry .nil)) hr (.cons sr (.cons sy .nil)) (asBl_post q)) (fun v s' hv => ?_) fun _ _ z => z
  obtain ⟨v', H', I', rv, y, ey, q'⟩ := hv
  subst ey
  exact SlX.cmpback rv ⟨_, H', I', rv, q'⟩
theorem o_eqO {oc : List Nat} {tab : MTab} (ok : CyOk Y k) (ht : Tab (EqOk Y k oc "__eq__") tab) : OpD Y (compareOp .Eq) (gEqO oc tab) := ⟨⟨_, op_eqO ok, snd_eqO ht⟩, gEqO_ne⟩
/-! the facts -/
def bEqF (oc : List Addr) (C : Addr) (K : PySem.W.Frag) : Bool := tyNames.all (fun T => PySem.W.notFirst K C (.type T)) && oc.all (fun c => PySem.W.notFirst K C (.ref c))
theorem eqF_ok {K : PySem.W.Frag} {Γ : G} {oc : List Nat} {C : Addr} (h : bEqF (oc.map Γ.cls) C K = true) : (∀ T ∈ tyNames, PySem.W.notFirst K C (.type T) = true) ∧ ∀ c' ∈ oc, PySem.W.notFirst K C (.ref (Γ.cls c')) = true := by
  obtain ⟨h1, h2⟩ := Bool.and_eq_true_iff.mp h
  exact ⟨fun T hT => List.all_eq_true.mp h1 T hT, fun c hc => List.all_eq_true.mp h2 _ (List.mem_map_of_mem hc)⟩
end
end Fw
set_option Elab.async false
set_option linter.all false
set_option maxRecDepth 100000
set_option maxHeartbeats 1000000
/-! Fw31: small helps for the generator. -/
namespace Fw
open PySem L2 PySem.Spec PyProof.Rows
theorem all_nil {α : Type} {P : α → Prop} : ∀ x ∈ ([] : List α), P x := fun _ h => nomatch h
theorem all_cons {α : Type} {P : α → Prop} {a : α} {l : List α} (h : P a) (t : ∀ x ∈ l, P x) : ∀ x ∈ a :: l, P x := fun x hx => by
  rcases List.mem_cons.mp hx with rfl | hx
  · exact h
  · exact t x hx
end Fw
set_option Elab.async false
set_option linter.all false
set_option maxRecDepth 100000
set_option maxHeartbeats 1000000
/-! Fw32: more to walk over: texts; one of several kinds. -/
namespace Fw
open PySem L2 PySem.Spec PyProof.Rows
section
variable {Y : Cy} {w w1 w2 : Wd} {σ : L2.St} {H H1 H2 : Hp} {env : Env} {ms ms1 ms2 : Ms} {k : Nat} {tg l : Expr} {m : Env → Ms → R S}
abbrev MI := Env → Ms → R (List S × Option (Nat × Cell))
def iOr (mi mi' : MI) : MI := fun env ms => match mi env ms with
  | .bad => mi' env ms
  | r => r
theorem DI.or {mi mi' : MI} (h : DI Y tg l mi) (h' : DI Y tg l mi') : DI Y tg l (iOr mi mi') := by
  obtain ⟨wi, p, s⟩ := h.ex
  obtain ⟨wi', p', s'⟩ := h'.ex
  refine ⟨fun σ H Rr => wi σ H Rr ∨ wi' σ H Rr, ⟨fun pins st σ H Rr I q => ?_⟩, fun w σ H env ms Rr er hr q => ?_⟩
  · rcases q with q | q
    · exact p.run pins st σ H Rr I q
    · exact p'.run pins st σ H Rr I q
  · unfold iOr at q
    split at q
    · exact .inr (s' w σ H env ms Rr er hr q)
    · exact .inl (s w σ H env ms Rr er hr q)
def itS (s : S) (ms : Ms) : R (List S × Option (Nat × Cell)) := match s with
  | .d (.str z) => .ok ((signs z).map S.d, none) ms
  | _ => .bad
def iTxt (m : Env → Ms → R S) : MI := fun env ms => (m env ms).bind itS
theorem signs_get {z : Str} {i : Nat} {d : D} (h : (signs z)[i]? = some d) : ∃ c, z.cps[i]? = some c ∧ d = .str ⟨#[c]⟩ := by
  unfold signs at h
  rw [List.getElem?_map, Array.getElem?_toList] at h
  cases e : z.cps[i]? with
  | none => rw [e] at h; cases h
  | some c => rw [e] at h; cases h; exact ⟨c, rfl, rfl⟩
theorem yields_str {z : Str} : Yields Y w ((signs z).map S.d) none (Its z) := by
  intro w' H' ms' e' hr' _
  refine ⟨by show z.cps.size ≤ _; simp [signs], fun i s hs => ?_⟩
  obtain ⟨d, hd, rfl⟩ := map_get hs
  obtain ⟨c, hc, rfl⟩ := signs_get hd
  refine ⟨by show i < z.cps.size; exact (Array.getElem?_eq_some_iff.mp hc).1, fun x H2 y => ?_⟩
  obtain ⟨rfl, c', h1, rfl⟩ := y
  rw [hc] at h1
  cases h1
  exact ⟨w', Ext.refl w', hr', rfl⟩
theorem i_str (h : DE Y l m) : DI Y tg l (iTxt m) := by
  obtain ⟨t, p, s⟩ := h.ex
  refine ⟨_, pi_str p, fun w σ H env ms Rr er hr h => ?_⟩
  refine s.go er hr h fun x ms1 w1 H1 v e1 er1 hr1 sv h1 => ?_
  unfold itS at h1
  split at h1
  · rename_i z
    cases sv
    exact ⟨z, rfl, h1 w1 H1 _ e1 hr1 yields_str (fun _ _ e => nomatch e)⟩
  · exact h1.elim
/-- over a list, a tuple or a text -/
def iSeq (m : Env → Ms → R S) : MI := iOr (iList m) (iOr (iTup m) (iTxt m))
theorem i_seq (h : DE Y l m) : DI Y tg l (iSeq m) := (i_list h).or ((i_tup h).or (i_str h))
end
end Fw
set_option Elab.async false
set_option linter.all false
set_option maxRecDepth 100000
set_option maxHeartbeats 1000000
/-! Pl0: stepping by simp. -/
namespace Fw
open PySem L2
section
variable {α β : Type} {env e1 : Env} {ms ms1 ms2 : Ms} {s s1 s2 : S} {m m1 m2 k : Env → Ms → T} {me ma mb mo mi' : Env → Ms → R S} {mc md : Env → Ms → R Bool} {i j n : Nat} {b : Bool} {ss : List S} {c : Nat} {ds : List D} {d x y z : D} {mal : Env → Ms → R (List S)}
@[simp] theorem bind_ok {f : α → Ms → R β} {a : α} : (R.ok a ms).bind f = f a ms := rfl
@[simp] theorem bind_ex {f : α → Ms → R β} : (R.ex c ds ms : R α).bind f = .ex c ds ms := rfl
@[simp] theorem bind_bad {f : α → Ms → R β} : (R.bad : R α).bind f = .bad := rfl
@[simp] theorem seq_nx : (T.nx env ms).seq k = k env ms := rfl
@[simp] theorem seq_rt : (T.rt s ms).seq k = .rt s ms := rfl
@[simp] theorem seq_bk : (T.bk env ms).seq k = .bk env ms := rfl
@[simp] theorem seq_ct : (T.ct env ms).seq k = .ct env ms := rfl
@[simp] theorem seq_ex : (T.ex c ds env ms).seq k = .ex c ds env ms := rfl
@[simp] theorem seq_bad : T.bad.seq k = .bad := rfl
@[simp] theorem ofE_ok {a : α} {f : α → Ms → T} : T.ofE (.ok a ms) env f = f a ms := rfl
@[simp] theorem ofE_ex {f : α → Ms → T} : T.ofE (.ex c ds ms : R α) env f = .ex c ds env ms := rfl
@[simp] theorem ofE_bad {f : α → Ms → T} : T.ofE (.bad : R α) env f = .bad := rfl
@[simp] theorem ev_cons : sCons m k env ms = (m env ms).seq k := rfl
@[simp] theorem ev_nil : sNil env ms = .nx env ms := rfl
@[simp] theorem ev_pass : sPass env ms = .nx env ms := rfl
@[simp] theorem ev_brk : sBrk env ms = .bk env ms := rfl
@[simp] theorem ev_cnt : sCnt env ms = .ct env ms := rfl
@[simp] theorem ev_set : sSet i me env ms = T.ofE (me env ms) env fun s ms1 => .nx (env.set i (some s)) ms1 := rfl
@[simp] theorem ev_ret : sRet me env ms = T.ofE (me env ms) env .rt := rfl
@[simp] theorem ev_retN : sRetN env ms = .rt (.d .non) ms := rfl
@[simp] theorem ev_expr : sExpr me env ms = T.ofE (me env ms) env fun _ ms1 => .nx env ms1 := rfl
@[simp] theorem ev_if : sIf mc m k env ms = T.ofE (mc env ms) env fun x ms1 => if x = true then m env ms1 else k env ms1 := by
  unfold sIf
  congr 1
  funext x ms1
  cases x <;> rfl
@[simp] theorem ev_par : sPar i j mal env ms = T.ofE (mal env ms) env fun ss ms1 => match ss with
  | [x, y] => .nx ((env.set i (some x)).set j (some y)) ms1
  | _ => .bad := rfl
@[simp] theorem ev_asg {g : S → Env → Ms → Option Env} : sAsg g me env ms = T.ofE (me env ms) env fun s ms1 => match g s env ms1 with
  | some env' => .nx env' ms1
  | none => .bad := rfl
@[simp] theorem ev_var : mVar i env ms = match env[i]? with
  | some (some s) => .ok s ms
  | _ => .bad := rfl
@[simp] theorem ev_c : mC s env ms = .ok s ms := rfl
@[simp] theorem ev_op {g : S → S → Ms → R S} : mOp g ma mb env ms = (ma env ms).bind fun x ms1 => (mb env ms1).bind fun y ms2 => g x y ms2 := rfl
@[simp] theorem ev_B : mB me env ms = (me env ms).bind asB := rfl
@[simp] theorem asB_bl : asB (.d (.bl b)) ms = .ok b ms := rfl
@[simp] theorem ev_not : mNot mc env ms = (mc env ms).bind fun b ms1 => .ok (!b) ms1 := rfl
@[simp] theorem ev_and : mAnd mc md env ms = (mc env ms).bind fun b ms1 => if b = true then md env ms1 else .ok false ms1 := by
  unfold mAnd
  congr 1
  funext x ms1
  cases x <;> rfl
@[simp] theorem ev_or : mOr mc md env ms = (mc env ms).bind fun b ms1 => if b = true then .ok true ms1 else md env ms1 := by
  unfold mOr
  congr 1
  funext x ms1
  cases x <;> rfl
@[simp] theorem ev_andV : mAndV ma mb env ms = (mB ma env ms).bind fun b ms1 => if b = true then mb env ms1 else .ok (.d (.bl false)) ms1 := by
  unfold mAndV
  congr 1
  funext x ms1
  cases x <;> rfl
@[simp] theorem ev_orV : mOrV ma mb env ms = (mB ma env ms).bind fun b ms1 => if b = true then .ok (.d (.bl true)) ms1 else mb env ms1 := by
  unfold mOrV
  congr 1
  funext x ms1
  cases x <;> rfl
@[simp] theorem ev_notV : mNotV me env ms = (mB me env ms).bind fun b ms1 => .ok (.d (.bl (!b))) ms1 := rfl
@[simp] theorem ev_ite {ma mb : Env → Ms → R α} : mIf mc ma mb env ms = (mc env ms).bind fun b ms1 => if b = true then ma env ms1 else mb env ms1 := by
  unfold mIf
  congr 1
  funext x ms1
  cases x <;> rfl
@[simp] theorem ev_chain {g g' : S → S → Ms → R S} : mChain g g' ma mb mo env ms = (ma env ms).bind fun x ms1 => (mb env ms1).bind fun y ms2 => (g x y ms2).bind fun z ms3 => (asB z ms3).bind fun b ms4 => if b = true then (mo env ms4).bind fun v ms5 => g' y v ms5 else .ok (.d (.bl false)) ms4 := by
  unfold mChain
  congr 1; funext x ms1; congr 1; funext y ms2; congr 1; funext z ms3; congr 1; funext b ms4
  cases b <;> rfl
@[simp] theorem ev_aNil : aNil env ms = .ok [] ms := rfl
@[simp] theorem ev_aCons : aCons me mal env ms = (me env ms).bind fun x ms1 => (mal env ms1).bind fun xs ms2 => .ok (x :: xs) ms2 := rfl
@[simp] theorem ev_tup : mTup mal env ms = (mal env ms).bind (dispD .tup) := rfl
@[simp] theorem ev_lst : mLst mal env ms = (mal env ms).bind (dispD .lst) := rfl
@[simp] theorem ev_new : mNew mal env ms = (mal env ms).bind newL := rfl
@[simp] theorem disp_ev {f : List D → D} : dispD f ss ms = match toDs ss with
  | some ds => if few ds.length = true then .ok (.d (f ds)) ms else .bad
  | none => .bad := by
  unfold dispD
  cases toDs ss with
  | none => rfl
  | some ds => cases h : few ds.length <;> simp [h]
@[simp] theorem newL_ev : newL ss ms = match toDs ss with
  | some ds => if few ds.length = true then .ok (.loc ms.length) (ms ++ [.lst ds]) else .bad
  | none => .bad := by
  unfold newL
  cases toDs ss with
  | none => rfl
  | some ds => cases h : few ds.length <;> simp [h]
@[simp] theorem few_ev : few n = decide (n ≤ 1000000) := by
  unfold few
  by_cases h : n ≤ 1000000
  · rw [decide_eq_true h]; exact Nat.ble_eq.mpr h
  · rw [decide_eq_false h]; exact Bool.eq_false_iff.mpr fun z => h (Nat.le_of_ble_eq_true z)
@[simp] theorem toDs_nil : toDs [] = some [] := rfl
@[simp] theorem toDs_cons : toDs (.d x :: ss) = (toDs ss).map (x :: ·) := rfl
@[simp] theorem ev_callN {g : List S → Ms → R S} : mCallN g mal env ms = (mal env ms).bind g := rfl
@[simp] theorem ev_b1 {g : List S → Ms → R S} : mB1 g mal env ms = (mal env ms).bind g := rfl
@[simp] theorem ev_len : mLen n mal env ms = (mal env ms).bind (lenIs n) := rfl
@[simp] theorem lenIs_ev : lenIs n ss ms = if ss.length = n then .ok ss ms else .bad := by
  unfold lenIs
  by_cases h : ss.length = n
  · subst h; rw [Nat.beq_refl, if_pos rfl]
  · rw [if_neg h]
    cases e : Nat.beq ss.length n with
    | false => rfl
    | true => exact absurd (Nat.eq_of_beq_eq_true e) h
@[simp] theorem bnd_ev {f : List S → Ms → R S} {pk : List Nat} {cs : List S} : bndS f pk cs ss ms = callSem f (pick pk (ss ++ cs)) ms := rfl
@[simp] theorem pick_nil {α : Type} {l : List α} : pick [] l = [] := rfl
theorem pick_cons {α : Type} {l : List α} {a : α} {pk : List Nat} (h : l[i]? = some a) : pick (i :: pk) l = a :: pick pk l := by unfold pick; rw [List.filterMap_cons, h]
/-- what a call gives back to a caller that handed on data alone -/
def backD (r : R S) (ms : Ms) : R S := match r with
  | .ok (.d y) _ => .ok (.d y) ms
  | .ok (.loc j) m' => match m'[j]? with
    | some c => .ok (.loc ms.length) (ms ++ [c])
    | none => .bad
  | .ok (.exn _ _) _ => .bad
  | .ex c ds _ => .ex c ds ms
  | .bad => .bad
@[simp] theorem backD_d : backD (.ok (.d y) ms1) ms = .ok (.d y) ms := rfl
@[simp] theorem backD_new {c : Cell} {r : Ms} : backD (.ok (.loc 0) (c :: r)) ms = .ok (.loc ms.length) (ms ++ [c]) := rfl
@[simp] theorem backD_ex : backD (.ex c ds ms1) ms = .ex c ds ms := rfl
theorem call_ds {f : List S → Ms → R S} : ∀ (xs : List D) (ms : Ms), callSem f (xs.map .d) ms = backD (f (xs.map .d) []) ms := by
  intro xs ms
  have l0 : ∀ xs : List D, locsOf (xs.map S.d) = [] := fun xs => by
    induction xs with
    | nil => rfl
    | cons x xs ih => exact ih
  have nx : ∀ xs : List D, (xs.map S.d).all S.noX = true := fun xs => by
    induction xs with
    | nil => rfl
    | cons x xs ih => exact ih
  have r0 : ∀ (ls : List Nat) (xs : List D), (xs.map S.d).map (renS ls) = xs.map S.d := fun ls xs => by
    induction xs with
    | nil => rfl
    | cons x xs ih => show S.d x :: (xs.map S.d).map (renS ls) = _; rw [ih]; rfl
  unfold callSem
  rw [l0, nx]
  show callEnd [] ms (f ((xs.map S.d).map (renS [])) []) = _
  rw [r0]
  cases f (xs.map S.d) [] with
  | bad => rfl
  | ex c ds m' => rfl
  | ok s m' => cases s <;> rfl
@[simp] theorem call_d0 {f : List S → Ms → R S} : callSem f [] ms = backD (f [] []) ms := call_ds [] ms
@[simp] theorem call_d1 {f : List S → Ms → R S} : callSem f [.d x] ms = backD (f [.d x] []) ms := call_ds [x] ms
@[simp] theorem call_d2 {f : List S → Ms → R S} : callSem f [.d x, .d y] ms = backD (f [.d x, .d y] []) ms := call_ds [x, y] ms
@[simp] theorem call_d3 {f : List S → Ms → R S} : callSem f [.d x, .d y, .d z] ms = backD (f [.d x, .d y, .d z] []) ms := call_ds [x, y, z] ms
@[simp] theorem call_d4 {f : List S → Ms → R S} : callSem f [.d x, .d y, .d z, .d d] ms = backD (f [.d x, .d y, .d z, .d d] []) ms := call_ds [x, y, z, d] ms
/-- .. one cell first, then data -/
def backL (n : Nat) (r : R S) (ms : Ms) : R S := match r with
  | .ok (.d y) m' => .ok (.d y) (wb [n] m' ms)
  | .ok (.loc 0) m' => .ok (.loc n) (wb [n] m' ms)
  | .ok (.loc (j + 1)) m' => match m'[j + 1]? with
    | some c => .ok (.loc ms.length) (wb [n] m' ms ++ [c])
    | none => .bad
  | .ok (.exn _ _) _ => .bad
  | .ex c ds m' => .ex c ds (wb [n] m' ms)
  | .bad => .bad
@[simp] theorem backL_d {c : Cell} : backL n (.ok (.d y) [c]) ms = .ok (.d y) (ms.set n c) := rfl
@[simp] theorem backL_ds {c : Cell} {r : Ms} : backL n (.ok (.d y) (c :: r)) ms = .ok (.d y) (ms.set n c) := rfl
@[simp] theorem backL_exs {c' : Cell} {r : Ms} : backL n (.ex c ds (c' :: r)) ms = .ex c ds (ms.set n c') := rfl
@[simp] theorem backL_ex {c' : Cell} : backL n (.ex c ds [c']) ms = .ex c ds (ms.set n c') := rfl
theorem call_lds {f : List S → Ms → R S} (n : Nat) (xs : List D) (ms : Ms) : callSem f (.loc n :: xs.map .d) ms = backL n (f (.loc 0 :: xs.map .d) [getC ms n]) ms := by
  have l0 : ∀ xs : List D, locsOf (xs.map S.d) = [] := fun xs => by
    induction xs with
    | nil => rfl
    | cons x xs ih => exact ih
  have nx : ∀ xs : List D, (xs.map S.d).all S.noX = true := fun xs => by
    induction xs with
    | nil => rfl
    | cons x xs ih => exact ih
  have r0 : ∀ (ls : List Nat) (xs : List D), (xs.map S.d).map (renS ls) = xs.map S.d := fun ls xs => by
    induction xs with
    | nil => rfl
    | cons x xs ih => show S.d x :: (xs.map S.d).map (renS ls) = _; rw [ih]; rfl
  have l1 : locsOf (.loc n :: xs.map .d) = [n] := by show n :: locsOf (xs.map S.d) = [n]; rw [l0]
  unfold callSem
  rw [l1]
  have : ((S.loc n :: xs.map .d).all S.noX && nodupB [n]) = true := by
    show ((true && (xs.map S.d).all S.noX) && nodupB [n]) = true
    rw [nx]; rfl
  rw [this]
  have e2 : (S.loc n :: xs.map .d).map (renS [n]) = .loc 0 :: xs.map .d := by
    show renS [n] (.loc n) :: (xs.map S.d).map (renS [n]) = _
    rw [r0]
    show S.loc ([n].idxOf n) :: _ = _
    simp
  show callEnd [n] ms (f ((S.loc n :: xs.map .d).map (renS [n])) ([n].map (getC ms))) = _
  rw [e2]
  show callEnd [n] ms (f (.loc 0 :: xs.map .d) [getC ms n]) = _
  cases f (.loc 0 :: xs.map S.d) [getC ms n] with
  | bad => rfl
  | ex c ds m' => rfl
  | ok s m' =>
    cases s with
    | d y => rfl
    | exn c ds => rfl
    | loc j => cases j <;> rfl
@[simp] theorem call_l0 {f : List S → Ms → R S} : callSem f [.loc n] ms = backL n (f [.loc 0] [getC ms n]) ms := call_lds n [] ms
@[simp] theorem call_l1 {f : List S → Ms → R S} : callSem f [.loc n, .d x] ms = backL n (f [.loc 0, .d x] [getC ms n]) ms := call_lds n [x] ms
@[simp] theorem call_l2 {f : List S → Ms → R S} : callSem f [.loc n, .d x, .d y] ms = backL n (f [.loc 0, .d x, .d y] [getC ms n]) ms := call_lds n [x, y] ms
@[simp] theorem call_l3 {f : List S → Ms → R S} : callSem f [.loc n, .d x, .d y, .d z] ms = backL n (f [.loc 0, .d x, .d y, .d z] [getC ms n]) ms := call_lds n [x, y, z] ms
@[simp] theorem getC_ev : getC ms n = match ms[n]? with
  | some c => c
  | none => .dead := rfl
def T.fin (t : T) : R S := match t with
  | .nx _ ms' => .ok (.d .non) ms'
  | .rt s ms' => endS s ms'
  | .ex c ds _ ms' => .ex c ds ms'
  | _ => .bad
@[simp] theorem fin_nx : T.fin (.nx env ms) = .ok (.d .non) ms := rfl
@[simp] theorem fin_rt : T.fin (.rt (.d x) ms) = .ok (.d x) ms := rfl
@[simp] theorem fin_rtl : T.fin (.rt (.loc n) ms) = .ok (.loc n) ms := rfl
@[simp] theorem fin_ex : T.fin (.ex c ds env ms) = .ex c ds ms := rfl
theorem fn_ev {m : Env → Ms → T} : fnSem n m ss ms = T.fin (m (start0 n ss) ms) := by
  unfold fnSem T.fin
  cases m (start0 n ss) ms <;> rfl
section
variable {p : Prop} [Decidable p]
@[simp] theorem bind_ite {f : α → Ms → R β} {a b : R α} : (if p then a else b).bind f = if p then a.bind f else b.bind f := by split <;> rfl
@[simp] theorem ofE_ite {f : α → Ms → T} {a b : R α} : T.ofE (if p then a else b) env f = if p then T.ofE a env f else T.ofE b env f := by split <;> rfl
@[simp] theorem seq_ite {a b : T} : (if p then a else b).seq k = if p then a.seq k else b.seq k := by split <;> rfl
@[simp] theorem fin_ite {a b : T} : (if p then a else b).fin = if p then a.fin else b.fin := by split <;> rfl
@[simp] theorem backD_ite {a b : R S} : backD (if p then a else b) ms = if p then backD a ms else backD b ms := by split <;> rfl
@[simp] theorem backL_ite {a b : R S} : backL n (if p then a else b) ms = if p then backL n a ms else backL n b ms := by split <;> rfl
end
/-! data -/
@[simp] theorem view_d : view (.d x) ms = some x := rfl
@[simp] theorem gSet_ev {t : S} : gSet i t env ms = some (env.set i (some t)) := rfl
@[simp] theorem addII {a b : Int} : gAdd (.d (.int a)) (.d (.int b)) ms = .ok (.d (.int (a + b))) ms := rfl
@[simp] theorem subII {a b : Int} : gSubI (.d (.int a)) (.d (.int b)) ms = .ok (.d (.int (a - b))) ms := rfl
@[simp] theorem ltII {a b : Int} : gLt (.d (.int a)) (.d (.int b)) ms = .ok (.d (.bl (decide (a < b)))) ms := rfl
@[simp] theorem leII {a b : Int} : gLe (.d (.int a)) (.d (.int b)) ms = .ok (.d (.bl (decide (a ≤ b)))) ms := rfl
@[simp] theorem gtII {a b : Int} : gGt (.d (.int a)) (.d (.int b)) ms = .ok (.d (.bl (decide (b < a)))) ms := rfl
@[simp] theorem geII {a b : Int} : gGe (.d (.int a)) (.d (.int b)) ms = .ok (.d (.bl (decide (b ≤ a)))) ms := rfl
theorem addSS {a b : Str} (h : a.length + b.length ≤ 1000000) : gAdd (.d (.str a)) (.d (.str b)) ms = .ok (.d (.str (a ++ b))) ms := by
  have e : gAddS (.d (.str a)) (.d (.str b)) ms = .ok (.d (.str (a ++ b))) ms := by
    unfold gAddS
    simp [h]
  unfold gAdd gOr
  rw [show gAddI (.d (.str a)) (.d (.str b)) ms = .bad from rfl]
  simp only [e]
@[simp] theorem eqSS {neg : Bool} {a b : Str} : gEq neg (.d (.str a)) (.d (.str b)) ms = .ok (.d (.bl (if neg = true then a != b else a == b))) ms := rfl
@[simp] theorem eqII {neg : Bool} {a b : Int} : gEq neg (.d (.int a)) (.d (.int b)) ms = .ok (.d (.bl (if neg = true then decide (a ≠ b) else decide (a = b)))) ms := by
  have e : PyData.eqv (.int a) (.int b) = decide (a = b) := by first | rfl | (unfold PyData.eqv; rfl) | (simp [PyData.eqv])
  show R.ok (S.d (D.bl (if neg = true then !PyData.eqv (.int a) (.int b) else PyData.eqv (.int a) (.int b)))) ms = _
  rw [e]
  cases neg <;> simp
@[simp] theorem isN_non {neg : Bool} : gIsN neg (.d .non) (.d .non) ms = .ok (.d (.bl (!neg))) ms := rfl
@[simp] theorem isN_int {neg : Bool} {a : Int} : gIsN neg (.d (.int a)) (.d .non) ms = .ok (.d (.bl neg)) ms := rfl
@[simp] theorem isN_str {neg : Bool} {a : Str} : gIsN neg (.d (.str a)) (.d .non) ms = .ok (.d (.bl neg)) ms := rfl
@[simp] theorem isN_tup {neg : Bool} {a : List D} : gIsN neg (.d (.tup a)) (.d .non) ms = .ok (.d (.bl neg)) ms := rfl
@[simp] theorem isN_obj {neg : Bool} {a : List D} : gIsN neg (.d (.obj c a)) (.d .non) ms = .ok (.d (.bl neg)) ms := rfl
@[simp] theorem len_lst {l : List D} : c1 lenD [.d (.lst l)] ms = .ok (.d (.int l.length)) ms := rfl
@[simp] theorem len_frz {l : List D} : c1 lenD [.d (.frz l)] ms = .ok (.d (.int l.length)) ms := rfl
@[simp] theorem len_tup {l : List D} : c1 lenD [.d (.tup l)] ms = .ok (.d (.int l.length)) ms := rfl
theorem len_str {a : Str} (h : a.length ≤ 1000000) : c1 lenD [.d (.str a)] ms = .ok (.d (.int a.length)) ms := by
  unfold c1 lenD
  simp [h]
@[simp] theorem gIxl {l : List D} {r : Int} : gIx (.d (.lst l)) (.d (.int r)) ms = match L2.atI l r with
  | some d => .ok (.d d) ms
  | none => .bad := rfl
@[simp] theorem gIxt {l : List D} {r : Int} : gIx (.d (.tup l)) (.d (.int r)) ms = match L2.atI l r with
  | some d => .ok (.d d) ms
  | none => .bad := rfl
@[simp] theorem cSeq_l {f : List D → Option D} {l : List D} : cSeq f [.d (.lst l)] ms = match f l with
  | some d => .ok (.d d) ms
  | none => .bad := rfl
@[simp] theorem allD_bl {l : List Bool} : allD (l.map .bl) = some (.bl (l.all id)) := by unfold allD; rw [ofBls_map]; rfl
@[simp] theorem anyD_bl {l : List Bool} : anyD (l.map .bl) = some (.bl (l.any id)) := by unfold anyD; rw [ofBls_map]; rfl
@[simp] theorem sumD_int {l : List Int} : sumD (l.map .int) = some (.int l.sum) := by unfold sumD; rw [ofInts_map]; rfl
@[simp] theorem allD_f {α : Type} {f : α → Bool} {l : List α} : allD (l.map fun x => .bl (f x)) = some (.bl (l.all f)) := by
  rw [show (l.map fun x => D.bl (f x)) = (l.map f).map .bl by rw [List.map_map]; rfl, allD_bl, List.all_map]; rfl
@[simp] theorem allD_c {α : Type} {f : α → Bool} {l : List α} : allD (l.map (D.bl ∘ f)) = some (.bl (l.all f)) := allD_f
@[simp] theorem anyD_f {α : Type} {f : α → Bool} {l : List α} : anyD (l.map fun x => .bl (f x)) = some (.bl (l.any f)) := by
  rw [show (l.map fun x => D.bl (f x)) = (l.map f).map .bl by rw [List.map_map]; rfl, anyD_bl, List.any_map]; rfl
@[simp] theorem anyD_c {α : Type} {f : α → Bool} {l : List α} : anyD (l.map (D.bl ∘ f)) = some (.bl (l.any f)) := anyD_f
theorem gIxs {z : Str} {r : Int} (h : z.length ≤ 1000000) : gIx (.d (.str z)) (.d (.int r)) ms = match L2.atI z.cps.toList r with
  | some c => .ok (.d (.str ⟨#[c]⟩)) ms
  | none => .bad := by
  show (match (match few z.length with
    | true => (L2.atI z.cps.toList r).map fun c => D.str ⟨#[c]⟩
    | false => none) with
    | some d => R.ok (S.d d) ms
    | none => .bad) = _
  rw [few_ev, decide_eq_true h]
  cases L2.atI z.cps.toList r <;> rfl
/-- the text of an int -/
def itx (a : Int) : Str := Str.ofString (toString a)
theorem itx_len {a : Int} (h : a.natAbs < 10 ^ 31) : (itx a).length ≤ 32 := by
  have := PySem.int_text_length_le10 (k := 31) (by decide) h
  unfold itx
  rw [PySem.ofString_length]
  exact this
theorem showI_sm {a : Int} (h : a.natAbs < 10 ^ 31) : showI a = true := by
  unfold showI
  rw [decide_eq_true_eq]
  exact Nat.lt_of_lt_of_le h (Nat.le_trans (by decide : 10 ^ 31 ≤ 2 ^ 104) (Nat.pow_le_pow_right (by decide) (by decide)))
theorem str_int {a : Int} (h : a.natAbs < 10 ^ 31) : c1 strD [.d (.int a)] ms = .ok (.d (.str (itx a))) ms := by
  show (match (match showI a with
    | true => some (D.str (itx a))
    | false => none) with
    | some d => R.ok (S.d d) ms
    | none => .bad) = _
  rw [showI_sm h]
@[simp] theorem str_obj : c1 strD [.d (.obj c ds)] ms = .bad := rfl
@[simp] theorem repr_obj : c1 reprD [.d (.obj c ds)] ms = .bad := rfl
theorem cOr_r {g g' : List S → Ms → R S} (h : g ss ms = .bad) : cOr g g' ss ms = g' ss ms := by unfold cOr; rw [h]
theorem cOr_l {g g' : List S → Ms → R S} (h : g ss ms = .ok s ms1) : cOr g g' ss ms = .ok s ms1 := by unfold cOr; rw [h]
@[simp] theorem strOwn {tab : MTab} : cOr (c1 strD) (cOwn tab) [.d (.obj c ds)] ms = cOwn tab [.d (.obj c ds)] ms := cOr_r rfl
@[simp] theorem reprOwn {tab : MTab} : cOr (c1 reprD) (cOwn tab) [.d (.obj c ds)] ms = cOwn tab [.d (.obj c ds)] ms := cOr_r rfl
@[simp] theorem str_str {a : Str} : c1 strD [.d (.str a)] ms = .ok (.d (.str a)) ms := rfl
theorem fmt_int {a : Int} (h : a.natAbs < 10 ^ 31) : fmtS (.d (.int a)) ms = .ok (.d (.str (itx a))) ms := by
  show (match showI a with
    | true => R.ok (S.d (.str (itx a))) ms
    | false => .bad) = _
  rw [showI_sm h]
theorem fmt_str {a : Str} (h : a.length ≤ 1000000) : fmtS (.d (.str a)) ms = .ok (.d (.str a)) ms := by
  show (match few a.length with
    | true => R.ok (S.d (.str a)) ms
    | false => .bad) = _
  rw [few_ev, decide_eq_true h]
@[simp] theorem ev_fmt : mFmt me env ms = (me env ms).bind fmtS := rfl
def jsK (r : List (Env → Ms → R S)) (acc : Str) (env : Env) (s : S) (ms1 : Ms) : R S := match s with
  | .d (.str y) => match few (acc ++ y).length with
    | true => mJs r (acc ++ y) env ms1
    | false => .bad
  | _ => .bad
@[simp] theorem ev_js0 {acc : Str} : mJs [] acc env ms = .ok (.d (.str acc)) ms := rfl
@[simp] theorem ev_js {acc : Str} {r : List (Env → Ms → R S)} : mJs (me :: r) acc env ms = (me env ms).bind fun s ms1 => jsK r acc env s ms1 := rfl
theorem jsK_str {acc y : Str} {r : List (Env → Ms → R S)} (h : (acc ++ y).length ≤ 1000000) : jsK r acc env (.d (.str y)) ms = mJs r (acc ++ y) env ms := by
  show (match few (acc ++ y).length with
    | true => mJs r (acc ++ y) env ms
    | false => .bad) = _
  rw [few_ev, decide_eq_true h]
@[simp] theorem empty_app {a : Str} : Str.empty ++ a = a := by
  show (⟨#[] ++ a.cps⟩ : Str) = a
  rw [Array.empty_append]
/-! walks -/
@[simp] theorem ev_forL_nil {g : S → Env → Ms → Option Env} : forL none g m [] env ms = .nx env ms := rfl
theorem ev_for {mi : MI} {g : S → Env → Ms → Option Env} : sFor mi g m env ms = T.ofE (mi env ms) env fun xk ms1 => forL xk.2 g m xk.1 env ms1 := rfl
@[simp] theorem itL {l : List D} {mo : Env → Ms → R S} (h : mo env ms = .ok (.d (.lst l)) ms1) : iSeq mo env ms = .ok (l.map S.d, none) ms1 := by
  unfold iSeq iOr iList itD
  rw [h]; rfl
@[simp] theorem itT_ {l : List D} {mo : Env → Ms → R S} (h : mo env ms = .ok (.d (.tup l)) ms1) : iSeq mo env ms = .ok (l.map S.d, none) ms1 := by
  unfold iSeq iOr iList iTup itD itT
  rw [h]; rfl
@[simp] theorem itS_ {z : Str} {mo : Env → Ms → R S} (h : mo env ms = .ok (.d (.str z)) ms1) : iSeq mo env ms = .ok ((signs z).map S.d, none) ms1 := by
  unfold iSeq iOr iList iTup iTxt itD itT itS
  rw [h]; rfl
/-- a comprehension that reads only -/
theorem comp_map {g : S → Env → Ms → Option Env} {tt : Env → Ms → R Bool} {elt : Env → Ms → R S} {vs : List Nat} {env : Env} {ms : Ms} (p : D → Bool) (h : D → D) : ∀ (xs : List D) (acc : List D),
    (∀ x ∈ xs, ∃ e1, g (.d x) (wipeE env vs) ms = some e1 ∧ tt e1 ms = .ok (p x) ms ∧ (p x = true → elt e1 ms = .ok (.d (h x)) ms)) → acc.length + xs.length ≤ 1000000 →
    compL none g tt elt vs env (xs.map S.d) acc ms = .ok (acc ++ (xs.filter p).map h) ms
  | [], acc, _, _ => by simp [compL, chk]
  | x :: xs, acc, hx, hl => by
    obtain ⟨e1, h1, h2, h3⟩ := hx x List.mem_cons_self
    have ih := fun acc' => comp_map (g := g) (tt := tt) (elt := elt) (vs := vs) (env := env) (ms := ms) p h xs acc' (fun y hy => hx y (List.mem_cons_of_mem _ hy))
    simp only [List.map_cons, compL, chk, h1, h2, bind_ok]
    have hl' : acc.length + xs.length + 1 ≤ 1000000 := by simpa [Nat.add_assoc] using hl
    cases hp : p x with
    | false =>
      simp only [List.filter_cons, hp]
      exact ih acc (by omega)
    | true =>
      have f : few acc.length = true := by rw [few_ev, decide_eq_true]; omega
      simp only [h3 hp, bind_ok, f]
      rw [ih (acc ++ [h x]) (by simp; omega)]
      simp [List.filter_cons, hp]
theorem lc_map {mi : MI} {g : S → Env → Ms → Option Env} {tt : Env → Ms → R Bool} {elt : Env → Ms → R S} {vs : List Nat} {env : Env} {ms : Ms} {xs : List D} (p : D → Bool) (h : D → D) (hi : mi env ms = .ok (xs.map S.d, none) ms)
    (hx : ∀ x ∈ xs, ∃ e1, g (.d x) (wipeE env vs) ms = some e1 ∧ tt e1 ms = .ok (p x) ms ∧ (p x = true → elt e1 ms = .ok (.d (h x)) ms)) (hl : xs.length ≤ 1000000) :
    mLc false mi g tt elt vs env ms = .ok (.d (.lst ((xs.filter p).map h))) ms := by
  unfold mLc
  rw [hi]
  simp only [bind_ok]
  rw [comp_map p h xs [] hx (by simpa using hl)]
  rfl
/-- a comprehension with a state -/
theorem comp_inv (P : Ms → Prop) (Q : D → Prop) {g : S → Env → Ms → Option Env} {tt : Env → Ms → R Bool} {elt : Env → Ms → R S} {vs : List Nat} {env : Env} : ∀ (xs : List S) (acc : List D) (ms : Ms), P ms →
    (∀ x ∈ xs, ∀ ms, P ms → ∃ e1 d ms', g x (wipeE env vs) ms = some e1 ∧ tt e1 ms = .ok true ms ∧ elt e1 ms = .ok (.d d) ms' ∧ Q d ∧ P ms') → acc.length + xs.length ≤ 1000000 →
    ∃ ds ms', compL none g tt elt vs env xs acc ms = .ok (acc ++ ds) ms' ∧ ds.length = xs.length ∧ (∀ d ∈ ds, Q d) ∧ P ms'
  | [], acc, ms, p, _, _ => ⟨[], ms, by simp [compL, chk], rfl, (fun _ h => nomatch h), p⟩
  | x :: xs, acc, ms, p, hx, hl => by
    obtain ⟨e1, d, ms', h1, h2, h3, h4, h5⟩ := hx x List.mem_cons_self ms p
    simp only [List.length_cons] at hl
    obtain ⟨ds, ms2, k1, k2, k3, k4⟩ := comp_inv P Q (g := g) (tt := tt) (elt := elt) (vs := vs) (env := env) xs (acc ++ [d]) ms' h5 (fun y hy => hx y (List.mem_cons_of_mem _ hy)) (by simp; omega)
    refine ⟨d :: ds, ms2, ?_, by simp [k2], fun y hy => ?_, k4⟩
    · have f : few acc.length = true := by rw [few_ev, decide_eq_true]; omega
      simp only [compL, chk, h1, h2, h3, bind_ok, f]
      rw [k1]; simp
    · rcases List.mem_cons.mp hy with rfl | hy
      · exact h4
      · exact k3 y hy
theorem lc_inv (P : Ms → Prop) (Q : D → Prop) {mi : MI} {g : S → Env → Ms → Option Env} {tt : Env → Ms → R Bool} {elt : Env → Ms → R S} {vs : List Nat} {env : Env} {ms ms1 : Ms} {xs : List S} (hi : mi env ms = .ok (xs, none) ms1) (p : P ms1)
    (hx : ∀ x ∈ xs, ∀ ms, P ms → ∃ e1 d ms', g x (wipeE env vs) ms = some e1 ∧ tt e1 ms = .ok true ms ∧ elt e1 ms = .ok (.d d) ms' ∧ Q d ∧ P ms') (hl : xs.length ≤ 1000000) :
    ∃ ds ms', mLc false mi g tt elt vs env ms = .ok (.d (.lst ds)) ms' ∧ mLc true mi g tt elt vs env ms = .ok (.loc ms'.length) (ms' ++ [.lst ds]) ∧ ds.length = xs.length ∧ (∀ d ∈ ds, Q d) ∧ P ms' := by
  obtain ⟨ds, ms', k1, k2, k3, k4⟩ := comp_inv P Q (g := g) (tt := tt) (elt := elt) (vs := vs) (env := env) xs [] ms1 p hx (by simpa using hl)
  refine ⟨ds, ms', ?_, ?_, k2, k3, k4⟩
  · unfold mLc
    rw [hi]
    simp only [bind_ok]
    rw [k1]; rfl
  · unfold mLc
    rw [hi]
    simp only [bind_ok]
    rw [k1]; rfl
@[simp] theorem ev_rng1 : Fw.iRng1 mal env ms = (mal env ms).bind itR1 := rfl
@[simp] theorem ev_rng2 : Fw.iRng2 mal env ms = (mal env ms).bind itR2 := rfl
theorem itR1_ev {j : Int} (h0 : 0 ≤ j) (h : j ≤ 1000000) : itR1 [.d (.int j)] ms = .ok (rngS 0 j.toNat, none) ms := by
  unfold itR1
  have : Fw.inR j = true := by unfold Fw.inR; rw [decide_eq_true_eq]; omega
  simp [this]
theorem itR2_ev {i j : Int} (h0 : -1000000 ≤ i) (h1 : i ≤ 1000000) (h2 : -1000000 ≤ j) (h3 : j ≤ 1000000) : itR2 [.d (.int i), .d (.int j)] ms = .ok (rngS i (j - i).toNat, none) ms := by
  unfold itR2
  have e1 : Fw.inR i = true := by unfold Fw.inR; rw [decide_eq_true_eq]; omega
  have e2 : Fw.inR j = true := by unfold Fw.inR; rw [decide_eq_true_eq]; omega
  simp [e1, e2]
theorem mem_rng {lo : Int} {n : Nat} {x : S} (h : x ∈ rngS lo n) : ∃ i : Nat, i < n ∧ x = .d (.int (lo + i)) := by
  unfold rngS at h
  obtain ⟨i, hi, rfl⟩ := List.mem_map.mp h
  exact ⟨i, List.mem_range.mp hi, rfl⟩
@[simp] theorem rng_len {lo : Int} {n : Nat} : (rngS lo n).length = n := by simp [rngS]
@[simp] theorem atI_zero {α : Type} {x : α} {l : List α} : L2.atI (x :: l) 0 = some x := by
  unfold L2.atI L2.ixN
  simp
@[simp] theorem ixN_zero {n : Nat} : L2.ixN (n + 1) 0 = some 0 := by unfold L2.ixN; simp
@[simp] theorem gIx_loc {r : Int} : gIx (.loc n) (.d (.int r)) ms = match ms[n]? with
  | some (.lst l) => (match L2.atI l r with
    | some d => .ok (.d d) ms
    | none => .bad)
  | _ => .bad := by
  have e : view (.loc n) ms = match ms[n]? with
      | some (.lst ds) => some (.lst ds)
      | _ => none := rfl
  unfold gIx
  dsimp only
  rw [e]
  cases ms[n]? with
  | none => rfl
  | some c => cases c <;> rfl
@[simp] theorem ev_sub : sSub me mo ma env ms = T.ofE (me env ms) env fun y ms1 => T.ofE (mo env ms1) env fun x ms2 => T.ofE (ma env ms2) env fun i ms3 => match x, y, i with
  | .loc n, .d v, .d (.int i) => match ms3[n]? with
    | some (.lst ds) => match L2.ixN ds.length i with
      | some j => .nx env (ms3.set n (.lst (ds.set j v)))
      | none => .bad
    | _ => .bad
  | _, _, _ => .bad := rfl
@[simp] theorem ev_bm {b : BT} {g : S → List S → Ms → R S} : mBM b g mo mal env ms = (mo env ms).bind fun x ms1 => if tyS b x ms1 = true then (mal env ms1).bind fun xs ms2 => g x xs ms2 else .bad := by
  unfold mBM
  congr 1; funext x ms1
  cases tyS b x ms1 <;> rfl
@[simp] theorem tyS_str {z : Str} : tyS .str (.d (.str z)) ms = true := rfl
@[simp] theorem tyS_lst {l : List D} : tyS .list (.d (.lst l)) ms = true := rfl
@[simp] theorem tyS_loc : tyS .list (.loc n) ms = match ms[n]? with
  | some (.lst _) => true
  | _ => false := rfl
/-- it goes on, and then P -/
def Nx (t : T) (P : Env → Ms → Prop) : Prop := ∃ e m, t = .nx e m ∧ P e m
theorem Nx_nx {P : Env → Ms → Prop} (h : P env ms) : Nx (.nx env ms) P := ⟨env, ms, rfl, h⟩
theorem Nx_mono {t : T} {P Q : Env → Ms → Prop} (h : Nx t P) (hq : ∀ e m, P e m → Q e m) : Nx t Q := let ⟨e, m, h1, h2⟩ := h; ⟨e, m, h1, hq e m h2⟩
theorem Nx_seq {t : T} {P1 P : Env → Ms → Prop} (h : Nx t P1) (h2 : ∀ e m, P1 e m → Nx (k e m) P) : Nx (t.seq k) P := by
  obtain ⟨e, m, rfl, p⟩ := h
  exact h2 e m p
theorem Nx_for {mi : MI} {g : S → Env → Ms → Option Env} {body : Env → Ms → T} {P : Env → Ms → Prop} {xs : List S} (hi : mi env ms = .ok (xs, none) ms1) (h0 : P env ms1) (h : ∀ x ∈ xs, ∀ e m, P e m → ∃ e1, g x e m = some e1 ∧ Nx (body e1 m) P) : Nx (sFor mi g body env ms) P := by
  obtain ⟨e2, m2, h1, h2⟩ := forL_inv (g := g) (m := body) P (xs := xs) (fun x hx e m p => by
    obtain ⟨e1, h1, e2, m2, h3, h4⟩ := h x hx e m p
    exact ⟨e1, e2, m2, h1, h3, h4⟩) h0
  exact ⟨e2, m2, by rw [for_ok hi]; exact h1, h2⟩
theorem forL_idx {g : S → Env → Ms → Option Env} {body : Env → Ms → T} (P : Nat → Env → Ms → Prop) : ∀ (xs : List S) (i : Nat) (env : Env) (ms : Ms), P i env ms → (∀ j x, xs[j]? = some x → ∀ e m, P (i + j) e m → ∃ e1, g x e m = some e1 ∧ Nx (body e1 m) (P (i + j + 1))) → Nx (forL none g body xs env ms) (P (i + xs.length))
  | [], i, env, ms, p, _ => ⟨env, ms, rfl, p⟩
  | x :: xs, i, env, ms, p, h => by
    obtain ⟨e1, h1, e2, m2, h2, p2⟩ := h 0 x rfl env ms p
    have := forL_idx P xs (i + 1) e2 m2 p2 (fun j y hy e m pe => by
      have := h (j + 1) y (by simpa using hy) e m (by rw [show i + (j + 1) = i + 1 + j by omega]; exact pe)
      rw [show i + (j + 1) + 1 = i + 1 + j + 1 by omega] at this
      exact this)
    rw [show i + 1 + xs.length = i + (x :: xs).length by simp; omega] at this
    obtain ⟨e3, m3, h3, p3⟩ := this
    exact ⟨e3, m3, by rw [forL_cons h1, h2]; exact h3, p3⟩
theorem Nx_forI {mi : MI} {g : S → Env → Ms → Option Env} {body : Env → Ms → T} {P : Nat → Env → Ms → Prop} {xs : List S} (hi : mi env ms = .ok (xs, none) ms1) (h0 : P 0 env ms1) (h : ∀ j x, xs[j]? = some x → ∀ e m, P j e m → ∃ e1, g x e m = some e1 ∧ Nx (body e1 m) (P (j + 1))) : Nx (sFor mi g body env ms) (P xs.length) := by
  obtain ⟨e2, m2, h1, h2⟩ := forL_idx (g := g) (body := body) P xs 0 env ms1 h0 (fun j x hx e m pe => by
    have := h j x hx e m (by simpa using pe)
    simpa using this)
  exact ⟨e2, m2, by rw [for_ok hi]; exact h1, by simpa using h2⟩
theorem fin_seq {t : T} {P : Env → Ms → Prop} {v : S} (h : Nx t P) (h2 : ∀ e m, P e m → ∃ ms', (k e m).fin = .ok v ms') : ∃ ms', (t.seq k).fin = .ok v ms' := by
  obtain ⟨e, m, rfl, p⟩ := h
  exact h2 e m p
@[simp] theorem maxI_ev {a b : Int} : c2 maxI [.d (.int a), .d (.int b)] ms = .ok (.d (.int (max a b))) ms := by
  show R.ok (S.d (.int (if b > a then b else a))) ms = _
  congr 3
  split <;> omega
@[simp] theorem minI_ev {a b : Int} : c2 minI [.d (.int a), .d (.int b)] ms = .ok (.d (.int (min a b))) ms := by
  show R.ok (S.d (.int (if b < a then b else a))) ms = _
  congr 3
  split <;> omega
/-- one of a list -/
theorem atI_mem {l : List D} {r : Int} (h0 : 0 ≤ r) (h1 : r < l.length) : ∃ v, L2.atI l r = some v ∧ v ∈ l := by
  have hr : r.toNat < l.length := by omega
  refine ⟨l[r.toNat], ?_, List.getElem_mem hr⟩
  unfold L2.atI L2.ixN
  rw [if_pos h0, if_pos h1]
  simp [hr]
/-- a class called -/
@[simp] theorem getC_last {ms : Ms} {c : Cell} : getC (ms ++ [c]) ms.length = c := by simp
@[simp] theorem set_last {ms : Ms} {c c' : Cell} : (ms ++ [c]).set ms.length c' = ms ++ [c'] := by simp
theorem mk_ok {c : Nat} {fs : List Str} {f : List S → Ms → R S} {pk : List Nat} {ss : List S} {xs : List D} {ms : Ms} {kvs : List (Str × D)} (hp : pick pk (.loc ms.length :: ss ++ []) = .loc ms.length :: xs.map .d)
    (h : f (.loc 0 :: xs.map .d) [.ins c []] = .ok (.d .non) [.ins c kvs]) (hk : kvs.map (·.1) = fs) : mkS c fs (bndS f pk []) ss ms = .ok (.d (.obj c (kvs.map (·.2)))) ms := by
  have e : bndS f pk [] (.loc ms.length :: ss) (ms ++ [.ins c []]) = .ok (.d .non) (ms ++ [.ins c kvs]) := by
    show callSem f (pick pk (.loc ms.length :: ss ++ [])) (ms ++ [.ins c []]) = _
    rw [hp, call_lds, getC_last, h, backL_d, set_last]
  unfold mkS
  rw [e]
  have e1 : Nat.beq (ms ++ [Cell.ins c kvs]).length (ms.length + 1) = true := by rw [List.length_append]; exact Nat.beq_refl _
  have e2 : (ms ++ [Cell.ins c kvs])[ms.length]? = some (.ins c kvs) := by simp
  dsimp only
  rw [e1, e2]
  dsimp only
  rw [Nat.beq_refl, decide_eq_true hk, List.dropLast_concat]; rfl
theorem mk_ex {c k : Nat} {fs : List Str} {f : List S → Ms → R S} {pk : List Nat} {ss : List S} {xs : List D} {ms : Ms} {c' : Cell} {es : List D} (hp : pick pk (.loc ms.length :: ss ++ []) = .loc ms.length :: xs.map .d)
    (h : f (.loc 0 :: xs.map .d) [.ins c []] = .ex k es [c']) : mkS c fs (bndS f pk []) ss ms = .ex k es ms := by
  have e : bndS f pk [] (.loc ms.length :: ss) (ms ++ [.ins c []]) = .ex k es (ms ++ [c']) := by
    show callSem f (pick pk (.loc ms.length :: ss ++ [])) (ms ++ [.ins c []]) = _
    rw [hp, call_lds, getC_last, h, backL_ex, set_last]
  unfold mkS
  rw [e]
  have e1 : Nat.beq (ms ++ [c']).length (ms.length + 1) = true := by rw [List.length_append]; exact Nat.beq_refl _
  dsimp only
  rw [e1, List.dropLast_concat]
theorem lc_all {mi : MI} {g : S → Env → Ms → Option Env} {tt : Env → Ms → R Bool} {elt : Env → Ms → R S} {vs : List Nat} {env : Env} {ms : Ms} {xs : List D} (h : D → D) (hi : mi env ms = .ok (xs.map S.d, none) ms)
    (hx : ∀ x ∈ xs, ∃ e1, g (.d x) (wipeE env vs) ms = some e1 ∧ tt e1 ms = .ok true ms ∧ elt e1 ms = .ok (.d (h x)) ms) (hl : xs.length ≤ 1000000) :
    mLc false mi g tt elt vs env ms = .ok (.d (.lst (xs.map h))) ms := by
  rw [lc_map (fun _ => true) h hi (fun x hx' => let ⟨e1, h1, h2, h3⟩ := hx x hx'; ⟨e1, h1, h2, fun _ => h3⟩) hl, List.filter_eq_self.mpr fun _ _ => rfl]
end
end Fw
set_option Elab.async false
set_option linter.all false
set_option maxRecDepth 100000
set_option maxHeartbeats 1000000
/-! Tx0: texts: digits, cuts (plain Lean). -/
namespace Fw
open PySem L2
def isDig (c : Nat) : Bool := decide (48 ≤ c) && decide (c ≤ 57)
/-- the signs of a number without a needless zero, at most nine -/
def numB (l : List Nat) : Bool := decide (0 < l.length) && (decide (l.length ≤ 9) && (l.all isDig && !(decide (l[0]? = some 48) && decide (1 < l.length))))
def numO (z : Str) : D := if numB (TL.tl z) = true then .int (NumText.digitsVal (TL.tl z)) else .non
theorem digits10 : TL.tl (Str.ofString "0123456789") = [48, 49, 50, 51, 52, 53, 54, 55, 56, 57] := by decide +kernel
theorem mem_digits (c : Nat) : decide (c ∈ TL.tl (Str.ofString "0123456789")) = isDig c := by
  rw [digits10]
  unfold isDig
  by_cases h : 48 ≤ c ∧ c ≤ 57
  · rw [decide_eq_true h.1, decide_eq_true h.2]
    have : c ∈ [48, 49, 50, 51, 52, 53, 54, 55, 56, 57] := by
      simp only [List.mem_cons, List.not_mem_nil, or_false]; omega
    rw [decide_eq_true this]; rfl
  · have : ¬ c ∈ [48, 49, 50, 51, 52, 53, 54, 55, 56, 57] := by
      simp only [List.mem_cons, List.not_mem_nil, or_false]; omega
    rw [decide_eq_false this]
    by_cases h1 : 48 ≤ c
    · rw [decide_eq_true h1, decide_eq_false (by omega)]; rfl
    · rw [decide_eq_false h1]; rfl
theorem inDig {c : Nat} {neg : Bool} {ms : Ms} : gIn neg (.d (.str ⟨#[c]⟩)) (.d (.str "0123456789")) ms = .ok (.d (.bl (if neg = true then !isDig c else isDig c))) ms := by
  rw [← mem_digits]; rfl
theorem isDig_iff {c : Nat} : isDig c = true ↔ 48 ≤ c ∧ c ≤ 57 := by unfold isDig; simp
theorem allDig_iff {l : List Nat} : l.all isDig = true ↔ NumText.AllDigits l := by
  rw [List.all_eq_true]
  exact ⟨fun h c hc => isDig_iff.mp (h c hc), fun h c hc => isDig_iff.mpr (h c hc)⟩
theorem str_ext {a b : Str} (h : TL.tl a = TL.tl b) : a = b := by
  obtain ⟨a⟩ := a
  obtain ⟨b⟩ := b
  have : a = b := Array.toList_inj.mp h
  rw [this]
theorem str_len (a : Str) : a.length = (TL.tl a).length := by simp [Str.length]
theorem rev_ind {α : Type} {P : List α → Prop} (h0 : P []) (h1 : ∀ l c, P l → P (l ++ [c])) (l : List α) : P l := by
  have : ∀ l : List α, P l.reverse := fun l => by
    induction l with
    | nil => exact h0
    | cons c l ih => rw [List.reverse_cons]; exact h1 _ c ih
  have := this l.reverse
  rwa [List.reverse_reverse] at this
/-- the value of digits, the last one apart -/
theorem val_snoc (l : List Nat) (c : Nat) : NumText.digitsVal (l ++ [c]) = NumText.digitsVal l * 10 + (c - 48) := by
  unfold NumText.digitsVal
  rw [List.foldl_append]; rfl
theorem val_pos : ∀ (l : List Nat), l ≠ [] → NumText.AllDigits l → l[0]? ≠ some 48 → 0 < NumText.digitsVal l := by
  have key : ∀ (l : List Nat) (a : Nat), 0 < a → 0 < l.foldl (fun acc c => acc * 10 + (c - 48)) a := by
    intro l
    induction l with
    | nil => intro a h; exact h
    | cons c l ih => intro a h; exact ih (a * 10 + (c - 48)) (by omega)
  intro l hl hd h0
  cases l with
  | nil => exact absurd rfl hl
  | cons c l =>
    unfold NumText.digitsVal
    rw [List.foldl_cons]
    refine key l _ ?_
    have := hd.head
    have : c ≠ 48 := fun z => h0 (by rw [z]; rfl)
    omega
/-- digits without a needless zero are the text of their value -/
theorem num_back : ∀ (l : List Nat), l ≠ [] → NumText.AllDigits l → (l[0]? = some 48 → l.length = 1) → TL.numL (NumText.digitsVal l) = l := by
  refine rev_ind (fun h => absurd rfl h) fun l c ih => ?_
  · intro _ hd h0
    have hc := hd c (by simp)
    rw [val_snoc]
    cases l with
    | nil =>
      have e : NumText.digitsVal [] * 10 + (c - 48) = c - 48 := by simp [NumText.digitsVal]
      rw [e, TL.numL_lt (by omega)]
      have : 48 + (c - 48) = c := by omega
      rw [this]; rfl
    | cons b l =>
      have hl : NumText.AllDigits (b :: l) := fun x hx => hd x (List.mem_append_left _ hx)
      have h48 : (b :: l)[0]? ≠ some 48 := fun z => by
        have := h0 (by simpa using z)
        simp at this
      have pos := val_pos (b :: l) (by simp) hl h48
      rw [TL.numL_step (by omega)]
      have e1 : (NumText.digitsVal (b :: l) * 10 + (c - 48)) / 10 = NumText.digitsVal (b :: l) := by omega
      have e2 : 48 + (NumText.digitsVal (b :: l) * 10 + (c - 48)) % 10 = c := by omega
      rw [e1, e2, ih (by simp) hl (fun z => absurd z h48)]
theorem numB_spec {l : List Nat} (h : numB l = true) : 0 < l.length ∧ l.length ≤ 9 ∧ NumText.AllDigits l ∧ TL.numL (NumText.digitsVal l) = l := by
  unfold numB at h
  simp only [Bool.and_eq_true, decide_eq_true_eq, Bool.not_eq_true', Bool.and_eq_false_iff, decide_eq_false_iff_not] at h
  obtain ⟨h1, h2, h3, h4⟩ := h
  have hd := allDig_iff.mp h3
  refine ⟨h1, h2, hd, num_back l (fun z => by subst z; simp at h1) hd fun z => ?_⟩
  rcases h4 with h4 | h4
  · exact absurd z h4
  · omega
theorem tl_str (n : Nat) : TL.tl (Str.ofString (toString ((n : Nat) : Int))) = TL.numL n := TL.tl_num n
theorem num_text {z : Str} (h : numB (TL.tl z) = true) : Str.ofString (toString ((NumText.digitsVal (TL.tl z) : Nat) : Int)) = z := str_ext ((tl_str _).trans (numB_spec h).2.2.2)
theorem val_lt : ∀ (l : List Nat), NumText.AllDigits l → NumText.digitsVal l < 10 ^ l.length := by
  refine rev_ind (fun _ => by simp [NumText.digitsVal]) fun l c ih => ?_
  · intro hd
    have hc := hd c (by simp)
    have := ih (fun x hx => hd x (List.mem_append_left _ hx))
    rw [val_snoc, List.length_append, List.length_singleton, Nat.pow_succ]
    omega
theorem num_lt {l : List Nat} (h : numB l = true) : NumText.digitsVal l < 1000000000 := by
  obtain ⟨h1, h2, h3, _⟩ := numB_spec h
  have := val_lt l h3
  have : 10 ^ l.length ≤ 10 ^ 9 := Nat.pow_le_pow_right (by decide) h2
  omega
theorem no_dot {l : List Nat} (h : numB l = true) : 46 ∉ l := fun z => by
  have := (numB_spec h).2.2.1 46 z
  omega
/-! cuts -/
def dots : List Nat := [46, 46]
theorem tl_dots : TL.tl (Str.ofString "..") = dots := by decide +kernel
theorem spl_par : ∀ (l acc : List Nat), TL.spl dots 0 acc l = (match TL.par dots acc l with
    | none => [acc ++ l]
    | some (a, b) => a :: TL.spl dots 0 [] b)
  | [], acc => by simp [TL.spl, TL.par]
  | c :: r, acc => by
    cases h : TL.pre dots (c :: r) with
    | true =>
      rw [TL.spl_hit h, TL.par_hit h, TL.spl_pass]
      simp [dots]
    | false =>
      rw [TL.spl_miss h, TL.par_miss h, spl_par r (acc ++ [c])]
      cases TL.par dots (acc ++ [c]) r with
      | none => simp
      | some p => rfl
theorem par_sound : ∀ (l acc : List Nat) {a b : List Nat}, TL.par dots acc l = some (a, b) → acc ++ l = a ++ (dots ++ b)
  | [], acc, a, b, h => by simp [TL.par] at h
  | c :: r, acc, a, b, h => by
    cases hp : TL.pre dots (c :: r) with
    | true =>
      rw [TL.par_hit hp] at h
      cases h
      have e : (c :: r).take dots.length = dots := eq_of_beq hp
      have := List.take_append_drop dots.length (c :: r)
      rw [e] at this
      rw [this]
    | false =>
      rw [TL.par_miss hp] at h
      have := par_sound r (acc ++ [c]) h
      simpa using this
theorem spl_mem (S : List Nat) : ∀ (l : List Nat) (k : Nat) (acc : List Nat), ∀ p ∈ TL.spl S k acc l, ∀ c ∈ p, c ∈ acc ++ l
  | [], k, acc, p, h, c, hc => by
    rw [TL.spl_nil] at h
    rcases List.mem_singleton.mp h with rfl
    simpa using hc
  | d :: r, 0, acc, p, h, c, hc => by
    cases hp : TL.pre S (d :: r) with
    | true =>
      rw [TL.spl_hit hp] at h
      rcases List.mem_cons.mp h with rfl | h
      · simp [hc]
      · have := spl_mem S r _ _ p h c hc
        simp at this; simp [this]
    | false =>
      rw [TL.spl_miss hp] at h
      have := spl_mem S r _ _ p h c hc
      simpa using this
  | d :: r, k + 1, acc, p, h, c, hc => by
    have := spl_mem S r k acc p h c hc
    simp at this
    rcases this with h | h <;> simp [h]
theorem spl_len (S : List Nat) : ∀ (l : List Nat) (k : Nat) (acc : List Nat), (TL.spl S k acc l).length ≤ l.length + 1 ∧ ∀ p ∈ TL.spl S k acc l, p.length ≤ acc.length + l.length
  | [], k, acc => by rw [TL.spl_nil]; simp
  | d :: r, 0, acc => by
    cases hp : TL.pre S (d :: r) with
    | true =>
      rw [TL.spl_hit hp]
      obtain ⟨h1, h2⟩ := spl_len S r (S.length - 1) []
      refine ⟨by simp; omega, fun p h => ?_⟩
      rcases List.mem_cons.mp h with rfl | h
      · simp
      · have := h2 p h
        simp at this ⊢; omega
    | false =>
      rw [TL.spl_miss hp]
      obtain ⟨h1, h2⟩ := spl_len S r 0 (acc ++ [d])
      refine ⟨by simp; omega, fun p h => ?_⟩
      have := h2 p h
      simp at this ⊢; omega
  | d :: r, k + 1, acc => by
    obtain ⟨h1, h2⟩ := spl_len S r k acc
    refine ⟨?_, fun p h => ?_⟩
    · have : TL.spl S (k + 1) acc (d :: r) = TL.spl S k acc r := rfl
      rw [this]; simp; omega
    · have := h2 p h
      simp; omega
theorem spl_two {l : List Nat} : TL.par dots [] l = none → TL.spl dots 0 [] l = [l] := fun h => by rw [spl_par, h]; rfl
theorem par_dot {l a b : List Nat} (h : TL.par dots [] l = some (a, b)) : 46 ∈ l := by
  have := par_sound l [] h
  rw [List.nil_append] at this
  rw [this]; simp [dots]
end Fw
set_option Elab.async false
set_option linter.all false
set_option maxRecDepth 100000
set_option maxHeartbeats 1000000
/-! Rp0: data that has a repr and that == takes (plain Lean). -/
namespace Fw
open PySem L2
structure Rp (k W : Nat) (d : D) (p : PyData) : Prop where
  to : toP d = some p
  sh : p.showable = true
  dp : p.depth ≤ k
  nd : p.hasDict = false
  lv : p.leavesShort 40 = true
  wt : p.weight ≤ W
  cl : p.canLay0 = true
def Rep (k W : Nat) (d : D) : Prop := ∃ p, Rp k W d p
theorem Rep.mono {k k' W W' : Nat} {d : D} (h : Rep k W d) (h1 : k ≤ k') (h2 : W ≤ W') : Rep k' W' d := let ⟨p, r⟩ := h; ⟨p, r.to, r.sh, Nat.le_trans r.dp h1, r.nd, r.lv, Nat.le_trans r.wt h2, r.cl⟩
theorem rep_int {a : Int} (h : a.natAbs < 10 ^ 31) : Rep 0 104 (.int a) := by
  have hl : a.natAbs.log2 < 104 := PySem.Flt.log2_lt_of (by decide) (Nat.lt_of_lt_of_le h (by decide))
  refine ⟨.int a, rfl, ?_, Nat.le_refl _, rfl, ?_, ?_, rfl⟩
  · simp only [PyData.showable, decide_eq_true_eq]; omega
  · simp only [PyData.leavesShort, decide_eq_true_eq]
    rw [PyData.shown_int]
    exact Nat.le_trans (show (itx a).length ≤ 32 from itx_len h) (by decide)
  · simp only [PyData.weight]
    split <;> omega
/-- plain signs -/
def Asc (x : Str) : Prop := ∀ c ∈ TL.tl x, c < 128
def ascB (l : List Nat) : Bool := l.all fun c => decide (c < 128)
theorem asc_iff {x : Str} : Asc x ↔ ascB (TL.tl x) = true := by
  unfold Asc ascB
  rw [List.all_eq_true]
  exact ⟨fun h c hc => decide_eq_true (h c hc), fun h c hc => of_decide_eq_true (h c hc)⟩
theorem asc_app {x y : Str} (h : Asc x) (h2 : Asc y) : Asc (x ++ y) := by
  intro c hc
  have e : TL.tl (x ++ y) = TL.tl x ++ TL.tl y := by
    show (x.cps ++ y.cps).toList = _
    rw [Array.toList_append]
  rw [e] at hc
  rcases List.mem_append.mp hc with z | z
  · exact h c z
  · exact h2 c z
theorem asc_nat (n : Nat) : Asc (itx (n : Int)) := fun c hc => by
  have e : TL.tl (itx (n : Int)) = TL.numL n := tl_str n
  rw [e] at hc
  have := TL.numL_digits n c hc
  omega
theorem asc_itx (a : Int) : Asc (itx a) := by
  by_cases h : 0 ≤ a
  · obtain ⟨n, rfl⟩ := Int.eq_ofNat_of_zero_le h
    exact asc_nat n
  · obtain ⟨n, hn⟩ : ∃ n : Nat, a = -(n : Int) := ⟨a.natAbs, by omega⟩
    subst hn
    have hp : n ≠ 0 := by omega
    have e : (toString (-(n : Int)) : String) = "-" ++ toString (n : Int) := by
      cases n with
      | zero => exact absurd rfl hp
      | succ n => rfl
    intro c hc
    have hc : c ∈ (Str.ofString (toString (-(n : Int)))).cps.toList := by unfold itx at hc; exact hc
    rw [PySem.Str.ofString_eq_toList] at hc
    simp only [List.mem_map] at hc
    obtain ⟨ch, h1, rfl⟩ := hc
    rw [e, String.toList_append] at h1
    rcases List.mem_append.mp h1 with h1 | h1
    · have : ch = '-' := by simpa using h1
      subst this; decide
    · refine asc_nat n _ ?_
      unfold itx
      show _ ∈ (Str.ofString (toString (n : Int))).cps.toList
      rw [PySem.Str.ofString_eq_toList]
      exact List.mem_map_of_mem h1
theorem rep_str {x : Str} {n : Nat} (h : Asc x) (hl : x.length ≤ n) : Rep 0 n (.str x) := by
  refine ⟨.str x, rfl, rfl, Nat.le_refl _, rfl, ?_, ?_, ?_⟩
  · simp only [PyData.leavesShort, List.all_eq_true, decide_eq_true_eq]
    exact fun c hc => Nat.lt_of_lt_of_le (h c hc) (by decide)
  · simp only [PyData.weight]; exact hl
  · simp only [PyData.canLay0, PyData.strOk]
    rw [← Array.all_toList, List.all_eq_true]
    intro c hc
    have := h c hc
    exact decide_eq_true (by omega)
theorem rep_bl (b : Bool) : Rep 0 0 (.bl b) := ⟨.bool b, rfl, rfl, Nat.le_refl _, rfl, rfl, by simp [PyData.weight], rfl⟩
theorem rep_non : Rep 0 0 .non := ⟨.none, rfl, rfl, Nat.le_refl _, rfl, rfl, by simp [PyData.weight], rfl⟩
theorem reps {k W : Nat} : ∀ {l : List D}, (∀ x ∈ l, Rep k W x) → ∃ ps, toPs l = some ps ∧ PyData.showableAll ps = true ∧ PyData.depthAll ps ≤ k ∧ PyData.hasDictAll ps = false ∧ PyData.leavesShortAll 40 ps = true ∧ PyData.weightAll ps ≤ l.length * (W + 1) ∧ PyData.canLayAll0 ps = true
  | [], _ => ⟨[], rfl, rfl, Nat.zero_le _, rfl, rfl, by simp [PyData.weightAll], rfl⟩
  | x :: l, h => by
    obtain ⟨p, r⟩ := h x List.mem_cons_self
    obtain ⟨ps, h1, h2, h3, h4, h5, h6, h7⟩ := reps fun y hy => h y (List.mem_cons_of_mem _ hy)
    refine ⟨p :: ps, ?_, ?_, ?_, ?_, ?_, ?_, ?_⟩
    · simp only [toPs, r.to, h1, Option.bind_some, Option.map_some]
    · simp only [PyData.showableAll, r.sh, h2, Bool.and_self]
    · simp only [PyData.depthAll]; exact Nat.max_le.mpr ⟨r.dp, h3⟩
    · simp only [PyData.hasDictAll, r.nd, h4, Bool.or_self]
    · simp only [PyData.leavesShortAll, r.lv, h5, Bool.and_self]
    · simp only [PyData.weightAll, List.length_cons]
      have := r.wt
      rw [Nat.add_mul]; omega
    · simp only [PyData.canLayAll0, r.cl, h7, Bool.and_self]
theorem rep_tup {k W : Nat} {l : List D} (h : ∀ x ∈ l, Rep k W x) : Rep (k + 1) (l.length * (W + 1)) (.tup l) := by
  obtain ⟨ps, h1, h2, h3, h4, h5, h6, h7⟩ := reps h
  refine ⟨.tuple ps, ?_, ?_, ?_, ?_, ?_, ?_, ?_⟩
  · simp only [toP, h1, Option.map_some]
  · simp only [PyData.showable]; exact h2
  · simp only [PyData.depth]; omega
  · simp only [PyData.hasDict]; exact h4
  · simp only [PyData.leavesShort]; exact h5
  · simp only [PyData.weight]; exact h6
  · simp only [PyData.canLay0]; exact h7
theorem rep_lst {k W : Nat} {l : List D} (h : ∀ x ∈ l, Rep k W x) : Rep (k + 1) (l.length * (W + 1)) (.lst l) := by
  obtain ⟨ps, h1, h2, h3, h4, h5, h6, h7⟩ := reps h
  refine ⟨.list ps, ?_, ?_, ?_, ?_, ?_, ?_, ?_⟩
  · simp only [toP, h1, Option.map_some]
  · simp only [PyData.showable]; exact h2
  · simp only [PyData.depth]; omega
  · simp only [PyData.hasDict]; exact h4
  · simp only [PyData.leavesShort]; exact h5
  · simp only [PyData.weight]; exact h6
  · simp only [PyData.canLay0]; exact h7
/-- its repr -/
def reprO (d : D) : Str := match toP d with
  | some p => p.shown
  | none => Str.empty
theorem repr_ok {k W : Nat} {d : D} (h : Rep k W d) (hk : k ≤ 40) (hW : W ≤ 20000) {ms : Ms} : c1 reprD [.d d] ms = .ok (.d (.str (reprO d))) ms := by
  obtain ⟨p, r⟩ := h
  have hs := PyData.shown_le 40 (by decide) p r.lv
  have hb : (p.showable && decide (p.depth ≤ 40) && few p.shown.length && !p.hasDict) = true := by
    rw [r.sh, r.nd, decide_eq_true (by have := r.dp; omega : p.depth ≤ 40), few_ev, decide_eq_true (by have := r.wt; omega : p.shown.length ≤ 1000000)]
    rfl
  have e : reprD d = some (.str p.shown) := by
    unfold reprD
    rw [r.to]
    show (match (p.showable && decide (p.depth ≤ 40) && few p.shown.length && !p.hasDict) with
      | true => some (D.str p.shown)
      | false => none) = _
    rw [hb]
  have e2 : reprO d = p.shown := by unfold reprO; rw [r.to]
  show (match (some d).bind reprD with
    | some d => R.ok (S.d d) ms
    | none => .bad) = _
  rw [show (some d).bind reprD = some (.str p.shown) from e, e2]
theorem shaped_of {k W : Nat} {d : D} (h : Rep k W d) (hk : k ≤ 64) : ∃ p, toP d = some p ∧ shapedD d = some p := by
  obtain ⟨p, r⟩ := h
  refine ⟨p, r.to, ?_⟩
  have : SeqAt.shaped p = true := by
    unfold SeqAt.shaped
    rw [r.cl, decide_eq_true (Nat.le_trans r.dp hk)]; rfl
  unfold shapedD
  rw [r.to]
  show (match SeqAt.shaped p with
    | true => some p
    | false => none) = _
  rw [this]
/-- == of two such data -/
def eqD (d e : D) : Bool := match toP d, toP e with
  | some p, some q => PyData.eqv p q
  | _, _ => false
theorem eq_rep {k W k' W' : Nat} {d e : D} {neg : Bool} {ms : Ms} (h : Rep k W d) (hk : k ≤ 64) (h' : Rep k' W' e) (hk' : k' ≤ 64) : gEqD neg (.d d) (.d e) ms = .ok (.d (.bl (if neg = true then !eqD d e else eqD d e))) ms := by
  obtain ⟨p, h1, h2⟩ := shaped_of h hk
  obtain ⟨q, h3, h4⟩ := shaped_of h' hk'
  have e1 : eqD d e = PyData.eqv p q := by unfold eqD; rw [h1, h3]
  rw [e1]
  unfold gEqD
  show (match shapedD d, shapedD e with
    | some p, some q => R.ok (S.d (D.bl (if neg = true then !PyData.eqv p q else PyData.eqv p q))) ms
    | _, _ => .bad) = _
  rw [h2, h4]
theorem gEq_not {neg : Bool} {d e : D} {ms : Ms} (h : gEqS neg (.d d) (.d e) ms = .bad) : gEq neg (.d d) (.d e) ms = gEqD neg (.d d) (.d e) ms := by
  unfold gEq gOr
  rw [h]
theorem eq_lnil {neg : Bool} {k W : Nat} {l : List D} {ms : Ms} (h : Rep k W (.lst l)) (hk : k ≤ 64) : gEq neg (.d (.lst l)) (.d (.lst [])) ms = .ok (.d (.bl (if neg = true then !l.isEmpty else l.isEmpty))) ms := by
  rw [gEq_not rfl, eq_rep h hk (rep_lst (k := 0) (W := 0) (l := []) (fun _ h => nomatch h)) (by decide)]
  have : eqD (.lst l) (.lst []) = l.isEmpty := by
    obtain ⟨p, r⟩ := h
    have := r.to
    simp only [toP, Option.map_eq_some_iff] at this
    obtain ⟨ps, h1, rfl⟩ := this
    have e : eqD (.lst l) (.lst []) = PyData.eqv (.list ps) (.list []) := by unfold eqD; rw [r.to]; rfl
    rw [e]
    cases l with
    | nil => cases h1; rfl
    | cons x l =>
      simp only [toPs, Option.bind_eq_some_iff, Option.map_eq_some_iff] at h1
      obtain ⟨p1, _, ps', _, rfl⟩ := h1
      rfl
  rw [this]
theorem eq_tnil {neg : Bool} {k W : Nat} {l : List D} {ms : Ms} (h : Rep k W (.tup l)) (hk : k ≤ 64) : gEq neg (.d (.tup l)) (.d (.tup [])) ms = .ok (.d (.bl (if neg = true then !l.isEmpty else l.isEmpty))) ms := by
  rw [gEq_not rfl, eq_rep h hk (rep_tup (k := 0) (W := 0) (l := []) (fun _ h => nomatch h)) (by decide)]
  have : eqD (.tup l) (.tup []) = l.isEmpty := by
    obtain ⟨p, r⟩ := h
    have := r.to
    simp only [toP, Option.map_eq_some_iff] at this
    obtain ⟨ps, h1, rfl⟩ := this
    have e : eqD (.tup l) (.tup []) = PyData.eqv (.tuple ps) (.tuple []) := by unfold eqD; rw [r.to]; rfl
    rw [e]
    cases l with
    | nil => cases h1; rfl
    | cons x l =>
      simp only [toPs, Option.bind_eq_some_iff, Option.map_eq_some_iff] at h1
      obtain ⟨p1, _, ps', _, rfl⟩ := h1
      rfl
  rw [this]
theorem rep_lst_mem {k W n : Nat} {l : List D} (h : ∀ x ∈ l, Rep k W x) (hn : l.length * (W + 1) ≤ n) : Rep (k + 1) n (.lst l) := (rep_lst h).mono (Nat.le_refl _) hn
theorem rep_tup_mem {k W n : Nat} {l : List D} (h : ∀ x ∈ l, Rep k W x) (hn : l.length * (W + 1) ≤ n) : Rep (k + 1) n (.tup l) := (rep_tup h).mono (Nat.le_refl _) hn
/-! texts cut, repeated -/
theorem tl_cut (z : Str) (lo hi : Option Int) : TL.tl (cutS z lo hi) = ((TL.tl z).drop (HT.sIx z.length 0 lo)).take (HT.sIx z.length z.length hi - HT.sIx z.length 0 lo) := rfl
theorem asc_cut {z : Str} (h : Asc z) (lo hi : Option Int) : Asc (cutS z lo hi) := fun c hc => by
  rw [tl_cut] at hc
  exact h c (List.mem_of_mem_drop (List.mem_of_mem_take hc))
theorem len_cut (z : Str) (lo hi : Option Int) : (cutS z lo hi).length ≤ z.length := cutS_length z lo hi
theorem len_tl (z : Str) : (TL.tl z).length = z.length := (str_len z).symm
theorem len_pre (z : Str) {a : Int} (h : 0 ≤ a) : (cutS z none (some a)).length = min a.toNat z.length := by
  rw [str_len, tl_cut, List.length_take, List.length_drop, len_tl]
  simp only [HT.sIx, if_neg (show ¬ a < 0 by omega)]
  omega
theorem len_suf (z : Str) {a : Int} (h : 0 ≤ a) : (cutS z (some a) none).length = z.length - min a.toNat z.length := by
  rw [str_len, tl_cut, List.length_take, List.length_drop, len_tl]
  simp only [HT.sIx, if_neg (show ¬ a < 0 by omega)]
  omega
theorem len_mid (z : Str) {a b : Int} (h : 0 ≤ a) (h2 : 0 ≤ b) : (cutS z (some a) (some b)).length = min b.toNat z.length - min a.toNat z.length := by
  rw [str_len, tl_cut, List.length_take, List.length_drop, len_tl]
  simp only [HT.sIx, if_neg (show ¬ a < 0 by omega), if_neg (show ¬ b < 0 by omega)]
  omega
theorem sl_str_ev {z : Str} (h : z.length ≤ 1000000) {lo hi : Option Int} {ms : Ms} : gSl (.d (.str z)) lo hi ms = .ok (.d (.str (cutS z lo hi))) ms := by
  unfold gSl slD
  simp [h]
@[simp] theorem sl_tup_ev {l : List D} {lo hi : Option Int} {ms : Ms} : gSl (.d (.tup l)) lo hi ms = .ok (.d (.tup (cutD l lo hi))) ms := rfl
@[simp] theorem sl_lst_ev {l : List D} {lo hi : Option Int} {ms : Ms} : gSl (.d (.lst l)) lo hi ms = .ok (.d (.lst (cutD l lo hi))) ms := rfl
@[simp] theorem ev_sl {mo : Env → Ms → R S} {ml mh : Env → Ms → R (Option Int)} {env : Env} {ms : Ms} : mSl mo ml mh env ms = (mo env ms).bind fun x ms1 => (ml env ms1).bind fun l ms2 => (mh env ms2).bind fun u ms3 => gSl x l u ms3 := rfl
@[simp] theorem ev_pNo {env : Env} {ms : Ms} : pNo env ms = .ok none ms := rfl
@[simp] theorem ev_pAt {m : Env → Ms → R S} {env : Env} {ms : Ms} : pAt m env ms = (m env ms).bind asO := rfl
@[simp] theorem asO_int {i : Int} {ms : Ms} : asO (.d (.int i)) ms = .ok (some i) ms := rfl
@[simp] theorem ev_neg {m : Env → Ms → R S} {env : Env} {ms : Ms} : mNeg m env ms = (m env ms).bind negS := rfl
@[simp] theorem neg_int {i : Int} {ms : Ms} : negS (.d (.int i)) ms = .ok (.d (.int (-i))) ms := rfl
theorem mulSI {x : Str} {n : Int} {ms : Ms} (h : x.length ≤ 1000) (h1 : -1000 ≤ n) (h2 : n ≤ 1000) : gMul (.d (.str x)) (.d (.int n)) ms = .ok (.d (.str (strMul x n))) ms := by
  have e : gMulS (.d (.str x)) (.d (.int n)) ms = .ok (.d (.str (strMul x n))) ms := by
    unfold gMulS
    simp [h, h1, h2]
  unfold gMul gOr
  rw [show gMulI (.d (.str x)) (.d (.int n)) ms = .bad from rfl]
  simp only [e]
theorem mul_spec (x : Str) (h : Asc x) : ∀ n : Nat, Asc (strMul x n) ∧ (strMul x n).length = n * x.length := by
  have key : ∀ (n : Nat) (acc : Array Nat), (∀ c ∈ acc.toList, c < 128) → (∀ c ∈ ((List.replicate n x.cps).foldl (· ++ ·) acc).toList, c < 128) ∧ ((List.replicate n x.cps).foldl (· ++ ·) acc).size = acc.size + n * x.length := by
    intro n
    induction n with
    | zero => intro acc ha; exact ⟨ha, by simp⟩
    | succ n ih =>
      intro acc ha
      rw [List.replicate_succ, List.foldl_cons]
      obtain ⟨h1, h2⟩ := ih (acc ++ x.cps) (fun c hc => by
        rw [Array.toList_append] at hc
        rcases List.mem_append.mp hc with hc | hc
        · exact ha c hc
        · exact h c hc)
      refine ⟨h1, ?_⟩
      rw [h2, Array.size_append, Nat.succ_mul]
      show acc.size + x.cps.size + n * x.length = _
      have : x.cps.size = x.length := rfl
      omega
  intro n
  unfold strMul Txt.mul
  split
  · have : n = 0 := by omega
    subst this
    exact ⟨fun c hc => by simp [Str.empty] at hc, by simp [Str.empty, Str.length]⟩
  · split
    · rename_i h1 h2
      refine ⟨h, ?_⟩
      simp only [Bool.or_eq_true, beq_iff_eq] at h2
      rcases h2 with h2 | h2
      · have : n = 1 := by omega
        subst this; omega
      · rw [h2, Nat.mul_zero]
    · obtain ⟨h1, h2⟩ := key n #[] (fun c hc => by simp at hc)
      refine ⟨h1, ?_⟩
      show ((List.replicate n x.cps).foldl (· ++ ·) #[]).size = _
      rw [h2]; simp
end Fw
set_option Elab.async false
set_option linter.all false
set_option maxRecDepth 100000
set_option maxHeartbeats 0
namespace Ga
open PySem L2 PySem.Spec PyProof.Rows Fw

abbrev Pg : Program := PySem.Challenge.pw_wayround_k03_span_texts

def top (i : Nat) : Stmt := Pg.main.body.getD i (.Pass ⟨0, 0, 0, 0⟩)
def sub (st : Stmt) (j : Nat) : Stmt := (C8.clsBody st).getD j (.Pass ⟨0, 0, 0, 0⟩)

def fld : Nat → List Str
  | 0 => []
  | 1 => ["high", "low"]
  | 2 => ["high", "low"]
  | 3 => ["line"]
  | 4 => ["low", "high"]
  | _ => []

def clsAt (K : PySem.W.Frag) : Nat → Addr
  | 0 => gA "WayroundError" K
  | 1 => gA "InvalidSpan" K
  | 2 => gA "Snapped" K
  | 3 => gA "InvalidText" K
  | 4 => gA "Span" K
  | _ => 0

def Γ (K : PySem.W.Frag) : G := ⟨clsAt K, fld, clsAt K⟩

def subT (a b : Nat) : Bool := ([(0, 0), (1, 0), (1, 1), (2, 0), (2, 2), (3, 0), (3, 3), (4, 4)] : List (Nat × Nat)).contains (a, b)

noncomputable def m__law_feed : Fw.Env → Ms → T :=
 sCons (sSet 2 (mOp gAdd (mOp gMul (mC (.d (.int 6151))) (mVar 1)) (mC (.d (.int 23)))))
 (sCons (sIf (mB (mOp gLt (mVar 1) (mB1 (c1 lenD) (aCons (mVar 0) (aNil))))) (sSet 2 (mB1 (c1 absD) (aCons (mOp gIx (mVar 0) (mVar 1)) (aNil)))) (sIf (mB (mOp gGt (mB1 (c1 lenD) (aCons (mVar 0) (aNil))) (mC (.d (.int 0))))) (sSet 2 (mOp gAdd (mVar 2) (mOp gMul (mOp gModI (mB1 (c1 absD) (aCons (mOp gIx (mVar 0) (mOp gModI (mVar 1) (mB1 (c1 lenD) (aCons (mVar 0) (aNil))))) (aNil))) (mC (.d (.int 2147483629)))) (mC (.d (.int 50021)))))) (sNil)))
 (sCons (sSet 3 (mOp gAdd (mOp gModI (mOp gAdd (mOp gMul (mOp gModI (mVar 2) (mC (.d (.int 2147483629)))) (mC (.d (.int 48271)))) (mOp gMul (mC (.d (.int 40692))) (mVar 1))) (mC (.d (.int 2147483629)))) (mC (.d (.int 1)))))
 (sRet (mNew (aCons (mOp gMul (mVar 2) (mB1 (c1 intD) (aCons (mOp gGe (mVar 2) (mOp gPowI (mC (.d (.int 10))) (mC (.d (.int 18))))) (aNil)))) (aCons (mVar 3) (aCons (mC (.d (.int 0))) (aNil))))))))
noncomputable def f__law_feed : List S → Ms → R S := fnSem 4 m__law_feed

noncomputable def m__law_take : Fw.Env → Ms → T :=
 sCons (sIf (mB (mOp gGt (mOp gIx (mVar 0) (mC (.d (.int 0)))) (mC (.d (.int 0))))) (sCons (sSet 2 (mOp gModI (mOp gIx (mVar 0) (mC (.d (.int 0)))) (mVar 1)))
 (sCons (sSub (mOp gDivI (mOp gIx (mVar 0) (mC (.d (.int 0)))) (mVar 1)) (mVar 0) (mC (.d (.int 0))))
 (sRet (mVar 2)))) (sNil))
 (sCons (sSub (mOp gAdd (mOp gIx (mVar 0) (mC (.d (.int 2)))) (mC (.d (.int 1)))) (mVar 0) (mC (.d (.int 2))))
 (sCons (sSet 3 (mOp gModI (mOp gMul (mOp gAdd (mOp gIx (mVar 0) (mC (.d (.int 1)))) (mOp gMul (mC (.d (.int 104729))) (mOp gIx (mVar 0) (mC (.d (.int 2)))))) (mC (.d (.int 69623)))) (mC (.d (.int 2147483647)))))
 (sCons (sSub (mOp gAdd (mOp gModI (mOp gAdd (mOp gMul (mVar 3) (mC (.d (.int 48271)))) (mC (.d (.int 30103)))) (mC (.d (.int 2147483629)))) (mC (.d (.int 1)))) (mVar 0) (mC (.d (.int 1))))
 (sRet (mOp gModI (mOp gDivI (mOp gAdd (mOp gMul (mVar 3) (mC (.d (.int 2147483647)))) (mOp gIx (mVar 0) (mC (.d (.int 1))))) (mC (.d (.int 8191)))) (mVar 1))))))
noncomputable def f__law_take : List S → Ms → R S := fnSem 4 m__law_take

noncomputable def m__law_digits : Fw.Env → Ms → T :=
 sCons (sSet 1 (mOp gIx (mLst (aCons (mC (.d (.int 1))) (aCons (mC (.d (.int 1))) (aCons (mC (.d (.int 2))) (aCons (mC (.d (.int 3))) (aCons (mC (.d (.int 4))) (aCons (mC (.d (.int 8))) (aCons (mC (.d (.int 9))) (aCons (mC (.d (.int 10))) (aNil)))))))))) (mCallN (bndS f__law_take [0, 1] []) (mLen 2 (aCons (mVar 0) (aCons (mC (.d (.int 8))) (aNil)))))))
 (sCons (sSet 2 (mLc true (iRng1 (aCons (mVar 1) (aNil))) (gSet 3) ((fun _ ms => .ok true ms)) (mB1 (c1 strD) (aCons (mCallN (bndS f__law_take [0, 1] []) (mLen 2 (aCons (mVar 0) (aCons (mC (.d (.int 10))) (aNil))))) (aNil))) [3]))
 (sCons (sIf (mAnd (mB (mOp (gEq false) (mOp gIx (mVar 2) (mC (.d (.int 0)))) (mC (.d (.str "0"))))) (mAnd (mB (mOp gGt (mVar 1) (mC (.d (.int 1))))) (mB (mOp (gEq false) (mCallN (bndS f__law_take [0, 1] []) (mLen 2 (aCons (mVar 0) (aCons (mC (.d (.int 2))) (aNil))))) (mC (.d (.int 0))))))) (sSub (mC (.d (.str "7"))) (mVar 2) (mC (.d (.int 0)))) (sNil))
 (sRet (mBM .str gJoin (mC (.d (.str ""))) (aCons (mVar 2) (aNil))))))
noncomputable def f__law_digits : List S → Ms → R S := fnSem 4 m__law_digits

noncomputable def m__law_shown : Fw.Env → Ms → T :=
 sCons (sPar 1 2 (aCons (mCallN (bndS f__law_digits [0] []) (mLen 1 (aCons (mVar 0) (aNil)))) (aCons (mCallN (bndS f__law_digits [0] []) (mLen 1 (aCons (mVar 0) (aNil)))) (aNil))))
 (sCons (sIf (mB (mOp (gEq false) (mCallN (bndS f__law_take [0, 1] []) (mLen 2 (aCons (mVar 0) (aCons (mC (.d (.int 3))) (aNil))))) (mC (.d (.int 0))))) (sRet (mVar 1)) (sNil))
 (sCons (sIf (mAnd (mB (mOp gLtA (mTup (aCons (mB1 (c1 lenD) (aCons (mVar 2) (aNil))) (aCons (mVar 2) (aNil)))) (mTup (aCons (mB1 (c1 lenD) (aCons (mVar 1) (aNil))) (aCons (mVar 1) (aNil)))))) (mB (mOp gGt (mCallN (bndS f__law_take [0, 1] []) (mLen 2 (aCons (mVar 0) (aCons (mC (.d (.int 4))) (aNil))))) (mC (.d (.int 0)))))) (sPar 1 2 (aCons (mVar 2) (aCons (mVar 1) (aNil)))) (sNil))
 (sRet (mOp gAdd (mOp gAdd (mVar 1) (mC (.d (.str "..")))) (mOp gIx (mLst (aCons (mVar 2) (aCons (mVar 2) (aCons (mVar 2) (aCons (mVar 2) (aCons (mVar 2) (aCons (mVar 1) (aNil)))))))) (mCallN (bndS f__law_take [0, 1] []) (mLen 2 (aCons (mVar 0) (aCons (mC (.d (.int 6))) (aNil))))))))))
noncomputable def f__law_shown : List S → Ms → R S := fnSem 3 m__law_shown

noncomputable def m__law_spoilt : Fw.Env → Ms → T :=
 sCons (sPar 2 3 (aCons (mCallN (bndS f__law_take [0, 1] []) (mLen 2 (aCons (mVar 0) (aCons (mOp gAdd (mB1 (c1 lenD) (aCons (mVar 1) (aNil))) (mC (.d (.int 1)))) (aNil))))) (aCons (mOp gIx (mB1 (cLstS) (aCons (mC (.d (.str "0123456789.- +_a\nX"))) (aNil))) (mCallN (bndS f__law_take [0, 1] []) (mLen 2 (aCons (mVar 0) (aCons (mC (.d (.int 18))) (aNil)))))) (aNil))))
 (sCons (sSet 4 (mCallN (bndS f__law_take [0, 1] []) (mLen 2 (aCons (mVar 0) (aCons (mC (.d (.int 4))) (aNil))))))
 (sCons (sIf (mB (mOp (gEq false) (mVar 4) (mC (.d (.int 0))))) (sRet (mOp gAdd (mSl (mVar 1) (pNo) (pAt (mVar 2))) (mSl (mVar 1) (pAt (mOp gAdd (mVar 2) (mC (.d (.int 1))))) (pNo)))) (sNil))
 (sCons (sIf (mB (mOp (gEq false) (mVar 4) (mC (.d (.int 1))))) (sRet (mOp gAdd (mOp gAdd (mSl (mVar 1) (pNo) (pAt (mVar 2))) (mVar 3)) (mSl (mVar 1) (pAt (mVar 2)) (pNo)))) (sNil))
 (sCons (sIf (mB (mOp (gEq false) (mVar 4) (mC (.d (.int 2))))) (sRet (mOp gAdd (mOp gAdd (mSl (mVar 1) (pNo) (pAt (mVar 2))) (mOp gMul (mSl (mVar 1) (pAt (mVar 2)) (pAt (mOp gAdd (mVar 2) (mC (.d (.int 1)))))) (mC (.d (.int 2))))) (mSl (mVar 1) (pAt (mOp gAdd (mVar 2) (mC (.d (.int 1))))) (pNo)))) (sNil))
 (sRet (mOp gAdd (mOp gAdd (mSl (mVar 1) (pNo) (pAt (mVar 2))) (mVar 3)) (mSl (mVar 1) (pAt (mOp gAdd (mVar 2) (mC (.d (.int 1))))) (pNo))))))))
noncomputable def f__law_spoilt : List S → Ms → R S := fnSem 5 m__law_spoilt

noncomputable def m_number_of : Fw.Env → Ms → T :=
 sCons (sIf (mOr (mNot (mB (mChain gLt gLe (mC (.d (.int 0))) (mB1 (c1 lenD) (aCons (mVar 0) (aNil))) (mC (.d (.int 9)))))) (mNot (mB (mB1 (cSeq allD) (aCons (mLc false (iSeq (mVar 0)) (gSet 1) ((fun _ ms => .ok true ms)) (mOp (gIn false) (mVar 1) (mC (.d (.str "0123456789")))) [1]) (aNil)))))) (sRet (mC (.d .non))) (sNil))
 (sCons (sIf (mAnd (mB (mOp (gEq false) (mOp gIx (mVar 0) (mC (.d (.int 0)))) (mC (.d (.str "0"))))) (mB (mOp (gEq true) (mVar 0) (mC (.d (.str "0")))))) (sRet (mC (.d .non))) (sNil))
 (sRet (mB1 (cOr (c1 intD) (c1 intS)) (aCons (mVar 0) (aNil)))))
noncomputable def f_number_of : List S → Ms → R S := fnSem 2 m_number_of

noncomputable def m_is_whole : Fw.Env → Ms → T :=
 sRet (mAndV (mB1 (cIsi [] [] (fun _ _ => false)) (aCons (mVar 0) (aCons (mC (.d (.ty "int"))) (aNil)))) (mNotV (mB1 (cIsi [] [] (fun _ _ => false)) (aCons (mVar 0) (aCons (mC (.d (.ty "bool"))) (aNil))))))
noncomputable def f_is_whole : List S → Ms → R S := fnSem 1 m_is_whole

noncomputable def m_Span_init : Fw.Env → Ms → T :=
 sCons (sIf (mOr (mNot (mB (mCallN (bndS f_is_whole [0] []) (mLen 1 (aCons (mVar 1) (aNil)))))) (mOr (mNot (mB (mCallN (bndS f_is_whole [0] []) (mLen 1 (aCons (mVar 2) (aNil)))))) (mNot (mB (mChain gLe gLe (mC (.d (.int 0))) (mVar 1) (mVar 2)))))) (sRaise 1 2 (mLen 2 (aCons (mVar 1) (aCons (mVar 2) (aNil))))) (sNil))
 (sCons (sFldS "low" [4] (mVar 1) (mVar 0))
 (sFldS "high" [4] (mVar 2) (mVar 0)))
noncomputable def f_Span_init : List S → Ms → R S := fnSem 3 m_Span_init

noncomputable def m_Span_read : Fw.Env → Ms → T :=
 sCons (sAsg (gUn 3 (gsCons (gSet 2) (gsCons (gSet 3) (gsCons (gSet 4) (gsNil))))) (mBM .str gPart (mVar 1) (aCons (mC (.d (.str ".."))) (aNil))))
 (sCons (sSet 5 (mCallN (bndS f_number_of [0] []) (mLen 1 (aCons (mVar 2) (aNil)))))
 (sCons (sSet 6 (mIf (mB (mOp (gEq false) (mVar 3) (mC (.d (.str ".."))))) (mCallN (bndS f_number_of [0] []) (mLen 1 (aCons (mVar 4) (aNil)))) (mVar 5)))
 (sCons (sIf (mOr (mB (mOp (gIsN false) (mVar 5) (mC (.d .non)))) (mOr (mB (mOp (gIsN false) (mVar 6) (mC (.d .non)))) (mOr (mB (mOp gGt (mVar 5) (mVar 6))) (mAnd (mB (mOp (gEq false) (mVar 3) (mC (.d (.str ".."))))) (mB (mOp (gEq false) (mVar 5) (mVar 6))))))) (sRaise 3 1 (mLen 1 (aCons (mC (.d (.int 0))) (aNil)))) (sNil))
 (sRet (mCallV [(4, mkS 4 (fld 4) (bndS f_Span_init [0, 1, 2] []))] (mVar 0) (mLen 2 (aCons (mVar 5) (aCons (mVar 6) (aNil)))))))))
noncomputable def f_Span_read : List S → Ms → R S := fnSem 7 m_Span_read

noncomputable def m_Span_least : Fw.Env → Ms → T :=
 sRet (mAttr "low" [(4, fldG 0)] (mVar 0))
noncomputable def f_Span_least : List S → Ms → R S := fnSem 1 m_Span_least

noncomputable def m_Span_greatest : Fw.Env → Ms → T :=
 sRet (mAttr "high" [(4, fldG 1)] (mVar 0))
noncomputable def f_Span_greatest : List S → Ms → R S := fnSem 1 m_Span_greatest

noncomputable def m_Span_str : Fw.Env → Ms → T :=
 sCons (sIf (mB (mOp (gEq false) (mAttr "low" [(4, fldG 0)] (mVar 0)) (mAttr "high" [(4, fldG 1)] (mVar 0)))) (sRet (mB1 (c1 strD) (aCons (mAttr "low" [(4, fldG 0)] (mVar 0)) (aNil)))) (sNil))
 (sRet (mJs [mFmt (mAttr "low" [(4, fldG 0)] (mVar 0)), mFmt (mC (.d (.str ".."))), mFmt (mAttr "high" [(4, fldG 1)] (mVar 0))] Str.empty))
noncomputable def f_Span_str : List S → Ms → R S := fnSem 1 m_Span_str

noncomputable def m__law_told : Fw.Env → Ms → T :=
 sCons (sSet 1 (mTup (aCons (mC (.d (.str "other"))) (aNil))))
 (sCons (sTry (sCons (sSet 2 (mCMeth [(4, bndS f_Span_read [0, 1] [])] (mC (.d (.fn 4))) (mLen 1 (aCons (mVar 0) (aNil)))))
 (sSet 1 (mTup (aCons (mC (.d (.str "span"))) (aCons (mAttr "least" [(4, propG 4 (bndS f_Span_least [0] []))] (mVar 2)) (aCons (mAttr "greatest" [(4, propG 4 (bndS f_Span_greatest [0] []))] (mVar 2)) (aCons (mB1 (cOr (c1 strD) (cOwn [(4, bndS f_Span_str [0] [])])) (aCons (mVar 2) (aNil))) (aNil)))))))) [(fun c => List.lookup c ([(0, false), (1, false), (2, false), (3, true)] : List (Nat × Bool)), some 3, sSet 1 (mTup (aCons (mC (.d (.str "text"))) (aCons (mXat [(3, 0)] (mVar 3)) (aCons (mB1 (cXis [0, 1, 2, 3] [1] subT) (aCons (mVar 3) (aCons (mC (.d (.fn 1))) (aNil)))) (aNil)))))), (fun c => List.lookup c ([(0, true), (1, true), (2, true), (3, true)] : List (Nat × Bool)), none, sSet 1 (mTup (aCons (mC (.d (.str "other"))) (aNil))))])
 (sRet (mVar 1)))
noncomputable def f__law_told : List S → Ms → R S := fnSem 4 m__law_told

noncomputable def m__law_number : Fw.Env → Ms → T :=
 sCons (sIf (mOr (mNot (mB (mChain gLt gLt (mC (.d (.int 0))) (mB1 (c1 lenD) (aCons (mVar 0) (aNil))) (mC (.d (.int 10)))))) (mB (mOp (gEq true) (mLc false (iSeq (mVar 0)) (gSet 1) (mB (mOp (gIn true) (mVar 1) (mC (.d (.str "0123456789"))))) (mVar 1) [1]) (mLst (aNil))))) (sRet (mC (.d .non))) (sNil))
 (sCons (sIf (mAnd (mB (mOp gGt (mB1 (c1 lenD) (aCons (mVar 0) (aNil))) (mC (.d (.int 1))))) (mB (mOp (gEq false) (mOp gIx (mVar 0) (mC (.d (.int 0)))) (mC (.d (.str "0")))))) (sRet (mC (.d .non))) (sNil))
 (sRet (mB1 (cOr (c1 intD) (c1 intS)) (aCons (mVar 0) (aNil)))))
noncomputable def f__law_number : List S → Ms → R S := fnSem 2 m__law_number

noncomputable def m__law_due : Fw.Env → Ms → T :=
 sCons (sSet 1 (mBM .str gSplit (mVar 0) (aCons (mC (.d (.str ".."))) (aNil))))
 (sCons (sSet 2 (mLc false (iSeq (mVar 1)) (gSet 3) ((fun _ ms => .ok true ms)) (mCallN (bndS f__law_number [0] []) (mLen 1 (aCons (mVar 3) (aNil)))) [3]))
 (sCons (sIf (mOr (mB (mOp gGt (mB1 (c1 lenD) (aCons (mVar 1) (aNil))) (mC (.d (.int 2))))) (mB (mOp (gIn false) (mC (.d .non)) (mVar 2)))) (sRet (mTup (aCons (mC (.d (.str "text"))) (aCons (mC (.d (.int 0))) (aCons (mC (.d (.bl false))) (aNil)))))) (sNil))
 (sCons (sIf (mAnd (mB (mOp (gEq false) (mB1 (c1 lenD) (aCons (mVar 1) (aNil))) (mC (.d (.int 2))))) (mB (mOp gGe (mOp gIx (mVar 2) (mC (.d (.int 0)))) (mOp gIx (mVar 2) (mC (.d (.int 1))))))) (sRet (mTup (aCons (mC (.d (.str "text"))) (aCons (mC (.d (.int 0))) (aCons (mC (.d (.bl false))) (aNil)))))) (sNil))
 (sRet (mTup (aCons (mC (.d (.str "span"))) (aCons (mOp gIx (mVar 2) (mC (.d (.int 0)))) (aCons (mOp gIx (mVar 2) (mNeg (mC (.d (.int 1))))) (aCons (mVar 0) (aNil))))))))))
noncomputable def f__law_due : List S → Ms → R S := fnSem 4 m__law_due

noncomputable def m_Span_eq : Fw.Env → Ms → T :=
 sRet (mAndV (mB1 (cIsi [4] [4] subT) (aCons (mVar 1) (aCons (mC (.d (.fn 4))) (aNil)))) (mAndV (mOp (gEq false) (mAttr "low" [(4, fldG 0)] (mVar 0)) (mAttr "low" [(4, fldG 0)] (mVar 1))) (mOp (gEq false) (mAttr "high" [(4, fldG 1)] (mVar 0)) (mAttr "high" [(4, fldG 1)] (mVar 1)))))
noncomputable def f_Span_eq : List S → Ms → R S := fnSem 2 m_Span_eq

noncomputable def m_law : Fw.Env → Ms → T :=
 sCons (sFor (iRng1 (aCons (mB1 (c2 maxI) (aCons (mC (.d (.int 1))) (aCons (mB1 (c2 minI) (aCons (mC (.d (.int 6))) (aCons (mB1 (c1 lenD) (aCons (mVar 0) (aNil))) (aNil)))) (aNil)))) (aNil))) (gSet 1) (sCons (sSet 2 (mCallN (bndS f__law_feed [0, 1] []) (mLen 2 (aCons (mVar 0) (aCons (mVar 1) (aNil))))))
 (sFor (iRng1 (aCons (mC (.d (.int 3))) (aNil))) (gSet 3) (sCons (sSet 4 (mCallN (bndS f__law_shown [0] []) (mLen 1 (aCons (mVar 2) (aNil)))))
 (sCons (sSet 5 (mVar 4))
 (sCons (sFor (iRng1 (aCons (mOp gAdd (mC (.d (.int 1))) (mCallN (bndS f__law_take [0, 1] []) (mLen 2 (aCons (mVar 2) (aCons (mC (.d (.int 3))) (aNil)))))) (aNil))) (gSet 6) (sSet 5 (mCallN (bndS f__law_spoilt [0, 1] []) (mLen 2 (aCons (mVar 2) (aCons (mVar 5) (aNil)))))))
 (sFor (iList (mLst (aCons (mVar 4) (aCons (mVar 5) (aCons (mOp gAdd (mVar 4) (mC (.d (.str "\n")))) (aCons (mOp gAdd (mC (.d (.str " "))) (mVar 4)) (aCons (mOp gAdd (mVar 4) (mC (.d (.str " ")))) (aCons (mC (.d (.str "0"))) (aCons (mC (.d (.str ".."))) (aCons (mC (.d (.str ""))) (aCons (mC (.d (.str "3..3"))) (aCons (mC (.d (.str "5...7"))) (aCons (mVar 4) (aNil)))))))))))))) (gSet 7) (sIf (mB (mOp (gEq true) (mB1 (c1 reprD) (aCons (mCallN (bndS f__law_told [0] []) (mLen 1 (aCons (mVar 7) (aNil)))) (aNil))) (mB1 (c1 reprD) (aCons (mCallN (bndS f__law_due [0] []) (mLen 1 (aCons (mVar 7) (aNil)))) (aNil))))) (sRet (mC (.d (.bl false)))) (sNil)))))))))
 (sRet (mOp (gOr (gEq false) (gEqO [4] [(4, bndS f_Span_eq [0, 1] [])])) (mCMeth [(4, bndS f_Span_read [0, 1] [])] (mC (.d (.fn 4))) (mLen 1 (aCons (mC (.d (.str "0..1"))) (aNil)))) (mCallN (mkS 4 (fld 4) (bndS f_Span_init [0, 1, 2] [])) (mLen 2 (aCons (mC (.d (.int 0))) (aCons (mC (.d (.int 1))) (aNil)))))))
noncomputable def f_law : List S → Ms → R S := fnSem 8 m_law

end Ga
set_option Elab.async false
set_option linter.all false
set_option maxRecDepth 100000
set_option maxHeartbeats 1000000
/-! Fd0: the law's source of draws. -/
namespace Ga
open PySem L2 Fw
def IsFeed (c : Cell) : Prop := ∃ a b d : Int, c = .lst [.int a, .int b, .int d]
theorem mulI {a b : Int} {ms : Ms} (h : cMul a b = true) : gMul (.d (.int a)) (.d (.int b)) ms = .ok (.d (.int (a * b))) ms := by
  have e : gMulI (.d (.int a)) (.d (.int b)) ms = .ok (.d (.int (a * b))) ms := by
    unfold gMulI gII
    simp [h]
  unfold gMul gOr
  rw [e]
theorem mulIl {a b : Int} {ms : Ms} (h : -(2 ^ 64) < a ∧ a < 2 ^ 64) : gMul (.d (.int a)) (.d (.int b)) ms = .ok (.d (.int (a * b))) ms := mulI (by unfold cMul; rw [decide_eq_true h]; rfl)
theorem mulIr {a b : Int} {ms : Ms} (h : -(2 ^ 64) < b ∧ b < 2 ^ 64) : gMul (.d (.int a)) (.d (.int b)) ms = .ok (.d (.int (a * b))) ms := mulI (by unfold cMul; rw [decide_eq_true h, Bool.or_true])
theorem modI {a b : Int} {ms : Ms} (h : 0 < b) : gModI (.d (.int a)) (.d (.int b)) ms = .ok (.d (.int (a % b))) ms := by
  unfold gModI gII cMod
  simp [h]
theorem divI {a b : Int} {ms : Ms} (h : 0 < b) (h2 : b < 18446744073709551616) : gDivI (.d (.int a)) (.d (.int b)) ms = .ok (.d (.int (a / b))) ms := by
  unfold gDivI gII cDiv
  simp [h, h2]
theorem take_ok {m : Int} (h : 0 < m) (h2 : m < 18446744073709551616) {c : Cell} (hc : IsFeed c) : ∃ (r : Int) (c' : Cell), IsFeed c' ∧ 0 ≤ r ∧ r < m ∧ f__law_take [.loc 0, .d (.int m)] [c] = .ok (.d (.int r)) [c'] := by
  obtain ⟨a, b, d, rfl⟩ := hc
  unfold f__law_take
  rw [fn_ev]
  by_cases ha : 0 < a
  · refine ⟨a % m, .lst [.int (a / m), .int b, .int d], ⟨_, _, _, rfl⟩, Int.emod_nonneg _ (by omega), Int.emod_lt_of_pos _ h, ?_⟩
    simp [m__law_take, start0, sSub, gIx, view, ixD, atI, ixN, ha, modI h, divI h h2]
  · refine ⟨((b + 104729 * (d + 1)) * 69623 % 2147483647 * 2147483647 + (((b + 104729 * (d + 1)) * 69623 % 2147483647 * 48271 + 30103) % 2147483629 + 1)) / 8191 % m, .lst [.int a, .int (((b + 104729 * (d + 1)) * 69623 % 2147483647 * 48271 + 30103) % 2147483629 + 1), .int (d + 1)], ⟨_, _, _, rfl⟩, Int.emod_nonneg _ (by omega), Int.emod_lt_of_pos _ h, ?_⟩
    simp [m__law_take, start0, sSub, gIx, view, ixD, atI, ixN, ha, modI h, modI (b := 2147483647) (by decide), modI (b := 2147483629) (by decide), divI (b := 8191) (by decide) (by decide), mulIl (a := 104729) (by decide), mulIr (b := 69623) (by decide), mulIr (b := 48271) (by decide), mulIr (b := 2147483647) (by decide)]
/-- the script, indexed -/
theorem scr_ix {ns : List Int} {k : Int} {ms : Ms} (h0 : 0 ≤ k) (h1 : k < ns.length) : ∃ v, gIx (scr ns) (.d (.int k)) ms = .ok (.d (.int v)) ms := by
  have hk : k.toNat < ns.length := by omega
  refine ⟨ns[k.toNat], ?_⟩
  have e : L2.atI (ns.map D.int) k = some (.int ns[k.toNat]) := by
    unfold L2.atI L2.ixN
    rw [if_pos h0, List.length_map, if_pos h1]
    simp [hk]
  unfold gIx scr
  simp only [view_d, Option.bind_some, ixD, e]
theorem scr_len {ns : List Int} {ms : Ms} : c1 lenD [scr ns] ms = .ok (.d (.int ns.length)) ms := by
  unfold scr
  rw [len_frz, List.length_map]
theorem abs_ok {v : Int} {ms : Ms} : c1 absD [.d (.int v)] ms = .ok (.d (.int (if v < 0 then -v else v))) ms := rfl
theorem intD_bl {b : Bool} {ms : Ms} : c1 intD [.d (.bl b)] ms = .ok (.d (.int (if b = true then 1 else 0))) ms := rfl
theorem powI {ms : Ms} : gPowI (.d (.int 10)) (.d (.int 18)) ms = .ok (.d (.int 1000000000000000000)) ms := rfl
theorem feed_ok {ns : List Int} {k : Int} (h0 : 0 ≤ k) : ∃ c, IsFeed c ∧ f__law_feed [scr ns, .d (.int k)] [] = .ok (.loc 0) [c] := by
  unfold f__law_feed
  rw [fn_ev]
  have fin : ∀ b : Int, ∃ c, IsFeed c ∧ T.fin (.rt (.loc 0) [.lst [.int (b * (if decide (1000000000000000000 ≤ b) = true then 1 else 0)), .int ((b % 2147483629 * 48271 + 40692 * k) % 2147483629 + 1), .int 0]]) = .ok (.loc 0) [c] := fun b => ⟨_, ⟨_, _, _, rfl⟩, rfl⟩
  have hm : ∀ (b : Int) (ms : Ms), gMul (.d (.int b)) (.d (.int (if decide (1000000000000000000 ≤ b) = true then 1 else 0))) ms = .ok (.d (.int (b * (if decide (1000000000000000000 ≤ b) = true then 1 else 0)))) ms := fun b ms => mulIr (by split <;> decide)
  have key : ∀ b : Int, (sCons (sSet 3 (mOp gAdd (mOp gModI (mOp gAdd (mOp gMul (mOp gModI (mVar 2) (mC (.d (.int 2147483629)))) (mC (.d (.int 48271)))) (mOp gMul (mC (.d (.int 40692))) (mVar 1))) (mC (.d (.int 2147483629)))) (mC (.d (.int 1)))))
   (sRet (mNew (aCons (mOp gMul (mVar 2) (mB1 (c1 intD) (aCons (mOp gGe (mVar 2) (mOp gPowI (mC (.d (.int 10))) (mC (.d (.int 18))))) (aNil)))) (aCons (mVar 3) (aCons (mC (.d (.int 0))) (aNil))))))) [some (scr ns), some (.d (.int k)), some (.d (.int b)), none] [] =
      .rt (.loc 0) [.lst [.int (b * (if decide (1000000000000000000 ≤ b) = true then 1 else 0)), .int ((b % 2147483629 * 48271 + 40692 * k) % 2147483629 + 1), .int 0]] := fun b => by
    simp only [ev_cons, ev_set, ev_op, ev_var, ev_c, ev_ret, ev_new, ev_aCons, ev_aNil, ev_b1, bind_ok, ofE_ok, seq_nx, List.getElem?_cons_zero, List.getElem?_cons_succ, modI (b := 2147483629) (by decide), mulIr (b := 48271) (by decide), mulIl (a := 40692) (by decide), addII, geII, powI, intD_bl, hm, List.set_cons_succ, List.set_cons_zero]
    rfl
  by_cases h1 : k < ns.length
  · obtain ⟨v, e⟩ := scr_ix (ns := ns) (k := k) (ms := []) h0 h1
    have := key (if v < 0 then -v else v)
    obtain ⟨c, hc, ef⟩ := fin (if v < 0 then -v else v)
    refine ⟨c, hc, ?_⟩
    rw [← ef, ← this]
    congr 1
    simp [m__law_feed, start0, mulIl (a := 6151) (by decide), scr_len, h1, e, abs_ok]
  · by_cases h2 : (0 : Int) < ns.length
    · obtain ⟨v, e⟩ := scr_ix (ns := ns) (k := k % ns.length) (ms := []) (Int.emod_nonneg _ (by omega)) (Int.emod_lt_of_pos _ h2)
      have := key (6151 * k + 23 + (if v < 0 then -v else v) % 2147483629 * 50021)
      obtain ⟨c, hc, ef⟩ := fin (6151 * k + 23 + (if v < 0 then -v else v) % 2147483629 * 50021)
      refine ⟨c, hc, ?_⟩
      rw [← ef, ← this]
      congr 1
      have h2n : 0 < ns.length := by omega
      simp [m__law_feed, start0, mulIl (a := 6151) (by decide), scr_len, h1, h2, h2n, modI h2, e, abs_ok, modI (b := 2147483629) (by decide), mulIr (b := 50021) (by decide)]
    · have := key (6151 * k + 23)
      obtain ⟨c, hc, ef⟩ := fin (6151 * k + 23)
      refine ⟨c, hc, ?_⟩
      rw [← ef, ← this]
      congr 1
      have h2n : ¬ 0 < ns.length := by omega
      simp [m__law_feed, start0, mulIl (a := 6151) (by decide), scr_len, h1, h2, h2n]
theorem feed_nat (ns : List Int) (k : Nat) : ∃ c, IsFeed c ∧ f__law_feed [.d (.frz (ns.map .int)), .d (.int k)] [] = .ok (.loc 0) [c] := feed_ok (ns := ns) (Int.natCast_nonneg k)
end Ga
set_option Elab.async false
set_option linter.all false
set_option maxRecDepth 100000
set_option maxHeartbeats 1000000
namespace Ga
open PySem L2 Fw
theorem sg_mem {z : Str} {x : D} (h : x ∈ signs z) : ∃ c, c ∈ TL.tl z ∧ x = .str ⟨#[c]⟩ := by
  unfold signs at h
  obtain ⟨c, hc, rfl⟩ := List.mem_map.mp h
  exact ⟨c, hc, rfl⟩
def sgD (x : D) : Bool := match x with
  | .str ⟨⟨[c]⟩⟩ => isDig c
  | _ => false
theorem signs_all (l : List Nat) : (signs ⟨⟨l⟩⟩).map (fun x => D.bl (sgD x)) = l.map (fun c => D.bl (isDig c)) := by
  unfold signs
  rw [List.map_map]; rfl
theorem str0 (c : Nat) : ((⟨⟨[c]⟩⟩ : Str) == Str.ofString "0") = decide (c = 48) := by
  show ((⟨⟨[c]⟩⟩ : Str) == ⟨⟨[48]⟩⟩) = _
  by_cases h : c = 48
  · subst h; decide
  · rw [decide_eq_false h]
    refine beq_eq_false_iff_ne.mpr fun z => h ?_
    injection z with z; injection z with z; injection z
theorem str0' (l : List Nat) : ((⟨⟨48 :: l⟩⟩ : Str) != Str.ofString "0") = decide (l ≠ []) := by
  show ((⟨⟨48 :: l⟩⟩ : Str) != ⟨⟨[48]⟩⟩) = _
  cases l with
  | nil => decide
  | cons a l =>
    rw [decide_eq_true (by simp)]
    refine bne_iff_ne.mpr fun z => ?_
    injection z with z; injection z with z; injection z with _ z; cases z
theorem len_mk (l : List Nat) : Str.length ⟨⟨l⟩⟩ = l.length := rfl
theorem int_digits {l : List Nat} (h : NumText.AllDigits l) (h1 : l ≠ []) (h2 : l.length ≤ 9) {ms : Ms} : cOr (c1 intD) (c1 intS) [.d (.str ⟨⟨l⟩⟩)] ms = .ok (.d (.int (NumText.digitsVal l))) ms := by
  have e : PySem.intText? ⟨⟨l⟩⟩ = some ((NumText.digitsVal l : Nat) : Int) := PySem.intText_digits (x := ⟨⟨l⟩⟩) h h1 (by rw [len_mk]; omega)
  unfold cOr
  rw [show c1 intD [.d (.str ⟨⟨l⟩⟩)] ms = .bad from rfl]
  show c1 intS [.d (.str ⟨⟨l⟩⟩)] ms = _
  unfold c1 intS
  simp [len_mk, e, show l.length ≤ 640 by omega]
def digL (l : List Nat) : List D := l.map fun c => .bl (isDig c)
theorem all_digL (l : List Nat) : allD (digL l) = some (.bl (l.all isDig)) := allD_f
theorem comp_dig {l : List Nat} (hl : l.length ≤ 1000000) : mLc false (iSeq (mVar 0)) (gSet 1) ((fun _ ms => .ok true ms)) (mOp (gIn false) (mVar 1) (mC (.d (.str "0123456789")))) [1] [some (.d (.str ⟨⟨l⟩⟩)), none] [] = .ok (.d (.lst (digL l))) [] := by
  unfold digL
  rw [← signs_all]
  refine lc_all (fun x => .bl (sgD x)) (itS_ rfl) (fun x hx => ?_) (by simp [signs]; exact hl)
  obtain ⟨c, _, rfl⟩ := sg_mem hx
  exact ⟨_, rfl, rfl, by simp [wipeE, inDig, sgD]⟩
theorem number_of_ok {z : Str} (hz : z.length ≤ 1000000) : f_number_of [.d (.str z)] [] = .ok (.d (numO z)) [] := by
  obtain ⟨⟨l⟩⟩ := z
  have hl : l.length ≤ 1000000 := hz
  unfold f_number_of
  rw [fn_ev]
  cases l with
  | nil => simp [m_number_of, start0, len_str hz, len_mk, numO, numB]
  | cons c l =>
    by_cases h9 : l.length + 1 ≤ 9
    · have h9i : (l.length : Int) + 1 ≤ 9 := by omega
      cases ha : (c :: l).all isDig with
      | true =>
        have hd := allDig_iff.mp ha
        by_cases h0 : c = 48
        · subst h0
          by_cases hn : l = []
          · subst hn
            simp [m_number_of, start0, len_str hz, len_mk, comp_dig hl, all_digL, ha, h9, gIxs hz, atI, ixN, str0, str0', int_digits hd, numO, numB]
          · have : 1 < l.length + 1 := by have := List.length_pos_iff.mpr hn; omega
            simp [m_number_of, start0, len_str hz, len_mk, comp_dig hl, all_digL, ha, h9, h9i, gIxs hz, atI, ixN, str0, str0', hn, numO, numB]
        · simp [m_number_of, start0, len_str hz, len_mk, comp_dig hl, all_digL, ha, h9, h9i, gIxs hz, atI, ixN, str0, str0', h0, int_digits hd, numO, numB]
      | false =>
        simp [m_number_of, start0, len_str hz, len_mk, comp_dig hl, all_digL, ha, h9, h9i, numO, numB]
    · have h9i : ¬ ((l.length : Int) + 1 ≤ 9) := by omega
      simp [m_number_of, start0, len_str hz, len_mk, h9, h9i, numO, numB]
end Ga
set_option Elab.async false
set_option linter.all false
set_option maxRecDepth 100000
set_option maxHeartbeats 1000000
namespace Ga
open PySem L2 Fw
def nonD (l : List Nat) : List D := (signs ⟨⟨l⟩⟩).filter fun x => !sgD x
theorem nonD_empty (l : List Nat) : (nonD l).isEmpty = l.all isDig := by
  unfold nonD signs
  show (((l.map fun c => D.str ⟨#[c]⟩)).filter fun x => !sgD x).isEmpty = _
  induction l with
  | nil => rfl
  | cons c l ih =>
    rw [List.map_cons, List.filter_cons]
    have e : sgD (.str ⟨#[c]⟩) = isDig c := rfl
    rw [e, List.all_cons]
    cases isDig c with
    | true => simpa using ih
    | false => simp
theorem comp_non {l : List Nat} (hl : l.length ≤ 1000000) : mLc false (iSeq (mVar 0)) (gSet 1) (mB (mOp (gIn true) (mVar 1) (mC (.d (.str "0123456789"))))) (mVar 1) [1] [some (.d (.str ⟨⟨l⟩⟩)), none] [] = .ok (.d (.lst (nonD l))) [] := by
  have := lc_map (mi := iSeq (mVar 0)) (g := gSet 1) (tt := mB (mOp (gIn true) (mVar 1) (mC (.d (.str "0123456789"))))) (elt := mVar 1) (vs := [1]) (env := [some (.d (.str ⟨⟨l⟩⟩)), none]) (ms := []) (xs := signs ⟨⟨l⟩⟩) (fun x => !sgD x) (fun x => x) (itS_ rfl) (fun x hx => by
    obtain ⟨c, _, rfl⟩ := sg_mem hx
    exact ⟨_, rfl, by simp [wipeE, inDig, sgD], fun _ => rfl⟩) (by simp [signs]; exact hl)
  rw [this]
  simp [nonD]
theorem rep_nonD {l : List Nat} (h : ∀ c ∈ l, c < 128) : ∃ W, Rep 1 W (.lst (nonD l)) := ⟨_, rep_lst (W := 1) fun x hx => by
  obtain ⟨c, hc, rfl⟩ := sg_mem (List.mem_filter.mp hx).1
  exact rep_str (fun d hd => by
    have : d = c := by simpa [TL.tl] using hd
    subst this; exact h d hc) (Nat.le_refl 1)⟩
theorem law_number_ok {z : Str} (hz : z.length ≤ 1000000) (ha : Asc z) : f__law_number [.d (.str z)] [] = .ok (.d (numO z)) [] := by
  obtain ⟨⟨l⟩⟩ := z
  have hl : l.length ≤ 1000000 := hz
  obtain ⟨W, hr⟩ := rep_nonD ha
  have hn : ∀ ms, gEq true (.d (.lst (nonD l))) (.d (.lst [])) ms = .ok (.d (.bl (!l.all isDig))) ms := fun ms => by
    rw [eq_lnil hr (by decide), nonD_empty]; rfl
  unfold f__law_number
  rw [fn_ev]
  cases l with
  | nil => simp [m__law_number, start0, len_str hz, len_mk, numO, numB]
  | cons c l =>
    by_cases h9 : l.length + 1 ≤ 9
    · have h9i : (l.length : Int) + 1 < 10 := by omega
      cases ha : (c :: l).all isDig with
      | true =>
        have hd := allDig_iff.mp ha
        by_cases hn0 : l = []
        · subst hn0
          simp [m__law_number, start0, len_str hz, len_mk, comp_non hl, hn, ha, h9, h9i, gIxs hz, atI, ixN, str0, int_digits hd, numO, numB]
        · have : 1 < l.length + 1 := by have := List.length_pos_iff.mpr hn0; omega
          have thi : (1 : Int) < l.length + 1 := by omega
          by_cases h0 : c = 48
          · subst h0
            simp [m__law_number, start0, len_str hz, len_mk, comp_non hl, hn, ha, h9, h9i, gIxs hz, atI, ixN, str0, hn0, this, thi, numO, numB]
          · simp [m__law_number, start0, len_str hz, len_mk, comp_non hl, hn, ha, h9, h9i, gIxs hz, atI, ixN, str0, h0, hn0, this, thi, int_digits hd, numO, numB]
      | false =>
        simp [m__law_number, start0, len_str hz, len_mk, comp_non hl, hn, ha, h9, h9i, numO, numB]
    · have h9i : ¬ ((l.length : Int) + 1 < 10) := by omega
      simp [m__law_number, start0, len_str hz, len_mk, h9, h9i, numO, numB]
end Ga
set_option Elab.async false
set_option linter.all false
set_option maxRecDepth 100000
set_option maxHeartbeats 1000000
namespace Ga
open PySem L2 Fw
theorem is_whole_int {a : Int} : f_is_whole [.d (.int a)] [] = .ok (.d (.bl true)) [] := rfl
theorem init_ok {a b : Int} (h : 0 ≤ a) (h2 : a ≤ b) : f_Span_init [.loc 0, .d (.int a), .d (.int b)] [.ins 4 []] = .ok (.d .non) [.ins 4 [("low", .int a), ("high", .int b)]] := by
  unfold f_Span_init
  rw [fn_ev]
  simp [m_Span_init, start0, is_whole_int, pick, h, h2]
  rfl
theorem init_bad {a b : Int} (h : ¬ (0 ≤ a ∧ a ≤ b)) : f_Span_init [.loc 0, .d (.int a), .d (.int b)] [.ins 4 []] = .ex 1 [.int b, .int a] [.ins 4 []] := by
  unfold f_Span_init
  rw [fn_ev]
  by_cases h1 : 0 ≤ a
  · have h2 : ¬ a ≤ b := fun z => h ⟨h1, z⟩
    simp [m_Span_init, start0, is_whole_int, pick, h1, h2, sRaise]
  · simp [m_Span_init, start0, is_whole_int, pick, h1, sRaise]
abbrev span (a b : Int) : D := .obj 4 [.int a, .int b]
theorem mk_span {a b : Int} (h : 0 ≤ a) (h2 : a ≤ b) {ms : Ms} : mkS 4 (fld 4) (bndS f_Span_init [0, 1, 2] []) [.d (.int a), .d (.int b)] ms = .ok (.d (span a b)) ms :=
  mk_ok (xs := [.int a, .int b]) rfl (init_ok h h2) rfl
theorem mk_span_bad {a b : Int} (h : ¬ (0 ≤ a ∧ a ≤ b)) {ms : Ms} : mkS 4 (fld 4) (bndS f_Span_init [0, 1, 2] []) [.d (.int a), .d (.int b)] ms = .ex 1 [.int b, .int a] ms :=
  mk_ex (xs := [.int a, .int b]) rfl (init_bad h)
theorem least_ok {a b : Int} : f_Span_least [.d (span a b)] [] = .ok (.d (.int a)) [] := rfl
theorem greatest_ok {a b : Int} : f_Span_greatest [.d (span a b)] [] = .ok (.d (.int b)) [] := rfl
/-- the text of a span -/
def spanT (a b : Int) : Str := if a = b then itx a else itx a ++ Str.ofString ".." ++ itx b
theorem str_ok {a b : Int} (ha : a.natAbs < 10 ^ 31) (hb : b.natAbs < 10 ^ 31) : f_Span_str [.d (span a b)] [] = .ok (.d (.str (spanT a b))) [] := by
  have l1 := itx_len ha
  have l2 := itx_len hb
  unfold f_Span_str span
  rw [fn_ev]
  by_cases h : a = b
  · subst h
    simp [m_Span_str, start0, mAttr, List.lookup, fldG, noEx, str_int ha, spanT]
  · have e1 : (Str.ofString "..").length = 2 := rfl
    have l3 : (itx a ++ Str.ofString "..").length ≤ 1000000 := by rw [PySem.Str.length_append, e1]; omega
    have l4 : (itx a ++ Str.ofString ".." ++ itx b).length ≤ 1000000 := by rw [PySem.Str.length_append, PySem.Str.length_append, e1]; omega
    simp [m_Span_str, start0, mAttr, List.lookup, fldG, noEx, spanT, h, fmt_int ha, fmt_int hb, fmt_str (a := Str.ofString "..") (by rw [e1]; decide), jsK_str (acc := Str.empty) (y := itx a) (by rw [empty_app]; omega), jsK_str l3, jsK_str l4]
end Ga
set_option Elab.async false
set_option linter.all false
set_option maxRecDepth 100000
set_option maxHeartbeats 1000000
namespace Ga
open PySem L2 Fw
abbrev val (l : List Nat) : Int := (NumText.digitsVal l : Nat)
def readO (l : List Nat) : Option (Int × Int) := match TL.par dots [] l with
  | none => if numB l = true then some (val l, val l) else none
  | some (a, b) => if numB a = true ∧ numB b = true ∧ val a < val b then some (val a, val b) else none
def ansD (z : Str) : D := match readO (TL.tl z) with
  | some (a, b) => .tup [.str "span", .int a, .int b, .str z]
  | none => .tup [.str "text", .int 0, .bl false]
theorem mkS_tl (l : List Nat) : TL.tl ⟨⟨l⟩⟩ = l := rfl
theorem numO_t {l : List Nat} (h : numB l = true) : numO ⟨⟨l⟩⟩ = .int (val l) := by unfold numO; rw [mkS_tl, if_pos h]
theorem numO_f {l : List Nat} (h : numB l = false) : numO ⟨⟨l⟩⟩ = .non := by unfold numO; rw [mkS_tl, if_neg (by rw [h]; decide)]
theorem part_some {l a b : List Nat} (h : TL.par dots [] l = some (a, b)) : Txt.partition ⟨⟨l⟩⟩ (Str.ofString "..") = (⟨⟨a⟩⟩, Str.ofString "..", ⟨⟨b⟩⟩) := by
  have := TL.partition_par ⟨⟨l⟩⟩ (Str.ofString "..") (by rw [tl_dots]; decide)
  rw [this, tl_dots]
  show (match TL.par dots [] l with | some (a, b) => _ | none => _) = _
  rw [h]
theorem part_none {l : List Nat} (h : TL.par dots [] l = none) : Txt.partition ⟨⟨l⟩⟩ (Str.ofString "..") = (⟨⟨l⟩⟩, Str.empty, Str.empty) := by
  have := TL.partition_par ⟨⟨l⟩⟩ (Str.ofString "..") (by rw [tl_dots]; decide)
  rw [this, tl_dots]
  show (match TL.par dots [] l with | some (a, b) => _ | none => _) = _
  rw [h]
theorem part_ev {z : Str} (hz : z.length ≤ 1000000) {ms : Ms} : gPart (.d (.str z)) [.d (.str "..")] ms = .ok (.d (.tup [.str (Txt.partition z "..").1, .str (Txt.partition z "..").2.1, .str (Txt.partition z "..").2.2])) ms := by
  unfold gPart
  have : (!((Str.ofString "..").length == 0) && few z.length) = true := by rw [few_ev, decide_eq_true hz]; rfl
  dsimp only
  rw [this]
theorem par_len {l a b : List Nat} (h : TL.par dots [] l = some (a, b)) : a.length ≤ l.length ∧ b.length ≤ l.length := by
  have := congrArg List.length (par_sound l [] h)
  simp [dots] at this
  omega
theorem read_ok {l : List Nat} (hz : l.length ≤ 1000000) : f_Span_read [.d (.fn 4), .d (.str ⟨⟨l⟩⟩)] [] = match readO l with
    | some (a, b) => .ok (.d (span a b)) []
    | none => .ex 3 [.int 0] [] := by
  unfold f_Span_read
  rw [fn_ev]
  have hz' : Str.length ⟨⟨l⟩⟩ ≤ 1000000 := hz
  unfold readO
  cases hp : TL.par dots [] l with
  | none =>
    have e1 : (Str.empty == Str.ofString "..") = false := by decide +kernel
    cases hn : numB l with
    | true =>
      have this : (0 : Int) ≤ val l := Int.natCast_nonneg _
      simp [m_Span_read, start0, mBM, tyS, part_ev hz', part_none hp, gUn, gsCons, gsNil, number_of_ok hz', numO_t hn, pick, e1, mCallV, mk_span (this) (Int.le_refl _)]
    | false =>
      simp [m_Span_read, start0, mBM, tyS, part_ev hz', part_none hp, gUn, gsCons, gsNil, number_of_ok hz', numO_f hn, pick, e1, sRaise]
  | some p =>
    obtain ⟨a, b⟩ := p
    obtain ⟨la, lb⟩ := par_len hp
    have ha' : Str.length ⟨⟨a⟩⟩ ≤ 1000000 := Nat.le_trans la hz
    have hb' : Str.length ⟨⟨b⟩⟩ ≤ 1000000 := Nat.le_trans lb hz
    have va : (0 : Int) ≤ val a := Int.natCast_nonneg _
    cases hna : numB a with
    | false => simp [m_Span_read, start0, mBM, tyS, part_ev hz', part_some hp, gUn, gsCons, gsNil, number_of_ok ha', number_of_ok hb', numO_f hna, pick, sRaise, hna]
    | true =>
      cases hnb : numB b with
      | false => simp [m_Span_read, start0, mBM, tyS, part_ev hz', part_some hp, gUn, gsCons, gsNil, number_of_ok ha', number_of_ok hb', numO_t hna, numO_f hnb, pick, sRaise, hna, hnb]
      | true =>
        by_cases hlt : val a < val b
        · have h1 : ¬ val b < val a := by omega
          have h2 : ¬ val a = val b := by omega
          simp [m_Span_read, start0, mBM, tyS, part_ev hz', part_some hp, gUn, gsCons, gsNil, number_of_ok ha', number_of_ok hb', numO_t hna, numO_t hnb, pick, sRaise, hna, hnb, hlt, h1, h2, mCallV, mk_span va (show val a ≤ val b by omega)]
        · by_cases h1 : val b < val a
          · simp [m_Span_read, start0, mBM, tyS, part_ev hz', part_some hp, gUn, gsCons, gsNil, number_of_ok ha', number_of_ok hb', numO_t hna, numO_t hnb, pick, sRaise, hna, hnb, hlt, h1]
          · have h2 : val a = val b := by omega
            simp [m_Span_read, start0, mBM, tyS, part_ev hz', part_some hp, gUn, gsCons, gsNil, number_of_ok ha', number_of_ok hb', numO_t hna, numO_t hnb, pick, sRaise, hna, hnb, hlt, h1, h2]
theorem val_sm {l : List Nat} (h : numB l = true) : (val l).natAbs < 10 ^ 31 := by
  have := num_lt h
  show (NumText.digitsVal l : Int).natAbs < _
  omega
theorem read_sm {l : List Nat} {a b : Int} (h : readO l = some (a, b)) : a.natAbs < 10 ^ 31 ∧ b.natAbs < 10 ^ 31 ∧ 0 ≤ a ∧ a ≤ b := by
  unfold readO at h
  split at h
  · split at h
    · rename_i hn; cases h; exact ⟨val_sm hn, val_sm hn, Int.natCast_nonneg _, Int.le_refl _⟩
    · cases h
  · split at h
    · rename_i hn; cases h; exact ⟨val_sm hn.1, val_sm hn.2.1, Int.natCast_nonneg _, by omega⟩
    · cases h
/-- the text back -/
theorem read_text {l : List Nat} {a b : Int} (h : readO l = some (a, b)) : spanT a b = ⟨⟨l⟩⟩ := by
  unfold readO at h
  split at h
  · split at h
    · rename_i hn
      cases h
      unfold spanT
      rw [if_pos rfl]
      exact num_text (z := ⟨⟨l⟩⟩) hn
    · cases h
  · rename_i x y hp
    split at h
    · rename_i hn
      cases h
      have e1 : itx (val x) = ⟨⟨x⟩⟩ := num_text (z := ⟨⟨x⟩⟩) hn.1
      have e2 : itx (val y) = ⟨⟨y⟩⟩ := num_text (z := ⟨⟨y⟩⟩) hn.2.1
      unfold spanT
      rw [if_neg (by omega), e1, e2]
      refine str_ext ?_
      have := par_sound l [] hp
      rw [List.nil_append] at this
      rw [TL.tl_append, TL.tl_append, tl_dots, List.append_assoc]
      exact this.symm
    · cases h
theorem told_ok {z : Str} (hz : z.length ≤ 1000000) : f__law_told [.d (.str z)] [] = .ok (.d (ansD z)) [] := by
  obtain ⟨⟨l⟩⟩ := z
  unfold f__law_told
  rw [fn_ev]
  have hr := read_ok (l := l) hz
  unfold ansD
  rw [mkS_tl]
  cases h : readO l with
  | none =>
    rw [h] at hr
    simp [m__law_told, start0, sTry, mCMeth, List.lookup, pick, hr]
    rfl
  | some p =>
    obtain ⟨a, b⟩ := p
    replace hr : f_Span_read [.d (.fn 4), .d (.str ⟨⟨l⟩⟩)] [] = .ok (.d (span a b)) [] := by rw [hr, h]
    obtain ⟨sa, sb, _, _⟩ := read_sm h
    have hs := str_ok sa sb
    rw [read_text h] at hs
    simp [m__law_told, start0, sTry, mCMeth, List.lookup, pick, hr, mAttr, propG, noEx, least_ok, greatest_ok, cOwn, asStr, hs]
end Ga
set_option Elab.async false
set_option linter.all false
set_option maxRecDepth 100000
set_option maxHeartbeats 1000000
namespace Ga
open PySem L2 Fw
def cutsD (l : List Nat) : List D := (TL.spl dots 0 [] l).map fun p => .str ⟨⟨p⟩⟩
def numsD (l : List Nat) : List D := (TL.spl dots 0 [] l).map fun p => numO ⟨⟨p⟩⟩
def numX (d : D) : D := match d with
  | .str z => numO z
  | _ => .non
theorem split_ev {l : List Nat} (h : l.length + 2 ≤ 1000000) {ms : Ms} : gSplit (.d (.str ⟨⟨l⟩⟩)) [.d (.str "..")] ms = .ok (.d (.lst (cutsD l))) ms := by
  unfold gSplit
  have e : (!((Str.ofString "..").length == 0) && few (Str.length ⟨⟨l⟩⟩ + 2)) = true := by rw [few_ev, decide_eq_true (show Str.length ⟨⟨l⟩⟩ + 2 ≤ 1000000 from h)]; rfl
  dsimp only
  rw [e]
  have := TL.split_spl ⟨⟨l⟩⟩ (Str.ofString "..") (by rw [tl_dots]; decide) (TL.kind_ok (by decide +kernel))
  rw [tl_dots] at this
  have e2 : dStrs (Txt.split ⟨⟨l⟩⟩ "..") = cutsD l := by
    unfold dStrs cutsD
    show _ = (TL.spl dots 0 [] (TL.tl ⟨⟨l⟩⟩)).map _
    rw [← this, List.map_map]
    rfl
  dsimp only
  rw [e2]
theorem nums_ev {l : List Nat} (hl : l.length + 2 ≤ 1000000) (ha : ∀ c ∈ l, c < 128) : mLc false (iSeq (mVar 1)) (gSet 3) ((fun _ ms => .ok true ms)) (mCallN (bndS f__law_number [0] []) (mLen 1 (aCons (mVar 3) (aNil)))) [3] [some (.d (.str ⟨⟨l⟩⟩)), some (.d (.lst (cutsD l))), none, none] [] = .ok (.d (.lst (numsD l))) [] := by
  have e : numsD l = (cutsD l).map numX := by unfold numsD cutsD; rw [List.map_map]; rfl
  obtain ⟨h1, h2⟩ := spl_len dots l 0 []
  rw [e]
  refine lc_all numX (itL rfl) (fun x hx => ?_) (by unfold cutsD; rw [List.length_map]; omega)
  obtain ⟨p, hp, rfl⟩ := List.mem_map.mp hx
  have hl2 : Str.length ⟨⟨p⟩⟩ ≤ 1000000 := by have := h2 p hp; simp at this; show p.length ≤ _; omega
  have ha2 : Asc ⟨⟨p⟩⟩ := fun c hc => ha c (by simpa using spl_mem dots l 0 [] p hp c hc)
  exact ⟨_, rfl, rfl, by simp [wipeE, law_number_ok hl2 ha2, pick, numX]⟩
def isNon (d : D) : Bool := match d with
  | .non => true
  | _ => false
theorem in_non {ds : List D} (h : ds.all flatD = true) {ms : Ms} : gIn false (.d .non) (.d (.lst ds)) ms = .ok (.d (.bl (ds.any isNon))) ms := by
  have e : ∀ ds : List D, ds.all flatD = true → inF .non ds = ds.any isNon := fun ds => by
    induction ds with
    | nil => intro _; rfl
    | cons d ds ih =>
      intro h
      rw [List.all_cons, Bool.and_eq_true] at h
      have : inF .non (d :: ds) = (eqV (flatOf d) .non || inF .non ds) := by unfold inF inV; rw [List.map_cons, List.any_cons]; rfl
      rw [this, ih h.2, List.any_cons]
      cases d <;> first | rfl | cases h.1
  unfold gIn gOr
  rw [show gInS false (.d .non) (.d (.lst ds)) ms = .bad from rfl]
  have : gInF false (.d .non) (.d (.lst ds)) ms = .ok (.d (.bl (ds.any isNon))) ms := by
    unfold gInF
    have h' : (flatD D.non && ds.all flatD) = true := by rw [h]; rfl
    simp only [seqD, view_d, h', e ds h]
    simp
  simp only [this]
theorem flat_numO (z : Str) : flatD (numO z) = true := by unfold numO; split <;> rfl
theorem flat_nums (l : List Nat) : (numsD l).all flatD = true := by
  unfold numsD
  rw [List.all_map, List.all_eq_true]
  exact fun p _ => flat_numO _
theorem non_numO {l : List Nat} : isNon (numO ⟨⟨l⟩⟩) = !numB l := by
  cases h : numB l with
  | true => rw [numO_t h]; rfl
  | false => rw [numO_f h]; rfl
theorem due_ok {l : List Nat} (hl : l.length + 2 ≤ 1000000) (ha : ∀ c ∈ l, c < 128) : f__law_due [.d (.str ⟨⟨l⟩⟩)] [] = .ok (.d (ansD ⟨⟨l⟩⟩)) [] := by
  unfold f__law_due
  rw [fn_ev]
  have hnon : ∀ ms, gIn false (.d .non) (.d (.lst (numsD l))) ms = .ok (.d (.bl ((numsD l).any isNon))) ms := fun ms => in_non (flat_nums l)
  have e0 := spl_par l []
  unfold ansD readO
  rw [mkS_tl]
  cases hp : TL.par dots [] l with
  | none =>
    have hc : cutsD l = [.str ⟨⟨l⟩⟩] := by unfold cutsD; rw [e0, hp]; rfl
    have hnm : numsD l = [numO ⟨⟨l⟩⟩] := by unfold numsD; rw [e0, hp]; rfl
    have hnv := nums_ev hl ha
    rw [hc, hnm] at hnv
    rw [hnm] at hnon
    cases hb : numB l with
    | true =>
      rw [numO_t hb] at hnon hnv
      simp [m__law_due, start0, mBM, tyS, split_ev hl, hc, hnv, hnon, isNon, atI, ixN, mNeg, negS]
    | false =>
      rw [numO_f hb] at hnon hnv
      simp [m__law_due, start0, mBM, tyS, split_ev hl, hc, hnv, hnon, isNon, atI, ixN, mNeg, negS]
  | some p =>
    obtain ⟨a, b⟩ := p
    have e1 := spl_par b []
    cases hq : TL.par dots [] b with
    | some q =>
      obtain ⟨c, d⟩ := q
      have hlen : 2 < (cutsD l).length := by
        unfold cutsD
        rw [e0, hp]
        show 2 < ((a :: TL.spl dots 0 [] b).map _).length
        rw [e1, hq]
        have : 0 < (TL.spl dots 0 [] d).length := by
          rw [spl_par d []]
          cases TL.par dots [] d <;> simp
        simp; omega
      have hli : (2 : Int) < (cutsD l).length := by omega
      have hb : numB b = false := by
        cases h : numB b with
        | false => rfl
        | true => exact absurd (par_dot hq) (no_dot h)
      have hnv := nums_ev hl ha
      simp [m__law_due, start0, mBM, tyS, split_ev hl, hnv, hli, hb]
    | none =>
      have hc : cutsD l = [.str ⟨⟨a⟩⟩, .str ⟨⟨b⟩⟩] := by unfold cutsD; rw [e0, hp]; show (a :: TL.spl dots 0 [] b).map _ = _; rw [e1, hq]; rfl
      have hnm : numsD l = [numO ⟨⟨a⟩⟩, numO ⟨⟨b⟩⟩] := by unfold numsD; rw [e0, hp]; show (a :: TL.spl dots 0 [] b).map _ = _; rw [e1, hq]; rfl
      have hnv := nums_ev hl ha
      rw [hc, hnm] at hnv
      rw [hnm] at hnon
      cases hna : numB a with
      | false =>
        rw [numO_f hna] at hnon hnv
        simp [m__law_due, start0, mBM, tyS, split_ev hl, hc, hnv, hnon, isNon, hna]
      | true =>
        cases hnb : numB b with
        | false =>
          rw [numO_t hna, numO_f hnb] at hnon hnv
          simp [m__law_due, start0, mBM, tyS, split_ev hl, hc, hnv, hnon, isNon, hna, hnb]
        | true =>
          rw [numO_t hna, numO_t hnb] at hnon hnv
          by_cases hlt : val a < val b
          · have h1 : ¬ val b ≤ val a := by omega
            simp [m__law_due, start0, mBM, tyS, split_ev hl, hc, hnv, hnon, isNon, hna, hnb, hlt, h1, atI, ixN, mNeg, negS]
          · have h1 : val b ≤ val a := by omega
            simp [m__law_due, start0, mBM, tyS, split_ev hl, hc, hnv, hnon, isNon, hna, hnb, hlt, h1, atI, ixN, mNeg, negS]
theorem ansD_rep {z : Str} (hz : z.length ≤ 1000) (ha : Asc z) : Rep 1 5000 (ansD z) := by
  unfold ansD
  have sp : Rep 0 1000 (.str (Str.ofString "span")) := rep_str (asc_iff.mpr (by decide +kernel)) (by decide +kernel)
  have tx : Rep 0 1000 (.str (Str.ofString "text")) := rep_str (asc_iff.mpr (by decide +kernel)) (by decide +kernel)
  cases h : readO (TL.tl z) with
  | none =>
    refine rep_tup_mem (k := 0) (W := 1000) (fun x hx => ?_) (by decide)
    simp only [List.mem_cons, List.not_mem_nil, or_false] at hx
    rcases hx with rfl | rfl | rfl
    · exact tx
    · exact (rep_int (by decide)).mono (by decide) (by decide)
    · exact (rep_bl _).mono (by decide) (by decide)
  | some p =>
    obtain ⟨a, b⟩ := p
    obtain ⟨sa, sb, _⟩ := read_sm h
    refine rep_tup_mem (k := 0) (W := 1000) (fun x hx => ?_) (by show 4 * 1001 ≤ 5000; decide)
    simp only [List.mem_cons, List.not_mem_nil, or_false] at hx
    rcases hx with rfl | rfl | rfl | rfl
    · exact sp
    · exact (rep_int sa).mono (by decide) (by decide)
    · exact (rep_int sb).mono (by decide) (by decide)
    · exact rep_str ha hz
end Ga
set_option Elab.async false
set_option linter.all false
set_option maxRecDepth 100000
set_option maxHeartbeats 1000000
namespace Ga
open PySem L2 Fw
theorem asc_mk {l : List Nat} (h : ∀ c ∈ l, c < 128) : Asc ⟨⟨l⟩⟩ := h
theorem join_empty (l : List Str) (n : Nat) (h : ∀ x ∈ l, Asc x ∧ x.length ≤ n) : Asc (Txt.join Str.empty l) ∧ (Txt.join Str.empty l).length ≤ l.length * n := by
  rw [TL.join_eq]
  induction l with
  | nil => exact ⟨fun c hc => by simp [Str.join, Str.empty] at hc, by simp [Str.join, Str.empty, Str.length]⟩
  | cons x l ih =>
    obtain ⟨h1, h2⟩ := h x List.mem_cons_self
    obtain ⟨h3, h4⟩ := ih fun y hy => h y (List.mem_cons_of_mem _ hy)
    cases l with
    | nil => exact ⟨h1, by simpa [Str.join] using h2⟩
    | cons y l =>
      have e : Str.join Str.empty (x :: y :: l) = x ++ Str.empty ++ Str.join Str.empty (y :: l) := rfl
      rw [e, PySem.Str.append_empty]
      refine ⟨asc_app h1 h3, ?_⟩
      rw [PySem.Str.length_append, List.length_cons, Nat.succ_mul]
      omega
theorem str_take {r : Int} (h0 : 0 ≤ r) (h1 : r < 10) : Asc (itx r) ∧ (itx r).length ≤ 32 := ⟨asc_itx r, itx_len (by omega)⟩
def StrE (n : Nat) (d : D) : Prop := ∃ z, d = .str z ∧ Asc z ∧ z.length ≤ n
theorem ofStrs_E {n : Nat} : ∀ {ds : List D}, (∀ d ∈ ds, StrE n d) → ∃ l, ofStrs ds = some l ∧ l.length = ds.length ∧ ∀ x ∈ l, Asc x ∧ x.length ≤ n
  | [], _ => ⟨[], rfl, rfl, fun _ h => nomatch h⟩
  | d :: ds, h => by
    obtain ⟨z, rfl, h1, h2⟩ := h d List.mem_cons_self
    obtain ⟨l, e, e2, e3⟩ := ofStrs_E fun y hy => h y (List.mem_cons_of_mem _ hy)
    refine ⟨z :: l, by simp [ofStrs, e], by simp [e2], fun x hx => ?_⟩
    rcases List.mem_cons.mp hx with rfl | hx
    · exact ⟨h1, h2⟩
    · exact e3 x hx
theorem sum_le {n : Nat} : ∀ {l : List Str}, (∀ x ∈ l, Asc x ∧ x.length ≤ n) → (l.map (·.length)).sum ≤ l.length * n
  | [], _ => by simp
  | x :: l, h => by
    have := sum_le fun y hy => h y (List.mem_cons_of_mem _ hy)
    have := (h x List.mem_cons_self).2
    rw [List.map_cons, List.sum_cons, List.length_cons, Nat.succ_mul]; omega
/-- "".join of short texts in a cell or a list -/
theorem joinE_ok {s : S} {ds : List D} {n : Nat} {ms : Ms} (hs : view s ms = some (.lst ds)) (h : ∀ d ∈ ds, StrE n d) (hn : ds.length * n ≤ 1000000) : ∃ z, gJoin (.d (.str "")) [s] ms = .ok (.d (.str z)) ms ∧ Asc z ∧ z.length ≤ ds.length * n := by
  obtain ⟨l, e1, e2, e3⟩ := ofStrs_E h
  refine ⟨Txt.join Str.empty l, ?_, ?_⟩
  · have hs2 := sum_le e3
    unfold gJoin
    dsimp only
    rw [hs]
    dsimp only
    rw [e1]
    dsimp only
    have f : few ((l.map (·.length)).sum + l.length * (Str.ofString "").length) = true := by
      rw [few_ev, decide_eq_true]
      rw [show (Str.ofString "").length = 0 from rfl, Nat.mul_zero, Nat.add_zero]
      rw [e2] at hs2; omega
    rw [f]
    rfl
  · have := join_empty l n e3
    rw [e2] at this
    exact this
theorem digits_ok {c : Cell} (hc : IsFeed c) : ∃ z c' r, IsFeed c' ∧ Asc z ∧ z.length ≤ 320 ∧ f__law_digits [.loc 0] [c] = .ok (.d (.str z)) (c' :: r) := by
  obtain ⟨k, c1, f1, k0, k1, e1⟩ := take_ok (m := 8) (by decide) (by decide) hc
  obtain ⟨v, ev, hv⟩ := atI_mem (l := [.int 1, .int 1, .int 2, .int 3, .int 4, .int 8, .int 9, .int 10]) (r := k) k0 (by simpa using k1)
  obtain ⟨m, rfl, m0, m1⟩ : ∃ m : Int, v = .int m ∧ 1 ≤ m ∧ m ≤ 10 := by
    simp only [List.mem_cons, List.not_mem_nil, or_false] at hv
    rcases hv with rfl | rfl | rfl | rfl | rfl | rfl | rfl | rfl <;> exact ⟨_, rfl, by decide, by decide⟩
  obtain ⟨ds, ms', _, l2, l3, l4, l5⟩ := lc_inv (fun ms => ∃ c, IsFeed c ∧ ms = [c]) (StrE 32) (mi := Fw.iRng1 (aCons (mVar 1) (aNil))) (g := gSet 3) (tt := fun _ ms => .ok true ms) (elt := mB1 (Fw.c1 strD) (aCons (mCallN (bndS f__law_take [0, 1] []) (mLen 2 (aCons (mVar 0) (aCons (mC (.d (.int 10))) (aNil))))) (aNil))) (vs := [3])
    (env := [some (.loc 0), some (.d (.int m)), none, none]) (ms := [c1]) (ms1 := [c1]) (xs := rngS 0 m.toNat) (by simp [itR1_ev (show 0 ≤ m by omega) (show m ≤ 1000000 by omega)]) ⟨c1, f1, rfl⟩ (fun x hx ms ⟨c2, f2, hms⟩ => by
      subst hms
      obtain ⟨i, hi, rfl⟩ := mem_rng hx
      obtain ⟨r, c3, f3, r0, r1, e3⟩ := take_ok (m := 10) (by decide) (by decide) f2
      obtain ⟨a1, a2⟩ := str_take r0 r1
      exact ⟨_, .str (itx r), [c3], rfl, rfl, by simp [wipeE, pick, e3, str_int (show r.natAbs < 10 ^ 31 by omega)], ⟨_, rfl, a1, a2⟩, c3, f3, rfl⟩) (by simp; omega)
  obtain ⟨c2, f2, rfl⟩ := l5
  rw [rng_len] at l3
  obtain ⟨d0, ds', rfl⟩ : ∃ d0 ds', ds = d0 :: ds' := by
    cases ds with
    | nil => simp at l3; omega
    | cons a b => exact ⟨a, b, rfl⟩
  obtain ⟨z0, rfl, z1, z2⟩ := l4 d0 List.mem_cons_self
  have hn : (D.str z0 :: ds').length * 32 ≤ 320 := by rw [l3]; omega
  unfold f__law_digits
  rw [fn_ev]
  have plain : ∀ (ms : Ms), view (.loc 1) ms = some (.lst (D.str z0 :: ds')) → ∃ z, gJoin (.d (.str "")) [.loc 1] ms = .ok (.d (.str z)) ms ∧ Asc z ∧ z.length ≤ 320 := fun ms hv => by
    obtain ⟨z, h1, h2, h3⟩ := joinE_ok hv l4 (by omega)
    exact ⟨z, h1, h2, by omega⟩
  by_cases hz : z0 = Str.ofString "0"
  · subst hz
    by_cases hm : 1 < m
    · obtain ⟨q, c3, f3, q0, q1, e3⟩ := take_ok (m := 2) (by decide) (by decide) f2
      by_cases hq : q = 0
      · obtain ⟨z, h1, h2, h3⟩ := joinE_ok (s := .loc 1) (ds := .str "7" :: ds') (n := 32) (ms := [c3, .lst (.str "7" :: ds')]) rfl (fun d hd => by
          rcases List.mem_cons.mp hd with rfl | hd
          · exact ⟨_, rfl, asc_iff.mpr (by decide +kernel), by decide +kernel⟩
          · exact l4 d (List.mem_cons_of_mem _ hd)) (by simp at hn ⊢; omega)
        refine ⟨z, c3, [.lst (.str "7" :: ds')], f3, h2, by simp at hn h3 ⊢; omega, ?_⟩
        simp [m__law_digits, start0, pick, e1, ev, l2, hm, e3, hq, h1]
      · obtain ⟨z, h1, h2, h3⟩ := plain [c3, .lst (.str "0" :: ds')] rfl
        refine ⟨z, c3, [.lst (.str "0" :: ds')], f3, h2, h3, ?_⟩
        simp [m__law_digits, start0, pick, e1, ev, l2, hm, e3, hq, h1]
    · obtain ⟨z, h1, h2, h3⟩ := plain [c2, .lst (.str "0" :: ds')] rfl
      refine ⟨z, c2, [.lst (.str "0" :: ds')], f2, h2, h3, ?_⟩
      simp [m__law_digits, start0, pick, e1, ev, l2, hm, h1]
  · obtain ⟨z, h1, h2, h3⟩ := plain [c2, .lst (.str z0 :: ds')] rfl
    refine ⟨z, c2, [.lst (.str z0 :: ds')], f2, h2, h3, ?_⟩
    simp [m__law_digits, start0, pick, e1, ev, l2, hz, h1]
end Ga
set_option Elab.async false
set_option linter.all false
set_option maxRecDepth 100000
set_option maxHeartbeats 1000000
namespace Ga
open PySem L2 Fw
theorem lt_pair {a b : Int} {x y : Str} {ms : Ms} : ∃ r, gLtA (.d (.tup [.int a, .str x])) (.d (.tup [.int b, .str y])) ms = .ok (.d (.bl r)) ms := ⟨_, rfl⟩
theorem asc_lit {s : String} (h : ascB (TL.tl (Str.ofString s)) = true) : Asc (Str.ofString s) := asc_iff.mpr h
theorem pick6 {x y : Str} {c : Cell} (ax : Asc x) (ay : Asc y) (lx : x.length ≤ 320) (ly : y.length ≤ 320) (hc : IsFeed c) : ∃ u c' k, IsFeed c' ∧ Asc u ∧ u.length ≤ 320 ∧ f__law_take [.loc 0, .d (.int 6)] [c] = .ok (.d (.int k)) [c'] ∧
    L2.atI [D.str y, D.str y, D.str y, D.str y, D.str y, D.str x] k = some (.str u) := by
  obtain ⟨k, c', f', k0, k1, e⟩ := take_ok (m := 6) (by decide) (by decide) hc
  obtain ⟨v, ev, hv⟩ := atI_mem (l := [.str y, .str y, .str y, .str y, .str y, .str x]) (r := k) k0 (by simpa using k1)
  obtain ⟨u, rfl, au, lu⟩ : ∃ u, v = .str u ∧ Asc u ∧ u.length ≤ 320 := by
    simp only [List.mem_cons, List.not_mem_nil, or_false] at hv
    rcases hv with rfl | rfl | rfl | rfl | rfl | rfl
    · exact ⟨_, rfl, ay, ly⟩
    · exact ⟨_, rfl, ay, ly⟩
    · exact ⟨_, rfl, ay, ly⟩
    · exact ⟨_, rfl, ay, ly⟩
    · exact ⟨_, rfl, ay, ly⟩
    · exact ⟨_, rfl, ax, lx⟩
  exact ⟨u, c', k, f', au, lu, e, ev⟩
theorem shown_ok {c : Cell} (hc : IsFeed c) : ∃ z c' r, IsFeed c' ∧ Asc z ∧ z.length ≤ 700 ∧ f__law_shown [.loc 0] [c] = .ok (.d (.str z)) (c' :: r) := by
  obtain ⟨x, c1, r1, f1, ax, lx, e1⟩ := digits_ok hc
  obtain ⟨y, c2, r2, f2, ay, ly, e2⟩ := digits_ok f1
  obtain ⟨t, c3, f3, t0, t1, e3⟩ := take_ok (m := 3) (by decide) (by decide) f2
  unfold f__law_shown
  rw [fn_ev]
  have ld : (Str.ofString "..").length = 2 := rfl
  have ad : Asc (Str.ofString "..") := asc_lit (by decide +kernel)
  have lx' : x.length ≤ 1000000 := by omega
  have ly' : y.length ≤ 1000000 := by omega
  have l1 : ∀ x : Str, x.length ≤ 320 → x.length + (Str.ofString "..").length ≤ 1000000 := fun x h => by omega
  have l2 : ∀ x u : Str, x.length ≤ 320 → u.length ≤ 320 → (x ++ Str.ofString "..").length + u.length ≤ 1000000 := fun x u h h' => by rw [PySem.Str.length_append]; omega
  have lz : ∀ x u : Str, x.length ≤ 320 → u.length ≤ 320 → (x ++ Str.ofString ".." ++ u).length ≤ 700 := fun x u h h' => by rw [PySem.Str.length_append, PySem.Str.length_append]; omega
  by_cases ht : t = 0
  · refine ⟨x, c3, [], f3, ax, by omega, ?_⟩
    simp [m__law_shown, start0, pick, e1, e2, e3, ht]
  · obtain ⟨b, eb⟩ := lt_pair (a := y.length) (b := x.length) (x := y) (y := x) (ms := [c3])
    cases b with
    | false =>
      obtain ⟨u, c', k, f', au, lu, e, ev⟩ := pick6 ax ay lx ly f3
      refine ⟨x ++ Str.ofString ".." ++ u, c', [], f', asc_app (asc_app ax ad) au, lz x u lx lu, ?_⟩
      simp [m__law_shown, start0, pick, e1, e2, e3, ht, len_str ly', len_str lx', eb, e, ev, addSS (l1 x lx), addSS (l2 x u lx lu)]
    | true =>
      obtain ⟨q, c4, f4, q0, q1, e4⟩ := take_ok (m := 4) (by decide) (by decide) f3
      by_cases hq : 0 < q
      · obtain ⟨u, c', k, f', au, lu, e, ev⟩ := pick6 ay ax ly lx f4
        refine ⟨y ++ Str.ofString ".." ++ u, c', [], f', asc_app (asc_app ay ad) au, lz y u ly lu, ?_⟩
        simp [m__law_shown, start0, pick, e1, e2, e3, ht, len_str ly', len_str lx', eb, e4, hq, e, ev, addSS (l1 y ly), addSS (l2 y u ly lu)]
      · obtain ⟨u, c', k, f', au, lu, e, ev⟩ := pick6 ax ay lx ly f4
        refine ⟨x ++ Str.ofString ".." ++ u, c', [], f', asc_app (asc_app ax ad) au, lz x u lx lu, ?_⟩
        simp [m__law_shown, start0, pick, e1, e2, e3, ht, len_str ly', len_str lx', eb, e4, hq, e, ev, addSS (l1 x lx), addSS (l2 x u lx lu)]
/-- a sign of the list -/
theorem sign18 {c : Cell} (hc : IsFeed c) : ∃ u c' k, IsFeed c' ∧ Asc u ∧ u.length = 1 ∧ f__law_take [.loc 0, .d (.int 18)] [c] = .ok (.d (.int k)) [c'] ∧ L2.atI (signs "0123456789.- +_a\nX") k = some (.str u) := by
  obtain ⟨k, c', f', k0, k1, e⟩ := take_ok (m := 18) (by decide) (by decide) hc
  have hl : (signs "0123456789.- +_a\nX").length = 18 := by decide +kernel
  obtain ⟨v, ev, hv⟩ := atI_mem (l := signs "0123456789.- +_a\nX") (r := k) k0 (by omega)
  obtain ⟨d, hd, rfl⟩ := sg_mem hv
  have hs : ∀ c ∈ TL.tl (Str.ofString "0123456789.- +_a\nX"), c < 128 := by decide +kernel
  exact ⟨⟨#[d]⟩, c', k, f', fun x hx => by
    have : x = d := by simpa [TL.tl] using hx
    subst this; exact hs x hd, rfl, e, ev⟩
theorem spoilt_ok {z : Str} (hz : Asc z) (lz : z.length ≤ 900) {c : Cell} (hc : IsFeed c) : ∃ y c' r, IsFeed c' ∧ Asc y ∧ y.length ≤ z.length + 1 ∧ f__law_spoilt [.loc 0, .d (.str z)] [c] = .ok (.d (.str y)) (c' :: r) := by
  obtain ⟨a, c1, f1, a0, a1, e1⟩ := take_ok (m := z.length + 1) (by omega) (by omega) hc
  obtain ⟨u, c2, k, f2, au, lu, e2, ev⟩ := sign18 f1
  obtain ⟨w, c3, f3, w0, w1, e3⟩ := take_ok (m := 4) (by decide) (by decide) f2
  have hs18 : (Str.ofString "0123456789.- +_a\nX").length ≤ 1000000 := by decide +kernel
  have cl : cLstS [.d (.str "0123456789.- +_a\nX")] [c1] = .ok (.d (.lst (signs "0123456789.- +_a\nX"))) [c1] := by
    unfold cLstS
    simp [hs18]
  have lz' : z.length ≤ 1000000 := by omega
  unfold f__law_spoilt
  rw [fn_ev]
  have A : ∀ lo hi, Asc (cutS z lo hi) := fun lo hi => asc_cut hz lo hi
  have p1 := len_pre z a0
  have p2 := len_suf z a0
  have p3 := len_suf z (show 0 ≤ a + 1 by omega)
  have p4 := len_mid z a0 (show 0 ≤ a + 1 by omega)
  have ta : (a + 1).toNat = a.toNat + 1 := by omega
  rw [ta] at p3 p4
  have lp : (cutS z none (some a)).length ≤ 900 := by omega
  have ls : (cutS z (some a) none).length ≤ 900 := by omega
  have ls1 : (cutS z (some (a + 1)) none).length ≤ 900 := by omega
  have lm : (cutS z (some a) (some (a + 1))).length ≤ 1 := by omega
  by_cases h0 : w = 0
  · refine ⟨cutS z none (some a) ++ cutS z (some (a + 1)) none, c3, [], f3, asc_app (A _ _) (A _ _), by rw [PySem.Str.length_append]; omega, ?_⟩
    simp [m__law_spoilt, start0, pick, len_str lz', e1, cl, e2, ev, e3, h0, sl_str_ev lz', addSS (show (cutS z none (some a)).length + (cutS z (some (a + 1)) none).length ≤ 1000000 by omega)]
  · by_cases h1 : w = 1
    · have l3 : (cutS z none (some a) ++ u).length + (cutS z (some a) none).length ≤ 1000000 := by rw [PySem.Str.length_append]; omega
      refine ⟨cutS z none (some a) ++ u ++ cutS z (some a) none, c3, [], f3, asc_app (asc_app (A _ _) au) (A _ _), by rw [PySem.Str.length_append, PySem.Str.length_append]; omega, ?_⟩
      simp [m__law_spoilt, start0, pick, len_str lz', e1, cl, e2, ev, e3, h0, h1, sl_str_ev lz', addSS (show (cutS z none (some a)).length + u.length ≤ 1000000 by omega), addSS l3]
    · by_cases h2 : w = 2
      · obtain ⟨am, lm2⟩ := mul_spec (cutS z (some a) (some (a + 1))) (A _ _) 2
        have l2 : (cutS z none (some a)).length + (strMul (cutS z (some a) (some (a + 1))) 2).length ≤ 1000000 := by
          have : (strMul (cutS z (some a) (some (a + 1))) 2).length = 2 * (cutS z (some a) (some (a + 1))).length := lm2
          omega
        have lm3 : (strMul (cutS z (some a) (some (a + 1))) 2).length = 2 * (cutS z (some a) (some (a + 1))).length := lm2
        have am3 : Asc (strMul (cutS z (some a) (some (a + 1))) 2) := am
        have l3 : (cutS z none (some a) ++ strMul (cutS z (some a) (some (a + 1))) 2).length + (cutS z (some (a + 1)) none).length ≤ 1000000 := by rw [PySem.Str.length_append]; omega
        refine ⟨cutS z none (some a) ++ strMul (cutS z (some a) (some (a + 1))) 2 ++ cutS z (some (a + 1)) none, c3, [], f3, asc_app (asc_app (A _ _) am3) (A _ _), by rw [PySem.Str.length_append, PySem.Str.length_append]; omega, ?_⟩
        simp [m__law_spoilt, start0, pick, len_str lz', e1, cl, e2, ev, e3, h0, h1, h2, sl_str_ev lz', mulSI (show (cutS z (some a) (some (a + 1))).length ≤ 1000 by omega) (show (-1000 : Int) ≤ 2 by decide) (show (2 : Int) ≤ 1000 by decide), addSS l2, addSS l3]
      · have l3 : (cutS z none (some a) ++ u).length + (cutS z (some (a + 1)) none).length ≤ 1000000 := by rw [PySem.Str.length_append]; omega
        refine ⟨cutS z none (some a) ++ u ++ cutS z (some (a + 1)) none, c3, [], f3, asc_app (asc_app (A _ _) au) (A _ _), by rw [PySem.Str.length_append, PySem.Str.length_append]; omega, ?_⟩
        simp [m__law_spoilt, start0, pick, len_str lz', e1, cl, e2, ev, e3, h0, h1, h2, sl_str_ev lz', addSS (show (cutS z none (some a)).length + u.length ≤ 1000000 by omega), addSS l3]
end Ga
set_option Elab.async false
set_option linter.all false
set_option maxRecDepth 100000
set_option maxHeartbeats 1000000
namespace Ga
open PySem L2 Fw
theorem eq_ok {a b c d : Int} : f_Span_eq [.d (span a b), .d (span c d)] [] = .ok (.d (.bl (decide (a = c) && decide (b = d)))) [] := by
  unfold f_Span_eq
  rw [fn_ev]
  have hi : ∀ ms, cIsi [4] [4] subT [.d (span c d), .d (.fn 4)] ms = .ok (.d (.bl true)) ms := fun ms => rfl
  by_cases h : a = c
  · by_cases h2 : b = d
    · simp [m_Span_eq, start0, hi, mAttr, List.lookup, fldG, noEx, h, h2]
    · simp [m_Span_eq, start0, hi, mAttr, List.lookup, fldG, noEx, h, h2]
  · simp [m_Span_eq, start0, hi, mAttr, List.lookup, fldG, noEx, h]
theorem eqO_ok {a b c d : Int} {ms : Ms} : gOr (gEq false) (gEqO [4] [(4, bndS f_Span_eq [0, 1] [])]) (.d (span a b)) (.d (span c d)) ms = .ok (.d (.bl (decide (a = c) && decide (b = d)))) ms := by
  unfold gOr
  rw [show gEq false (.d (span a b)) (.d (span c d)) ms = .bad from rfl]
  show asBl (callSem f_Span_eq (pick [0, 1] ([.d (span a b), .d (span c d)] ++ [])) ms) = _
  simp [pick, eq_ok, asBl]
theorem ne_self {z : Str} {ms : Ms} : gEq true (.d (.str z)) (.d (.str z)) ms = .ok (.d (.bl false)) ms := by simp
/-- one text: told what is due -/
theorem text_ok {z : Str} (hz : Asc z) (lz : z.length ≤ 1000) {e0 e1 e2 e3 e4 e5 e6 : Option S} {ms : Ms} :
    sIf (mB (mOp (gEq true) (mB1 (Fw.c1 reprD) (aCons (mCallN (bndS f__law_told [0] []) (mLen 1 (aCons (mVar 7) (aNil)))) (aNil))) (mB1 (Fw.c1 reprD) (aCons (mCallN (bndS f__law_due [0] []) (mLen 1 (aCons (mVar 7) (aNil)))) (aNil))))) (sRet (mC (.d (.bl false)))) (sNil) [e0, e1, e2, e3, e4, e5, e6, some (.d (.str z))] ms = .nx [e0, e1, e2, e3, e4, e5, e6, some (.d (.str z))] ms := by
  have ht := told_ok (z := z) (by omega)
  have hd : f__law_due [.d (.str z)] [] = .ok (.d (ansD z)) [] := by
    obtain ⟨⟨l⟩⟩ := z
    exact due_ok (show l.length + 2 ≤ 1000000 by have : l.length ≤ 1000 := lz; omega) hz
  have hr : ∀ ms, Fw.c1 reprD [.d (ansD z)] ms = .ok (.d (.str (reprO (ansD z)))) ms := fun ms => repr_ok (ansD_rep lz hz) (by decide) (by decide)
  simp [pick, ht, hd, hr]
theorem read_01 : f_Span_read [.d (.fn 4), .d (.str "0..1")] [] = .ok (.d (span 0 1)) [] := by
  have e : Str.ofString "0..1" = ⟨⟨[48, 46, 46, 49]⟩⟩ := by decide +kernel
  have r : readO [48, 46, 46, 49] = some (0, 1) := by decide +kernel
  rw [e, read_ok (by decide), r]
abbrev Pb (ns : List Int) : Fw.Env → Ms → Prop := fun e _ => ∃ o1 o2 o3 o4 o5 o6 o7, e = [some (.d (.frz (ns.map .int))), o1, o2, o3, o4, o5, o6, o7]
abbrev Pb2 (ns : List Int) (k : Nat) (ms : Ms) : Fw.Env → Ms → Prop := fun e m => ∃ c o3 o4 o5 o6 o7, IsFeed c ∧ m = ms ++ [c] ∧ e = [some (.d (.frz (ns.map .int))), some (.d (.int k)), some (.loc ms.length), o3, o4, o5, o6, o7]
abbrev Pb3 (ns : List Int) (k : Nat) (ms : Ms) (o3 : Option S) (z : Str) (n : Nat) : Fw.Env → Ms → Prop := fun e m => ∃ c y o6 o7, IsFeed c ∧ m = ms ++ [c] ∧ Asc y ∧ y.length ≤ 700 + n ∧ e = [some (.d (.frz (ns.map .int))), some (.d (.int k)), some (.loc ms.length), o3, some (.d (.str z)), some (.d (.str y)), o6, o7]
theorem plain (ns : List Int) : ∃ ms', f_law [scr ns] [] = .ok (.d (.bl true)) ms' := by
  unfold f_law
  simp only [fn_ev, m_law, ev_cons]
  refine fin_seq (P := Pb ns) (Nx_for (xs := rngS 0 (max 1 (min 6 (ns.length : Int))).toNat) (ms1 := []) ?_ ⟨none, none, none, none, none, none, none, rfl⟩ ?_) ?_
  · simp [start0, scr_len, itR1_ev (j := max 1 (min 6 (ns.length : Int))) (by omega) (by omega)]
  · rintro x hx e ms ⟨o1, o2, o3, o4, o5, o6, o7, rfl⟩
    obtain ⟨k, hk, rfl⟩ := mem_rng hx
    obtain ⟨c, fc, ec⟩ := feed_nat ns k
    refine ⟨_, rfl, ?_⟩
    simp [pick, ec]
    refine Nx_mono (Nx_for (P := Pb2 ns k ms) (xs := rngS 0 3) (ms1 := ms ++ [c]) ?_ ⟨c, o3, o4, o5, o6, o7, fc, rfl, rfl⟩ ?_) fun e m ⟨c, o3, o4, o5, o6, o7, _, _, h⟩ => ⟨_, _, _, _, _, _, _, h⟩
    · simp [itR1_ev (j := 3) (by decide) (by decide)]
    · rintro x hx e m ⟨c, o3, o4, o5, o6, o7, fc, rfl, rfl⟩
      refine ⟨_, rfl, ?_⟩
      obtain ⟨z, c1, r, f1, az, lz, ez⟩ := shown_ok fc
      obtain ⟨q, c2, f2, q0, q1, eq⟩ := take_ok (m := 3) (by decide) (by decide) f1
      simp [pick, ez]
      have hq : (rngS 0 (1 + q).toNat).length ≤ 3 := by rw [rng_len]; omega
      refine Nx_seq (P1 := Pb3 ns k ms (some x) z 3) (Nx_mono (Nx_forI (P := Pb3 ns k ms (some x) z) (xs := rngS 0 (1 + q).toNat) (ms1 := ms ++ [c2]) ?_ ⟨c2, z, o6, o7, f2, rfl, az, lz, rfl⟩ ?_) ?_) ?_
      · simp [pick, eq, itR1_ev (show 0 ≤ 1 + q by omega) (show 1 + q ≤ 1000000 by omega)]
      · rintro j x6 hx6 e m ⟨c, y, o6, o7, fc, rfl, ay, ly, rfl⟩
        have hj : j < (rngS 0 (1 + q).toNat).length := (List.getElem?_eq_some_iff.mp hx6).1
        obtain ⟨y2, c', r', f', ay2, ly2, es⟩ := spoilt_ok ay (by omega) fc
        refine ⟨_, rfl, ?_⟩
        simp [pick, es]
        exact Nx_nx ⟨c', y2, some x6, o7, f', rfl, ay2, by omega, rfl⟩
      · rintro e m ⟨c, y, o6, o7, fc, rfl, ay, ly, rfl⟩
        exact ⟨c, y, o6, o7, fc, rfl, ay, by omega, rfl⟩
      · rintro e m ⟨c, y, o6, o7, fc, rfl, ay, ly, rfl⟩
        have ln : (Str.ofString "\n").length = 1 := rfl
        have lb : (Str.ofString " ").length = 1 := rfl
        have g1 : z.length + (Str.ofString "\n").length ≤ 1000000 := by omega
        have g2 : (Str.ofString " ").length + z.length ≤ 1000000 := by omega
        have g3 : z.length + (Str.ofString " ").length ≤ 1000000 := by omega
        refine Nx_mono (Nx_for (P := Pb2 ns k ms) (xs := [.d (.str z), .d (.str y), .d (.str (z ++ Str.ofString "\n")), .d (.str (Str.ofString " " ++ z)), .d (.str (z ++ Str.ofString " ")), .d (.str "0"), .d (.str ".."), .d (.str ""), .d (.str "3..3"), .d (.str "5...7"), .d (.str z)]) (ms1 := ms ++ [c]) ?_ ⟨c, _, _, _, _, _, fc, rfl, rfl⟩ ?_) fun e m h => h
        · simp [Fw.iList, itD, addSS g1, addSS g2, addSS g3]
        · rintro x7 hx7 e m ⟨c, o3, o4, o5, o6, o7, fc, rfl, rfl⟩
          obtain ⟨v, rfl, av, lv⟩ : ∃ v, x7 = .d (.str v) ∧ Asc v ∧ v.length ≤ 1000 := by
            simp only [List.mem_cons, List.not_mem_nil, or_false] at hx7
            rcases hx7 with rfl | rfl | rfl | rfl | rfl | rfl | rfl | rfl | rfl | rfl | rfl
            · exact ⟨_, rfl, az, by omega⟩
            · exact ⟨_, rfl, ay, by omega⟩
            · exact ⟨_, rfl, asc_app az (asc_lit (by decide +kernel)), by rw [PySem.Str.length_append]; omega⟩
            · exact ⟨_, rfl, asc_app (asc_lit (by decide +kernel)) az, by rw [PySem.Str.length_append]; omega⟩
            · exact ⟨_, rfl, asc_app az (asc_lit (by decide +kernel)), by rw [PySem.Str.length_append]; omega⟩
            · exact ⟨_, rfl, asc_lit (by decide +kernel), by decide +kernel⟩
            · exact ⟨_, rfl, asc_lit (by decide +kernel), by decide +kernel⟩
            · exact ⟨_, rfl, asc_lit (by decide +kernel), by decide +kernel⟩
            · exact ⟨_, rfl, asc_lit (by decide +kernel), by decide +kernel⟩
            · exact ⟨_, rfl, asc_lit (by decide +kernel), by decide +kernel⟩
            · exact ⟨_, rfl, az, by omega⟩
          refine ⟨_, rfl, ?_⟩
          exact ⟨_, _, text_ok av lv, c, _, _, _, _, _, fc, rfl, rfl⟩
  · rintro e ms ⟨o1, o2, o3, o4, o5, o6, o7, rfl⟩
    refine ⟨ms, ?_⟩
    simp [pick, mCMeth, List.lookup, read_01, mk_span (a := 0) (b := 1) (by decide) (by decide), eqO_ok]
end Ga
set_option Elab.async false
set_option linter.all false
set_option maxRecDepth 100000
set_option maxHeartbeats 0
namespace Ga
open PySem L2 PySem.Spec PyProof.Rows Fw

def fn : List DefX := [
  ⟨gA "_law_feed", "_law_feed", "_law_feed", defArgs (top 15), defBody (top 15), defScope (top 15), [], []⟩,
  ⟨gA "_law_take", "_law_take", "_law_take", defArgs (top 16), defBody (top 16), defScope (top 16), [], []⟩,
  ⟨gA "_law_digits", "_law_digits", "_law_digits", defArgs (top 17), defBody (top 17), defScope (top 17), [], []⟩,
  ⟨gA "_law_shown", "_law_shown", "_law_shown", defArgs (top 18), defBody (top 18), defScope (top 18), [], []⟩,
  ⟨gA "_law_spoilt", "_law_spoilt", "_law_spoilt", defArgs (top 19), defBody (top 19), defScope (top 19), [], []⟩,
  ⟨gA "number_of", "number_of", "number_of", defArgs (top 10), defBody (top 10), defScope (top 10), [], []⟩,
  ⟨gA "is_whole", "is_whole", "is_whole", defArgs (top 9), defBody (top 9), defScope (top 9), [], []⟩,
  ⟨mA "Span" "__init__", "__init__", "Span.__init__", defArgs (sub (top 13) 0), defBody (sub (top 13) 0), defScope (sub (top 13) 0), [], []⟩,
  ⟨recA "classmethod" (mA "Span" "read"), "read", "Span.read", defArgs (sub (top 13) 3), defBody (sub (top 13) 3), defScope (sub (top 13) 3), [], []⟩,
  ⟨recA "property" (mA "Span" "least"), "least", "Span.least", defArgs (sub (top 13) 4), defBody (sub (top 13) 4), defScope (sub (top 13) 4), [], []⟩,
  ⟨recA "property" (mA "Span" "greatest"), "greatest", "Span.greatest", defArgs (sub (top 13) 5), defBody (sub (top 13) 5), defScope (sub (top 13) 5), [], []⟩,
  ⟨mA "Span" "__str__", "__str__", "Span.__str__", defArgs (sub (top 13) 15), defBody (sub (top 13) 15), defScope (sub (top 13) 15), [], []⟩,
  ⟨gA "_law_told", "_law_told", "_law_told", defArgs (top 22), defBody (top 22), defScope (top 22), [], []⟩,
  ⟨gA "_law_number", "_law_number", "_law_number", defArgs (top 20), defBody (top 20), defScope (top 20), [], []⟩,
  ⟨gA "_law_due", "_law_due", "_law_due", defArgs (top 21), defBody (top 21), defScope (top 21), [], []⟩,
  ⟨mA "Span" "__eq__", "__eq__", "Span.__eq__", defArgs (sub (top 13) 14), defBody (sub (top 13) 14), defScope (sub (top 13) 14), [], []⟩,
  ⟨gA "law", "law", "law", defArgs (top 23), defBody (top 23), defScope (top 23), [], []⟩,
  ⟨mA "InvalidSpan" "__init__", "__init__", "InvalidSpan.__init__", defArgs (sub (top 3) 0), defBody (sub (top 3) 0), defScope (sub (top 3) 0), [], ["__class__"]⟩,
  ⟨mA "InvalidText" "__init__", "__init__", "InvalidText.__init__", defArgs (sub (top 5) 0), defBody (sub (top 5) 0), defScope (sub (top 5) 0), [], ["__class__"]⟩]

def fa : List (PySem.W.Frag → Bool) := [
  fun K => (He.Fa.free "len").ok K,
  fun K => (He.Fa.free "min").ok K,
  fun K => (He.Fa.free "max").ok K,
  fun K => (He.Fa.free "range").ok K,
  fun K => (He.Fa.free "abs").ok K,
  fun K => (He.Fa.free "int").ok K,
  fun K => (He.Fa.glo "_law_feed").ok K,
  fun K => (He.Fa.glo "_law_take").ok K,
  fun K => (He.Fa.free "str").ok K,
  fun K => (He.Fa.glo "_law_digits").ok K,
  fun K => (He.Fa.glo "_law_shown").ok K,
  fun K => (He.Fa.free "list").ok K,
  fun K => (He.Fa.glo "_law_spoilt").ok K,
  fun K => (He.Fa.glo "Span").ok K,
  fun K => (He.Fa.str "DOTS" "..").ok K,
  fun K => (He.Fa.int "MOST_DIGITS" 9).ok K,
  fun K => (He.Fa.str "DIGITS" "0123456789").ok K,
  fun K => (He.Fa.free "all").ok K,
  fun K => (He.Fa.glo "number_of").ok K,
  fun K => (He.Fa.free "isinstance").ok K,
  fun K => (He.Fa.free "bool").ok K,
  fun K => (He.Fa.glo "is_whole").ok K,
  fun K => bCls (gA "Span" K) K,
  fun K => (He.Fa.noat "Span" "low").ok K,
  fun K => (He.Fa.noat "Span" "high").ok K,
  fun K => (He.Fa.mkr "Span").ok K,
  fun K => bCm (gA "Span" K) "read" (mA "Span" "read" K) (recA "classmethod" (mA "Span" "read") K) K,
  fun K => bProp (gA "Span" K) "least" (mA "Span" "least" K) (recA "property" (mA "Span" "least") K) K,
  fun K => bProp (gA "Span" K) "greatest" (mA "Span" "greatest" K) (recA "property" (mA "Span" "greatest") K) K,
  fun K => bSp (gA "Span" K) "__str__" (mA "Span" "__str__" K) K,
  fun K => bExc (gA "InvalidText" K) K,
  fun K => bNo (gA "InvalidText" K) "line" K,
  fun K => bXis Γ [0, 1, 2, 3] [1] subT K,
  fun K => (He.Fa.glo "InvalidSpan").ok K,
  fun K => bTst Γ [(0, false), (1, false), (2, false), (3, true)] (gA "InvalidText") K,
  fun K => (He.Fa.glo "InvalidText").ok K,
  fun K => bTst Γ [(0, true), (1, true), (2, true), (3, true)] (gA "WayroundError") K,
  fun K => (He.Fa.glo "WayroundError").ok K,
  fun K => (He.Fa.glo "_law_told").ok K,
  fun K => (He.Fa.free "repr").ok K,
  fun K => (He.Fa.glo "_law_number").ok K,
  fun K => (He.Fa.glo "_law_due").ok K,
  fun K => bIsi Γ [4] [4] subT K,
  fun K => bSp (gA "Span" K) "__eq__" (mA "Span" "__eq__" K) K,
  fun K => bEqF ([4].map (Γ K).cls) (gA "Span" K) K,
  fun K => bX Pg.main.file (gA "InvalidSpan" K) (mA "InvalidSpan" "__init__" K) ["low", "high"] K,
  fun K => (He.Fa.free "super").ok K,
  fun K => bX Pg.main.file (gA "InvalidText" K) (mA "InvalidText" "__init__" K) ["line"] K,
  fun K => (He.Fa.glo "law").ok K]

section
variable {K : PySem.W.Frag}
theorem q0 (c : SaysX fa fn K) : ((He.Fa.free "len").ok K) = true := c.fact 0 (f := fun K => (He.Fa.free "len").ok K) rfl
theorem q1 (c : SaysX fa fn K) : ((He.Fa.free "min").ok K) = true := c.fact 1 (f := fun K => (He.Fa.free "min").ok K) rfl
theorem q2 (c : SaysX fa fn K) : ((He.Fa.free "max").ok K) = true := c.fact 2 (f := fun K => (He.Fa.free "max").ok K) rfl
theorem q3 (c : SaysX fa fn K) : ((He.Fa.free "range").ok K) = true := c.fact 3 (f := fun K => (He.Fa.free "range").ok K) rfl
theorem q4 (c : SaysX fa fn K) : ((He.Fa.free "abs").ok K) = true := c.fact 4 (f := fun K => (He.Fa.free "abs").ok K) rfl
theorem q5 (c : SaysX fa fn K) : ((He.Fa.free "int").ok K) = true := c.fact 5 (f := fun K => (He.Fa.free "int").ok K) rfl
theorem q6 (c : SaysX fa fn K) : ((He.Fa.glo "_law_feed").ok K) = true := c.fact 6 (f := fun K => (He.Fa.glo "_law_feed").ok K) rfl
theorem q7 (c : SaysX fa fn K) : ((He.Fa.glo "_law_take").ok K) = true := c.fact 7 (f := fun K => (He.Fa.glo "_law_take").ok K) rfl
theorem q8 (c : SaysX fa fn K) : ((He.Fa.free "str").ok K) = true := c.fact 8 (f := fun K => (He.Fa.free "str").ok K) rfl
theorem q9 (c : SaysX fa fn K) : ((He.Fa.glo "_law_digits").ok K) = true := c.fact 9 (f := fun K => (He.Fa.glo "_law_digits").ok K) rfl
theorem q10 (c : SaysX fa fn K) : ((He.Fa.glo "_law_shown").ok K) = true := c.fact 10 (f := fun K => (He.Fa.glo "_law_shown").ok K) rfl
theorem q11 (c : SaysX fa fn K) : ((He.Fa.free "list").ok K) = true := c.fact 11 (f := fun K => (He.Fa.free "list").ok K) rfl
theorem q12 (c : SaysX fa fn K) : ((He.Fa.glo "_law_spoilt").ok K) = true := c.fact 12 (f := fun K => (He.Fa.glo "_law_spoilt").ok K) rfl
theorem q13 (c : SaysX fa fn K) : ((He.Fa.glo "Span").ok K) = true := c.fact 13 (f := fun K => (He.Fa.glo "Span").ok K) rfl
theorem q14 (c : SaysX fa fn K) : ((He.Fa.str "DOTS" "..").ok K) = true := c.fact 14 (f := fun K => (He.Fa.str "DOTS" "..").ok K) rfl
theorem q15 (c : SaysX fa fn K) : ((He.Fa.int "MOST_DIGITS" 9).ok K) = true := c.fact 15 (f := fun K => (He.Fa.int "MOST_DIGITS" 9).ok K) rfl
theorem q16 (c : SaysX fa fn K) : ((He.Fa.str "DIGITS" "0123456789").ok K) = true := c.fact 16 (f := fun K => (He.Fa.str "DIGITS" "0123456789").ok K) rfl
theorem q17 (c : SaysX fa fn K) : ((He.Fa.free "all").ok K) = true := c.fact 17 (f := fun K => (He.Fa.free "all").ok K) rfl
theorem q18 (c : SaysX fa fn K) : ((He.Fa.glo "number_of").ok K) = true := c.fact 18 (f := fun K => (He.Fa.glo "number_of").ok K) rfl
theorem q19 (c : SaysX fa fn K) : ((He.Fa.free "isinstance").ok K) = true := c.fact 19 (f := fun K => (He.Fa.free "isinstance").ok K) rfl
theorem q20 (c : SaysX fa fn K) : ((He.Fa.free "bool").ok K) = true := c.fact 20 (f := fun K => (He.Fa.free "bool").ok K) rfl
theorem q21 (c : SaysX fa fn K) : ((He.Fa.glo "is_whole").ok K) = true := c.fact 21 (f := fun K => (He.Fa.glo "is_whole").ok K) rfl
theorem q22 (c : SaysX fa fn K) : (bCls (gA "Span" K) K) = true := c.fact 22 (f := fun K => bCls (gA "Span" K) K) rfl
theorem q23 (c : SaysX fa fn K) : ((He.Fa.noat "Span" "low").ok K) = true := c.fact 23 (f := fun K => (He.Fa.noat "Span" "low").ok K) rfl
theorem q24 (c : SaysX fa fn K) : ((He.Fa.noat "Span" "high").ok K) = true := c.fact 24 (f := fun K => (He.Fa.noat "Span" "high").ok K) rfl
theorem q25 (c : SaysX fa fn K) : ((He.Fa.mkr "Span").ok K) = true := c.fact 25 (f := fun K => (He.Fa.mkr "Span").ok K) rfl
theorem q26 (c : SaysX fa fn K) : (bCm (gA "Span" K) "read" (mA "Span" "read" K) (recA "classmethod" (mA "Span" "read") K) K) = true := c.fact 26 (f := fun K => bCm (gA "Span" K) "read" (mA "Span" "read" K) (recA "classmethod" (mA "Span" "read") K) K) rfl
theorem q27 (c : SaysX fa fn K) : (bProp (gA "Span" K) "least" (mA "Span" "least" K) (recA "property" (mA "Span" "least") K) K) = true := c.fact 27 (f := fun K => bProp (gA "Span" K) "least" (mA "Span" "least" K) (recA "property" (mA "Span" "least") K) K) rfl
theorem q28 (c : SaysX fa fn K) : (bProp (gA "Span" K) "greatest" (mA "Span" "greatest" K) (recA "property" (mA "Span" "greatest") K) K) = true := c.fact 28 (f := fun K => bProp (gA "Span" K) "greatest" (mA "Span" "greatest" K) (recA "property" (mA "Span" "greatest") K) K) rfl
theorem q29 (c : SaysX fa fn K) : (bSp (gA "Span" K) "__str__" (mA "Span" "__str__" K) K) = true := c.fact 29 (f := fun K => bSp (gA "Span" K) "__str__" (mA "Span" "__str__" K) K) rfl
theorem q30 (c : SaysX fa fn K) : (bExc (gA "InvalidText" K) K) = true := c.fact 30 (f := fun K => bExc (gA "InvalidText" K) K) rfl
theorem q31 (c : SaysX fa fn K) : (bNo (gA "InvalidText" K) "line" K) = true := c.fact 31 (f := fun K => bNo (gA "InvalidText" K) "line" K) rfl
theorem q32 (c : SaysX fa fn K) : (bXis Γ [0, 1, 2, 3] [1] subT K) = true := c.fact 32 (f := fun K => bXis Γ [0, 1, 2, 3] [1] subT K) rfl
theorem q33 (c : SaysX fa fn K) : ((He.Fa.glo "InvalidSpan").ok K) = true := c.fact 33 (f := fun K => (He.Fa.glo "InvalidSpan").ok K) rfl
theorem q34 (c : SaysX fa fn K) : (bTst Γ [(0, false), (1, false), (2, false), (3, true)] (gA "InvalidText") K) = true := c.fact 34 (f := fun K => bTst Γ [(0, false), (1, false), (2, false), (3, true)] (gA "InvalidText") K) rfl
theorem q35 (c : SaysX fa fn K) : ((He.Fa.glo "InvalidText").ok K) = true := c.fact 35 (f := fun K => (He.Fa.glo "InvalidText").ok K) rfl
theorem q36 (c : SaysX fa fn K) : (bTst Γ [(0, true), (1, true), (2, true), (3, true)] (gA "WayroundError") K) = true := c.fact 36 (f := fun K => bTst Γ [(0, true), (1, true), (2, true), (3, true)] (gA "WayroundError") K) rfl
theorem q37 (c : SaysX fa fn K) : ((He.Fa.glo "WayroundError").ok K) = true := c.fact 37 (f := fun K => (He.Fa.glo "WayroundError").ok K) rfl
theorem q38 (c : SaysX fa fn K) : ((He.Fa.glo "_law_told").ok K) = true := c.fact 38 (f := fun K => (He.Fa.glo "_law_told").ok K) rfl
theorem q39 (c : SaysX fa fn K) : ((He.Fa.free "repr").ok K) = true := c.fact 39 (f := fun K => (He.Fa.free "repr").ok K) rfl
theorem q40 (c : SaysX fa fn K) : ((He.Fa.glo "_law_number").ok K) = true := c.fact 40 (f := fun K => (He.Fa.glo "_law_number").ok K) rfl
theorem q41 (c : SaysX fa fn K) : ((He.Fa.glo "_law_due").ok K) = true := c.fact 41 (f := fun K => (He.Fa.glo "_law_due").ok K) rfl
theorem q42 (c : SaysX fa fn K) : (bIsi Γ [4] [4] subT K) = true := c.fact 42 (f := fun K => bIsi Γ [4] [4] subT K) rfl
theorem q43 (c : SaysX fa fn K) : (bSp (gA "Span" K) "__eq__" (mA "Span" "__eq__" K) K) = true := c.fact 43 (f := fun K => bSp (gA "Span" K) "__eq__" (mA "Span" "__eq__" K) K) rfl
theorem q44 (c : SaysX fa fn K) : (bEqF ([4].map (Γ K).cls) (gA "Span" K) K) = true := c.fact 44 (f := fun K => bEqF ([4].map (Γ K).cls) (gA "Span" K) K) rfl
theorem q45 (c : SaysX fa fn K) : (bX Pg.main.file (gA "InvalidSpan" K) (mA "InvalidSpan" "__init__" K) ["low", "high"] K) = true := c.fact 45 (f := fun K => bX Pg.main.file (gA "InvalidSpan" K) (mA "InvalidSpan" "__init__" K) ["low", "high"] K) rfl
theorem q46 (c : SaysX fa fn K) : ((He.Fa.free "super").ok K) = true := c.fact 46 (f := fun K => (He.Fa.free "super").ok K) rfl
theorem q47 (c : SaysX fa fn K) : (bX Pg.main.file (gA "InvalidText" K) (mA "InvalidText" "__init__" K) ["line"] K) = true := c.fact 47 (f := fun K => bX Pg.main.file (gA "InvalidText" K) (mA "InvalidText" "__init__" K) ["line"] K) rfl
theorem q48 (c : SaysX fa fn K) : ((He.Fa.glo "law").ok K) = true := c.fact 48 (f := fun K => (He.Fa.glo "law").ok K) rfl
end

end Ga
set_option Elab.async false
set_option linter.all false
set_option maxRecDepth 100000
set_option maxHeartbeats 0
namespace Ga
open PySem L2 PySem.Spec PyProof.Rows Fw

theorem x_InvalidSpan {K : PySem.W.Frag} {mg : Str → Option Value} {base : Heap} (c : SaysX fa fn K) (KB : K.In base) (GB : base.Ns mainGlobals mg) : ExcOk Pg K mg "InvalidSpan" (gA "InvalidSpan" K) ["low", "high"] := by
  obtain ⟨e, ok⟩ := c.def0 17 rfl
  refine ⟨He.glo_ok KB GB (q33 c), ⟨_, _, _, _, _, _, [("low", "low"), ("high", "high")], ["low", "high"], _, _, _, _, _, _, _, _, _, _, _, _, _, x_ok (prog := Pg) (fs := [("low", "low"), ("high", "high")]) rfl (q45 c) e ok rfl rfl rfl rfl (by decide +kernel), ⟨rfl, rfl, rfl, rfl, rfl, by decide +kernel, by decide +kernel, by decide⟩, rfl, fun _ => rfl, (.cons (.cons .nil)), rfl, rfl, by decide, fun us hl kV doc pm an ct v => match us, hl with | [_, _], _ => rfl⟩, He.free_ok KB GB (q46 c)⟩

theorem x_InvalidText {K : PySem.W.Frag} {mg : Str → Option Value} {base : Heap} (c : SaysX fa fn K) (KB : K.In base) (GB : base.Ns mainGlobals mg) : ExcOk Pg K mg "InvalidText" (gA "InvalidText" K) ["line"] := by
  obtain ⟨e, ok⟩ := c.def0 18 rfl
  refine ⟨He.glo_ok KB GB (q35 c), ⟨_, _, _, _, _, _, [("line", "line")], ["line"], _, _, _, _, _, _, _, _, _, _, _, _, _, x_ok (prog := Pg) (fs := [("line", "line")]) rfl (q47 c) e ok rfl rfl rfl rfl (by decide +kernel), ⟨rfl, rfl, rfl, rfl, rfl, by decide +kernel, by decide +kernel, by decide⟩, rfl, fun _ => rfl, (.cons .nil), rfl, rfl, by decide, fun us hl kV doc pm an ct v => match us, hl with | [_], _ => rfl⟩, He.free_ok KB GB (q46 c)⟩

theorem sc__law_feed : FnScope ["_law_script", "_law_k", "_law_cell", "_law_seed"] ["_law_script", "_law_k"] (defScope (top 15)) := ⟨rfl, rfl, rfl, by decide +kernel, rfl, by decide +kernel, by decide +kernel⟩

theorem d__law_feed {w : World} {K : PySem.W.Frag} {mg : Str → Option Value} {base : Heap} (c : SaysX fa fn K) (KB : K.In base) (GB : base.Ns mainGlobals mg) : ∃ fd, FunD K "_law_feed" "_law_feed" (defArgs (top 15)) (defBody (top 15)) (defScope (top 15)) [] [] (gA "_law_feed" K) fd ∧ DF Pg w K mg base (Γ K) 1 (gA "_law_feed" K) fd ["_law_script", "_law_k"] f__law_feed := by
  obtain ⟨fd, F0⟩ := c.def_ 0 rfl rfl
  have F : FunD K "_law_feed" "_law_feed" (defArgs (top 15)) (defBody (top 15)) (defScope (top 15)) [] [] (gA "_law_feed" K) fd := F0
  exact ⟨fd, F, d_fn (k := 0) (m := m__law_feed) F sc__law_feed rfl fun cd A outer s H E ok dk =>
   (ss_cons (s_set ok.nd (e_bin o_add (e_bin o_mul e_int (e_var 1)) e_int))
 (ss_cons (s_if (t_cmp1 o_lt (e_var 1) (e_callB cd_len rfl (He.free_ok KB GB (q0 c)) (by decide +kernel) (a_cons (e_var 0) a_nil)) rfl) (ss_one (s_set ok.nd (e_callB cd_abs rfl (He.free_ok KB GB (q4 c)) (by decide +kernel) (a_cons (e_ix (e_var 0) (e_var 1)) a_nil)))) (ss_one (s_if (t_cmp1 o_gt (e_callB cd_len rfl (He.free_ok KB GB (q0 c)) (by decide +kernel) (a_cons (e_var 0) a_nil)) e_int rfl) (ss_one (s_set ok.nd (e_bin o_add (e_var 2) (e_bin o_mul (e_bin o_modI (e_callB cd_abs rfl (He.free_ok KB GB (q4 c)) (by decide +kernel) (a_cons (e_ix (e_var 0) (e_bin o_modI (e_var 1) (e_callB cd_len rfl (He.free_ok KB GB (q0 c)) (by decide +kernel) (a_cons (e_var 0) a_nil)))) a_nil)) e_int) e_int)))) ss_nil)))
 (ss_cons (s_set ok.nd (e_bin o_add (e_bin o_modI (e_bin o_add (e_bin o_mul (e_bin o_modI (e_var 2) e_int) e_int) (e_bin o_mul e_int (e_var 1))) e_int) e_int))
 (ss_one (s_ret (e_new (a_cons (e_bin o_mul (e_var 2) (e_callT cd_int rfl (He.free_ok KB GB (q5 c)) (by decide +kernel) (a_cons (e_cmp1 o_ge (e_var 2) (e_bin o_powI e_int e_int) rfl) a_nil))) (a_cons (e_var 3) (a_cons e_int a_nil)))))))))⟩

theorem sc__law_take : FnScope ["_law_feed_here", "_law_many", "_law_digit", "_law_mix"] ["_law_feed_here", "_law_many"] (defScope (top 16)) := ⟨rfl, rfl, rfl, by decide +kernel, rfl, by decide +kernel, by decide +kernel⟩

theorem d__law_take {w : World} {K : PySem.W.Frag} {mg : Str → Option Value} {base : Heap} (c : SaysX fa fn K) (KB : K.In base) (GB : base.Ns mainGlobals mg) : ∃ fd, FunD K "_law_take" "_law_take" (defArgs (top 16)) (defBody (top 16)) (defScope (top 16)) [] [] (gA "_law_take" K) fd ∧ DF Pg w K mg base (Γ K) 1 (gA "_law_take" K) fd ["_law_feed_here", "_law_many"] f__law_take := by
  obtain ⟨fd, F0⟩ := c.def_ 1 rfl rfl
  have F : FunD K "_law_take" "_law_take" (defArgs (top 16)) (defBody (top 16)) (defScope (top 16)) [] [] (gA "_law_take" K) fd := F0
  exact ⟨fd, F, d_fn (k := 0) (m := m__law_take) F sc__law_take rfl fun cd A outer s H E ok dk =>
   (ss_cons (s_if (t_cmp1 o_gt (e_ix (e_var 0) e_int) e_int rfl) (ss_cons (s_set ok.nd (e_bin o_modI (e_ix (e_var 0) e_int) (e_var 1)))
 (ss_cons (s_sub (e_bin o_divI (e_ix (e_var 0) e_int) (e_var 1)) (e_var 0) e_int)
 (ss_one (s_ret (e_var 2))))) ss_nil)
 (ss_cons (s_sub (e_bin o_add (e_ix (e_var 0) e_int) e_int) (e_var 0) e_int)
 (ss_cons (s_set ok.nd (e_bin o_modI (e_bin o_mul (e_bin o_add (e_ix (e_var 0) e_int) (e_bin o_mul e_int (e_ix (e_var 0) e_int))) e_int) e_int))
 (ss_cons (s_sub (e_bin o_add (e_bin o_modI (e_bin o_add (e_bin o_mul (e_var 3) e_int) e_int) e_int) e_int) (e_var 0) e_int)
 (ss_one (s_ret (e_bin o_modI (e_bin o_divI (e_bin o_add (e_bin o_mul (e_var 3) e_int) (e_ix (e_var 0) e_int)) e_int) (e_var 1))))))))⟩

theorem sc__law_digits : FnScope ["_law_feed_here", "_law_many", "_law_digits_here", "_law_turn"] ["_law_feed_here"] (defScope (top 17)) := ⟨rfl, rfl, rfl, by decide +kernel, rfl, by decide +kernel, by decide +kernel⟩

theorem d__law_digits {w : World} {K : PySem.W.Frag} {mg : Str → Option Value} {base : Heap} (c : SaysX fa fn K) (KB : K.In base) (GB : base.Ns mainGlobals mg) : ∃ fd, FunD K "_law_digits" "_law_digits" (defArgs (top 17)) (defBody (top 17)) (defScope (top 17)) [] [] (gA "_law_digits" K) fd ∧ DF Pg w K mg base (Γ K) 2 (gA "_law_digits" K) fd ["_law_feed_here"] f__law_digits := by
  obtain ⟨fd, F0⟩ := c.def_ 2 rfl rfl
  obtain ⟨fd__law_take, F__law_take, D__law_take⟩ := d__law_take (w := w) c KB GB
  have F : FunD K "_law_digits" "_law_digits" (defArgs (top 17)) (defBody (top 17)) (defScope (top 17)) [] [] (gA "_law_digits" K) fd := F0
  exact ⟨fd, F, d_fn (k := 1) (m := m__law_digits) F sc__law_digits rfl fun cd A outer s H E ok dk =>
   (ss_cons (s_set ok.nd (e_ix (e_lst (a_cons e_int (a_cons e_int (a_cons e_int (a_cons e_int (a_cons e_int (a_cons e_int (a_cons e_int (a_cons e_int a_nil))))))))) (e_callN (Cal.fn ok D__law_take (by omega) (bd_of (n := 2) (ks := []) (pk := [0, 1]) F__law_take rfl (by decide) fun _ _ _ _ _ _ us ws h1 h2 => match us, ws, h1, h2 with | [_, _], [], _, _ => rfl) (fun _ => .nil)) rfl (He.glo_ok KB GB (q7 c)) F__law_take.kp (c_pos (a_cons (e_var 0) (a_cons e_int a_nil))))))
 (ss_cons (s_setLc true ok (i_range1 rfl (He.free_ok KB GB (q3 c)) (a_cons (e_var 1) a_nil)) (blkOk_by (N := ["_law_feed_here", "_law_many", "_law_digits_here", "_law_turn"]) (sc := defScope (top 17)) (own := [("_law_turn", 3)]) (by decide +kernel)) rfl (fun s_ H_ C_ cl_ fp_ => (gv_name (ok.blk s_ H_ _ C_ cl_ fp_).nd)) (fun s_ H_ C_ cl_ fp_ => ts_nil) (fun s_ H_ C_ cl_ fp_ => (e_callT cd_str rfl (He.free_ok KB GB (q8 c)) (by decide +kernel) (a_cons (e_callN (Cal.fn (ok.blk s_ H_ _ C_ cl_ fp_) D__law_take (by omega) (bd_of (n := 2) (ks := []) (pk := [0, 1]) F__law_take rfl (by decide) fun _ _ _ _ _ _ us ws h1 h2 => match us, ws, h1, h2 with | [_, _], [], _, _ => rfl) (fun _ => .nil)) rfl (He.glo_ok KB GB (q7 c)) F__law_take.kp (c_pos (a_cons (e_var 0) (a_cons e_int a_nil)))) a_nil))) (sw_true rfl rfl rfl (by decide +kernel)))
 (ss_cons (s_if (DW.t (w_and (t_cmp1 (o_eq ok) (e_ix (e_var 2) e_int) e_str rfl) (w_and (t_cmp1 o_gt (e_var 1) e_int rfl) (w_and1 (t_cmp1 (o_eq ok) (e_callN (Cal.fn ok D__law_take (by omega) (bd_of (n := 2) (ks := []) (pk := [0, 1]) F__law_take rfl (by decide) fun _ _ _ _ _ _ us ws h1 h2 => match us, ws, h1, h2 with | [_, _], [], _, _ => rfl) (fun _ => .nil)) rfl (He.glo_ok KB GB (q7 c)) F__law_take.kp (c_pos (a_cons (e_var 0) (a_cons e_int a_nil)))) e_int rfl))))) (ss_one (s_sub e_str (e_var 2) e_int)) ss_nil)
 (ss_one (s_ret (e_bm (b := .str) PySem.F.plainAttrs_str PySem.F.slot_str_join PySem.F.type_str_join md_join e_str (a_cons (e_var 2) a_nil)))))))⟩

theorem sc__law_shown : FnScope ["_law_feed_here", "_law_low", "_law_high"] ["_law_feed_here"] (defScope (top 18)) := ⟨rfl, rfl, rfl, by decide +kernel, rfl, by decide +kernel, by decide +kernel⟩

theorem d__law_shown {w : World} {K : PySem.W.Frag} {mg : Str → Option Value} {base : Heap} (c : SaysX fa fn K) (KB : K.In base) (GB : base.Ns mainGlobals mg) : ∃ fd, FunD K "_law_shown" "_law_shown" (defArgs (top 18)) (defBody (top 18)) (defScope (top 18)) [] [] (gA "_law_shown" K) fd ∧ DF Pg w K mg base (Γ K) 3 (gA "_law_shown" K) fd ["_law_feed_here"] f__law_shown := by
  obtain ⟨fd, F0⟩ := c.def_ 3 rfl rfl
  obtain ⟨fd__law_digits, F__law_digits, D__law_digits⟩ := d__law_digits (w := w) c KB GB
  obtain ⟨fd__law_take, F__law_take, D__law_take⟩ := d__law_take (w := w) c KB GB
  have F : FunD K "_law_shown" "_law_shown" (defArgs (top 18)) (defBody (top 18)) (defScope (top 18)) [] [] (gA "_law_shown" K) fd := F0
  exact ⟨fd, F, d_fn (k := 2) (m := m__law_shown) F sc__law_shown rfl fun cd A outer s H E ok dk =>
   (ss_cons (s_par ok (by decide) (a_cons (e_callN (Cal.fn ok D__law_digits (by omega) (bd_of (n := 1) (ks := []) (pk := [0]) F__law_digits rfl (by decide) fun _ _ _ _ _ _ us ws h1 h2 => match us, ws, h1, h2 with | [_], [], _, _ => rfl) (fun _ => .nil)) rfl (He.glo_ok KB GB (q9 c)) F__law_digits.kp (c_pos (a_cons (e_var 0) a_nil))) (a_cons (e_callN (Cal.fn ok D__law_digits (by omega) (bd_of (n := 1) (ks := []) (pk := [0]) F__law_digits rfl (by decide) fun _ _ _ _ _ _ us ws h1 h2 => match us, ws, h1, h2 with | [_], [], _, _ => rfl) (fun _ => .nil)) rfl (He.glo_ok KB GB (q9 c)) F__law_digits.kp (c_pos (a_cons (e_var 0) a_nil))) a_nil)) rfl)
 (ss_cons (s_if (t_cmp1 (o_eq ok) (e_callN (Cal.fn ok D__law_take (by omega) (bd_of (n := 2) (ks := []) (pk := [0, 1]) F__law_take rfl (by decide) fun _ _ _ _ _ _ us ws h1 h2 => match us, ws, h1, h2 with | [_, _], [], _, _ => rfl) (fun _ => .nil)) rfl (He.glo_ok KB GB (q7 c)) F__law_take.kp (c_pos (a_cons (e_var 0) (a_cons e_int a_nil)))) e_int rfl) (ss_one (s_ret (e_var 1))) ss_nil)
 (ss_cons (s_if (DW.t (w_and (t_cmp1 (o_ltA ok) (e_tup (a_cons (e_callB cd_len rfl (He.free_ok KB GB (q0 c)) (by decide +kernel) (a_cons (e_var 2) a_nil)) (a_cons (e_var 2) a_nil))) (e_tup (a_cons (e_callB cd_len rfl (He.free_ok KB GB (q0 c)) (by decide +kernel) (a_cons (e_var 1) a_nil)) (a_cons (e_var 1) a_nil))) rfl) (w_and1 (t_cmp1 o_gt (e_callN (Cal.fn ok D__law_take (by omega) (bd_of (n := 2) (ks := []) (pk := [0, 1]) F__law_take rfl (by decide) fun _ _ _ _ _ _ us ws h1 h2 => match us, ws, h1, h2 with | [_, _], [], _, _ => rfl) (fun _ => .nil)) rfl (He.glo_ok KB GB (q7 c)) F__law_take.kp (c_pos (a_cons (e_var 0) (a_cons e_int a_nil)))) e_int rfl)))) (ss_one (s_par ok (by decide) (a_cons (e_var 2) (a_cons (e_var 1) a_nil)) rfl)) ss_nil)
 (ss_one (s_ret (e_bin o_add (e_bin o_add (e_var 1) e_str) (e_ix (e_lst (a_cons (e_var 2) (a_cons (e_var 2) (a_cons (e_var 2) (a_cons (e_var 2) (a_cons (e_var 2) (a_cons (e_var 1) a_nil))))))) (e_callN (Cal.fn ok D__law_take (by omega) (bd_of (n := 2) (ks := []) (pk := [0, 1]) F__law_take rfl (by decide) fun _ _ _ _ _ _ us ws h1 h2 => match us, ws, h1, h2 with | [_, _], [], _, _ => rfl) (fun _ => .nil)) rfl (He.glo_ok KB GB (q7 c)) F__law_take.kp (c_pos (a_cons (e_var 0) (a_cons e_int a_nil)))))))))))⟩

theorem sc__law_spoilt : FnScope ["_law_feed_here", "_law_shown_here", "_law_at", "_law_sign", "_law_form"] ["_law_feed_here", "_law_shown_here"] (defScope (top 19)) := ⟨rfl, rfl, rfl, by decide +kernel, rfl, by decide +kernel, by decide +kernel⟩

theorem d__law_spoilt {w : World} {K : PySem.W.Frag} {mg : Str → Option Value} {base : Heap} (c : SaysX fa fn K) (KB : K.In base) (GB : base.Ns mainGlobals mg) : ∃ fd, FunD K "_law_spoilt" "_law_spoilt" (defArgs (top 19)) (defBody (top 19)) (defScope (top 19)) [] [] (gA "_law_spoilt" K) fd ∧ DF Pg w K mg base (Γ K) 2 (gA "_law_spoilt" K) fd ["_law_feed_here", "_law_shown_here"] f__law_spoilt := by
  obtain ⟨fd, F0⟩ := c.def_ 4 rfl rfl
  obtain ⟨fd__law_take, F__law_take, D__law_take⟩ := d__law_take (w := w) c KB GB
  have F : FunD K "_law_spoilt" "_law_spoilt" (defArgs (top 19)) (defBody (top 19)) (defScope (top 19)) [] [] (gA "_law_spoilt" K) fd := F0
  exact ⟨fd, F, d_fn (k := 1) (m := m__law_spoilt) F sc__law_spoilt rfl fun cd A outer s H E ok dk =>
   (ss_cons (s_par ok (by decide) (a_cons (e_callN (Cal.fn ok D__law_take (by omega) (bd_of (n := 2) (ks := []) (pk := [0, 1]) F__law_take rfl (by decide) fun _ _ _ _ _ _ us ws h1 h2 => match us, ws, h1, h2 with | [_, _], [], _, _ => rfl) (fun _ => .nil)) rfl (He.glo_ok KB GB (q7 c)) F__law_take.kp (c_pos (a_cons (e_var 0) (a_cons (e_bin o_add (e_callB cd_len rfl (He.free_ok KB GB (q0 c)) (by decide +kernel) (a_cons (e_var 1) a_nil)) e_int) a_nil)))) (a_cons (e_ix (e_callT (cd_listS ok.calm) rfl (He.free_ok KB GB (q11 c)) (by decide +kernel) (a_cons e_str a_nil)) (e_callN (Cal.fn ok D__law_take (by omega) (bd_of (n := 2) (ks := []) (pk := [0, 1]) F__law_take rfl (by decide) fun _ _ _ _ _ _ us ws h1 h2 => match us, ws, h1, h2 with | [_, _], [], _, _ => rfl) (fun _ => .nil)) rfl (He.glo_ok KB GB (q7 c)) F__law_take.kp (c_pos (a_cons (e_var 0) (a_cons e_int a_nil))))) a_nil)) rfl)
 (ss_cons (s_set ok.nd (e_callN (Cal.fn ok D__law_take (by omega) (bd_of (n := 2) (ks := []) (pk := [0, 1]) F__law_take rfl (by decide) fun _ _ _ _ _ _ us ws h1 h2 => match us, ws, h1, h2 with | [_, _], [], _, _ => rfl) (fun _ => .nil)) rfl (He.glo_ok KB GB (q7 c)) F__law_take.kp (c_pos (a_cons (e_var 0) (a_cons e_int a_nil)))))
 (ss_cons (s_if (t_cmp1 (o_eq ok) (e_var 4) e_int rfl) (ss_one (s_ret (e_bin o_add (e_sl (e_var 1) d_no (d_at (e_var 2))) (e_sl (e_var 1) (d_at (e_bin o_add (e_var 2) e_int)) d_no)))) ss_nil)
 (ss_cons (s_if (t_cmp1 (o_eq ok) (e_var 4) e_int rfl) (ss_one (s_ret (e_bin o_add (e_bin o_add (e_sl (e_var 1) d_no (d_at (e_var 2))) (e_var 3)) (e_sl (e_var 1) (d_at (e_var 2)) d_no)))) ss_nil)
 (ss_cons (s_if (t_cmp1 (o_eq ok) (e_var 4) e_int rfl) (ss_one (s_ret (e_bin o_add (e_bin o_add (e_sl (e_var 1) d_no (d_at (e_var 2))) (e_bin o_mul (e_sl (e_var 1) (d_at (e_var 2)) (d_at (e_bin o_add (e_var 2) e_int))) e_int)) (e_sl (e_var 1) (d_at (e_bin o_add (e_var 2) e_int)) d_no)))) ss_nil)
 (ss_one (s_ret (e_bin o_add (e_bin o_add (e_sl (e_var 1) d_no (d_at (e_var 2))) (e_var 3)) (e_sl (e_var 1) (d_at (e_bin o_add (e_var 2) e_int)) d_no)))))))))⟩

theorem sc_number_of : FnScope ["word", "sign"] ["word"] (defScope (top 10)) := ⟨rfl, rfl, rfl, by decide +kernel, rfl, by decide +kernel, by decide +kernel⟩

theorem d_number_of {w : World} {K : PySem.W.Frag} {mg : Str → Option Value} {base : Heap} (c : SaysX fa fn K) (KB : K.In base) (GB : base.Ns mainGlobals mg) : ∃ fd, FunD K "number_of" "number_of" (defArgs (top 10)) (defBody (top 10)) (defScope (top 10)) [] [] (gA "number_of" K) fd ∧ DF Pg w K mg base (Γ K) 1 (gA "number_of" K) fd ["word"] f_number_of := by
  obtain ⟨fd, F0⟩ := c.def_ 5 rfl rfl
  have F : FunD K "number_of" "number_of" (defArgs (top 10)) (defBody (top 10)) (defScope (top 10)) [] [] (gA "number_of" K) fd := F0
  exact ⟨fd, F, d_fn (k := 0) (m := m_number_of) F sc_number_of rfl fun cd A outer s H E ok dk =>
   (ss_cons (s_if (DW.t (w_or (t_not (t_chain o_lt o_le e_int (e_callB cd_len rfl (He.free_ok KB GB (q0 c)) (by decide +kernel) (a_cons (e_var 0) a_nil)) (e_gint rfl (He.int_ok KB GB (q15 c))))) (w_or1 (t_not (t_val (e_callB (cd_all ok.calm) rfl (He.free_ok KB GB (q17 c)) (by decide +kernel) (a_cons (e_lc false ok (i_seq (e_var 0)) (blkOk_by (N := ["word", "sign"]) (sc := defScope (top 10)) (own := [("sign", 1)]) (by decide +kernel)) rfl (fun s_ H_ C_ cl_ fp_ => (gv_name (ok.blk s_ H_ _ C_ cl_ fp_).nd)) (fun s_ H_ C_ cl_ fp_ => ts_nil) (fun s_ H_ C_ cl_ fp_ => (e_cmp1 (o_in (ok.blk s_ H_ _ C_ cl_ fp_)) (e_var 1) (e_gstr rfl (He.str_ok KB GB (q16 c))) rfl))) a_nil))))))) (ss_one (s_ret e_non)) ss_nil)
 (ss_cons (s_if (DW.t (w_and (t_cmp1 (o_eq ok) (e_ix (e_var 0) e_int) e_str rfl) (w_and1 (t_cmp1 (o_ne ok) (e_var 0) e_str rfl)))) (ss_one (s_ret e_non)) ss_nil)
 (ss_one (s_ret (e_callT (cd_int.or cd_intS) rfl (He.free_ok KB GB (q5 c)) (by decide +kernel) (a_cons (e_var 0) a_nil))))))⟩

theorem sc_is_whole : FnScope ["value"] ["value"] (defScope (top 9)) := ⟨rfl, rfl, rfl, by decide +kernel, rfl, by decide +kernel, by decide +kernel⟩

theorem d_is_whole {w : World} {K : PySem.W.Frag} {mg : Str → Option Value} {base : Heap} (c : SaysX fa fn K) (KB : K.In base) (GB : base.Ns mainGlobals mg) : ∃ fd, FunD K "is_whole" "is_whole" (defArgs (top 9)) (defBody (top 9)) (defScope (top 9)) [] [] (gA "is_whole" K) fd ∧ DF Pg w K mg base (Γ K) 1 (gA "is_whole" K) fd ["value"] f_is_whole := by
  obtain ⟨fd, F0⟩ := c.def_ 6 rfl rfl
  have F : FunD K "is_whole" "is_whole" (defArgs (top 9)) (defBody (top 9)) (defScope (top 9)) [] [] (gA "is_whole" K) fd := F0
  exact ⟨fd, F, d_fn (k := 0) (m := m_is_whole) F sc_is_whole rfl fun cd A outer s H E ok dk =>
   (ss_one (s_ret (e_and (e_callB (cd_isi IsiOk.base) rfl (He.free_ok KB GB (q19 c)) (by decide +kernel) (a_cons (e_var 0) (a_cons (e_bty rfl (He.free_ok KB GB (q5 c)) (by decide +kernel)) a_nil))) (e_one (e_not (e_callB (cd_isi IsiOk.base) rfl (He.free_ok KB GB (q19 c)) (by decide +kernel) (a_cons (e_var 0) (a_cons (e_bty rfl (He.free_ok KB GB (q20 c)) (by decide +kernel)) a_nil))))))))⟩

theorem sc_Span_init : FnScope ["self", "least", "greatest"] ["self", "least", "greatest"] (defScope (sub (top 13) 0)) := ⟨rfl, rfl, rfl, by decide +kernel, rfl, by decide +kernel, by decide +kernel⟩

theorem d_Span_init {w : World} {K : PySem.W.Frag} {mg : Str → Option Value} {base : Heap} (c : SaysX fa fn K) (KB : K.In base) (GB : base.Ns mainGlobals mg) : ∃ fd, FunD K "__init__" "Span.__init__" (defArgs (sub (top 13) 0)) (defBody (sub (top 13) 0)) (defScope (sub (top 13) 0)) [] [] (mA "Span" "__init__" K) fd ∧ DF Pg w K mg base (Γ K) 2 (mA "Span" "__init__" K) fd ["self", "least", "greatest"] f_Span_init := by
  obtain ⟨fd, F0⟩ := c.def_ 7 rfl rfl
  obtain ⟨fd_is_whole, F_is_whole, D_is_whole⟩ := d_is_whole (w := w) c KB GB
  have F : FunD K "__init__" "Span.__init__" (defArgs (sub (top 13) 0)) (defBody (sub (top 13) 0)) (defScope (sub (top 13) 0)) [] [] (mA "Span" "__init__" K) fd := F0
  exact ⟨fd, F, d_fn (k := 1) (m := m_Span_init) F sc_Span_init rfl fun cd A outer s H E ok dk =>
   (ss_cons (s_if (DW.t (w_or (t_not (t_val (e_callN (Cal.fn ok D_is_whole (by omega) (bd_of (n := 1) (ks := []) (pk := [0]) F_is_whole rfl (by decide) fun _ _ _ _ _ _ us ws h1 h2 => match us, ws, h1, h2 with | [_], [], _, _ => rfl) (fun _ => .nil)) rfl (He.glo_ok KB GB (q21 c)) F_is_whole.kp (c_pos (a_cons (e_var 1) a_nil))))) (w_or (t_not (t_val (e_callN (Cal.fn ok D_is_whole (by omega) (bd_of (n := 1) (ks := []) (pk := [0]) F_is_whole rfl (by decide) fun _ _ _ _ _ _ us ws h1 h2 => match us, ws, h1, h2 with | [_], [], _, _ => rfl) (fun _ => .nil)) rfl (He.glo_ok KB GB (q21 c)) F_is_whole.kp (c_pos (a_cons (e_var 2) a_nil))))) (w_or1 (t_not (t_chain o_le o_le e_int (e_var 1) (e_var 2))))))) (ss_one (s_raise ok (x_InvalidSpan c KB GB) rfl rfl rfl (c_pos (a_cons (e_var 1) (a_cons (e_var 2) a_nil))))) ss_nil)
 (ss_cons (s_fld (cs := [4]) (e_var 1) (e_var 0) (fun z hz => by rcases List.mem_singleton.mp hz with rfl; exact ⟨(cls_ok (q22 c)), He.noat_ok (q23 c)⟩))
 (ss_one (s_fld (cs := [4]) (e_var 2) (e_var 0) (fun z hz => by rcases List.mem_singleton.mp hz with rfl; exact ⟨(cls_ok (q22 c)), He.noat_ok (q24 c)⟩)))))⟩

theorem sc_Span_read : FnScope ["cls", "text", "least", "dots", "greatest", "low", "high"] ["cls", "text"] (defScope (sub (top 13) 3)) := ⟨rfl, rfl, rfl, by decide +kernel, rfl, by decide +kernel, by decide +kernel⟩

theorem d_Span_read {w : World} {K : PySem.W.Frag} {mg : Str → Option Value} {base : Heap} (c : SaysX fa fn K) (KB : K.In base) (GB : base.Ns mainGlobals mg) : ∃ fd, FunD K "read" "Span.read" (defArgs (sub (top 13) 3)) (defBody (sub (top 13) 3)) (defScope (sub (top 13) 3)) [] [] (recA "classmethod" (mA "Span" "read") K) fd ∧ DF Pg w K mg base (Γ K) 4 (recA "classmethod" (mA "Span" "read") K) fd ["cls", "text"] f_Span_read := by
  obtain ⟨fd, F0⟩ := c.def_ 8 rfl rfl
  obtain ⟨fd_number_of, F_number_of, D_number_of⟩ := d_number_of (w := w) c KB GB
  obtain ⟨fd_Span_init, F_Span_init, D_Span_init⟩ := d_Span_init (w := w) c KB GB
  have F : FunD K "read" "Span.read" (defArgs (sub (top 13) 3)) (defBody (sub (top 13) 3)) (defScope (sub (top 13) 3)) [] [] (recA "classmethod" (mA "Span" "read") K) fd := F0
  exact ⟨fd, F, d_fn (k := 3) (m := m_Span_read) F sc_Span_read rfl fun cd A outer s H E ok dk =>
   (ss_cons (s_asg (e_bm (b := .str) PySem.F.plainAttrs_str PySem.F.slot_str_partition PySem.F.type_str_partition md_partition (e_var 1) (a_cons (e_gstr rfl (He.str_ok KB GB (q14 c))) a_nil)) (g_tup ok.calm (gs_cons (g_name ok.nd) (gs_cons (g_name ok.nd) (gs_cons (g_name ok.nd) gs_nil)))))
 (ss_cons (s_set ok.nd (e_callN (Cal.fn ok D_number_of (by omega) (bd_of (n := 1) (ks := []) (pk := [0]) F_number_of rfl (by decide) fun _ _ _ _ _ _ us ws h1 h2 => match us, ws, h1, h2 with | [_], [], _, _ => rfl) (fun _ => .nil)) rfl (He.glo_ok KB GB (q18 c)) F_number_of.kp (c_pos (a_cons (e_var 2) a_nil))))
 (ss_cons (s_set ok.nd (e_if (t_cmp1 (o_eq ok) (e_var 3) (e_gstr rfl (He.str_ok KB GB (q14 c))) rfl) (e_callN (Cal.fn ok D_number_of (by omega) (bd_of (n := 1) (ks := []) (pk := [0]) F_number_of rfl (by decide) fun _ _ _ _ _ _ us ws h1 h2 => match us, ws, h1, h2 with | [_], [], _, _ => rfl) (fun _ => .nil)) rfl (He.glo_ok KB GB (q18 c)) F_number_of.kp (c_pos (a_cons (e_var 4) a_nil))) (e_var 5)))
 (ss_cons (s_if (DW.t (w_or (t_cmp1 o_isN (e_var 5) e_non rfl) (w_or (t_cmp1 o_isN (e_var 6) e_non rfl) (w_or (t_cmp1 o_gt (e_var 5) (e_var 6) rfl) (w_or1 (DW.t (w_and (t_cmp1 (o_eq ok) (e_var 3) (e_gstr rfl (He.str_ok KB GB (q14 c))) rfl) (w_and1 (t_cmp1 (o_eq ok) (e_var 5) (e_var 6) rfl))))))))) (ss_one (s_raise ok (x_InvalidText c KB GB) rfl rfl rfl (c_pos (a_cons e_int a_nil)))) ss_nil)
 (ss_one (s_ret (e_callV (e_var 0) (.cons ⟨(He.mkr_ok (q25 c)).kp, (Cal.make (c := 4) ok (He.mkr_ok (q25 c)) rfl D_Span_init (by omega) (bd_of (n := 3) (ks := []) (pk := [0, 1, 2]) F_Span_init rfl (by decide) fun _ _ _ _ _ _ us ws h1 h2 => match us, ws, h1, h2 with | [_, _, _], [], _, _ => rfl) (fun _ => .nil))⟩ .nil) (c_pos (a_cons (e_var 5) (a_cons (e_var 6) a_nil))))))))))⟩

theorem sc_Span_least : FnScope ["self"] ["self"] (defScope (sub (top 13) 4)) := ⟨rfl, rfl, rfl, by decide +kernel, rfl, by decide +kernel, by decide +kernel⟩

theorem d_Span_least {w : World} {K : PySem.W.Frag} {mg : Str → Option Value} {base : Heap} (c : SaysX fa fn K) (KB : K.In base) (GB : base.Ns mainGlobals mg) : ∃ fd, FunD K "least" "Span.least" (defArgs (sub (top 13) 4)) (defBody (sub (top 13) 4)) (defScope (sub (top 13) 4)) [] [] (recA "property" (mA "Span" "least") K) fd ∧ DF Pg w K mg base (Γ K) 1 (recA "property" (mA "Span" "least") K) fd ["self"] f_Span_least := by
  obtain ⟨fd, F0⟩ := c.def_ 9 rfl rfl
  have F : FunD K "least" "Span.least" (defArgs (sub (top 13) 4)) (defBody (sub (top 13) 4)) (defScope (sub (top 13) 4)) [] [] (recA "property" (mA "Span" "least") K) fd := F0
  exact ⟨fd, F, d_fn (k := 0) (m := m_Span_least) F sc_Span_least rfl fun cd A outer s H E ok dk =>
   (ss_one (s_ret (e_attr (e_var 0) (.cons (at_fld (c := 4) (cls_ok (q22 c)) (He.noat_ok (q23 c)) rfl rfl) .nil))))⟩

theorem sc_Span_greatest : FnScope ["self"] ["self"] (defScope (sub (top 13) 5)) := ⟨rfl, rfl, rfl, by decide +kernel, rfl, by decide +kernel, by decide +kernel⟩

theorem d_Span_greatest {w : World} {K : PySem.W.Frag} {mg : Str → Option Value} {base : Heap} (c : SaysX fa fn K) (KB : K.In base) (GB : base.Ns mainGlobals mg) : ∃ fd, FunD K "greatest" "Span.greatest" (defArgs (sub (top 13) 5)) (defBody (sub (top 13) 5)) (defScope (sub (top 13) 5)) [] [] (recA "property" (mA "Span" "greatest") K) fd ∧ DF Pg w K mg base (Γ K) 1 (recA "property" (mA "Span" "greatest") K) fd ["self"] f_Span_greatest := by
  obtain ⟨fd, F0⟩ := c.def_ 10 rfl rfl
  have F : FunD K "greatest" "Span.greatest" (defArgs (sub (top 13) 5)) (defBody (sub (top 13) 5)) (defScope (sub (top 13) 5)) [] [] (recA "property" (mA "Span" "greatest") K) fd := F0
  exact ⟨fd, F, d_fn (k := 0) (m := m_Span_greatest) F sc_Span_greatest rfl fun cd A outer s H E ok dk =>
   (ss_one (s_ret (e_attr (e_var 0) (.cons (at_fld (c := 4) (cls_ok (q22 c)) (He.noat_ok (q24 c)) rfl rfl) .nil))))⟩

theorem sc_Span_str : FnScope ["self"] ["self"] (defScope (sub (top 13) 15)) := ⟨rfl, rfl, rfl, by decide +kernel, rfl, by decide +kernel, by decide +kernel⟩

theorem d_Span_str {w : World} {K : PySem.W.Frag} {mg : Str → Option Value} {base : Heap} (c : SaysX fa fn K) (KB : K.In base) (GB : base.Ns mainGlobals mg) : ∃ fd, FunD K "__str__" "Span.__str__" (defArgs (sub (top 13) 15)) (defBody (sub (top 13) 15)) (defScope (sub (top 13) 15)) [] [] (mA "Span" "__str__" K) fd ∧ DF Pg w K mg base (Γ K) 1 (mA "Span" "__str__" K) fd ["self"] f_Span_str := by
  obtain ⟨fd, F0⟩ := c.def_ 11 rfl rfl
  have F : FunD K "__str__" "Span.__str__" (defArgs (sub (top 13) 15)) (defBody (sub (top 13) 15)) (defScope (sub (top 13) 15)) [] [] (mA "Span" "__str__" K) fd := F0
  exact ⟨fd, F, d_fn (k := 0) (m := m_Span_str) F sc_Span_str rfl fun cd A outer s H E ok dk =>
   (ss_cons (s_if (t_cmp1 (o_eq ok) (e_attr (e_var 0) (.cons (at_fld (c := 4) (cls_ok (q22 c)) (He.noat_ok (q23 c)) rfl rfl) .nil)) (e_attr (e_var 0) (.cons (at_fld (c := 4) (cls_ok (q22 c)) (He.noat_ok (q24 c)) rfl rfl) .nil)) rfl) (ss_one (s_ret (e_callT cd_str rfl (He.free_ok KB GB (q8 c)) (by decide +kernel) (a_cons (e_attr (e_var 0) (.cons (at_fld (c := 4) (cls_ok (q22 c)) (He.noat_ok (q23 c)) rfl rfl) .nil)) a_nil)))) ss_nil)
 (ss_one (s_ret (e_joined (.cons (e_fmt (e_attr (e_var 0) (.cons (at_fld (c := 4) (cls_ok (q22 c)) (He.noat_ok (q23 c)) rfl rfl) .nil))) (.cons (e_fmt (e_gstr rfl (He.str_ok KB GB (q14 c)))) (.cons (e_fmt (e_attr (e_var 0) (.cons (at_fld (c := 4) (cls_ok (q22 c)) (He.noat_ok (q24 c)) rfl rfl) .nil))) .nil)))))))⟩

theorem sc__law_told : FnScope ["_law_shown_here", "_law_found", "_law_made", "e"] ["_law_shown_here"] (defScope (top 22)) := ⟨rfl, rfl, rfl, by decide +kernel, rfl, by decide +kernel, by decide +kernel⟩

theorem d__law_told {w : World} {K : PySem.W.Frag} {mg : Str → Option Value} {base : Heap} (c : SaysX fa fn K) (KB : K.In base) (GB : base.Ns mainGlobals mg) : ∃ fd, FunD K "_law_told" "_law_told" (defArgs (top 22)) (defBody (top 22)) (defScope (top 22)) [] [] (gA "_law_told" K) fd ∧ DF Pg w K mg base (Γ K) 5 (gA "_law_told" K) fd ["_law_shown_here"] f__law_told := by
  obtain ⟨fd, F0⟩ := c.def_ 12 rfl rfl
  obtain ⟨fd_Span_read, F_Span_read, D_Span_read⟩ := d_Span_read (w := w) c KB GB
  obtain ⟨fd_Span_least, F_Span_least, D_Span_least⟩ := d_Span_least (w := w) c KB GB
  obtain ⟨fd_Span_greatest, F_Span_greatest, D_Span_greatest⟩ := d_Span_greatest (w := w) c KB GB
  obtain ⟨fd_Span_str, F_Span_str, D_Span_str⟩ := d_Span_str (w := w) c KB GB
  have F : FunD K "_law_told" "_law_told" (defArgs (top 22)) (defBody (top 22)) (defScope (top 22)) [] [] (gA "_law_told" K) fd := F0
  exact ⟨fd, F, d_fn (k := 4) (m := m__law_told) F sc__law_told rfl fun cd A outer s H E ok dk =>
   (ss_cons (s_set ok.nd (e_tup (a_cons e_str a_nil)))
 (ss_cons (s_try ok dk (fun W_ pn_ xe_ ok2 => (ss_cons (s_set ok2.nd (e_cmeth (e_gfn 4 rfl (He.glo_ok KB GB (q13 c))) (.cons ⟨_, _, _, (cm_ok (q26 c)).1, (cm_ok (q26 c)).2, (Cal.fn ok2 D_Span_read (by omega) (bd_of (n := 2) (ks := []) (pk := [0, 1]) F_Span_read rfl (by decide) fun _ _ _ _ _ _ us ws h1 h2 => match us, ws, h1, h2 with | [_, _], [], _, _ => rfl) (fun _ => .nil))⟩ .nil) (c_pos (a_cons (e_var 0) a_nil))))
 (ss_one (s_set ok2.nd (e_tup (a_cons e_str (a_cons (e_attr (e_var 2) (.cons (at_prop (c := 4) ok2 (cls_ok (q22 c)) (prop_ok (q27 c)) D_Span_least (by omega) (bd_of (n := 1) (ks := []) (pk := [0]) F_Span_least rfl (by decide) fun _ _ _ _ _ _ us ws h1 h2 => match us, ws, h1, h2 with | [_], [], _, _ => rfl) (fun _ => .nil)) .nil)) (a_cons (e_attr (e_var 2) (.cons (at_prop (c := 4) ok2 (cls_ok (q22 c)) (prop_ok (q28 c)) D_Span_greatest (by omega) (bd_of (n := 1) (ks := []) (pk := [0]) F_Span_greatest rfl (by decide) fun _ _ _ _ _ _ us ws h1 h2 => match us, ws, h1, h2 with | [_], [], _, _ => rfl) (fun _ => .nil)) .nil)) (a_cons (e_callT (CallD.or cd_str (cd_strOwn ok2 (.cons ⟨_, _, _, _, [0], [], [], _, (sp_ok (q29 c)).1, (sp_ok (q29 c)).2, D_Span_str, (by omega), (bd_of (n := 1) (ks := []) (pk := [0]) F_Span_str rfl (by decide) fun _ _ _ _ _ _ us ws h1 h2 => match us, ws, h1, h2 with | [_], [], _, _ => rfl), (fun _ => .nil), rfl⟩ .nil))) rfl (He.free_ok KB GB (q8 c)) (by decide +kernel) (a_cons (e_var 2) a_nil)) a_nil))))))))) (.named (names_own rfl (He.glo_ok KB GB (q35 c))) rfl rfl (tst_ok (Γ := Γ) (D := gA "InvalidText") rfl (q34 c)) (fun a oe cls d pn hz hf => (ss_one (s_set ok.nd (e_tup (a_cons e_str (a_cons (e_xat hz hf (e_var 3) (.cons (xat_ok (c := 3) (q30 c) (q31 c) rfl rfl) .nil)) (a_cons (e_callB (cd_xis hz hf (xis_ok (Γ := Γ) rfl (q32 c))) rfl (He.free_ok KB GB (q19 c)) (by decide +kernel) (a_cons (e_var 3) (a_cons (e_gfn 1 rfl (He.glo_ok KB GB (q33 c))) a_nil))) a_nil)))))))  (.plain (names_own rfl (He.glo_ok KB GB (q37 c))) (tst_ok (Γ := Γ) (D := gA "WayroundError") rfl (q36 c)) (fun a oe cls d pn hz hf => (ss_one (s_set ok.nd (e_tup (a_cons e_str a_nil)))))  .nil)))
 (ss_one (s_ret (e_var 1)))))⟩

theorem sc__law_number : FnScope ["_law_digits_here", "_law_sign"] ["_law_digits_here"] (defScope (top 20)) := ⟨rfl, rfl, rfl, by decide +kernel, rfl, by decide +kernel, by decide +kernel⟩

theorem d__law_number {w : World} {K : PySem.W.Frag} {mg : Str → Option Value} {base : Heap} (c : SaysX fa fn K) (KB : K.In base) (GB : base.Ns mainGlobals mg) : ∃ fd, FunD K "_law_number" "_law_number" (defArgs (top 20)) (defBody (top 20)) (defScope (top 20)) [] [] (gA "_law_number" K) fd ∧ DF Pg w K mg base (Γ K) 1 (gA "_law_number" K) fd ["_law_digits_here"] f__law_number := by
  obtain ⟨fd, F0⟩ := c.def_ 13 rfl rfl
  have F : FunD K "_law_number" "_law_number" (defArgs (top 20)) (defBody (top 20)) (defScope (top 20)) [] [] (gA "_law_number" K) fd := F0
  exact ⟨fd, F, d_fn (k := 0) (m := m__law_number) F sc__law_number rfl fun cd A outer s H E ok dk =>
   (ss_cons (s_if (DW.t (w_or (t_not (t_chain o_lt o_lt e_int (e_callB cd_len rfl (He.free_ok KB GB (q0 c)) (by decide +kernel) (a_cons (e_var 0) a_nil)) e_int)) (w_or1 (t_cmp1 (o_ne ok) (e_lc false ok (i_seq (e_var 0)) (blkOk_by (N := ["_law_digits_here", "_law_sign"]) (sc := defScope (top 20)) (own := [("_law_sign", 1)]) (by decide +kernel)) rfl (fun s_ H_ C_ cl_ fp_ => (gv_name (ok.blk s_ H_ _ C_ cl_ fp_).nd)) (fun s_ H_ C_ cl_ fp_ => (ts_one (t_cmp1 (o_notIn (ok.blk s_ H_ _ C_ cl_ fp_)) (e_var 1) e_str rfl))) (fun s_ H_ C_ cl_ fp_ => (e_var 1))) (e_lst a_nil) rfl)))) (ss_one (s_ret e_non)) ss_nil)
 (ss_cons (s_if (DW.t (w_and (t_cmp1 o_gt (e_callB cd_len rfl (He.free_ok KB GB (q0 c)) (by decide +kernel) (a_cons (e_var 0) a_nil)) e_int rfl) (w_and1 (t_cmp1 (o_eq ok) (e_ix (e_var 0) e_int) e_str rfl)))) (ss_one (s_ret e_non)) ss_nil)
 (ss_one (s_ret (e_callT (cd_int.or cd_intS) rfl (He.free_ok KB GB (q5 c)) (by decide +kernel) (a_cons (e_var 0) a_nil))))))⟩

theorem sc__law_due : FnScope ["_law_shown_here", "_law_pieces", "_law_numbers", "_law_part"] ["_law_shown_here"] (defScope (top 21)) := ⟨rfl, rfl, rfl, by decide +kernel, rfl, by decide +kernel, by decide +kernel⟩

theorem d__law_due {w : World} {K : PySem.W.Frag} {mg : Str → Option Value} {base : Heap} (c : SaysX fa fn K) (KB : K.In base) (GB : base.Ns mainGlobals mg) : ∃ fd, FunD K "_law_due" "_law_due" (defArgs (top 21)) (defBody (top 21)) (defScope (top 21)) [] [] (gA "_law_due" K) fd ∧ DF Pg w K mg base (Γ K) 2 (gA "_law_due" K) fd ["_law_shown_here"] f__law_due := by
  obtain ⟨fd, F0⟩ := c.def_ 14 rfl rfl
  obtain ⟨fd__law_number, F__law_number, D__law_number⟩ := d__law_number (w := w) c KB GB
  have F : FunD K "_law_due" "_law_due" (defArgs (top 21)) (defBody (top 21)) (defScope (top 21)) [] [] (gA "_law_due" K) fd := F0
  exact ⟨fd, F, d_fn (k := 1) (m := m__law_due) F sc__law_due rfl fun cd A outer s H E ok dk =>
   (ss_cons (s_set ok.nd (e_bm (b := .str) PySem.F.plainAttrs_str PySem.F.slot_str_split PySem.F.type_str_split md_split (e_var 0) (a_cons e_str a_nil)))
 (ss_cons (s_setLc false ok (i_seq (e_var 1)) (blkOk_by (N := ["_law_shown_here", "_law_pieces", "_law_numbers", "_law_part"]) (sc := defScope (top 21)) (own := [("_law_part", 3)]) (by decide +kernel)) rfl (fun s_ H_ C_ cl_ fp_ => (gv_name (ok.blk s_ H_ _ C_ cl_ fp_).nd)) (fun s_ H_ C_ cl_ fp_ => ts_nil) (fun s_ H_ C_ cl_ fp_ => (e_callN (Cal.fn (ok.blk s_ H_ _ C_ cl_ fp_) D__law_number (by omega) (bd_of (n := 1) (ks := []) (pk := [0]) F__law_number rfl (by decide) fun _ _ _ _ _ _ us ws h1 h2 => match us, ws, h1, h2 with | [_], [], _, _ => rfl) (fun _ => .nil)) rfl (He.glo_ok KB GB (q40 c)) F__law_number.kp (c_pos (a_cons (e_var 3) a_nil)))) (sw_true rfl rfl rfl (by decide +kernel)))
 (ss_cons (s_if (DW.t (w_or (t_cmp1 o_gt (e_callB cd_len rfl (He.free_ok KB GB (q0 c)) (by decide +kernel) (a_cons (e_var 1) a_nil)) e_int rfl) (w_or1 (t_cmp1 (o_in ok) e_non (e_var 2) rfl)))) (ss_one (s_ret (e_tup (a_cons e_str (a_cons e_int (a_cons e_bl a_nil)))))) ss_nil)
 (ss_cons (s_if (DW.t (w_and (t_cmp1 (o_eq ok) (e_callB cd_len rfl (He.free_ok KB GB (q0 c)) (by decide +kernel) (a_cons (e_var 1) a_nil)) e_int rfl) (w_and1 (t_cmp1 o_ge (e_ix (e_var 2) e_int) (e_ix (e_var 2) e_int) rfl)))) (ss_one (s_ret (e_tup (a_cons e_str (a_cons e_int (a_cons e_bl a_nil)))))) ss_nil)
 (ss_one (s_ret (e_tup (a_cons e_str (a_cons (e_ix (e_var 2) e_int) (a_cons (e_ix (e_var 2) (e_neg e_int)) (a_cons (e_var 0) a_nil)))))))))))⟩

theorem sc_Span_eq : FnScope ["self", "other"] ["self", "other"] (defScope (sub (top 13) 14)) := ⟨rfl, rfl, rfl, by decide +kernel, rfl, by decide +kernel, by decide +kernel⟩

theorem d_Span_eq {w : World} {K : PySem.W.Frag} {mg : Str → Option Value} {base : Heap} (c : SaysX fa fn K) (KB : K.In base) (GB : base.Ns mainGlobals mg) : ∃ fd, FunD K "__eq__" "Span.__eq__" (defArgs (sub (top 13) 14)) (defBody (sub (top 13) 14)) (defScope (sub (top 13) 14)) [] [] (mA "Span" "__eq__" K) fd ∧ DF Pg w K mg base (Γ K) 1 (mA "Span" "__eq__" K) fd ["self", "other"] f_Span_eq := by
  obtain ⟨fd, F0⟩ := c.def_ 15 rfl rfl
  have F : FunD K "__eq__" "Span.__eq__" (defArgs (sub (top 13) 14)) (defBody (sub (top 13) 14)) (defScope (sub (top 13) 14)) [] [] (mA "Span" "__eq__" K) fd := F0
  exact ⟨fd, F, d_fn (k := 0) (m := m_Span_eq) F sc_Span_eq rfl fun cd A outer s H E ok dk =>
   (ss_one (s_ret (e_and (e_callB (cd_isi (isi_ok (Γ := Γ) rfl (q42 c) (all_cons (q22 c) all_nil))) rfl (He.free_ok KB GB (q19 c)) (by decide +kernel) (a_cons (e_var 1) (a_cons (e_gfn 4 rfl (He.glo_ok KB GB (q13 c))) a_nil))) (e_and (e_cmp1 (o_eq ok) (e_attr (e_var 0) (.cons (at_fld (c := 4) (cls_ok (q22 c)) (He.noat_ok (q23 c)) rfl rfl) .nil)) (e_attr (e_var 1) (.cons (at_fld (c := 4) (cls_ok (q22 c)) (He.noat_ok (q23 c)) rfl rfl) .nil)) rfl) (e_one (e_cmp1 (o_eq ok) (e_attr (e_var 0) (.cons (at_fld (c := 4) (cls_ok (q22 c)) (He.noat_ok (q24 c)) rfl rfl) .nil)) (e_attr (e_var 1) (.cons (at_fld (c := 4) (cls_ok (q22 c)) (He.noat_ok (q24 c)) rfl rfl) .nil)) rfl))))))⟩

theorem sc_law : FnScope ["_law_script", "_law_k", "_law_feed_here", "_law_turn", "_law_good", "_law_bad", "_law_more", "_law_shown_here"] ["_law_script"] (defScope (top 23)) := ⟨rfl, rfl, rfl, by decide +kernel, rfl, by decide +kernel, by decide +kernel⟩

theorem d_law {w : World} {K : PySem.W.Frag} {mg : Str → Option Value} {base : Heap} (c : SaysX fa fn K) (KB : K.In base) (GB : base.Ns mainGlobals mg) : ∃ fd, FunD K "law" "law" (defArgs (top 23)) (defBody (top 23)) (defScope (top 23)) [] [] (gA "law" K) fd ∧ DF Pg w K mg base (Γ K) 6 (gA "law" K) fd ["_law_script"] f_law := by
  obtain ⟨fd, F0⟩ := c.def_ 16 rfl rfl
  obtain ⟨fd__law_feed, F__law_feed, D__law_feed⟩ := d__law_feed (w := w) c KB GB
  obtain ⟨fd__law_shown, F__law_shown, D__law_shown⟩ := d__law_shown (w := w) c KB GB
  obtain ⟨fd__law_take, F__law_take, D__law_take⟩ := d__law_take (w := w) c KB GB
  obtain ⟨fd__law_spoilt, F__law_spoilt, D__law_spoilt⟩ := d__law_spoilt (w := w) c KB GB
  obtain ⟨fd__law_told, F__law_told, D__law_told⟩ := d__law_told (w := w) c KB GB
  obtain ⟨fd__law_due, F__law_due, D__law_due⟩ := d__law_due (w := w) c KB GB
  obtain ⟨fd_Span_eq, F_Span_eq, D_Span_eq⟩ := d_Span_eq (w := w) c KB GB
  obtain ⟨fd_Span_read, F_Span_read, D_Span_read⟩ := d_Span_read (w := w) c KB GB
  obtain ⟨fd_Span_init, F_Span_init, D_Span_init⟩ := d_Span_init (w := w) c KB GB
  have F : FunD K "law" "law" (defArgs (top 23)) (defBody (top 23)) (defScope (top 23)) [] [] (gA "law" K) fd := F0
  exact ⟨fd, F, d_fn (k := 5) (m := m_law) F sc_law rfl fun cd A outer s H E ok dk =>
   (ss_cons (s_for ok.own ok.calm (i_range1 rfl (He.free_ok KB GB (q3 c)) (a_cons (e_callB (cd_max ok.calm) rfl (He.free_ok KB GB (q2 c)) (by decide +kernel) (a_cons e_int (a_cons (e_callB (cd_min ok.calm) rfl (He.free_ok KB GB (q1 c)) (by decide +kernel) (a_cons e_int (a_cons (e_callB cd_len rfl (He.free_ok KB GB (q0 c)) (by decide +kernel) (a_cons (e_var 0) a_nil)) a_nil))) a_nil))) a_nil)) (g_name ok.nd) (ss_cons (s_set ok.nd (e_callN (Cal.fn ok D__law_feed (by omega) (bd_of (n := 2) (ks := []) (pk := [0, 1]) F__law_feed rfl (by decide) fun _ _ _ _ _ _ us ws h1 h2 => match us, ws, h1, h2 with | [_, _], [], _, _ => rfl) (fun _ => .nil)) rfl (He.glo_ok KB GB (q6 c)) F__law_feed.kp (c_pos (a_cons (e_var 0) (a_cons (e_var 1) a_nil)))))
 (ss_one (s_for ok.own ok.calm (i_range1 rfl (He.free_ok KB GB (q3 c)) (a_cons e_int a_nil)) (g_name ok.nd) (ss_cons (s_set ok.nd (e_callN (Cal.fn ok D__law_shown (by omega) (bd_of (n := 1) (ks := []) (pk := [0]) F__law_shown rfl (by decide) fun _ _ _ _ _ _ us ws h1 h2 => match us, ws, h1, h2 with | [_], [], _, _ => rfl) (fun _ => .nil)) rfl (He.glo_ok KB GB (q10 c)) F__law_shown.kp (c_pos (a_cons (e_var 2) a_nil))))
 (ss_cons (s_set ok.nd (e_var 4))
 (ss_cons (s_for ok.own ok.calm (i_range1 rfl (He.free_ok KB GB (q3 c)) (a_cons (e_bin o_add e_int (e_callN (Cal.fn ok D__law_take (by omega) (bd_of (n := 2) (ks := []) (pk := [0, 1]) F__law_take rfl (by decide) fun _ _ _ _ _ _ us ws h1 h2 => match us, ws, h1, h2 with | [_, _], [], _, _ => rfl) (fun _ => .nil)) rfl (He.glo_ok KB GB (q7 c)) F__law_take.kp (c_pos (a_cons (e_var 2) (a_cons e_int a_nil))))) a_nil)) (g_name ok.nd) (ss_one (s_set ok.nd (e_callN (Cal.fn ok D__law_spoilt (by omega) (bd_of (n := 2) (ks := []) (pk := [0, 1]) F__law_spoilt rfl (by decide) fun _ _ _ _ _ _ us ws h1 h2 => match us, ws, h1, h2 with | [_, _], [], _, _ => rfl) (fun _ => .nil)) rfl (He.glo_ok KB GB (q12 c)) F__law_spoilt.kp (c_pos (a_cons (e_var 2) (a_cons (e_var 5) a_nil)))))))
 (ss_one (s_for ok.own ok.calm (i_list (e_lst (a_cons (e_var 4) (a_cons (e_var 5) (a_cons (e_bin o_add (e_var 4) e_str) (a_cons (e_bin o_add e_str (e_var 4)) (a_cons (e_bin o_add (e_var 4) e_str) (a_cons e_str (a_cons e_str (a_cons e_str (a_cons e_str (a_cons e_str (a_cons (e_var 4) a_nil))))))))))))) (g_name ok.nd) (ss_one (s_if (t_cmp1 (o_ne ok) (e_callB (cd_repr ok) rfl (He.free_ok KB GB (q39 c)) (by decide +kernel) (a_cons (e_callN (Cal.fn ok D__law_told (by omega) (bd_of (n := 1) (ks := []) (pk := [0]) F__law_told rfl (by decide) fun _ _ _ _ _ _ us ws h1 h2 => match us, ws, h1, h2 with | [_], [], _, _ => rfl) (fun _ => .nil)) rfl (He.glo_ok KB GB (q38 c)) F__law_told.kp (c_pos (a_cons (e_var 7) a_nil))) a_nil)) (e_callB (cd_repr ok) rfl (He.free_ok KB GB (q39 c)) (by decide +kernel) (a_cons (e_callN (Cal.fn ok D__law_due (by omega) (bd_of (n := 1) (ks := []) (pk := [0]) F__law_due rfl (by decide) fun _ _ _ _ _ _ us ws h1 h2 => match us, ws, h1, h2 with | [_], [], _, _ => rfl) (fun _ => .nil)) rfl (He.glo_ok KB GB (q41 c)) F__law_due.kp (c_pos (a_cons (e_var 7) a_nil))) a_nil)) rfl) (ss_one (s_ret e_bl)) ss_nil)))))))))))
 (ss_one (s_ret (e_cmp1 ((o_eq ok).or (o_eqO (oc := [4]) ok (.cons ⟨⟨_, _, _, _, [0, 1], [], [], _, (sp_ok (q43 c)).1, (sp_ok (q43 c)).2, D_Span_eq, (by omega), (bd_of (n := 2) (ks := []) (pk := [0, 1]) F_Span_eq rfl (by decide) fun _ _ _ _ _ _ us ws h1 h2 => match us, ws, h1, h2 with | [_, _], [], _, _ => rfl), (fun _ => .nil), rfl⟩, (eqF_ok (q44 c)).1, (eqF_ok (q44 c)).2⟩ .nil))) (e_cmeth (e_gfn 4 rfl (He.glo_ok KB GB (q13 c))) (.cons ⟨_, _, _, (cm_ok (q26 c)).1, (cm_ok (q26 c)).2, (Cal.fn ok D_Span_read (by omega) (bd_of (n := 1) (ks := ["text"]) (pk := [0, 1]) F_Span_read rfl (by decide) fun _ _ _ _ _ _ us ws h1 h2 => match us, ws, h1, h2 with | [_], [_], _, _ => rfl) (fun _ => .nil))⟩ .nil) (c_kw0 (k_cons e_str k_nil))) (e_callN (Cal.make (c := 4) ok (He.mkr_ok (q25 c)) rfl D_Span_init (by omega) (bd_of (n := 3) (ks := []) (pk := [0, 1, 2]) F_Span_init rfl (by decide) fun _ _ _ _ _ _ us ws h1 h2 => match us, ws, h1, h2 with | [_, _, _], [], _, _ => rfl) (fun _ => .nil)) rfl (He.glo_ok KB GB (q13 c)) (He.mkr_ok (q25 c)).kp (c_pos (a_cons e_int (a_cons e_int a_nil)))) rfl))))⟩

end Ga
set_option Elab.async false
set_option linter.all false
set_option maxRecDepth 100000
set_option maxHeartbeats 0
namespace Ga
open PySem L2 PySem.Spec PyProof.Rows Fw
abbrev Rw : PySem.W.OpenRow := PySem.W.OpenLaw.row PySem.Challenge.rw_wayround_k03_span_texts
abbrev hk : PySem.W.Hook := hookX 6 fa fn
def ob (s : PySem.W.SharedT) : AlX := obsXG 6 fa fn (HandSHeadRun.getT s)
theorem ob_eq (s : PySem.W.SharedT) : ob s = hk.obs s.abs := obsXG_eq (HandSHeadRun.getT_eq s)
def loose : List Str := ["_wall", "__name__", "WayroundError", "InvalidSpan", "Snapped", "InvalidText", "DIGITS", "MOST_DIGITS", "is_whole", "number_of", "DOTS", "Span", "_law_feed", "_law_take", "_law_digits", "_law_shown", "_law_spoilt", "_law_number", "_law_due", "_law_told"]
theorem run (w : World) : HandSHeadRun.RunEq Rw (PySem.W.view Rw.prog [23]) hk ob 6000 loose w := by
  intro os
  kernel_rfl
end Ga
set_option Elab.async false
set_option linter.all false
set_option maxRecDepth 100000
set_option maxHeartbeats 0
namespace Ga
open PySem L2 PySem.Spec PyProof.Rows Fw
theorem facts {w : World} {K : PySem.W.Frag} {h : Heap} {mg : Str → Option Value} {f : Addr} (X : K.In h) (G : h.Ns mainGlobals mg) (hfa : mg ("law" : Str) = some (.ref f)) (c : SaysX fa fn K) :
    ∃ fd : FuncData, (∀ (s : Shared) (v : Value), BindsTo s fd ⟨[v], []⟩ [("_law_script", v)]) ∧ ∀ base : Heap, K.In base → base.Ns mainGlobals mg → DF Pg w K mg base (Γ K) 6 f fd ["_law_script"] f_law := by
  obtain ⟨fd, F0⟩ := c.def_ 16 rfl rfl
  have F : FunD K "law" "law" (defArgs (top 23)) (defBody (top 23)) (defScope (top 23)) [] [] (gA "law" K) fd := F0
  have e := hfa.symm.trans (He.glo_ok X G (q48 c))
  cases e
  have b := FunD.bindsA (ps := ["_law_script"]) F fun _ _ _ _ _ _ us hl => match us, hl with | [_], _ => rfl
  refine ⟨fd, fun s v => b s [v] rfl, fun base KB GB => ?_⟩
  obtain ⟨fd2, F2, D2⟩ := d_law (w := w) c KB GB
  have : fd2 = fd := by
    obtain ⟨oc, od, dV, kV, doc, pm, an, cdv, ct, osl, e1, e2, _⟩ := F.ex
    obtain ⟨oc', od', dV', kV', doc', pm', an', cdv', ct', osl', e1', e2', _⟩ := F2.ex
    rw [e2] at e2'
    simp only [Option.some.injEq, Obj.mk.injEq, Data.func.injEq] at e2'
    exact e2'.2.2.1.symm
  subst this
  exact D2
end Ga
open PySem PySem.W PySem.Calls PyProof.Rows
theorem PySem.Challenge.cw_wayround_k03_span_texts_holds : PySem.Challenge.rw_wayround_k03_span_texts.Holds := by
  w_on; o_law
  refine HandSHeadRun.head_any (r := OpenLaw.row PySem.Challenge.rw_wayround_k03_span_texts) (q := view (OpenLaw.row PySem.Challenge.rw_wayround_k03_span_texts).prog [23]) (H := Ga.hk) (ob := Ga.ob) (M := 6000) (loose := Ga.loose) (d := HandSHeadRun.topDef (OpenLaw.row PySem.Challenge.rw_wayround_k03_span_texts).prog 23) (kwd := []) Ga.ob_eq
    (by kernel_rfl) (fun s => by kernel_rfl) Ga.run (by kernel_rfl) (by kernel_rfl) (by kernel_rfl) (by rfl) (by first | assumption | decide +kernel) (by decide +kernel) ⟨rfl, rfl, rfl, rfl, rfl, by decide +kernel⟩ ?hw ?hc
  case hw => w_witness2
  case hc =>
    refine Fw.walk_df (l := PySem.Challenge.rw_wayround_k03_span_texts) (n := 63) (k := 6) (x := "_law_script") rfl (by decide) (by kernel_rfl) ⟨rfl, by decide, by decide⟩ ?F
    intro w mg fa h Y G hmg0
    obtain ⟨K, KX, c⟩ := Y
    have hmg : mg ("law" : PySem.Str) = some (.ref fa) := by
      have e : (HandSHeadRun.topDef (OpenLaw.row PySem.Challenge.rw_wayround_k03_span_texts).prog 23).name = ("law" : PySem.Str) := by kernel_rfl
      rw [← e]
      exact hmg0
    obtain ⟨fd, hb, hF⟩ := Ga.facts (w := w) KX G hmg c
    exact ⟨K, Ga.Γ K, fd, Ga.f_law, KX, hb, fun ns _ => Ga.plain ns, hF⟩
